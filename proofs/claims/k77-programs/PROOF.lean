import PyProof.Rows.All
import Wide.All
import OpenK.AllK
import Wide.FinOn
import HandS.Base
import HandS.Call
import HandS.List
import HandS.Comp
import HandS.Ends
import HandS.Dict
import HandS.Iter
import HandS.Text
import HandS.More
import HandS.Exc
import HandS.ExcOwn
import HandS.ExcInit
import HandS.ExcField
import HandS.ExcIs
import HandS.IsInst
import HandS.TryOnly
import HandS.TryMany
import HandS.Words
import HandS.WordsList
import HandS.WordsDict
import HandS.WordsExc
import HandS.Defaults
import HandS.Walk
import HandS.Wide
import HandS.WideBits
import HandS.TupSets
import HandS.Set
import HandS.Strs
import HandS.SetFor
import HandS.SetKeys
import HandS.DictComp
import HandS.TupAny
import HandS.TupMul
import HandS.Style
import HandS.Deep
import HandS.Flow
import HandS.Conv
import HandS.Codes
import HandS.StrMore
import HandS.Small
import HandS.HotCalls
import HandS.Head0
import HandS.Head1
import HandS.Head2
import HandS.HeadEnd
import HandS.HeadHook1
import HandS.HeadHook2
import HandS.HeadHook3
import HandS.CallSlots
import HandS.FStr
import KE.GoesEnum
import PySem.Challenge.RW_straightclock_k77_written_programs
set_option Elab.async false
set_option linter.all false
set_option maxRecDepth 100000
set_option maxHeartbeats 4000000
/-! Z1: data, what stands for data, the frame between heaps, slots. -/
namespace Z
open PySem PySem.Spec PyProof.Rows L2

inductive D where
  | non | bl (b : Bool) | int (i : Int) | str (x : Str) | lst (l : List D) | tup (l : List D) | obj (C : Addr) (fs : List (Str × D)) | ty (n : String) | ref (a : Addr) | xc (a d : Addr) (fs : List (Str × D)) | dk (ks : List (Key × D))

mutual
inductive Rp (K : PySem.W.Frag) (G : Hp) : V → D → Prop
  | non : Rp K G .non .non
  | bl (b : Bool) : Rp K G (.bl b) (.bl b)
  | int (i : Int) : Rp K G (.int i) (.int i)
  | str (x : Str) : Rp K G (.str x) (.str x)
  | ty (n : String) : Rp K G (.ty n) (.ty n)
  | ref (a : Addr) : Rp K G (.ref a) (.ref a)
  | lst {a : Addr} {xs : List V} {ds : List D} : SqL K G a xs → Rps K G xs ds → Rp K G (.ref a) (.lst ds)
  | tup {a : Addr} {xs : List V} {ds : List D} : SqT K G a xs → Rps K G xs ds → Rp K G (.ref a) (.tup ds)
  | obj {a C dx : Addr} {xs : List (Str × V)} {ds : List (Str × D)} : G a = some (.ins C dx xs) → Rfs K G xs ds → Rp K G (.ref a) (.obj C ds)
  | xc {a d : Addr} {xs : List (Str × V)} {ds : List (Str × D)} : G d = some (.xd xs) → Rfs K G xs ds → Rp K G (.ref a) (.xc a d ds)
  | dk {a : Addr} {xs : List (Key × V)} {ds : List (Key × D)} : Rd G a (.dK xs) → Rks K G xs ds → Rp K G (.ref a) (.dk ds)
inductive Rps (K : PySem.W.Frag) (G : Hp) : List V → List D → Prop
  | nil : Rps K G [] []
  | cons {v : V} {vs : List V} {d : D} {ds : List D} : Rp K G v d → Rps K G vs ds → Rps K G (v :: vs) (d :: ds)
inductive Rks (K : PySem.W.Frag) (G : Hp) : List (Key × V) → List (Key × D) → Prop
  | nil : Rks K G [] []
  | cons {k : Key} {v : V} {vs : List (Key × V)} {d : D} {ds : List (Key × D)} : Rp K G v d → Rks K G vs ds → Rks K G ((k, v) :: vs) ((k, d) :: ds)
inductive Rfs (K : PySem.W.Frag) (G : Hp) : List (Str × V) → List (Str × D) → Prop
  | nil : Rfs K G [] []
  | cons {f : Str} {v : V} {vs : List (Str × V)} {d : D} {ds : List (Str × D)} : Rp K G v d → Rfs K G vs ds → Rfs K G ((f, v) :: vs) ((f, d) :: ds)
end

section
variable {K : PySem.W.Frag} {G G' G2 H H' H2 : Hp}

theorem same_l {a : Addr} {xs : List V} (e : Same G G') (h : SqL K G a xs) : SqL K G' a xs := e.seq h
theorem same_r {a : Addr} {u : HO} (e : Same G G') (h : Rd G a u) : Rd G' a u := by
  rcases h with h | ⟨o, h⟩
  · exact .inl (e _ _ h)
  · exact .inr ⟨o, e _ _ h⟩
theorem same_t {a : Addr} {xs : List V} (e : Same G G') (h : SqT K G a xs) : SqT K G' a xs := by
  rcases h with (h | ⟨o, h⟩) | h
  · exact .inl (.inl (e _ _ h))
  · exact .inl (.inr ⟨o, e _ _ h⟩)
  · exact .inr h

mutual
theorem Rp.mono (e : Same G G') : ∀ {v : V} {d : D}, Rp K G v d → Rp K G' v d
  | _, _, .non => .non
  | _, _, .bl b => .bl b
  | _, _, .int i => .int i
  | _, _, .str x => .str x
  | _, _, .ty n => .ty n
  | _, _, .ref a => .ref a
  | _, _, .lst h r => .lst (same_l e h) (Rps.mono e r)
  | _, _, .tup h r => .tup (same_t e h) (Rps.mono e r)
  | _, _, .obj h r => .obj (e _ _ h) (Rfs.mono e r)
  | _, _, .xc h r => .xc (e _ _ h) (Rfs.mono e r)
  | _, _, .dk h r => .dk (same_r e h) (Rks.mono e r)
theorem Rps.mono (e : Same G G') : ∀ {v : List V} {d : List D}, Rps K G v d → Rps K G' v d
  | _, _, .nil => .nil
  | _, _, .cons h r => .cons (Rp.mono e h) (Rps.mono e r)
theorem Rks.mono (e : Same G G') : ∀ {v : List (Key × V)} {d : List (Key × D)}, Rks K G v d → Rks K G' v d
  | _, _, .nil => .nil
  | _, _, .cons h r => .cons (Rp.mono e h) (Rks.mono e r)
theorem Rfs.mono (e : Same G G') : ∀ {v : List (Str × V)} {d : List (Str × D)}, Rfs K G v d → Rfs K G' v d
  | _, _, .nil => .nil
  | _, _, .cons h r => .cons (Rp.mono e h) (Rfs.mono e r)
end

theorem Rps.length : ∀ {vs : List V} {ds : List D}, Rps K G vs ds → vs.length = ds.length
  | _, _, .nil => rfl
  | _, _, .cons _ r => congrArg (· + 1) r.length
theorem Rps.append : ∀ {vs ws : List V} {ds es : List D}, Rps K G vs ds → Rps K G ws es → Rps K G (vs ++ ws) (ds ++ es)
  | _, _, _, _, .nil, s => s
  | _, _, _, _, .cons h r, s => .cons h (r.append s)
theorem Rps.get : ∀ {vs : List V} {ds : List D} {i : Nat} {d : D}, Rps K G vs ds → ds[i]? = some d → ∃ v, vs[i]? = some v ∧ Rp K G v d
  | _, _, _, _, .nil, e => by simp at e
  | _, _, 0, _, .cons h _, e => by simp at e; subst e; exact ⟨_, rfl, h⟩
  | _, _, i + 1, d, .cons _ r, e => by
    obtain ⟨v, h1, h2⟩ := Rps.get (i := i) (d := d) r (by simpa using e)
    exact ⟨v, by simpa using h1, h2⟩
theorem Rps.get' : ∀ {vs : List V} {ds : List D} {i : Nat} {v : V}, Rps K G vs ds → vs[i]? = some v → ∃ d, ds[i]? = some d ∧ Rp K G v d
  | _, _, _, _, .nil, e => by simp at e
  | _, _, 0, _, .cons h _, e => by simp at e; subst e; exact ⟨_, rfl, h⟩
  | _, _, i + 1, v, .cons _ r, e => by
    obtain ⟨d, h1, h2⟩ := Rps.get' (i := i) (v := v) r (by simpa using e)
    exact ⟨d, by simpa using h1, h2⟩
theorem Rps.take : ∀ {vs : List V} {ds : List D} (n : Nat), Rps K G vs ds → Rps K G (vs.take n) (ds.take n)
  | _, _, 0, _ => by simp; exact .nil
  | _, _, _ + 1, .nil => .nil
  | _, _, n + 1, .cons h r => .cons h (r.take n)
theorem Rps.drop : ∀ {vs : List V} {ds : List D} (n : Nat), Rps K G vs ds → Rps K G (vs.drop n) (ds.drop n)
  | _, _, 0, r => r
  | _, _, _ + 1, .nil => .nil
  | _, _, n + 1, .cons _ r => r.drop n
theorem Rps.set {v : V} {d : D} (h : Rp K G v d) : ∀ {vs : List V} {ds : List D} (i : Nat), Rps K G vs ds → Rps K G (vs.set i v) (ds.set i d)
  | _, _, _, .nil => .nil
  | _, _, 0, .cons _ r => .cons h r
  | _, _, i + 1, .cons q r => .cons q (r.set h i)
theorem Rps.reverse : ∀ {vs : List V} {ds : List D}, Rps K G vs ds → Rps K G vs.reverse ds.reverse
  | _, _, .nil => .nil
  | _, _, .cons h r => by
    rw [List.reverse_cons, List.reverse_cons]
    exact r.reverse.append (.cons h .nil)
theorem Rfs.lookup : ∀ {vs : List (Str × V)} {ds : List (Str × D)} {f : Str} {d : D}, Rfs K G vs ds → ds.lookup f = some d → ∃ v, vs.lookup f = some v ∧ Rp K G v d
  | _, _, _, _, .nil, e => by simp at e
  | _, _, f, d, .cons (f := g) h r, e => by
    rw [List.lookup_cons] at e
    rw [List.lookup_cons]
    by_cases q : f = g
    · have : (f == g) = true := by simpa using q
      simp only [this] at e ⊢
      cases e
      exact ⟨_, rfl, h⟩
    · have : (f == g) = false := by simpa using q
      simp only [this] at e ⊢
      exact Rfs.lookup r e
theorem Rfs.length : ∀ {vs : List (Str × V)} {ds : List (Str × D)}, Rfs K G vs ds → vs.length = ds.length
  | _, _, .nil => rfl
  | _, _, .cons _ r => congrArg (· + 1) r.length

/-- lists of ints, of texts -/
theorem rps_ints : ∀ ns : List Int, Rps K G (ns.map V.int) (ns.map D.int)
  | [] => .nil
  | n :: r => .cons (.int n) (rps_ints r)
theorem rps_strs : ∀ ns : List Str, Rps K G (ns.map V.str) (ns.map D.str)
  | [] => .nil
  | n :: r => .cons (.str n) (rps_strs r)
theorem rps_ints_inv : ∀ {vs : List V} {ns : List Int}, Rps K G vs (ns.map D.int) → vs = ns.map V.int
  | _, [], h => by cases h; rfl
  | _, n :: r, h => by
    cases h with
    | cons h q =>
      cases h
      rw [rps_ints_inv q] <;> rfl
theorem rps_strs_inv : ∀ {vs : List V} {ns : List Str}, Rps K G vs (ns.map D.str) → vs = ns.map V.str
  | _, [], h => by cases h; rfl
  | _, n :: r, h => by
    cases h with
    | cons h q =>
      cases h
      rw [rps_strs_inv q] <;> rfl

/-- a datum that no heap bears -/
def flatD : D → Bool
  | .non => true | .bl _ => true | .int _ => true | .str _ => true | .ty _ => true | .ref _ => true | _ => false
theorem Rp.flat {v : V} {d : D} (f : flatD d = true) (h : Rp K G v d) : Rp K G' v d := by
  cases h with
  | non => exact .non
  | bl b => exact .bl b
  | int b => exact .int b
  | str b => exact .str b
  | ty b => exact .ty b
  | ref b => exact .ref b
  | lst => cases f
  | tup => cases f
  | obj => cases f
  | xc => cases f
  | dk => cases f

/-! ### the frame -/
structure Fw (G H G' H' : Hp) : Prop where
  g : Same G G'
  h : Same H H'
  e : Same G' H'
  n : ∀ a o, G' a = some o → G a = none → H a = none
theorem Same.back (s : Same H H') {a : Addr} (h : H' a = none) : H a = none := s.free h
theorem Fw.refl (e : Same G H) : Fw G H G H := ⟨Same.refl _, Same.refl _, e, fun _ _ h q => by rw [h] at q; cases q⟩
theorem Fw.trans (a : Fw G H G' H') (b : Fw G' H' G2 H2) : Fw G H G2 H2 := ⟨a.g.trans b.g, a.h.trans b.h, b.e, fun c o q n => by
  cases e : G' c with
  | some u => exact a.n c u e n
  | none => exact a.h.free (b.n c o q e)⟩
/-- a new object is laid, read-only -/
theorem Fw.new {a : Addr} {o : HO} (e : Same G H) (n : H a = none) : Fw G H (upd G a o) (upd H a o) := by
  have gn : G a = none := e.free n
  refine ⟨fun b u q => ?_, fun b u q => ?_, fun b u q => ?_, fun b u q m => ?_⟩
  · rw [upd_ne (ne_of_none q gn)]; exact q
  · rw [upd_ne (ne_of_none q n)]; exact q
  · by_cases z : b = a
    · subst z; rw [upd_same] at q; rw [upd_same]; exact q
    · rw [upd_ne z] at q; rw [upd_ne z]; exact e b u q
  · by_cases z : b = a
    · subst z; exact n
    · rw [upd_ne z, m] at q; cases q
/-- a new object is laid, one's own -/
theorem Fw.newO {a : Addr} {o : HO} (e : Same G H) (n : H a = none) : Fw G H G (upd H a o) := by
  refine ⟨Same.refl _, fun b u q => ?_, fun b u q => ?_, fun b u q m => ?_⟩
  · rw [upd_ne (ne_of_none q n)]; exact q
  · rw [upd_ne (ne_of_none (e b u q) n)]; exact e b u q
  · rw [m] at q; cases q
end
end Z

/-! Z2: slots, states, what a reading evaluates to. -/
namespace Z
open PySem PySem.Spec PyProof.Rows L2

inductive Ow where
  | lst (ds : List D) | dk (ks : List (Key × D)) | ins (C : Addr) (fs : List (Str × D)) (at_ : Option Addr)
def Ow.toD : Ow → D
  | .lst ds => .lst ds
  | .dk ks => .dk ks
  | .ins C fs _ => .obj C fs
abbrev Mem : Type := Addr → Option Ow
inductive Sl where
  | un | dat (d : D) | own (o : Ow) | mem (M : Mem)
def Sl.toD : Sl → Option D
  | .dat d => some d
  | .own w => some w.toD
  | .un => none
  | .mem _ => none
structure Xc where
  C : Addr
  fs : List (Str × D)
structure Bx where
  K : PySem.W.Frag
  G0 : Hp
  H0 : Hp
  F0 : Addr → Prop
def NoF : Addr → Prop := fun _ => False

def OwOk (K : PySem.W.Frag) (G : Hp) (a : Addr) : Ow → HO → Prop
  | .lst ds, u => ∃ xs, u = .lst xs ∧ Rps K G xs ds
  | .dk ks, u => ∃ kvs, u = .dK kvs ∧ Rks K G kvs ks
  | .ins C fs oa, u => (∀ b, oa = some b → b = a) ∧ ∃ dx xs, u = .ins C dx xs ∧ Rfs K G xs fs
def MemOk (K : PySem.W.Frag) (G H : Hp) (M : Mem) : Prop := ∀ a w, M a = some w → G a = none ∧ ∃ u, H a = some u ∧ OwOk K G a w u
def SlOk (K : PySem.W.Frag) (G H : Hp) : Sl → Option V → Prop
  | .un, _ => True
  | .dat d, o => ∃ v, o = some v ∧ Rp K G v d
  | .own w, o => ∃ a u, o = some (.ref a) ∧ G a = none ∧ H a = some u ∧ OwOk K G a w u
  | .mem M, _ => MemOk K G H M
/-- slot i owns the object at a -/
def Owns (Γ : List Sl) (σ : L2.St) (i : Nat) (a : Addr) : Prop := (∃ o, Γ[i]? = some (.own o) ∧ σ[i]? = some (some (.ref a))) ∨ ∃ M w, Γ[i]? = some (.mem M) ∧ M a = some w
/-- the frame of a call that may change what stands at F -/
structure FwF (F : Addr → Prop) (G H G' H' : Hp) : Prop where
  g : Same G G'
  h : ∀ a o, H a = some o → ¬ F a → H' a = some o
  l : ∀ a, H' a = none → H a = none
  e : Same G' H'
  n : ∀ a o, G' a = some o → G a = none → H a = none ∨ F a
structure Stt (B : Bx) (Γ : List Sl) (σ : L2.St) (G H : Hp) : Prop where
  fw : FwF B.F0 B.G0 B.H0 G H
  len : σ.length = Γ.length
  sl : ∀ (i : Nat) s, Γ[i]? = some s → SlOk B.K G H s ((σ[i]?).getD none)
  ap : ∀ (i j : Nat) a, Owns Γ σ i a → Owns Γ σ j a → i = j
  nw : ∀ (i : Nat) o a, Γ[i]? = some (.own o) → σ[i]? = some (some (.ref a)) → B.H0 a = none
  nm : ∀ (i : Nat) M a w, Γ[i]? = some (.mem M) → M a = some w → B.H0 a = none ∨ B.F0 a
def XOk (K : PySem.W.Frag) (G : Hp) (x : Xc) (cls : Value) (dd : Option Addr) : Prop :=
  cls = .ref x.C ∧ ((x.fs = [] ∧ dd = none) ∨ ∃ d vs, dd = some d ∧ G d = some (.xd vs) ∧ Rfs K G vs x.fs)

section
variable {K : PySem.W.Frag} {B : Bx} {Γ Γ' Γ1 Γ2 : List Sl} {σ σ' : L2.St} {G G' G2 H H' H2 : Hp} {F : Addr → Prop}
theorem FwF.refl (e : Same G H) : FwF F G H G H := ⟨Same.refl _, fun _ _ h _ => h, fun _ h => h, e, fun _ _ h q => by rw [h] at q; cases q⟩
theorem FwF.trans (a : FwF F G H G' H') (b : Fw G' H' G2 H2) : FwF F G H G2 H2 :=
  ⟨a.g.trans b.g, fun c o q n => b.h _ _ (a.h c o q n), fun c q => a.l c (b.h.free q), b.e, fun c o q n => by
    cases e : G' c with
    | some u => exact a.n c u e n
    | none => exact .inl (a.l c (b.n c o q e))⟩
theorem FwF.fw (a : FwF F G H G' H') (h : ∀ a, ¬ F a) : Fw G H G' H' := ⟨a.g, fun c o q => a.h c o q (h c), a.e, fun c o q n => (a.n c o q n).resolve_right (h c)⟩
theorem FwF.of (a : Fw G H G' H') : FwF F G H G' H' := ⟨a.g, fun c o q _ => a.h c o q, fun c q => a.h.free q, a.e, fun c o q n => .inl (a.n c o q n)⟩
theorem OwOk.mono (e : Same G G') {a : Addr} {w : Ow} {u : HO} (h : OwOk K G a w u) : OwOk K G' a w u := by
  cases w with
  | lst ds => obtain ⟨xs, a, r⟩ := h; exact ⟨xs, a, r.mono e⟩
  | dk ks => obtain ⟨xs, a, r⟩ := h; exact ⟨xs, a, r.mono e⟩
  | ins C fs oa => obtain ⟨ha, dx, xs, a, r⟩ := h; exact ⟨ha, dx, xs, a, r.mono e⟩
theorem OwOk.rp (e : Same G G') {a : Addr} {w : Ow} {u : HO} (h : OwOk K G a w u) (ha : G' a = some u) : Rp K G' (.ref a) w.toD := by
  cases w with
  | lst ds => obtain ⟨xs, rfl, r⟩ := h; exact .lst (.inl (.inl ha)) (r.mono e)
  | dk ks => obtain ⟨xs, rfl, r⟩ := h; exact .dk (.inl ha) (r.mono e)
  | ins C fs oa => obtain ⟨_, dx, xs, rfl, r⟩ := h; exact .obj ha (r.mono e)
theorem Fw.gone (f : Fw G H G' H') {a : Addr} (g : G a = none) {u : HO} (h : H a = some u) : G' a = none := by
  cases q : G' a with
  | none => rfl
  | some o => rw [f.n a o q g] at h; cases h
theorem MemOk.step {M : Mem} (f : Fw G H G' H') (h : MemOk K G H M) : MemOk K G' H' M := fun a w e => by
  obtain ⟨g, u, z, r⟩ := h a w e
  exact ⟨f.gone g z, u, f.h _ _ z, r.mono f.g⟩
theorem SlOk.step {s : Sl} {o : Option V} (f : Fw G H G' H') (h : SlOk K G H s o) : SlOk K G' H' s o := by
  cases s with
  | un => trivial
  | dat d => obtain ⟨v, e, r⟩ := h; exact ⟨v, e, r.mono f.g⟩
  | own w => obtain ⟨a, u, e, g, z, r⟩ := h; exact ⟨a, u, e, f.gone g z, f.h _ _ z, r.mono f.g⟩
  | mem M => exact MemOk.step f h
theorem Stt.step (S : Stt B Γ σ G H) (f : Fw G H G' H') : Stt B Γ σ G' H' :=
  ⟨S.fw.trans f, S.len, fun i s h => (S.sl i s h).step f, S.ap, S.nw, S.nm⟩
theorem Stt.dat (S : Stt B Γ σ G H) {i : Nat} {d : D} (h : Γ[i]? = some (.dat d)) : ∃ v, σ[i]? = some (some v) ∧ Rp B.K G v d := by
  obtain ⟨v, e, r⟩ := S.sl i _ h
  cases q : σ[i]? with
  | none => rw [q] at e; cases e
  | some z => rw [q] at e; exact ⟨v, congrArg some e, r⟩
theorem Stt.own (S : Stt B Γ σ G H) {i : Nat} {w : Ow} (h : Γ[i]? = some (.own w)) : ∃ a u, σ[i]? = some (some (.ref a)) ∧ G a = none ∧ H a = some u ∧ OwOk B.K G a w u ∧ B.H0 a = none := by
  obtain ⟨a, u, e, g, z, r⟩ := S.sl i _ h
  cases q : σ[i]? with
  | none => rw [q] at e; cases e
  | some y => rw [q] at e; cases (show y = some (.ref a) from e); exact ⟨a, u, rfl, g, z, r, S.nw i w a h q⟩
theorem Stt.mem (S : Stt B Γ σ G H) {i : Nat} {M : Mem} (h : Γ[i]? = some (.mem M)) : MemOk B.K G H M := S.sl i _ h
theorem Stt.same (S : Stt B Γ σ G H) : Same G H := S.fw.e
theorem Stt.fr (S : Stt B Γ σ G H) {a : Addr} (h : H a = none) : B.H0 a = none := S.fw.l a h
/-- what is owned stands, and no one else has it -/
theorem Stt.owned (S : Stt B Γ σ G H) {i : Nat} {a : Addr} (h : Owns Γ σ i a) : G a = none ∧ (∃ u, H a = some u) ∧ (B.H0 a = none ∨ B.F0 a) := by
  rcases h with ⟨o, h1, h2⟩ | ⟨M, w, h1, h2⟩
  · obtain ⟨b, u, e, g, z, r, h0⟩ := S.own h1
    rw [h2] at e
    cases e
    exact ⟨g, ⟨u, z⟩, .inl h0⟩
  · obtain ⟨g, u, z, r⟩ := S.mem h1 a w h2
    exact ⟨g, ⟨u, z⟩, S.nm i M a w h1 h2⟩
theorem owns_ne {i j : Nat} {s : Sl} {o : Option V} {a : Addr} (ne : j ≠ i) (h : Owns (Γ.set i s) (σ.set i o) j a) : Owns Γ σ j a := by
  unfold Owns at h
  rw [List.getElem?_set_ne (Ne.symm ne), List.getElem?_set_ne (Ne.symm ne)] at h
  exact h
theorem owns_neΓ {i j : Nat} {s : Sl} {a : Addr} (ne : j ≠ i) (h : Owns (Γ.set i s) σ j a) : Owns Γ σ j a := by
  unfold Owns at h
  rw [List.getElem?_set_ne (Ne.symm ne)] at h
  exact h
def Sl.quiet : Sl → Prop
  | .own _ => False
  | .mem _ => False
  | _ => True
theorem owns_q {i j : Nat} {s : Sl} {τ : L2.St} {a : Addr} (hi : i < Γ.length) (hs : s.quiet) (h : Owns (Γ.set i s) τ j a) : j ≠ i := fun e => by
  subst e
  unfold Owns at h
  rw [List.getElem?_set_self hi] at h
  rcases h with ⟨o, h1, _⟩ | ⟨M, w, h1, _⟩ <;> cases h1 <;> exact hs
/-- a slot is given a datum, or forgotten -/
theorem Stt.setQ (S : Stt B Γ σ G H) {i : Nat} {s : Sl} {o : Option V} (hi : i < Γ.length) (hs : s.quiet) (r : SlOk B.K G H s o) : Stt B (Γ.set i s) (σ.set i o) G H := by
  have ne : ∀ (j : Nat) (t : Sl), ¬ t.quiet → (Γ.set i s)[j]? = some t → j ≠ i := fun j t nt h e => by
    subst e
    rw [List.getElem?_set_self hi] at h
    cases h
    exact nt hs
  refine ⟨S.fw, by simp [S.len], fun j s' h => ?_, fun j k a h1 h2 => ?_, fun j o' a h1 h2 => ?_, fun j M a w h1 h2 => ?_⟩
  · by_cases e : j = i
    · subst e
      rw [List.getElem?_set_self hi] at h
      cases h
      rw [List.getElem?_set_self (by rw [S.len]; exact hi)]
      exact r
    · rw [List.getElem?_set_ne (Ne.symm e)] at h
      rw [List.getElem?_set_ne (Ne.symm e)]
      exact S.sl j s' h
  · exact S.ap j k a (owns_ne (owns_q hi hs h1) h1) (owns_ne (owns_q hi hs h2) h2)
  · have n1 := ne j _ (by exact fun z => z) h1
    rw [List.getElem?_set_ne (Ne.symm n1)] at h1 h2
    exact S.nw j o' a h1 h2
  · have n1 := ne j _ (by exact fun z => z) h1
    rw [List.getElem?_set_ne (Ne.symm n1)] at h1
    exact S.nm j M a w h1 h2
theorem Stt.set (S : Stt B Γ σ G H) {i : Nat} {v : V} {d : D} (hi : i < Γ.length) (r : Rp B.K G v d) : Stt B (Γ.set i (.dat d)) (σ.set i (some v)) G H := S.setQ hi trivial ⟨v, rfl, r⟩
theorem Stt.forget (S : Stt B Γ σ G H) {i : Nat} {o : Option V} (hi : i < Γ.length) : Stt B (Γ.set i .un) (σ.set i o) G H := S.setQ hi trivial trivial
/-- a slot is given an object of one's own -/
theorem Stt.setO (S : Stt B Γ σ G H) {i : Nat} {a : Addr} {u : HO} {w : Ow} (hi : i < Γ.length) (hg : G a = none) (hh : H a = some u) (r : OwOk B.K G a w u) (h0 : B.H0 a = none)
    (hap : ∀ (j : Nat), j ≠ i → ¬ Owns Γ σ j a) : Stt B (Γ.set i (.own w)) (σ.set i (some (.ref a))) G H := by
  have oi : ∀ b, Owns (Γ.set i (.own w)) (σ.set i (some (.ref a))) i b → b = a := fun b h => by
    unfold Owns at h
    rw [List.getElem?_set_self hi, List.getElem?_set_self (by rw [S.len]; exact hi)] at h
    rcases h with ⟨o, _, h2⟩ | ⟨M, w, h1, _⟩
    · cases h2; rfl
    · cases h1
  refine ⟨S.fw, by simp [S.len], fun j s h => ?_, fun j k b h1 h2 => ?_, fun j o b h1 h2 => ?_, fun j M b w' h1 h2 => ?_⟩
  · by_cases e : j = i
    · subst e
      rw [List.getElem?_set_self hi] at h
      cases h
      rw [List.getElem?_set_self (by rw [S.len]; exact hi)]
      exact ⟨a, u, rfl, hg, hh, r⟩
    · rw [List.getElem?_set_ne (Ne.symm e)] at h
      rw [List.getElem?_set_ne (Ne.symm e)]
      exact S.sl j s h
  · by_cases ej : j = i
    · by_cases ek : k = i
      · rw [ej, ek]
      · subst ej
        have := oi b h1
        subst this
        exact absurd (owns_ne ek h2) (hap k ek)
    · by_cases ek : k = i
      · subst ek
        have := oi b h2
        subst this
        exact absurd (owns_ne ej h1) (hap j ej)
      · exact S.ap j k b (owns_ne ej h1) (owns_ne ek h2)
  · by_cases ej : j = i
    · subst ej
      rw [List.getElem?_set_self (by rw [S.len]; exact hi)] at h2
      cases h2
      exact h0
    · rw [List.getElem?_set_ne (Ne.symm ej)] at h1 h2
      exact S.nw j o b h1 h2
  · by_cases ej : j = i
    · subst ej
      rw [List.getElem?_set_self hi] at h1
      cases h1
    · rw [List.getElem?_set_ne (Ne.symm ej)] at h1
      exact S.nm j M b w' h1 h2
/-- a new object is no other slot's -/
theorem Stt.apart (S : Stt B Γ σ G H) {a : Addr} (h : H a = none) : ∀ (j : Nat), ¬ Owns Γ σ j a := fun j hj => by
  obtain ⟨_, ⟨u, z⟩, _⟩ := S.owned hj
  rw [h] at z
  cases z
/-- an object that slot i owns, or that no one owns, changes: the other slots stand -/
theorem Stt.frame (S : Stt B Γ σ G H) {a : Addr} {u' : HO} (hg : G a = none) (h0 : B.H0 a = none ∨ B.F0 a) : FwF B.F0 B.G0 B.H0 G (upd H a u') := by
  refine ⟨S.fw.g, fun b o q n => ?_, fun b q => ?_, fun b o q => ?_, S.fw.n⟩
  · by_cases e : b = a
    · subst e
      rcases h0 with h | h
      · rw [h] at q; cases q
      · exact absurd h n
    · rw [upd_ne e]; exact S.fw.h b o q n
  · by_cases e : b = a
    · subst e; rw [upd_same] at q; cases q
    · rw [upd_ne e] at q; exact S.fw.l b q
  · rw [upd_ne (ne_of_none q hg)]; exact S.fw.e b o q
theorem Stt.keepSl (S : Stt B Γ σ G H) {j : Nat} {a : Addr} {u' : HO} {s : Sl} (h : Γ[j]? = some s) (no : ¬ Owns Γ σ j a) : SlOk B.K G (upd H a u') s ((σ[j]?).getD none) := by
  have q := S.sl j s h
  cases s with
  | un => trivial
  | dat d => exact q
  | own o =>
    obtain ⟨b, u2, e2, g2, z2, r2⟩ := q
    refine ⟨b, u2, e2, g2, ?_, r2⟩
    rw [upd_ne]
    · exact z2
    · intro eb
      subst eb
      refine no (.inl ⟨o, h, ?_⟩)
      cases q : σ[j]? with
      | none => rw [q] at e2; cases e2
      | some y => rw [q] at e2; exact congrArg some e2
  | mem M =>
    intro b w e
    obtain ⟨g2, u2, z2, r2⟩ := q b w e
    refine ⟨g2, u2, ?_, r2⟩
    rw [upd_ne]
    · exact z2
    · intro eb
      subst eb
      exact no (.inr ⟨M, w, h, e⟩)
/-- one's own object changes -/
theorem Stt.mut (S : Stt B Γ σ G H) {i : Nat} {a : Addr} {w w' : Ow} {u' : HO} (hi : Γ[i]? = some (.own w)) (ha : σ[i]? = some (some (.ref a))) (r : OwOk B.K G a w' u') : Stt B (Γ.set i (.own w')) σ G (upd H a u') := by
  obtain ⟨b, u, e1, hg, hh, _, h0⟩ := S.own hi
  rw [ha] at e1
  cases e1
  have hil : i < Γ.length := (List.getElem?_eq_some_iff.mp hi).1
  have oi : Owns Γ σ i a := .inl ⟨w, hi, ha⟩
  have key : ∀ (j : Nat) (c : Addr), Owns (Γ.set i (.own w')) σ j c → Owns Γ σ j c := fun j c h => by
    by_cases e : j = i
    · subst e
      unfold Owns at h
      rw [List.getElem?_set_self hil] at h
      rcases h with ⟨o, _, h2⟩ | ⟨M, w, h1, _⟩
      · exact .inl ⟨w, hi, h2⟩
      · cases h1
    · exact owns_neΓ e h
  refine ⟨S.frame hg (.inl h0), by simp [S.len], fun j s h => ?_, fun j k b h1 h2 => S.ap j k b (key j b h1) (key k b h2), fun j o b h1 h2 => ?_, fun j M b w2 h1 h2 => ?_⟩
  · by_cases e : j = i
    · subst e
      rw [List.getElem?_set_self hil] at h
      cases h
      rw [ha]
      exact ⟨a, u', rfl, hg, upd_same, r⟩
    · rw [List.getElem?_set_ne (Ne.symm e)] at h
      exact S.keepSl h fun q => e (S.ap j i a q oi)
  · by_cases e : j = i
    · subst e; exact S.nw j w b hi h2
    · rw [List.getElem?_set_ne (Ne.symm e)] at h1; exact S.nw j o b h1 h2
  · by_cases e : j = i
    · subst e; rw [List.getElem?_set_self hil] at h1; cases h1
    · rw [List.getElem?_set_ne (Ne.symm e)] at h1; exact S.nm j M b w2 h1 h2
/-- one's own object is given up: it stands as read-only from now on -/
theorem Stt.freeze (S : Stt B Γ σ G H) {i : Nat} {w : Ow} (hi : Γ[i]? = some (.own w)) : ∃ G', Same G G' ∧ Stt B (Γ.set i (.dat w.toD)) σ G' H := by
  obtain ⟨a, ux, e1, hg, hh, r, h0⟩ := S.own hi
  have hil : i < Γ.length := (List.getElem?_eq_some_iff.mp hi).1
  have oi : Owns Γ σ i a := .inl ⟨w, hi, e1⟩
  have sg : Same G (upd G a ux) := fun b o q => by rw [upd_ne (ne_of_none q hg)]; exact q
  have se : Same (upd G a ux) H := fun b o q => by
    by_cases z : b = a
    · subst z; rw [upd_same] at q; cases q; exact hh
    · rw [upd_ne z] at q; exact S.fw.e b o q
  have key : ∀ (j : Nat) (c : Addr), Owns (Γ.set i (.dat w.toD)) σ j c → j ≠ i ∧ Owns Γ σ j c := fun j c h => by
    have ne := owns_q hil (s := .dat w.toD) trivial h
    exact ⟨ne, owns_neΓ ne h⟩
  refine ⟨upd G a ux, sg, ⟨⟨S.fw.g.trans sg, S.fw.h, S.fw.l, se, fun b o q n => ?_⟩, by simp [S.len], fun j s h => ?_, fun j k b h1 h2 => S.ap j k b (key j b h1).2 (key k b h2).2, fun j o b h1 h2 => ?_, fun j M b w2 h1 h2 => ?_⟩⟩
  · by_cases z : b = a
    · subst z; exact .inl h0
    · rw [upd_ne z] at q; exact S.fw.n b o q n
  · by_cases e : j = i
    · subst e
      rw [List.getElem?_set_self hil] at h
      cases h
      rw [e1]
      exact ⟨.ref a, rfl, r.rp sg upd_same⟩
    · rw [List.getElem?_set_ne (Ne.symm e)] at h
      have no : ¬ Owns Γ σ j a := fun q => e (S.ap j i a q oi)
      have q := S.sl j s h
      cases s with
      | un => trivial
      | dat d => obtain ⟨v, e2, r2⟩ := q; exact ⟨v, e2, r2.mono sg⟩
      | own o =>
        obtain ⟨b, u2, e2, g2, z2, r2⟩ := q
        refine ⟨b, u2, e2, ?_, z2, r2.mono sg⟩
        rw [upd_ne]
        · exact g2
        · intro eb
          subst eb
          refine no (.inl ⟨o, h, ?_⟩)
          cases q : σ[j]? with
          | none => rw [q] at e2; cases e2
          | some y => rw [q] at e2; exact congrArg some e2
      | mem M =>
        intro b w2 e2
        obtain ⟨g2, u2, z2, r2⟩ := q b w2 e2
        refine ⟨?_, u2, z2, r2.mono sg⟩
        rw [upd_ne]
        · exact g2
        · intro eb
          subst eb
          exact no (.inr ⟨M, w2, h, e2⟩)
  · by_cases e : j = i
    · subst e; rw [List.getElem?_set_self hil] at h1; cases h1
    · rw [List.getElem?_set_ne (Ne.symm e)] at h1; exact S.nw j o b h1 h2
  · by_cases e : j = i
    · subst e; rw [List.getElem?_set_self hil] at h1; cases h1
    · rw [List.getElem?_set_ne (Ne.symm e)] at h1; exact S.nm j M b w2 h1 h2
/-- what a call hands back -/
theorem Fw.freeze (f : Fw G H G' H') {a : Addr} {u : HO} (g : G' a = none) (h : H a = none) (h' : H' a = some u) : Fw G H (upd G' a u) H' := by
  refine ⟨fun b o q => ?_, f.h, fun b o q => ?_, fun b o q n => ?_⟩
  · rw [upd_ne (ne_of_none (f.g b o q) g)]; exact f.g b o q
  · by_cases z : b = a
    · subst z; rw [upd_same] at q; cases q; exact h'
    · rw [upd_ne z] at q; exact f.e b o q
  · by_cases z : b = a
    · subst z; exact h
    · rw [upd_ne z] at q; exact f.n b o q n
end
end Z

/-! Z3: what a reading evaluates to: rules for expressions. -/
namespace Z
open PySem PySem.Spec PyProof.Rows L2

def tx (l : List Nat) : Str := ⟨l.toArray⟩
theorem tx_length (l : List Nat) : (tx l).length = l.length := by show l.toArray.size = _; simp
theorem tx_append (a b : List Nat) : tx a ++ tx b = tx (a ++ b) := by
  show (⟨a.toArray ++ b.toArray⟩ : Str) = ⟨(a ++ b).toArray⟩
  simp
theorem tx_cps (l : List Nat) : (tx l).cps.toList = l := by simp [tx]
theorem tx_inj {a b : List Nat} : tx a = tx b ↔ a = b := by
  constructor
  · intro h
    have := congrArg (fun s : Str => s.cps.toList) h
    simpa [tx] using this
  · intro h; rw [h]
theorem tx_of (s : Str) : s = tx s.cps.toList := by cases s; simp [tx]

/-- a promise by data: F ds R E -/
abbrev Fn := List D → (Sl → Prop) → (Xc → Prop) → Prop
def RsOk (K : PySem.W.Frag) (H G' H' : Hp) : Sl → V → Prop
  | .un, _ => True
  | .dat d, v => Rp K G' v d
  | .own w, v => ∃ a u, v = .ref a ∧ G' a = none ∧ H a = none ∧ H' a = some u ∧ OwOk K G' a w u
  | .mem _, _ => True
def spz (K : PySem.W.Frag) (F : Fn) : Sp := fun vs H Q E => ∃ (G : Hp) (ds : List D) (R : Sl → Prop) (X : Xc → Prop), Same G H ∧ Rps K G vs ds ∧ F ds R X ∧
  (∀ s v G' H', R s → Fw G H G' H' → RsOk K H G' H' s v → Q v H') ∧ (∀ x cls dd G' H', X x → Fw G H G' H' → XOk K G' x cls dd → E cls dd H')
theorem spz_len {K : PySem.W.Frag} {F : Fn} {n : Nat} (h : ∀ ds R X, F ds R X → ds.length = n) (vs : List V) (H : Hp) (Q : VK) (E : XK) (s : spz K F vs H Q E) : vs.length = n := by
  obtain ⟨G, ds, R, X, _, r, f, _⟩ := s
  rw [r.length, h ds R X f]

def Ev (B : Bx) (te : TE) (Γ : List Sl) (d : D) : Prop := ∀ σ G H Q, Stt B Γ σ G H → (∀ v G' H', Fw G H G' H' → Rp B.K G' v d → Q v H') → te σ H Q
def EvO (B : Bx) (te : TE) (Γ : List Sl) (w : Ow) : Prop := ∀ σ G H Q, Stt B Γ σ G H → (∀ a u G' H', Fw G H G' H' → G' a = none → H a = none → H' a = some u → OwOk B.K G' a w u → Q (.ref a) H') → te σ H Q
def EvT (B : Bx) (tt : TT) (Γ : List Sl) (b : Bool) : Prop := ∀ σ G H Q, Stt B Γ σ G H → (∀ G' H', Fw G H G' H' → Q b H') → tt σ H Q
def EvA (B : Bx) (ta : TA) (Γ : List Sl) (ds : List D) : Prop := ∀ σ G H Q, Stt B Γ σ G H → (∀ vs G' H', Fw G H G' H' → Rps B.K G' vs ds → Q vs H') → ta σ H Q
def EvP (B : Bx) (to : TO) (Γ : List Sl) (o : Option Int) : Prop := ∀ σ G H Q, Stt B Γ σ G H → (∀ G' H', Fw G H G' H' → Q o H') → to σ H Q
/-- operations on values -/
def RV (B : Bx) (r : R2) (a b c : D) : Prop := ∀ x y G H Q, Same G H → Rp B.K G x a → Rp B.K G y b → (∀ v G' H', Fw G H G' H' → Rp B.K G' v c → Q v H') → r x y H Q
def RU (B : Bx) (r : V → Hp → VK → Prop) (a c : D) : Prop := ∀ x G H Q, Same G H → Rp B.K G x a → (∀ v G' H', Fw G H G' H' → Rp B.K G' v c → Q v H') → r x H Q
def RC (B : Bx) (r : List V → Hp → VK → Prop) (as : List D) (c : D) : Prop := ∀ xs G H Q, Same G H → Rps B.K G xs as → (∀ v G' H', Fw G H G' H' → Rp B.K G' v c → Q v H') → r xs H Q
def RM (B : Bx) (r : V → List V → Hp → VK → Prop) (a : D) (as : List D) (c : D) : Prop := ∀ x xs G H Q, Same G H → Rp B.K G x a → Rps B.K G xs as → (∀ v G' H', Fw G H G' H' → Rp B.K G' v c → Q v H') → r x xs H Q

section
variable {B : Bx} {Γ : List Sl} {ta tb tc te : TE} {tt tu : TT} {aa : TA} {a b c d : D} {as ds : List D} {r : R2} {i j k : Int}

theorem Ev.of_ownW {w : Ow} (h : EvO B te Γ w) : Ev B te Γ w.toD := fun σ G H Q S q =>
  h σ G H Q S fun p u G' H' f g n e o =>
    q (.ref p) (upd G' p u) H' (f.freeze g n e) (o.rp (fun b o z => by rw [upd_ne (ne_of_none z g)]; exact z) upd_same)
theorem Ev.of_own {xs : List D} (h : EvO B te Γ (.lst xs)) : Ev B te Γ (.lst xs) := Ev.of_ownW h
theorem Ev.of_ownD {ks : List (Key × D)} (h : EvO B te Γ (.dk ks)) : Ev B te Γ (.dk ks) := Ev.of_ownW h
theorem Ev.of_ownI {C : Addr} {fs : List (Str × D)} {oa : Option Addr} (h : EvO B te Γ (.ins C fs oa)) : Ev B te Γ (.obj C fs) := Ev.of_ownW h
theorem ev_eq (h : Ev B te Γ a) (e : a = b) : Ev B te Γ b := e ▸ h
theorem evo_eq {w w' : Ow} (h : EvO B te Γ w) (e : w = w') : EvO B te Γ w' := e ▸ h
theorem evt_eq {p q : Bool} (h : EvT B tt Γ p) (e : p = q) : EvT B tt Γ q := e ▸ h

/-! ### names, constants -/
theorem ev_var {n : Nat} (h : Γ[n]? = some (.dat d)) : Ev B (tVar n) Γ d := fun σ G H Q S q => by
  obtain ⟨v, e, r⟩ := S.dat h
  exact ⟨v, e, q v G H (Fw.refl S.same) r⟩
theorem ev_c {v : V} (h : ∀ G, Rp B.K G v d) : Ev B (tC v) Γ d := fun σ G H Q S q => q v G H (Fw.refl S.same) (h G)
theorem ev_int : Ev B (tC (.int i)) Γ (.int i) := ev_c fun _ => .int i
theorem ev_bl {b : Bool} : Ev B (tC (.bl b)) Γ (.bl b) := ev_c fun _ => .bl b
theorem ev_non : Ev B (tC .non) Γ .non := ev_c fun _ => .non
theorem ev_ty {n : String} : Ev B (tC (.ty n)) Γ (.ty n) := ev_c fun _ => .ty n
theorem ev_ref {a : Addr} : Ev B (tC (.ref a)) Γ (.ref a) := ev_c fun _ => .ref a
theorem ev_str {x : Str} : Ev B (tC (.str x)) Γ (.str x) := ev_c fun _ => .str x
theorem ev_txt {x : Str} {l : List Nat} (h : x = tx l) : Ev B (tC (.str x)) Γ (.str (tx l)) := h ▸ ev_str
/-- a list or tuple of the module's own -/
theorem ev_kt {a : Addr} {xs : List V} (h : ∀ G, SqT B.K G a xs) (r : ∀ G, Rps B.K G xs ds) : Ev B (tC (.ref a)) Γ (.tup ds) := ev_c fun G => .tup (h G) (r G)
theorem ev_kl {a : Addr} {xs : List V} (h : ∀ G, SqL B.K G a xs) (r : ∀ G, Rps B.K G xs ds) : Ev B (tC (.ref a)) Γ (.lst ds) := ev_c fun G => .lst (h G) (r G)

/-! ### composition -/
theorem ev_op (ha : Ev B ta Γ a) (hb : Ev B tb Γ b) (hr : RV B r a b c) : Ev B (tOp r ta tb) Γ c := fun σ G H Q S q =>
  ha σ G H _ S fun x G1 H1 f1 r1 => hb σ G1 H1 _ (S.step f1) fun y G2 H2 f2 r2 => hr x y G2 H2 Q f2.e (r1.mono f2.g) r2 fun v G3 H3 f3 r3 => q v G3 H3 ((f1.trans f2).trans f3) r3
theorem ev_un {r : V → Hp → VK → Prop} (ha : Ev B ta Γ a) (hr : RU B r a c) : Ev B (tUn r ta) Γ c := fun σ G H Q S q =>
  ha σ G H _ S fun x G1 H1 f1 r1 => hr x G1 H1 Q f1.e r1 fun v G3 H3 f3 r3 => q v G3 H3 (f1.trans f3) r3
theorem eva_nil : EvA B tNil Γ [] := fun σ G H Q S q => q [] G H (Fw.refl S.same) .nil
theorem eva_cons {tr : TA} (h : Ev B te Γ d) (hr : EvA B tr Γ ds) : EvA B (tCons te tr) Γ (d :: ds) := fun σ G H Q S q =>
  h σ G H _ S fun v G1 H1 f1 r1 => hr σ G1 H1 _ (S.step f1) fun vs G2 H2 f2 r2 => q (v :: vs) G2 H2 (f1.trans f2) (.cons (r1.mono f2.g) r2)
theorem ev_cb {r : List V → Hp → VK → Prop} (ha : EvA B aa Γ as) (hr : RC B r as c) : Ev B (tCB r aa) Γ c := fun σ G H Q S q =>
  ha σ G H _ S fun x G1 H1 f1 r1 => hr x G1 H1 Q f1.e r1 fun v G3 H3 f3 r3 => q v G3 H3 (f1.trans f3) r3
theorem line_le {n : Nat} (h : n ≤ 16777216) : n ≤ sizeLine := by rw [sizeLine_eq]; exact h
theorem line_lt {n : Nat} (h : n < 16777216) : n < sizeLine := by rw [sizeLine_eq]; exact h
theorem ev_tup (ha : EvA B aa Γ ds) (hl : ds.length ≤ 16777216 := by decide) : Ev B (tTup aa) Γ (.tup ds) := fun σ G H Q S q =>
  ha σ G H _ S fun vs G1 H1 f1 r1 => ⟨by rw [r1.length]; exact line_le hl, fun p hp => q (.ref p) _ _ (f1.trans (Fw.new f1.e hp)) (.tup (.inl (.inl upd_same)) (r1.mono (Fw.new (o := .tup vs) f1.e hp).g))⟩
theorem evo_lst (ha : EvA B aa Γ ds) (hl : ds.length ≤ 16777216 := by decide) : EvO B (tLst aa) Γ (.lst ds) := fun σ G H Q S q =>
  ha σ G H _ S fun vs G1 H1 f1 r1 => ⟨by rw [r1.length]; exact line_le hl, fun p hp => q p (.lst vs) G1 _ (f1.trans (Fw.newO f1.e hp)) (f1.e.free hp) (f1.h.free hp) upd_same ⟨vs, rfl, r1⟩⟩
theorem ev_if {p : Bool} (h : EvT B tt Γ p) (h1 : p = true → Ev B ta Γ d) (h2 : p = false → Ev B tb Γ d) : Ev B (tIf tt ta tb) Γ d := fun σ G H Q S q =>
  h σ G H _ S fun G1 H1 f1 => by
    cases p with
    | true => exact h1 rfl σ G1 H1 Q (S.step f1) fun v G2 H2 f2 => q v G2 H2 (f1.trans f2)
    | false => exact h2 rfl σ G1 H1 Q (S.step f1) fun v G2 H2 f2 => q v G2 H2 (f1.trans f2)

/-! ### tests -/
theorem evt_test {p : Bool} (h : Ev B te Γ (.bl p)) : EvT B (tTest te) Γ p := fun σ G H Q S q =>
  h σ G H _ S fun v G1 H1 f1 r1 => by cases r1; exact ⟨p, rfl, q G1 H1 f1⟩
theorem evt_b {p : Bool} (h : Ev B te Γ (.bl p)) : EvT B (tB te) Γ p := fun σ G H Q S q =>
  h σ G H _ S fun v G1 H1 f1 r1 => by cases r1; exact ⟨p, rfl, q G1 H1 f1⟩
theorem evt_not {p : Bool} (h : EvT B tt Γ p) : EvT B (tNot tt) Γ (!p) := fun σ G H Q S q => h σ G H _ S q
theorem evt_and {p q : Bool} (h1 : EvT B tt Γ p) (h2 : p = true → EvT B tu Γ q) : EvT B (tAnd tt tu) Γ (p && q) := fun σ G H Q S k =>
  h1 σ G H _ S fun G1 H1 f1 => by
    cases p with
    | true => exact h2 rfl σ G1 H1 Q (S.step f1) fun G2 H2 f2 => k G2 H2 (f1.trans f2)
    | false => exact k G1 H1 f1
theorem evt_or {p q : Bool} (h1 : EvT B tt Γ p) (h2 : p = false → EvT B tu Γ q) : EvT B (tOr tt tu) Γ (p || q) := fun σ G H Q S k =>
  h1 σ G H _ S fun G1 H1 f1 => by
    cases p with
    | true => exact k G1 H1 f1
    | false => exact h2 rfl σ G1 H1 Q (S.step f1) fun G2 H2 f2 => k G2 H2 (f1.trans f2)
theorem evt_yes : EvT B tYes Γ true := fun σ G H Q S q => q G H (Fw.refl S.same)
theorem ev_and {p q : Bool} (h1 : Ev B ta Γ (.bl p)) (h2 : p = true → Ev B tb Γ (.bl q)) : Ev B (tAndV ta tb) Γ (.bl (p && q)) := fun σ G H Q S k =>
  h1 σ G H _ S fun v G1 H1 f1 r1 => by
    cases r1
    refine ⟨p, rfl, ?_⟩
    cases p with
    | true => exact h2 rfl σ G1 H1 Q (S.step f1) fun v G2 H2 f2 => k v G2 H2 (f1.trans f2)
    | false => exact k _ G1 H1 f1 (.bl false)
theorem ev_or {p q : Bool} (h1 : Ev B ta Γ (.bl p)) (h2 : p = false → Ev B tb Γ (.bl q)) : Ev B (tOrV ta tb) Γ (.bl (p || q)) := fun σ G H Q S k =>
  h1 σ G H _ S fun v G1 H1 f1 r1 => by
    cases r1
    refine ⟨p, rfl, ?_⟩
    cases p with
    | true => exact k _ G1 H1 f1 (.bl true)
    | false => exact h2 rfl σ G1 H1 Q (S.step f1) fun v G2 H2 f2 => k v G2 H2 (f1.trans f2)
theorem ev_not {p : Bool} (h1 : Ev B ta Γ (.bl p)) : Ev B (tNotV ta) Γ (.bl (!p)) := fun σ G H Q S k =>
  h1 σ G H _ S fun v G1 H1 f1 r1 => by cases r1; exact ⟨p, rfl, k _ G1 H1 f1 (.bl _)⟩

/-! ### a call of a def -/
theorem rs_toD {K : PySem.W.Frag} {G H G' H' : Hp} {s : Sl} {v : V} (f : Fw G H G' H') (e : s.toD = some d) (r : RsOk K H G' H' s v) : ∃ G2, Fw G H G2 H' ∧ Rp K G2 v d := by
  cases s with
  | un => cases e
  | mem M => cases e
  | dat z => cases e; exact ⟨G', f, r⟩
  | own w =>
    cases e
    obtain ⟨p, u, rfl, g, n, h, r⟩ := r
    exact ⟨_, f.freeze g n h, r.rp (fun b o z => by rw [upd_ne (ne_of_none z g)]; exact z) upd_same⟩
theorem ev_callS {F : Fn} {E : L2.St → XK} (ha : EvA B aa Γ as) (hF : F as (fun s => s.toD = some d) (fun _ => False)) : Ev B (tCallS (spz B.K F) E aa) Γ d := fun σ G H Q S q =>
  ha σ G H _ S fun vs G1 H1 f1 r1 => ⟨G1, as, _, _, f1.e, r1, hF, fun s v G' H' hs f' rs => by
    obtain ⟨G2, f2, r2⟩ := rs_toD f' hs rs
    exact q v G2 H' (f1.trans f2) r2, fun _ _ _ _ _ z => z.elim⟩
theorem ev_call {F : Fn} {E : XK} (ha : EvA B aa Γ as) (hF : F as (fun s => s.toD = some d) (fun _ => False)) : Ev B (tCall (spz B.K F) [] E aa) Γ d := fun σ G H Q S q =>
  ha σ G H _ S fun vs G1 H1 f1 r1 => by
    show spz B.K F (vs ++ []) H1 Q E
    rw [List.append_nil]
    exact ⟨G1, as, _, _, f1.e, r1, hF, fun s v G' H' hs f' rs => by
      obtain ⟨G2, f2, r2⟩ := rs_toD f' hs rs
      exact q v G2 H' (f1.trans f2) r2, fun _ _ _ _ _ z => z.elim⟩
theorem evo_callS {F : Fn} {E : L2.St → XK} {w : Ow} (ha : EvA B aa Γ as) (hF : F as (fun s => s = .own w) (fun _ => False)) : EvO B (tCallS (spz B.K F) E aa) Γ w := fun σ G H Q S q =>
  ha σ G H _ S fun vs G1 H1 f1 r1 => ⟨G1, as, _, _, f1.e, r1, hF, fun s v G' H' hs f' rs => by
    subst hs
    obtain ⟨p, u, rfl, g, n, h, o⟩ := rs
    exact q p u G' H' (f1.trans f') g (f1.h.free n) h o, fun _ _ _ _ _ z => z.elim⟩

/-! ### slices' parts -/
theorem evp_none : EvP B tNoPart Γ none := fun σ G H Q S q => q G H (Fw.refl S.same)
theorem evp_some (h : Ev B te Γ (.int i)) : EvP B (tPart te) Γ (some i) := fun σ G H Q S q =>
  h σ G H _ S fun v G1 H1 f1 r1 => by cases r1; exact ⟨i, rfl, q G1 H1 f1⟩
def RS (B : Bx) (r : V → Option Int → Option Int → Hp → VK → Prop) (a : D) (lo hi : Option Int) (c : D) : Prop := ∀ x G H Q, Same G H → Rp B.K G x a → (∀ v G' H', Fw G H G' H' → Rp B.K G' v c → Q v H') → r x lo hi H Q
theorem ev_sl {r : V → Option Int → Option Int → Hp → VK → Prop} {tl th : TO} {lo hi : Option Int} (h : Ev B te Γ a) (hl : EvP B tl Γ lo) (hh : EvP B th Γ hi) (hr : RS B r a lo hi c) : Ev B (tSl r te tl th) Γ c := fun σ G H Q S q =>
  h σ G H _ S fun x G1 H1 f1 r1 => hl σ G1 H1 _ (S.step f1) fun G2 H2 f2 => hh σ G2 H2 _ ((S.step f1).step f2) fun G3 H3 f3 =>
    hr x G3 H3 Q f3.e (r1.mono (f2.g.trans f3.g)) fun v G4 H4 f4 r4 => q v G4 H4 (((f1.trans f2).trans f3).trans f4) r4

/-! ### one's own list, looked at -/
theorem ev_thawW {n : Nat} {w : Ow} (hn : Γ[n]? = some (.own w)) (hd : flatD d = true) (h : Ev B te (Γ.set n (.dat w.toD)) d) : Ev B te Γ d := fun σ G H Q S q => by
  obtain ⟨G1, s1, S1⟩ := S.freeze hn
  refine h σ G1 H Q S1 fun v G' H' f r => q v G H' ⟨Same.refl _, f.h, S.same.trans f.h, fun b o e m => by rw [m] at e; cases e⟩ (r.flat hd)
theorem evt_thawW {n : Nat} {w : Ow} {p : Bool} (hn : Γ[n]? = some (.own w)) (h : EvT B tt (Γ.set n (.dat w.toD)) p) : EvT B tt Γ p := fun σ G H Q S q => by
  obtain ⟨G1, s1, S1⟩ := S.freeze hn
  exact h σ G1 H Q S1 fun G' H' f => q G H' ⟨Same.refl _, f.h, S.same.trans f.h, fun b o e m => by rw [m] at e; cases e⟩
theorem ev_thaw {n : Nat} {xs : List D} (hn : Γ[n]? = some (.own (.lst xs))) (hd : flatD d = true) (h : Ev B te (Γ.set n (.dat (.lst xs))) d) : Ev B te Γ d := ev_thawW hn hd h
theorem ev_thawD {n : Nat} {xs : List (Key × D)} (hn : Γ[n]? = some (.own (.dk xs))) (hd : flatD d = true) (h : Ev B te (Γ.set n (.dat (.dk xs))) d) : Ev B te Γ d := ev_thawW hn hd h
theorem ev_thawI {n : Nat} {C : Addr} {oa : Option Addr} {xs : List (Str × D)} (hn : Γ[n]? = some (.own (.ins C xs oa))) (hd : flatD d = true) (h : Ev B te (Γ.set n (.dat (.obj C xs))) d) : Ev B te Γ d := ev_thawW hn hd h
theorem evt_thaw {n : Nat} {xs : List D} {p : Bool} (hn : Γ[n]? = some (.own (.lst xs))) (h : EvT B tt (Γ.set n (.dat (.lst xs))) p) : EvT B tt Γ p := evt_thawW hn h
theorem evt_thawD {n : Nat} {xs : List (Key × D)} {p : Bool} (hn : Γ[n]? = some (.own (.dk xs))) (h : EvT B tt (Γ.set n (.dat (.dk xs))) p) : EvT B tt Γ p := evt_thawW hn h
theorem evt_thawI {n : Nat} {C : Addr} {oa : Option Addr} {xs : List (Str × D)} {p : Bool} (hn : Γ[n]? = some (.own (.ins C xs oa))) (h : EvT B tt (Γ.set n (.dat (.obj C xs))) p) : EvT B tt Γ p := evt_thawW hn h
end
end Z

/-! Z4: operators, subscripts, slices, built-ins: by values, and by data. -/
namespace Z
open PySem PySem.Spec PyProof.Rows L2
section
variable {X : Cx}

/-! ### + -/
def rCatL (K : PySem.W.Frag) : R2 := fun x y H Q => ∃ l b xs zs, x = .ref l ∧ y = .ref b ∧ SqL K H l xs ∧ SqL K H b zs ∧ xs.length + zs.length ≤ sizeLine ∧ ∀ p, H p = none → Q (.ref p) (upd H p (.lst (xs ++ zs)))
theorem op_catL : OpR X (binaryOp .Add) (rCatL X.K) := by
  intro pins s σ H x y v u Q I rx ry h
  obtain ⟨l, b, xs, zs, rfl, rfl, hH, hB, hz, q⟩ := h
  cases rx
  cases ry
  obtain ⟨its, r, ⟨⟨cls, dd, data, sl⟩, n, ho, hc, _, hd⟩, _⟩ := I.list hH
  obtain ⟨its2, r2, ⟨⟨cls2, dd2, data2, sl2⟩, n2, ho2, hc2, _, hd2⟩, _⟩ := I.list hB
  simp only at hc hd hc2 hd2
  subst hc hd hc2 hd2
  have ea : its.toArray ++ its2.toArray = (its ++ its2).toArray := by simp
  have e1 := r.length
  have e2 := r2.length
  refine concat_meets ⟨_, ho, rfl⟩ ⟨_, ho2, rfl⟩ noFill_list_add seq_list_add PySem.F.slot_list_add PySem.F.entry_list_add (PySem.F.args_list_add_2 _ _) (list_addW l b its.toArray its2.toArray n n2 dd dd2 sl sl2 (by rw [List.size_toArray, List.size_toArray]; omega)) ⟨ho, ho2, ?_⟩
  rw [ea]
  exact ⟨.ref _, _, I.lnew (t' := s.toks) (r.append r2) (by rw [List.length_append]; omega), rfl, q _ I.fresh⟩
def rAddI : R2 := rI0 fun i j => .int (i + j)
def rAddT : R2 := fun x y H Q => ∃ i j, x = .str i ∧ y = .str j ∧ i.length + j.length ≤ sizeLine ∧ Q (.str (i ++ j)) H
def zAdd (K : PySem.W.Frag) : R2 := fun x y H Q => rAddI x y H Q ∨ (rAddT x y H Q ∨ (rCatL K x y H Q ∨ rCatA K x y H Q))
theorem op_zAdd : OpR X (binaryOp .Add) (zAdd X.K) := OpR.or op_add (OpR.or op_add_str (OpR.or op_catL op_catA))
def zSub : R2 := rI0 fun i j => .int (i - j)
theorem op_zSub : OpR X (binaryOp .Sub) zSub := op_sub

/-! ### * -/
def rMulT : R2 := fun x y H Q => ∃ z k, x = .str z ∧ y = .int k ∧ MulOk z k ∧ Q (.str (Txt.mul z k)) H
theorem op_mulT : OpR X (binaryOp .Mult) rMulT := by
  intro pins s σ H x y v u Q I rx ry h
  obtain ⟨z, k, rfl, rfl, hm, q⟩ := h
  obtain ⟨t, rfl⟩ := rx
  obtain ⟨t', rfl⟩ := ry
  exact SB.mul hm fun t' k' => ⟨.str _, H, I.kept (t' := k') fun _ _ z => z, ⟨_, rfl⟩, q⟩
def zMul : R2 := fun x y H Q => rI CMulW (fun i j => .int (i * j)) x y H Q ∨ (rMulT x y H Q ∨ rRep x y H Q)
theorem op_zMul : OpR X (binaryOp .Mult) zMul := OpR.or op_mulW (OpR.or op_mulT op_rep)
def zDiv : R2 := rI CDivW fun i j => .int (i / j)
theorem op_zDiv : OpR X (binaryOp .FloorDiv) zDiv := op_fdivW
def zMod : R2 := rI (fun _ j => 0 < j) fun i j => .int (i % j)
theorem op_zMod : OpR X (binaryOp .Mod) zMod := op_mod
def zPow : R2 := rI CPow fun i j => .int (i ^ j.toNat)
theorem op_zPow : OpR X (binaryOp .Pow) zPow := op_pow

/-! ### comparisons -/
def zEq (K : PySem.W.Frag) : R2 := fun x y H Q => rEq x y H Q ∨ rEqD K x y H Q
def zNe (K : PySem.W.Frag) : R2 := fun x y H Q => rNe x y H Q ∨ rNeD K x y H Q
theorem op_zEq (hu : X.A.units + 64 < cLine) : OpR X (compareOp .Eq) (zEq X.K) := OpR.or op_eq (op_eqD hu)
theorem op_zNe (hu : X.A.units + 64 < cLine) : OpR X (compareOp .NotEq) (zNe X.K) := OpR.or op_ne (op_neD hu)
def zLt : R2 := rI0 fun i j => .bl (decide (i < j))
def zLe : R2 := rI0 fun i j => .bl (decide (i ≤ j))
def zGt : R2 := rI0 fun i j => .bl (decide (j < i))
def zGe : R2 := rI0 fun i j => .bl (decide (j ≤ i))
theorem op_zLt : OpR X (compareOp .Lt) zLt := op_lt
theorem op_zLe : OpR X (compareOp .LtE) zLe := op_le
theorem op_zGt : OpR X (compareOp .Gt) zGt := op_gt
theorem op_zGe : OpR X (compareOp .GtE) zGe := op_ge
def rInT (neg : Bool) : R2 := fun x y H Q => ∃ i j, x = .str i ∧ y = .str j ∧ Q (.bl (if neg then !(!(Builtin.Str.occurrences j i 0 j.length 1).isEmpty) else !(Builtin.Str.occurrences j i 0 j.length 1).isEmpty)) H
theorem hu1 {a : Nat} (h : a + 64 < cLine) : a + 1 < cLine := by omega
def rInG (neg : Bool) : R2 := fun x y H Q => ∃ a o, y = .ref a ∧ DGet H a x o ∧ Q (.bl (if neg then !o.isSome else o.isSome)) H
theorem op_inG (hu : X.A.units + 1 < cLine) : OpR X (compareOp .In) (rInG false) := by
  intro pins s σ H x y v u Q I rx ry h
  obtain ⟨a, o, rfl, g, q⟩ := h
  cases ry
  exact d_in hu I g rx fun s3 I3 => ⟨.bl o.isSome, H, I3, rfl, q⟩
theorem op_ninG (hu : X.A.units + 1 < cLine) : OpR X (compareOp .NotIn) (rInG true) := by
  intro pins s σ H x y v u Q I rx ry h
  obtain ⟨a, o, rfl, g, q⟩ := h
  cases ry
  exact d_notIn hu I g rx fun s3 I3 => ⟨.bl (!o.isSome), H, I3, rfl, q⟩
def zIn (K : PySem.W.Frag) (neg : Bool) : R2 := fun x y H Q => rInT neg x y H Q ∨ (rIn K neg x y H Q ∨ rInG neg x y H Q)
theorem op_zIn (hu : X.A.units + 64 < cLine) : OpR X (compareOp .In) (zIn X.K false) := OpR.or op_in_str (OpR.or op_in_seq (op_inG (hu1 hu)))
theorem op_zNotIn (hu : X.A.units + 64 < cLine) : OpR X (compareOp .NotIn) (zIn X.K true) := OpR.or op_notIn_str (OpR.or op_notIn_seq (op_ninG (hu1 hu)))
def zIsN : R2 := fun x y H Q => y = .non ∧ Q (.bl (decide (x = .non))) H
def zNotN : R2 := fun x y H Q => y = .non ∧ Q (.bl (!decide (x = .non))) H
theorem op_zIsN : OpR X (compareOp .Is) zIsN := op_isN
theorem op_zNotN : OpR X (compareOp .IsNot) zNotN := op_notN

/-! ### subscripts, slices -/
def rIxG : R2 := fun x y H Q => ∃ a v, x = .ref a ∧ DGet H a y (some v) ∧ Q v H
theorem ix_G (hu : X.A.units + 1 < cLine) : IxR X rIxG := by
  intro value slice pins s σ H x y v u Q I rx ry h hs
  obtain ⟨a, w, rfl, g, q⟩ := h
  obtain rfl : v = Value.ref a := rx
  exact tail_any (T := "dict") (ops := [.ref a, u]) (dict_typeIs I g) PySem.F.slot_dict_getitem.lookup (d_getItem hu I g ry fun w' s3 I3 rw' => ⟨w, H, I3, rw', q⟩) hs
def zIx (K : PySem.W.Frag) : R2 := fun x y H Q => rIx K x y H Q ∨ rIxG x y H Q
theorem ix_z (hu : X.A.units + 64 < cLine) : IxR X (zIx X.K) := IxR.or ix_seq (ix_G (hu1 hu))
def zSl (K : PySem.W.Frag) : V → Option Int → Option Int → Hp → VK → Prop := fun x lo hi H Q => rSlS x lo hi H Q ∨ (rSlL K x lo hi H Q ∨ rSlA K x lo hi H Q)
theorem sl_z : SlR X (zSl X.K) := SlR.or sl_str (SlR.or sl_list sl_tupA)
/-- t[::-1], t a text -/
def zRev (K : PySem.W.Frag) : V → Hp → VK → Prop := fun x H Q => ∃ z, x = .str z ∧ z.length ≤ sizeLine ∧ Q (.str (tx z.cps.toList.reverse)) H
theorem rev_picked (n : Nat) : Builtin.Str.strSliceIndices none none (-1) n = (List.range n).reverse := by
  rw [← PySem.W.krv_range n, ← PySem.W.krv_sliceRange n]
  rfl
theorem pe_rev {e : Expr} {te : TE} {p1 p2 p3 pos : Pos} {kk : Nat} (he : PE X e te) :
    PE X (.Subscript e (.Slice none none (some (.UnaryOp .USub (.Constant (.int 1) kk p1) p2)) p3) pos) (tUn (zRev X.K) te) := by
  refine ⟨fun pins s σ H Q I h => ?_⟩
  refine Subscript_ (thn (he.run pins s σ H _ I h) fun v s1 ⟨x, H1, I1, r1, q1⟩ => ?_)
  obtain ⟨z, rfl, hz, q⟩ := q1
  obtain ⟨t, rfl⟩ := r1
  have pm : PE X (.UnaryOp .USub (.Constant (.int 1) kk p1) p2) (tUn (rU fun i => .int (-i)) (tC (.int 1))) := pe_un un_neg pe_int
  refine wpAny_Slice ?_
  rw [evalPart_none]
  refine wpAny_pure (wpAny_pure ?_)
  rw [evalPart_some]
  refine thn (pm.run pins s1 σ H1 (fun y H2 => y = .int (-1) ∧ H2 = H1) I1 ⟨1, rfl, rfl, rfl⟩) fun vu s2 ⟨y, H2, I2, ry, e1, e2⟩ => ?_
  subst e1 e2
  obtain ⟨tk, rfl⟩ := ry
  have I4 : Inv X pins σ H2 { s2 with heap := s2.heap.push { cls := .type "slice", data := .fields #[.none, .none, .int (-1) tk] } } := I2.kept (t' := s2.toks) fun b ob q => Heap.get?_push_of_some _ q
  have hsl : (s2.heap.push { cls := .type "slice", data := .fields #[.none, .none, .int (-1) tk] }).IsSlice s2.heap.objs.size none none (some (-1, tk)) := ⟨_, Heap.get?_push_size _ rfl, rfl, rfl⟩
  have hmade : sliceMade z t none none (some (-1, tk)) = Made.str (tx z.cps.toList.reverse) := by
    unfold sliceMade
    rw [if_neg (by simp)]
    have e1 : slicePicked z none none (some (-1, tk)) = (List.range z.length).reverse := rev_picked _
    rw [e1, List.filterMap_reverse]
    have e2 : (List.range z.length).filterMap (fun x => z.cps[x]?) = z.cps.toList := by
      have := PySem.W.krv_all z.cps
      exact this
    rw [e2]
    rfl
  have hlen : (tx z.cps.toList.reverse).length ≤ sizeLine := by rw [tx_length, List.length_reverse, Array.length_toList]; exact hz
  refine tail_any (T := "str") (ops := [.ref s2.heap.objs.size, .str z t]) (typeIs_str _ _ _) PySem.F.slot_str_getitem.lookup ?_ (by with_unfolding_all rfl)
  refine wpAny_getItem_str_slice (l := none) (u := none) (st := some (-1, tk)) hsl rfl ?_
  rw [hmade]
  exact ⟨hlen, .str _, H2, I4.tok _, ⟨_, rfl⟩, q⟩

/-! ### built-ins -/
def zLen (K : PySem.W.Frag) : List V → Hp → VK → Prop := fun xs H Q => (∃ x n, xs = [x] ∧ LenV K x H n ∧ Q (.int n) H) ∨ ∃ a kvs, xs = [V.ref a] ∧ H a = some (.dK kvs) ∧ Q (.int kvs.length) H
theorem call_zLen : CallR X (.builtin "len") (zLen X.K) := CallR.or call_len call_lenD
def zInt : List V → Hp → VK → Prop := fun xs H Q => (∃ i, xs = [.int i] ∧ Q (.int i) H) ∨ ∃ k, xs = [.bl k] ∧ Q (.int (if k then 1 else 0)) H
theorem call_zInt : CallR X (.type "int") zInt := call_int1
def zMin2 : List V → Hp → VK → Prop := fun xs H Q => ∃ i j, xs = [.int i, .int j] ∧ Q (.int (if j < i then j else i)) H
def zMax2 : List V → Hp → VK → Prop := fun xs H Q => ∃ i j, xs = [.int i, .int j] ∧ Q (.int (if j > i then j else i)) H
theorem call_zMin2 (hc : X.calm = true) : CallR X (.builtin "min") zMin2 := call_min2 hc
theorem call_zMax2 (hc : X.calm = true) : CallR X (.builtin "max") zMax2 := call_max2 hc
def zIsi (K : PySem.W.Frag) : List V → Hp → VK → Prop := rIsi K
theorem call_zIsi : CallR X (.builtin "isinstance") (zIsi X.K) := call_isi
end

/-! ### by data -/
section
variable {B : Bx} {i j k : Int} {a b : List Nat} {p q : Bool} {as bs : List D} {d e : D}
theorem Fw.id {G H : Hp} (s : Same G H) : Fw G H G H := Fw.refl s
theorem rv_add : RV B (zAdd B.K) (.int i) (.int j) (.int (i + j)) := fun x y G H Q s rx ry q => by
  cases rx; cases ry; exact .inl ⟨i, j, rfl, rfl, q _ G H (.refl s) (.int _)⟩
theorem rv_addT (h : a.length + b.length ≤ 16777216) : RV B (zAdd B.K) (.str (tx a)) (.str (tx b)) (.str (tx (a ++ b))) := fun x y G H Q s rx ry q => by
  cases rx; cases ry; exact .inr (.inl ⟨_, _, rfl, rfl, by rw [tx_length, tx_length]; exact line_le h, q _ G H (.refl s) (by rw [tx_append]; exact .str _)⟩)
theorem rv_addL (h : as.length + bs.length ≤ 16777216) : RV B (zAdd B.K) (.lst as) (.lst bs) (.lst (as ++ bs)) := fun x y G H Q s rx ry q => by
  cases rx with
  | lst h1 r1 =>
    cases ry with
    | lst h2 r2 =>
      refine .inr (.inr (.inl ⟨_, _, _, _, rfl, rfl, same_l s h1, same_l s h2, by rw [r1.length, r2.length]; exact line_le h, fun p hp => q _ _ _ (.new s hp) (.lst (.inl (.inl upd_same)) ?_)⟩))
      exact (r1.append r2).mono (Fw.new (o := .lst _) s hp).g
theorem rv_addU (h : as.length + bs.length ≤ 16777216) : RV B (zAdd B.K) (.tup as) (.tup bs) (.tup (as ++ bs)) := fun x y G H Q s rx ry q => by
  cases rx with
  | tup h1 r1 =>
    cases ry with
    | tup h2 r2 =>
      refine .inr (.inr (.inr ⟨_, _, _, _, rfl, rfl, same_t s h1, same_t s h2, by rw [r1.length, r2.length]; exact line_le h, fun e => ?_, fun n e => ?_, fun n m p hp => ?_⟩))
      · subst e; cases r1; exact q _ G H (.refl s) (.tup h2 r2)
      · subst e; cases r2; exact q _ G H (.refl s) (.tup h1 (by rw [List.append_nil]; exact r1))
      · exact q _ _ _ (.new s hp) (.tup (.inl (.inl upd_same)) ((r1.append r2).mono (Fw.new (o := .tup _) s hp).g))
theorem rv_sub : RV B zSub (.int i) (.int j) (.int (i - j)) := fun x y G H Q s rx ry q => by
  cases rx; cases ry; exact ⟨i, j, rfl, rfl, q _ G H (.refl s) (.int _)⟩
theorem rv_mul (h : CMulW i j) : RV B zMul (.int i) (.int j) (.int (i * j)) := fun x y G H Q s rx ry q => by
  cases rx; cases ry; exact .inl ⟨i, j, rfl, rfl, h, q _ G H (.refl s) (.int _)⟩
theorem rv_div (h : CDivW i j) : RV B zDiv (.int i) (.int j) (.int (i / j)) := fun x y G H Q s rx ry q => by
  cases rx; cases ry; exact ⟨i, j, rfl, rfl, h, q _ G H (.refl s) (.int _)⟩
theorem rv_mod (h : 0 < j) : RV B zMod (.int i) (.int j) (.int (i % j)) := fun x y G H Q s rx ry q => by
  cases rx; cases ry; exact ⟨i, j, rfl, rfl, h, q _ G H (.refl s) (.int _)⟩
theorem rv_pow (h : CPow i j) : RV B zPow (.int i) (.int j) (.int (i ^ j.toNat)) := fun x y G H Q s rx ry q => by
  cases rx; cases ry; exact ⟨i, j, rfl, rfl, h, q _ G H (.refl s) (.int _)⟩
/-- a text n times -/
def rep (n : Nat) (a : List Nat) : List Nat := (List.replicate n a).flatten
theorem rep_length (n : Nat) (a : List Nat) : (rep n a).length = n * a.length := by simp [rep]
theorem fold_rep (a : List Nat) : ∀ (n : Nat) (acc : Array Nat), (List.replicate n a.toArray).foldl (· ++ ·) acc = acc ++ (rep n a).toArray
  | 0, acc => by simp [rep]
  | n + 1, acc => by
    rw [List.replicate_succ, List.foldl_cons, fold_rep a n]
    simp [rep, List.replicate_succ]
theorem txt_mul (a : List Nat) (k : Int) : Txt.mul (tx a) k = tx (rep k.toNat a) := by
  unfold Txt.mul
  by_cases h1 : k < 1
  · rw [if_pos h1]
    have : k.toNat = 0 := by omega
    rw [this]; rfl
  · rw [if_neg h1]
    by_cases h2 : (k == 1 || (tx a).length == 0) = true
    · rw [if_pos h2]
      rw [Bool.or_eq_true] at h2
      rcases h2 with h2 | h2
      · have : k = 1 := by simpa using h2
        subst this
        simp [rep, tx]
      · rw [tx_length] at h2
        have : a = [] := by simpa using h2
        subst this
        congr 1
        simp [rep, tx]
    · rw [if_neg h2]
      show (⟨_⟩ : Str) = ⟨_⟩
      congr 1
      have := fold_rep a k.toNat #[]
      simpa [tx] using this
theorem rv_mulT (h1 : -(2 ^ 62) < k) (h2 : k < 2 ^ 62) (h : a.length * k.toNat ≤ 16777216) : RV B zMul (.str (tx a)) (.int k) (.str (tx (rep k.toNat a))) := fun x y G H Q s rx ry q => by
  cases rx; cases ry
  refine .inr (.inl ⟨_, k, rfl, rfl, ⟨?_, fun h3 h4 => ?_, fun h3 h4 => ?_⟩, ?_⟩)
  · have e1 : ¬ k < -(2 ^ 63 : Int) := by omega
    have e2 : ¬ k ≥ (2 ^ 63 : Int) := by omega
    rw [decide_eq_false e1, decide_eq_false e2]; rfl
  · rw [tx_length]
    intro h5
    have h6 : (a.length : Int) * k ≤ 16777216 := by
      have : ((a.length * k.toNat : Nat) : Int) ≤ 16777216 := Int.ofNat_le.mpr h
      have e : (k.toNat : Int) = k := Int.toNat_of_nonneg (by omega)
      rw [Int.natCast_mul, e] at this
      exact this
    have h7 : (2 ^ 63 - 1) / k * k ≤ 2 ^ 63 - 1 := Int.ediv_mul_le _ (by omega)
    have h8 : 0 < k := by omega
    have h9 : ((2 ^ 63 - 1) / k + 1) * k > 2 ^ 63 - 1 := by
      have := Int.lt_ediv_add_one_mul_self (2 ^ 63 - 1) h8
      exact this
    have h10 : ((2 ^ 63 - 1) / k + 1) * k ≤ (a.length : Int) * k := Int.mul_le_mul_of_nonneg_right (by omega) (by omega)
    omega
  · rw [tx_length]
    unfold Builtin.Str.tooLong
    rw [sizeLine_eq]
    simp
    exact h
  · rw [txt_mul]; exact q _ G H (.refl s) (.str _)

theorem rv_lt : RV B zLt (.int i) (.int j) (.bl (decide (i < j))) := fun x y G H Q s rx ry q => by
  cases rx; cases ry; exact ⟨i, j, rfl, rfl, q _ G H (.refl s) (.bl _)⟩
theorem rv_le : RV B zLe (.int i) (.int j) (.bl (decide (i ≤ j))) := fun x y G H Q s rx ry q => by
  cases rx; cases ry; exact ⟨i, j, rfl, rfl, q _ G H (.refl s) (.bl _)⟩
theorem rv_gt : RV B zGt (.int i) (.int j) (.bl (decide (j < i))) := fun x y G H Q s rx ry q => by
  cases rx; cases ry; exact ⟨i, j, rfl, rfl, q _ G H (.refl s) (.bl _)⟩
theorem rv_ge : RV B zGe (.int i) (.int j) (.bl (decide (j ≤ i))) := fun x y G H Q s rx ry q => by
  cases rx; cases ry; exact ⟨i, j, rfl, rfl, q _ G H (.refl s) (.bl _)⟩

/-! equality -/
mutual
def D.py : D → Option PyData
  | .non => some .none
  | .bl b => some (.bool b)
  | .int i => some (.int i)
  | .str x => some (.str x)
  | .lst l => (pyAll l).map .list
  | .tup l => (pyAll l).map .tuple
  | _ => none
def pyAll : List D → Option (List PyData)
  | [] => some []
  | d :: r => (D.py d).bind fun p => (pyAll r).map fun q => p :: q
end
mutual
theorem Rp.dp {K : PySem.W.Frag} {G H : Hp} (s : Same G H) : ∀ {v : V} {d : D} {p : PyData}, Rp K G v d → d.py = some p → Dp K H v p
  | _, _, _, .non, e => by cases e; exact .non
  | _, _, _, .bl b, e => by cases e; exact .bl b
  | _, _, _, .int b, e => by cases e; exact .int b
  | _, _, _, .str b, e => by cases e; exact .str b
  | _, _, _, .ty b, e => by cases e
  | _, _, _, .ref b, e => by cases e
  | _, _, _, .obj _ _, e => by cases e
  | _, _, _, .xc _ _, e => by cases e
  | _, _, _, .dk _ _, e => by cases e
  | _, _, _, .lst (ds := ds) h r, e => by
    have e' : (pyAll ds).map PyData.list = some _ := e
    cases q : pyAll ds with
    | none => rw [q] at e'; cases e'
    | some ps => rw [q] at e'; cases e'; exact .lst (same_l s h) (Rps.dp s r q)
  | _, _, _, .tup (ds := ds) h r, e => by
    have e' : (pyAll ds).map PyData.tuple = some _ := e
    cases q : pyAll ds with
    | none => rw [q] at e'; cases e'
    | some ps => rw [q] at e'; cases e'; exact .tup (same_t s h) (Rps.dp s r q)
theorem Rps.dp {K : PySem.W.Frag} {G H : Hp} (s : Same G H) : ∀ {v : List V} {d : List D} {p : List PyData}, Rps K G v d → pyAll d = some p → DpAll K H v p
  | _, _, _, .nil, e => by cases e; exact .nil
  | _, _, _, .cons (d := d) (ds := ds) h r, e => by
    have e' : (D.py d).bind (fun p => (pyAll ds).map fun q => p :: q) = some _ := e
    cases q : D.py d with
    | none => rw [q] at e'; cases e'
    | some x =>
      rw [q] at e'
      cases q2 : pyAll ds with
      | none => rw [q2] at e'; cases e'
      | some y =>
        rw [q2] at e'
        cases e'
        exact .cons (Rp.dp s h q) (Rps.dp s r q2)
end
theorem rv_eqD {u v : PyData} (h1 : d.py = some u) (h2 : e.py = some v) (s1 : SeqAt.shaped u = true) (s2 : SeqAt.shaped v = true) : RV B (zEq B.K) d e (.bl (PyData.eqv u v)) := fun x y G H Q s rx ry q =>
  .inr ⟨u, v, rx.dp s h1, ry.dp s h2, s1, s2, q _ G H (.refl s) (.bl _)⟩
theorem rv_neD {u v : PyData} (h1 : d.py = some u) (h2 : e.py = some v) (s1 : SeqAt.shaped u = true) (s2 : SeqAt.shaped v = true) : RV B (zNe B.K) d e (.bl (!PyData.eqv u v)) := fun x y G H Q s rx ry q =>
  .inr ⟨u, v, rx.dp s h1, ry.dp s h2, s1, s2, q _ G H (.refl s) (.bl _)⟩
theorem rv_eqI : RV B (zEq B.K) (.int i) (.int j) (.bl (decide (i = j))) := fun x y G H Q s rx ry q => by
  cases rx; cases ry
  refine .inl ⟨rfl, ?_⟩
  have e : decide (V.int i = V.int j) = decide (i = j) := by rw [dec_int, Bool.beq_eq_decide_eq]
  rw [e]; exact q _ G H (.refl s) (.bl _)
theorem rv_neI : RV B (zNe B.K) (.int i) (.int j) (.bl (!decide (i = j))) := fun x y G H Q s rx ry q => by
  cases rx; cases ry
  refine .inl ⟨rfl, ?_⟩
  have e : decide (V.int i = V.int j) = decide (i = j) := by rw [dec_int, Bool.beq_eq_decide_eq]
  rw [e]; exact q _ G H (.refl s) (.bl _)
theorem dec_tx (a b : List Nat) : decide (V.str (tx a) = V.str (tx b)) = decide (a = b) := by
  rw [Bool.eq_iff_iff]; simp [tx_inj]
theorem rv_eqT : RV B (zEq B.K) (.str (tx a)) (.str (tx b)) (.bl (decide (a = b))) := fun x y G H Q s rx ry q => by
  cases rx; cases ry
  refine .inl ⟨rfl, ?_⟩
  rw [dec_tx]; exact q _ G H (.refl s) (.bl _)
theorem rv_neT : RV B (zNe B.K) (.str (tx a)) (.str (tx b)) (.bl (!decide (a = b))) := fun x y G H Q s rx ry q => by
  cases rx; cases ry
  refine .inl ⟨rfl, ?_⟩
  rw [dec_tx]; exact q _ G H (.refl s) (.bl _)
theorem rv_eqB : RV B (zEq B.K) (.bl p) (.bl q) (.bl (p == q)) := fun x y G H Q s rx ry k => by
  cases rx; cases ry
  refine .inl ⟨rfl, ?_⟩
  rw [dec_bl]; exact k _ G H (.refl s) (.bl _)
theorem rv_neB : RV B (zNe B.K) (.bl p) (.bl q) (.bl (!(p == q))) := fun x y G H Q s rx ry k => by
  cases rx; cases ry
  refine .inl ⟨rfl, ?_⟩
  rw [dec_bl]; exact k _ G H (.refl s) (.bl _)

/-! in -/
theorem rv_inT {c : Nat} : RV B (zIn B.K false) (.str (tx [c])) (.str (tx a)) (.bl (decide (c ∈ a))) := fun x y G H Q s rx ry q => by
  cases rx; cases ry
  refine .inl ⟨_, _, rfl, rfl, ?_⟩
  have e : (!(Builtin.Str.occurrences (tx a) (tx [c]) 0 (tx a).length 1).isEmpty) = decide (c ∈ a) := by
    have := StrLaws.found_one (tx a) c
    rw [tx_cps] at this
    exact this
  show Q (.bl (!(Builtin.Str.occurrences (tx a) (tx [c]) 0 (tx a).length 1).isEmpty)) H
  rw [e]; exact q _ G H (.refl s) (.bl _)
theorem rv_ninT {c : Nat} : RV B (zIn B.K true) (.str (tx [c])) (.str (tx a)) (.bl (!decide (c ∈ a))) := fun x y G H Q s rx ry q => by
  cases rx; cases ry
  refine .inl ⟨_, _, rfl, rfl, ?_⟩
  have e : (!(Builtin.Str.occurrences (tx a) (tx [c]) 0 (tx a).length 1).isEmpty) = decide (c ∈ a) := by
    have := StrLaws.found_one (tx a) c
    rw [tx_cps] at this
    exact this
  show Q (.bl (!(!(Builtin.Str.occurrences (tx a) (tx [c]) 0 (tx a).length 1).isEmpty))) H
  rw [e]; exact q _ G H (.refl s) (.bl _)
theorem inV_txs (x : List Nat) : ∀ xs : List (List Nat), inV (.str (tx x)) (xs.map fun a => V.str (tx a)) = decide (x ∈ xs)
  | [] => by simp [inV]
  | y :: r => by
    have ih := inV_txs x r
    unfold inV at ih ⊢
    rw [List.map_cons, List.any_cons, ih]
    show ((tx y) == (tx x) || decide (x ∈ r)) = decide (x ∈ y :: r)
    rw [Bool.eq_iff_iff]
    simp [tx_inj]
    constructor <;> rintro (h | h) <;> first | exact .inl h.symm | exact .inr h
theorem flat_txs : ∀ xs : List (List Nat), (xs.map fun a => V.str (tx a)).all flatV = true
  | [] => rfl
  | _ :: r => by rw [List.map_cons, List.all_cons, flat_txs r]; rfl
theorem rps_txs_inv {K : PySem.W.Frag} {G : Hp} : ∀ {vs : List V} {xs : List (List Nat)}, Rps K G vs (xs.map fun a => D.str (tx a)) → vs = xs.map fun a => V.str (tx a)
  | _, [], h => by cases h; rfl
  | _, n :: r, h => by
    cases h with
    | cons h q =>
      cases h
      rw [rps_txs_inv q] <;> rfl
theorem rps_txs {K : PySem.W.Frag} {G : Hp} : ∀ xs : List (List Nat), Rps K G (xs.map fun a => V.str (tx a)) (xs.map fun a => D.str (tx a))
  | [] => .nil
  | n :: r => .cons (.str _) (rps_txs r)
theorem rv_inTs {xs : List (List Nat)} : RV B (zIn B.K false) (.str (tx a)) (.tup (xs.map fun a => .str (tx a))) (.bl (decide (a ∈ xs))) := fun x y G H Q s rx ry q => by
  cases rx
  cases ry with
  | tup h r =>
    have e := rps_txs_inv r
    subst e
    refine .inr (.inl ⟨_, _, rfl, .inr (same_t s h), rfl, flat_txs xs, ?_⟩)
    show Q (.bl (inV (.str (tx a)) (xs.map fun a => V.str (tx a)))) H
    rw [inV_txs]; exact q _ G H (.refl s) (.bl _)
theorem rv_ninTs {xs : List (List Nat)} : RV B (zIn B.K true) (.str (tx a)) (.tup (xs.map fun a => .str (tx a))) (.bl (!decide (a ∈ xs))) := fun x y G H Q s rx ry q => by
  cases rx
  cases ry with
  | tup h r =>
    have e := rps_txs_inv r
    subst e
    refine .inr (.inl ⟨_, _, rfl, .inr (same_t s h), rfl, flat_txs xs, ?_⟩)
    show Q (.bl (!inV (.str (tx a)) (xs.map fun a => V.str (tx a)))) H
    rw [inV_txs]; exact q _ G H (.refl s) (.bl _)
theorem rv_isN : RV B zIsN .non .non (.bl true) := fun x y G H Q s rx ry q => by
  cases rx; cases ry; exact ⟨rfl, q _ G H (.refl s) (.bl _)⟩
def D.isNon : D → Bool
  | .non => true
  | _ => false
theorem rp_non {K : PySem.W.Frag} {G : Hp} {v : V} {d : D} (r : Rp K G v d) : decide (v = .non) = d.isNon := by
  cases r <;> rfl
theorem rv_isN' : RV B zIsN d .non (.bl d.isNon) := fun x y G H Q s rx ry q => by
  cases ry; refine ⟨rfl, ?_⟩; rw [rp_non rx]; exact q _ G H (.refl s) (.bl _)
theorem rv_notN' : RV B zNotN d .non (.bl (!d.isNon)) := fun x y G H Q s rx ry q => by
  cases ry; refine ⟨rfl, ?_⟩; rw [rp_non rx]; exact q _ G H (.refl s) (.bl _)

/-! items -/
theorem atI_rps {K : PySem.W.Frag} {G : Hp} {vs : List V} {ds : List D} (r : Rps K G vs ds) (h : atI ds i = some d) : ∃ v, atI vs i = some v ∧ Rp K G v d := by
  unfold atI at h ⊢
  rw [r.length]
  cases e : ixN ds.length i with
  | none => rw [e] at h; cases h
  | some n =>
    rw [e] at h
    exact r.get h
theorem rv_ixL (h : atI as i = some d) : RV B (zIx B.K) (.lst as) (.int i) d := fun x y G H Q s rx ry q => by
  cases ry
  cases rx with
  | lst h1 r1 =>
    obtain ⟨v, e, r⟩ := atI_rps r1 h
    exact .inl (.inl ⟨_, _, i, v, rfl, rfl, same_l s h1, e, q v G H (.refl s) r⟩)
theorem rv_ixU (h : atI as i = some d) : RV B (zIx B.K) (.tup as) (.int i) d := fun x y G H Q s rx ry q => by
  cases ry
  cases rx with
  | tup h1 r1 =>
    obtain ⟨v, e, r⟩ := atI_rps r1 h
    exact .inl (.inr (.inl ⟨_, _, i, v, rfl, rfl, same_t s h1, e, q v G H (.refl s) r⟩))
theorem rv_ixT {c : Nat} (h : atI a i = some c) (hl : a.length ≤ 16777216) : RV B (zIx B.K) (.str (tx a)) (.int i) (.str (tx [c])) := fun x y G H Q s rx ry q => by
  cases ry; cases rx
  exact .inl (.inr (.inr ⟨_, i, c, rfl, rfl, by rw [tx_length]; exact line_le hl, by rw [tx_cps]; exact h, q _ G H (.refl s) (.str (tx [c]))⟩))
theorem atI_ofNat {α : Type} {xs : List α} {n : Nat} {x : α} (h : xs[n]? = some x) : atI xs (n : Int) = some x := atI_nat h

/-! slices -/
def cut {α : Type} (xs : List α) (lo hi : Option Int) : List α := (xs.drop (HT.sIx xs.length 0 lo)).take (HT.sIx xs.length xs.length hi - HT.sIx xs.length 0 lo)
theorem cut_len {α : Type} (xs : List α) (lo hi : Option Int) : (cut xs lo hi).length ≤ xs.length := by
  unfold cut
  rw [List.length_take, List.length_drop]
  omega
theorem rps_cut {K : PySem.W.Frag} {G : Hp} {vs : List V} {ds : List D} (r : Rps K G vs ds) (lo hi : Option Int) : Rps K G (cutV vs lo hi) (cut ds lo hi) := by
  unfold cutV cut
  rw [r.length]
  exact (r.drop _).take _
theorem rs_slT {lo hi : Option Int} (hl : a.length ≤ 16777216) : RS B (zSl B.K) (.str (tx a)) lo hi (.str (tx (cut a lo hi))) := fun x G H Q s rx q => by
  cases rx
  refine .inl ⟨_, rfl, by rw [tx_length]; exact line_le hl, ?_⟩
  have e : cutS (tx a) lo hi = tx (cut a lo hi) := by
    unfold cutS cut
    rw [tx_length, tx_cps]
    rfl
  rw [e]; exact q _ G H (.refl s) (.str _)
theorem rs_slL {lo hi : Option Int} : RS B (zSl B.K) (.lst as) lo hi (.lst (cut as lo hi)) := fun x G H Q s rx q => by
  cases rx with
  | lst h1 r1 =>
    refine .inr (.inl ⟨_, _, rfl, same_l s h1, fun p hp => q _ _ _ (.new s hp) (.lst (.inl (.inl upd_same)) ?_)⟩)
    exact (rps_cut r1 lo hi).mono (Fw.new (o := .lst _) s hp).g
theorem rs_slU {lo hi : Option Int} : RS B (zSl B.K) (.tup as) lo hi (.tup (cut as lo hi)) := fun x G H Q s rx q => by
  cases rx with
  | tup h1 r1 =>
    refine .inr (.inr ⟨_, _, rfl, same_t s h1, fun e => ?_, fun e p hp => q _ _ _ (.new s hp) (.tup (.inl (.inl upd_same)) ?_)⟩)
    · refine q _ G H (.refl s) (.tup h1 ?_)
      have e2 : cut as lo hi = as := by
        unfold cut
        rw [r1.length] at e
        rw [e.1, e.2]
        simp
      rw [e2]; exact r1
    · exact (rps_cut r1 lo hi).mono (Fw.new (o := .tup _) s hp).g
theorem ru_rev (hl : a.length ≤ 16777216) : RU B (zRev B.K) (.str (tx a)) (.str (tx a.reverse)) := fun x G H Q s rx q => by
  cases rx
  refine ⟨_, rfl, by rw [tx_length]; exact line_le hl, ?_⟩
  rw [tx_cps]; exact q _ G H (.refl s) (.str _)

/-! built-ins -/
theorem rc_lenT (hl : a.length ≤ 16777216) : RC B (zLen B.K) [.str (tx a)] (.int a.length) := fun xs G H Q s r q => by
  cases r with
  | cons r1 r2 =>
    cases r1; cases r2
    exact .inl ⟨_, _, rfl, ⟨by rw [tx_length]; exact line_le hl, rfl⟩, by rw [tx_length]; exact q _ G H (.refl s) (.int _)⟩
theorem rc_lenL : RC B (zLen B.K) [.lst as] (.int as.length) := fun xs G H Q s r q => by
  cases r with
  | cons r1 r2 =>
    cases r2
    cases r1 with
    | lst h1 r1 => exact .inl ⟨_, _, rfl, .inl ⟨_, same_l s h1, rfl⟩, by rw [r1.length]; exact q _ G H (.refl s) (.int _)⟩
theorem rc_lenU : RC B (zLen B.K) [.tup as] (.int as.length) := fun xs G H Q s r q => by
  cases r with
  | cons r1 r2 =>
    cases r2
    cases r1 with
    | tup h1 r1 => exact .inl ⟨_, _, rfl, .inr ⟨_, same_t s h1, rfl⟩, by rw [r1.length]; exact q _ G H (.refl s) (.int _)⟩
theorem rc_int : RC B zInt [.int i] (.int i) := fun xs G H Q s r q => by
  cases r with
  | cons r1 r2 => cases r1; cases r2; exact .inl ⟨i, rfl, q _ G H (.refl s) (.int _)⟩
theorem rc_intB : RC B zInt [.bl p] (.int (if p then 1 else 0)) := fun xs G H Q s r q => by
  cases r with
  | cons r1 r2 => cases r1; cases r2; exact .inr ⟨p, rfl, q _ G H (.refl s) (.int _)⟩
theorem rc_min : RC B zMin2 [.int i, .int j] (.int (if j < i then j else i)) := fun xs G H Q s r q => by
  cases r with
  | cons r1 r2 => cases r1; cases r2 with | cons r3 r4 => cases r3; cases r4; exact ⟨i, j, rfl, q _ G H (.refl s) (.int _)⟩
theorem rc_max : RC B zMax2 [.int i, .int j] (.int (if j > i then j else i)) := fun xs G H Q s r q => by
  cases r with
  | cons r1 r2 => cases r1; cases r2 with | cons r3 r4 => cases r3; cases r4; exact ⟨i, j, rfl, q _ G H (.refl s) (.int _)⟩
end
end Z

/-! Z5: statements, loops, comprehensions. -/
namespace Z
open PySem PySem.Spec PyProof.Rows L2

structure Po where
  nx : List Sl → Prop
  rt : Sl → Prop
  bk : List Sl → Prop := fun _ => False
  ct : List Sl → Prop := fun _ => False
  xc : Xc → List Sl → Prop := fun _ _ => False
  rm : D → Mem → Prop := fun _ _ => False
structure EndsOk (B : Bx) (W : WX) (P : Po) (G : Hp) (D : Ends) : Prop where
  nx : ∀ Γ σ G' H', P.nx Γ → Same G G' → Stt B Γ σ G' H' → D.nx σ H'
  bk : ∀ Γ σ G' H', P.bk Γ → Same G G' → Stt B Γ σ G' H' → D.bk σ H'
  ct : ∀ Γ σ G' H', P.ct Γ → Same G G' → Stt B Γ σ G' H' → D.ct σ H'
  rt : ∀ s v G' H', P.rt s → FwF B.F0 B.G0 B.H0 G' H' → RsOk B.K B.H0 G' H' s v → D.rt v H'
  xc : ∀ x Γ cls dd σ G' H', P.xc x Γ → Same G G' → Stt B Γ σ G' H' → XOk B.K G' x cls dd → W cls dd σ H'
  rm : ∀ d M v (i : Nat) (Γ : List Sl) σ G' H', P.rm d M → Γ[i]? = some (.mem M) → Stt B Γ σ G' H' → Rp B.K G' v d → D.rt v H'
def Sv (B : Bx) (W : WX) (ts : TS) (Γ : List Sl) (P : Po) : Prop := ∀ D σ G H, EndsOk B W P G D → Stt B Γ σ G H → ts D σ H

inductive SetAt : List Sl → Nat → Sl → List Sl → Prop
  | zero {x : Sl} {l : List Sl} {s : Sl} : SetAt (x :: l) 0 s (s :: l)
  | succ {x : Sl} {l l' : List Sl} {i : Nat} {s : Sl} : SetAt l i s l' → SetAt (x :: l) (i + 1) s (x :: l')
theorem SetAt.eq : ∀ {l l' : List Sl} {i : Nat} {s : Sl}, SetAt l i s l' → i < l.length ∧ l' = l.set i s
  | _, _, _, _, .zero => ⟨by simp, rfl⟩
  | _, _, _, _, .succ h => ⟨by have := h.eq.1; simp; omega, by rw [h.eq.2]; rfl⟩
theorem SetAt.of {l : List Sl} {i : Nat} {s : Sl} (h : i < l.length) : SetAt l i s (l.set i s) := by
  induction l generalizing i with
  | nil => simp at h
  | cons x l ih =>
    cases i with
    | zero => exact .zero
    | succ i => exact .succ (ih (by simpa using h))

section
variable {B : Bx} {W : WX} {Γ Γ' Γ1 Γ2 : List Sl} {P : Po} {t u : TS} {te ta : TE} {tt : TT} {aa : TA} {d e : D} {as ds : List D} {i j : Nat}

theorem EndsOk.mono {G G' : Hp} {D : Ends} (E : EndsOk B W P G D) (s : Same G G') : EndsOk B W P G' D :=
  ⟨fun Γ σ G1 H1 h s1 => E.nx Γ σ G1 H1 h (s.trans s1), fun Γ σ G1 H1 h s1 => E.bk Γ σ G1 H1 h (s.trans s1), fun Γ σ G1 H1 h s1 => E.ct Γ σ G1 H1 h (s.trans s1), E.rt,
    fun x Γ c d σ G1 H1 h s1 => E.xc x Γ c d σ G1 H1 h (s.trans s1), E.rm⟩
theorem Stt.rs {σ : L2.St} {G H G' H' : Hp} {s : Sl} {v : V} (S : Stt B Γ σ G H) (f : Fw G H G' H') (r : RsOk B.K H G' H' s v) : RsOk B.K B.H0 G' H' s v := by
  cases s with
  | un => trivial
  | dat d => exact r
  | own w =>
    obtain ⟨a, u, e, g, n, h, o⟩ := r
    exact ⟨a, u, e, g, S.fr n, h, o⟩
  | mem M => trivial
theorem sv_post {P' : Po} (h : Sv B W t Γ P) (h1 : ∀ Γ, P.nx Γ → P'.nx Γ) (h2 : ∀ s, P.rt s → P'.rt s) (h3 : ∀ Γ, P.bk Γ → P'.bk Γ) (h4 : ∀ Γ, P.ct Γ → P'.ct Γ) (h5 : ∀ x Γ, P.xc x Γ → P'.xc x Γ) (h6 : ∀ d M, P.rm d M → P'.rm d M := by exact fun _ _ q => q) : Sv B W t Γ P' := fun D σ G H E S =>
  h D σ G H ⟨fun Γ σ G' H' q => E.nx Γ σ G' H' (h1 Γ q), fun Γ σ G' H' q => E.bk Γ σ G' H' (h3 Γ q), fun Γ σ G' H' q => E.ct Γ σ G' H' (h4 Γ q), fun s v G' H' q => E.rt s v G' H' (h2 s q), fun x Γ c dd σ G' H' q => E.xc x Γ c dd σ G' H' (h5 x Γ q), fun d M v i Γ σ G' H' q => E.rm d M v i Γ σ G' H' (h6 d M q)⟩ S
theorem sv_seq (h : Sv B W t Γ { P with nx := fun Γ' => Sv B W u Γ' P }) : Sv B W (tSeq t u) Γ P := fun D σ G H E S =>
  h { D with nx := u D } σ G H ⟨fun Γ1 σ1 G1 H1 q s S1 => q D σ1 G1 H1 (E.mono s) S1, E.bk, E.ct, E.rt, E.xc, E.rm⟩ S
theorem sv_next (h : P.nx Γ) : Sv B W tNext Γ P := fun D σ G H E S => E.nx Γ σ G H h (Same.refl _) S
theorem sv_brk (h : P.bk Γ) : Sv B W tBreak Γ P := fun D σ G H E S => E.bk Γ σ G H h (Same.refl _) S
theorem sv_cont (h : P.ct Γ) : Sv B W tCont Γ P := fun D σ G H E S => E.ct Γ σ G H h (Same.refl _) S
theorem sv_set (h : Ev B te Γ d) (hs : SetAt Γ i (.dat d) Γ') (k : P.nx Γ') : Sv B W (tAsg te (gName i)) Γ P := fun D σ G H E S =>
  h σ G H _ S fun v G1 H1 f r => by
    obtain ⟨hi, rfl⟩ := hs.eq
    exact E.nx _ _ G1 H1 k f.g ((S.step f).set hi r)
theorem sv_setO {w : Ow} (h : EvO B te Γ w) (hs : SetAt Γ i (.own w) Γ') (k : P.nx Γ') : Sv B W (tAsg te (gName i)) Γ P := fun D σ G H E S =>
  h σ G H _ S fun a u G1 H1 f g n e o => by
    obtain ⟨hi, rfl⟩ := hs.eq
    exact E.nx _ _ G1 H1 k f.g ((S.step f).setO hi g e o (S.fr n) fun j _ => S.apart n j)
theorem sv_drop (h : Ev B te Γ d) (k : P.nx Γ) : Sv B W (tDrop te) Γ P := fun D σ G H E S => h σ G H _ S fun v G1 H1 f r => E.nx _ _ G1 H1 k f.g (S.step f)
theorem sv_ret (h : Ev B te Γ d) (k : P.rt (.dat d)) : Sv B W (tRet te) Γ P := fun D σ G H E S => h σ G H _ S fun v G1 H1 f r => E.rt (.dat d) v G1 H1 k (S.fw.trans f) r
theorem sv_retO {w : Ow} (h : EvO B te Γ w) (k : P.rt (.own w)) : Sv B W (tRet te) Γ P := fun D σ G H E S => h σ G H _ S fun a u G1 H1 f g n e o => E.rt (.own w) _ G1 H1 k (S.fw.trans f) ⟨a, u, rfl, g, S.fr n, e, o⟩
/-- a name of one's own object is handed back -/
theorem sv_retOv {w : Ow} (hi : Γ[i]? = some (.own w)) (k : P.rt (.own w)) : Sv B W (tRet (tVar i)) Γ P := fun D σ G H E S => by
  obtain ⟨a, u, e, g, h, o, h0⟩ := S.own hi
  exact ⟨.ref a, e, E.rt (.own w) _ G H k S.fw ⟨a, u, rfl, g, h0, h, o⟩⟩
theorem sv_retN (k : P.rt (.dat .non)) : Sv B W tRetN Γ P := fun D σ G H E S => E.rt (.dat .non) _ G H k S.fw .non
theorem sv_if {p : Bool} (h : EvT B tt Γ p) (h1 : p = true → Sv B W t Γ P) (h2 : p = false → Sv B W u Γ P) : Sv B W (tIfS tt t u) Γ P := fun D σ G H E S =>
  h σ G H _ S fun G1 H1 f => by
    cases p with
    | true => exact h1 rfl D σ G1 H1 (E.mono f.g) (S.step f)
    | false => exact h2 rfl D σ G1 H1 (E.mono f.g) (S.step f)
/-- one's own list is given up -/
theorem sv_freezeW (i : Nat) {w : Ow} (hi : Γ[i]? = some (.own w)) (hs : SetAt Γ i (.dat w.toD) Γ') (h : Sv B W t Γ' P) : Sv B W t Γ P := fun D σ G H E S => by
  obtain ⟨G1, s1, S1⟩ := S.freeze hi
  obtain ⟨_, rfl⟩ := hs.eq
  exact h D σ G1 H (E.mono s1) S1
theorem sv_freeze (i : Nat) {ds : List D} (hi : Γ[i]? = some (.own (.lst ds))) (hs : SetAt Γ i (.dat (.lst ds)) Γ') (h : Sv B W t Γ' P) : Sv B W t Γ P := sv_freezeW i hi hs h
theorem sv_freezeD (i : Nat) {ks : List (Key × D)} (hi : Γ[i]? = some (.own (.dk ks))) (hs : SetAt Γ i (.dat (.dk ks)) Γ') (h : Sv B W t Γ' P) : Sv B W t Γ P := sv_freezeW i hi hs h
theorem sv_freezeI (i : Nat) {C : Addr} {oa : Option Addr} {fs : List (Str × D)} (hi : Γ[i]? = some (.own (.ins C fs oa))) (hs : SetAt Γ i (.dat (.obj C fs)) Γ') (h : Sv B W t Γ' P) : Sv B W t Γ P := sv_freezeW i hi hs h
/-- row.append(e) -/
theorem sv_app (hi : Γ[i]? = some (.own (.lst ds))) (h : Ev B te Γ d) (hl : ds.length < 16777216) (hs : SetAt Γ i (.own (.lst (ds ++ [d]))) Γ') (k : P.nx Γ') : Sv B W (tDrop (tBM B.K "list" rAppend (tVar i) (tCons te tNil))) Γ P := fun D σ G H E S => by
  obtain ⟨a, u, e, g, hh, ⟨xs, hu, r⟩, h0⟩ := S.own hi
  subst hu
  refine ⟨.ref a, e, .inl ⟨rfl, xs, .inl (.inl hh)⟩, ?_⟩
  refine h σ G H _ S fun v G1 H1 f rv => ?_
  refine ⟨a, xs, v, rfl, rfl, f.h _ _ hh, by rw [r.length]; exact line_lt hl, ?_⟩
  obtain ⟨_, rfl⟩ := hs.eq
  exact E.nx _ _ G1 _ k f.g ((S.step f).mut hi e ⟨_, rfl, (r.mono f.g).append (.cons rv .nil)⟩)
/-- a test or value that raises -/
def EvX (B : Bx) (W : WX) (te : TE) (Γ : List Sl) (x : Xc) : Prop := ∀ σ G H Q, Stt B Γ σ G H → (∀ cls dd G' H', Fw G H G' H' → XOk B.K G' x cls dd → W cls dd σ H') → te σ H Q
theorem evx_call {F : Fn} {x : Xc} (ha : EvA B aa Γ as) (hF : F as (fun _ => False) (fun y => y = x)) : EvX B W (tCallS (spz B.K F) (WE W) aa) Γ x := fun σ G H Q S q =>
  ha σ G H _ S fun vs G1 H1 f1 r1 => ⟨G1, as, _, _, f1.e, r1, hF, fun _ _ _ _ z => z.elim, fun y cls dd G' H' hy f' xo => by
    subst hy; exact q cls dd G' H' (f1.trans f') xo⟩
theorem svx_drop {x : Xc} (h : EvX B W te Γ x) (k : P.xc x Γ) : Sv B W (tDrop te) Γ P := fun D σ G H E S => h σ G H _ S fun cls dd G1 H1 f o => E.xc x Γ cls dd σ G1 H1 k f.g (S.step f) o
theorem svx_ret {x : Xc} (h : EvX B W te Γ x) (k : P.xc x Γ) : Sv B W (tRet te) Γ P := fun D σ G H E S => h σ G H _ S fun cls dd G1 H1 f o => E.xc x Γ cls dd σ G1 H1 k f.g (S.step f) o
theorem svx_set {x : Xc} {g : TG} (h : EvX B W te Γ x) (k : P.xc x Γ) : Sv B W (tAsg te g) Γ P := fun D σ G H E S => h σ G H _ S fun cls dd G1 H1 f o => E.xc x Γ cls dd σ G1 H1 k f.g (S.step f) o

/-! ### targets -/
def EvG (B : Bx) (g : TG) (Γ : List Sl) (d : D) (Γ' : List Sl) : Prop := ∀ σ G H v Q, Stt B Γ σ G H → Rp B.K G v d → (∀ σ', Stt B Γ' σ' G H → Q σ' H) → g v σ H Q
def EvGs (B : Bx) (g : TGs) (Γ : List Sl) (ds : List D) (Γ' : List Sl) : Prop := ∀ σ G H vs Q, Stt B Γ σ G H → Rps B.K G vs ds → (∀ σ', Stt B Γ' σ' G H → Q σ' H) → g vs σ H Q
theorem evg_name (hs : SetAt Γ i (.dat d) Γ') : EvG B (gName i) Γ d Γ' := fun σ G H v Q S r q => by
  obtain ⟨hi, rfl⟩ := hs.eq
  exact q _ (S.set hi r)
theorem evgs_nil : EvGs B gNil Γ [] Γ := fun σ G H v Q S r q => by
  cases r
  exact ⟨rfl, q σ S⟩
theorem evgs_cons {g : TG} {gs : TGs} (h : EvG B g Γ d Γ1) (hr : EvGs B gs Γ1 ds Γ2) : EvGs B (gCons g gs) Γ (d :: ds) Γ2 := fun σ G H vs Q S r q => by
  cases r with
  | cons r1 r2 => exact ⟨_, _, rfl, h σ G H _ _ S r1 fun σ1 S1 => hr σ1 G H _ _ S1 r2 q⟩
theorem evg_tup {gs : TGs} {n : Nat} (h : EvGs B gs Γ ds Γ') (hn : ds.length = n) : EvG B (gTup B.K n gs) Γ (.tup ds) Γ' := fun σ G H v Q S r q => by
  cases r with
  | tup h1 r1 => exact ⟨_, _, rfl, same_t S.same h1, by rw [r1.length, hn], h σ G H _ _ S r1 q⟩
theorem sv_asg {g : TG} (h : Ev B te Γ d) (hg : EvG B g Γ d Γ') (k : P.nx Γ') : Sv B W (tAsg te g) Γ P := fun D σ G H E S =>
  h σ G H _ S fun v G1 H1 f r => hg σ G1 H1 v _ (S.step f) r fun σ' S' => E.nx _ _ G1 H1 k f.g S'

/-! ### walks -/
def Wk (K : PySem.W.Frag) (G1 : Hp) (J : It) (es : List D) : Prop := ∃ (Gd : Hp → Prop) (Y : Nat → Hp → V → Hp → Prop), Walk J es.length Gd Y ∧ (∀ G H, Same G1 G → Same G H → Gd H) ∧
  (∀ i H x H' G, i < es.length → Same G1 G → Same G H → Y i H x H' → ∃ d G', es[i]? = some d ∧ Fw G H G' H' ∧ Rp K G' x d)
def EvI (B : Bx) (wi : TI) (Γ : List Sl) (es : List D) : Prop := ∀ σ G H R, Stt B Γ σ G H → (∀ J G1 H1, Fw G H G1 H1 → Wk B.K G1 J es → R J H1) → wi σ H R
theorem wk_at {K : PySem.W.Frag} {G1 : Hp} {J : It} {xs : List V} {Gd : Hp → Prop} (w : Walk J xs.length Gd (YAt xs)) (hG : ∀ G H, Same G1 G → Same G H → Gd H) (r : Rps K G1 xs ds) : Wk K G1 J ds := by
  have hl := r.length
  refine ⟨Gd, YAt xs, by rw [← hl]; exact w, hG, fun i H x H' G hi s1 s2 y => ?_⟩
  obtain ⟨rfl, hx⟩ := y
  obtain ⟨d, h1, h2⟩ := r.get' hx
  exact ⟨d, G, h1, .refl s2, h2.mono s1⟩
theorem evi_list (h : Ev B te Γ (.lst ds)) : EvI B (iList B.K te) Γ ds := fun σ G H R S q =>
  h σ G H _ S fun v G1 H1 f r => by
    cases r with
    | lst h1 r1 => exact ⟨_, rfl, ⟨_, same_l f.e h1⟩, q _ G1 H1 f (wk_at walk_list (fun G H s1 s2 => same_l (s1.trans s2) h1) r1)⟩
theorem evi_tup (h : Ev B te Γ (.tup ds)) : EvI B (iTup B.K te) Γ ds := fun σ G H R S q =>
  h σ G H _ S fun v G1 H1 f r => by
    cases r with
    | tup h1 r1 => exact ⟨_, rfl, ⟨_, same_t f.e h1⟩, q _ G1 H1 f (wk_at walk_tup (fun G H s1 s2 => same_t (s1.trans s2) h1) r1)⟩
theorem evi_str {a : List Nat} (h : Ev B te Γ (.str (tx a))) : EvI B (iStr te) Γ (a.map fun c => .str (tx [c])) := fun σ G H R S q =>
  h σ G H _ S fun v G1 H1 f r => by
    cases r
    have hz : (tx a).cps.size = a.length := by simp [tx]
    refine ⟨_, rfl, q _ G1 H1 f ⟨_, _, by rw [List.length_map, ← hz]; exact walk_str, fun _ _ _ _ => trivial, fun i H x H' G hi s1 s2 y => ?_⟩⟩
    obtain ⟨rfl, c, hc, rfl⟩ := y
    have hc' : a[i]? = some c := by simpa [tx] using hc
    exact ⟨.str (tx [c]), G, by rw [List.getElem?_map, hc']; rfl, .refl s2, .str _⟩
theorem evi_rng1 {n : Int} (h : EvA B aa Γ [.int n]) (hn : -(2 ^ 62) ≤ n ∧ n < 2 ^ 62) : EvI B (iRng1 aa) Γ ((List.range n.toNat).map fun k => .int (k : Nat)) := fun σ G H R S q =>
  h σ G H _ S fun vs G1 H1 f r => by
    cases r with
    | cons r1 r2 =>
      cases r1; cases r2
      refine ⟨n, rfl, hn.1, hn.2, q _ G1 H1 f ⟨_, _, by rw [List.length_map, List.length_range]; exact walk_range, fun _ _ _ _ => trivial, fun i H x H' G hi s1 s2 y => ?_⟩⟩
      obtain ⟨rfl, rfl⟩ := y
      rw [List.length_map, List.length_range] at hi
      exact ⟨.int (i : Nat), G, by rw [List.getElem?_map, List.getElem?_range hi]; rfl, .refl s2, by show Rp B.K G (V.int (0 + (i : Int))) (D.int (i : Int)); rw [Int.zero_add]; exact .int _⟩
theorem evi_rng2 {m n : Int} (h : EvA B aa Γ [.int m, .int n]) (hm : -(2 ^ 62) ≤ m ∧ m < 2 ^ 62) (hn : -(2 ^ 62) ≤ n ∧ n < 2 ^ 62) : EvI B (iRng2 aa) Γ ((List.range (n - m).toNat).map fun k => .int (m + (k : Nat))) := fun σ G H R S q =>
  h σ G H _ S fun vs G1 H1 f r => by
    cases r with
    | cons r1 r2 =>
      cases r2 with
      | cons r2 r3 =>
      cases r1; cases r2; cases r3
      refine ⟨m, n, rfl, ⟨hm.1, hm.2, hn.1, hn.2⟩, q _ G1 H1 f ⟨_, _, by rw [List.length_map, List.length_range]; exact walk_range, fun _ _ _ _ => trivial, fun i H x H' G hi s1 s2 y => ?_⟩⟩
      obtain ⟨rfl, rfl⟩ := y
      rw [List.length_map, List.length_range] at hi
      exact ⟨.int (m + (i : Nat)), G, by rw [List.getElem?_map, List.getElem?_range hi]; rfl, .refl s2, .int _⟩

/-! ### for -/
theorem sv_for {α : Type} (enc : α → D) (xs : List α) {wi : TI} {g : TG} {tb : TS} (hi : EvI B wi Γ (xs.map enc)) (V : List α → List Sl → Prop) (h0 : V xs Γ) (hd : ∀ Γ', V [] Γ' → P.nx Γ')
    (hs : ∀ x r Γ', (∃ pre, xs = pre ++ x :: r) → V (x :: r) Γ' → ∃ Γ2, EvG B g Γ' (enc x) Γ2 ∧ Sv B W tb Γ2 { P with nx := V r, ct := V r, bk := P.nx }) : Sv B W (tFor wi g tb) Γ P := fun D σ G H E S => by
  refine hi σ G H _ S fun J G1 H1 f w => ?_
  obtain ⟨Gd, Y, w, hG, hy⟩ := w
  rw [List.length_map] at w
  rw [List.length_map] at hy
  refine for_it w (fun i σ' H' => ∃ Γ' G', V (xs.drop i) Γ' ∧ Stt B Γ' σ' G' H' ∧ Same G1 G') ⟨Γ, G1, h0, S.step f, Same.refl _⟩ (fun i σ' H' _ p => ?_) (fun i x σ' H' H2 hlt p y => ?_) (fun σ' H' p => ?_)
  · obtain ⟨Γ', G', _, S', s'⟩ := p
    exact hG G' H' s' S'.same
  · obtain ⟨Γ', G', hv, S', s'⟩ := p
    obtain ⟨d, G2, hd', f2, r2⟩ := hy i H' x H2 G' hlt s' S'.same y
    rw [List.getElem?_map, List.getElem?_eq_getElem hlt] at hd'
    have hd2 : enc xs[i] = d := Option.some.inj hd'
    subst hd2
    have hdrop : xs.drop i = xs[i] :: xs.drop (i + 1) := List.drop_eq_getElem_cons hlt
    rw [hdrop] at hv
    obtain ⟨Γ2, hg, hb⟩ := hs xs[i] (xs.drop (i + 1)) Γ' ⟨xs.take i, by rw [← hdrop]; exact (List.take_append_drop i xs).symm⟩ hv
    refine hg σ' G2 H2 x _ (S'.step f2) r2 fun σ2 S2 => ?_
    have sG : Same G1 G2 := s'.trans f2.g
    refine hb _ σ2 G2 H2 ⟨fun Γ3 σ3 G3 H3 q s3 S3 => ⟨Γ3, G3, q, S3, sG.trans s3⟩, fun Γ3 σ3 G3 H3 q s3 S3 => E.nx Γ3 σ3 G3 H3 q ((f.g.trans sG).trans s3) S3, fun Γ3 σ3 G3 H3 q s3 S3 => ⟨Γ3, G3, q, S3, sG.trans s3⟩, E.rt,
      fun x Γ c dd σ G' H' q s3 => E.xc x Γ c dd σ G' H' q ((f.g.trans sG).trans s3), E.rm⟩ S2
  · obtain ⟨Γ', G', hv, S', s'⟩ := p
    rw [List.drop_length] at hv
    exact E.nx Γ' σ' G' H' (hd Γ' hv) (f.g.trans s') S'

/-! ### while -/
theorem sv_while {β : Type} {tc : TT} {tb : TS} (μ : β → Nat) (V : β → List Sl → Prop) (b0 : β) (h0 : V b0 Γ)
    (hs : ∀ b Γ', V b Γ' → ∃ c, EvT B tc Γ' c ∧ (c = false → P.nx Γ') ∧ (c = true → Sv B W tb Γ' { P with nx := fun Γ2 => ∃ b', μ b' < μ b ∧ V b' Γ2, ct := fun Γ2 => ∃ b', μ b' < μ b ∧ V b' Γ2, bk := P.nx })) : Sv B W (tWhile tc tb) Γ P := fun D σ G H E S => by
  refine ⟨fun m σ' H' => ∃ b Γ' G', μ b = m ∧ V b Γ' ∧ Stt B Γ' σ' G' H' ∧ Same G G', ⟨μ b0, b0, Γ, G, rfl, h0, S, Same.refl _⟩, fun m σ' H' p => ?_⟩
  obtain ⟨b, Γ', G', rfl, hv, S', s'⟩ := p
  obtain ⟨c, hc, hf, ht⟩ := hs b Γ' hv
  refine hc σ' G' H' _ S' fun G1 H1 f => ?_
  have sG : Same G G1 := s'.trans f.g
  cases c with
  | false => exact E.nx Γ' σ' G1 H1 (hf rfl) sG (S'.step f)
  | true =>
    refine ⟨fun σ2 H2 => ∃ b' Γ2 G2, μ b' < μ b ∧ V b' Γ2 ∧ Stt B Γ2 σ2 G2 H2 ∧ Same G G2, fun σ2 H2 ⟨b', Γ2, G2, l, v, S2, s2⟩ => ⟨μ b', l, b', Γ2, G2, rfl, v, S2, s2⟩, ?_⟩
    exact ht rfl _ σ' G1 H1 ⟨fun Γ3 σ3 G3 H3 ⟨b', l, v⟩ s3 S3 => ⟨b', Γ3, G3, l, v, S3, sG.trans s3⟩, fun Γ3 σ3 G3 H3 q s3 S3 => E.nx Γ3 σ3 G3 H3 q (sG.trans s3) S3, fun Γ3 σ3 G3 H3 ⟨b', l, v⟩ s3 S3 => ⟨b', Γ3, G3, l, v, S3, sG.trans s3⟩, E.rt,
      fun x Γ c dd σ G' H' q s3 => E.xc x Γ c dd σ G' H' q (sG.trans s3), E.rm⟩ (S'.step f)

/-! ### comprehensions -/
def wipeS (Γ : List Sl) : List Nat → List Sl
  | [] => Γ
  | v :: vs => (wipeS Γ vs).set v .un
theorem wipeS_len : ∀ vs : List Nat, (wipeS Γ vs).length = Γ.length
  | [] => rfl
  | v :: vs => by unfold wipeS; rw [List.length_set, wipeS_len vs]
theorem Stt.wipe {σ : L2.St} {G H : Hp} (S : Stt B Γ σ G H) : ∀ (vs : List Nat), (∀ v ∈ vs, v < Γ.length) → Stt B (wipeS Γ vs) (L2.wipe σ vs) G H
  | [], _ => S
  | v :: vs, h => by
    unfold wipeS L2.wipe
    exact (S.wipe vs fun x hx => h x (List.mem_cons_of_mem _ hx)).forget (by rw [wipeS_len]; exact h v List.mem_cons_self)
theorem Stt.other {σ : L2.St} {G H : Hp} {a : Addr} {u : HO} (S : Stt B Γ σ G H) (h0 : B.H0 a = none) (hg : G a = none) (hap : ∀ (j : Nat), ¬ Owns Γ σ j a) : Stt B Γ σ G (upd H a u) :=
  ⟨S.frame hg (.inl h0), S.len, fun j s h => S.keepSl h (hap j), S.ap, S.nw, S.nm⟩
/-- the binding of a comprehension's own names -/
def EvGw (B : Bx) (g : TG) (vs : List Nat) (Γ : List Sl) (d : D) (Γ' : List Sl) : Prop := ∀ σ G H v Q, Stt B Γ (L2.wipe σ vs) G H → Rp B.K G v d → (∀ σ', L2.wipe σ' vs = L2.wipe σ vs → Stt B Γ' σ' G H → Q σ' H) → g v (L2.wipe σ vs) H Q
theorem evgw_name (hs : SetAt Γ i (.dat d) Γ') : EvGw B (gName i) [i] Γ d Γ' := fun σ G H v Q S r q => by
  obtain ⟨hi, rfl⟩ := hs.eq
  refine q _ ?_ (S.set hi r)
  simp [L2.wipe]
theorem evgw_two {i j : Nat} (h : i ≠ j) (hs : SetAt Γ i (.dat d) Γ1) (hs2 : SetAt Γ1 j (.dat e) Γ2) : EvGw B (gTup B.K 2 (gCons (gName i) (gCons (gName j) gNil))) [i, j] Γ (.tup [d, e]) Γ2 := fun σ G H v Q S r q => by
  obtain ⟨hi, rfl⟩ := hs.eq
  obtain ⟨hj, rfl⟩ := hs2.eq
  cases r with
  | tup h1 r1 =>
    cases r1 with
    | cons r1 r2 =>
      cases r2 with
      | cons r2 r3 =>
        cases r3
        refine ⟨_, _, rfl, same_t S.same h1, rfl, _, _, rfl, _, _, rfl, rfl, q _ ?_ ((S.set hi r1).set hj r2)⟩
        simp [L2.wipe]
        rw [List.set_comm _ _ h.symm]
        simp
        rw [List.set_comm _ _ h.symm]
        simp
theorem evo_lc {α : Type} (enc : α → D) (xs : List α) (f : α → Bool) (v : α → D) {wi : TI} {g : TG} {vs : List Nat} (hi : EvI B wi Γ (xs.map enc)) (hv : ∀ n ∈ vs, n < Γ.length) (hl : xs.length < 16777216)
    (hs : ∀ x ∈ xs, ∃ Γx, EvGw B g vs (wipeS Γ vs) (enc x) Γx ∧ EvT B tt Γx (f x) ∧ (f x = true → Ev B te Γx (v x))) : EvO B (tLc wi g tt te vs) Γ (.lst ((xs.filter f).map v)) := fun σ G H Q S q => by
  refine hi σ G H _ S fun J G1 H1 fw w Dl hD => ?_
  obtain ⟨Gd, Y, w, hG, hy⟩ := w
  rw [List.length_map] at w
  rw [List.length_map] at hy
  have S1 := S.step fw
  have h0D : B.H0 Dl = none := S1.fr hD
  have gD : G1 Dl = none := S1.same.free hD
  have apD := S1.apart hD
  have fresh : H Dl = none := fw.h.free hD
  refine lc_it w (fun i H' => ∃ G' acc, Same G1 G' ∧ Stt B Γ σ G' H' ∧ G' Dl = none ∧ H' Dl = some (.lst acc) ∧ Rps B.K G' acc (((xs.take i).filter f).map v) ∧ Fw G H G' H') ?_ (fun i H' _ p => ?_) (fun i x H' H2 hlt p y => ?_) (fun H' p => ?_)
  · exact ⟨G1, [], Same.refl _, S1.other h0D gD apD, gD, upd_same, .nil, fw.trans (Fw.newO S1.same hD)⟩
  · obtain ⟨G', acc, s', S', _⟩ := p
    exact hG G' H' s' S'.same
  · obtain ⟨G', acc, s', S', g', hacc, r', fa⟩ := p
    obtain ⟨d, G2, hd', f2, r2⟩ := hy i H' x H2 G' hlt s' S'.same y
    rw [List.getElem?_map, List.getElem?_eq_getElem hlt] at hd'
    have hd2 : enc xs[i] = d := Option.some.inj hd'
    subst hd2
    have ht : xs.take (i + 1) = xs.take i ++ [xs[i]] := List.take_succ_eq_append_getElem hlt
    obtain ⟨Γx, hg, htt, hte⟩ := hs xs[i] (List.getElem_mem hlt)
    refine hg σ G2 H2 x _ ((S'.step f2).wipe vs hv) r2 fun σ2 hw S2 => ⟨hw, ?_⟩
    refine htt σ2 G2 H2 _ S2 fun G3 H3 f3 => ?_
    have f23 := f2.trans f3
    cases hb : f xs[i] with
    | false =>
      show ∃ G' acc, _
      refine ⟨G3, acc, s'.trans f23.g, S'.step f23, f23.gone g' hacc, f23.h _ _ hacc, ?_, fa.trans f23⟩
      rw [ht, List.filter_append, List.filter_cons, hb]
      simpa using r'.mono f23.g
    | true =>
      refine hte hb σ2 G3 H3 _ (S2.step f3) fun y G4 H4 f4 r4 => ?_
      have f24 := f23.trans f4
      have hacc4 := f24.h _ _ hacc
      have g4 := f24.gone g' hacc
      refine ⟨acc, hacc4, ?_, G4, acc ++ [y], s'.trans f24.g, (S'.step f24).other h0D g4 apD, g4, upd_same, ?_, ?_⟩
      · have e1 := r'.length
        have e2 : (((xs.take i).filter f).map v).length ≤ xs.length := by
          rw [List.length_map]
          exact Nat.le_trans (List.length_filter_le _ _) (by rw [List.length_take]; omega)
        exact line_lt (by omega)
      · rw [ht, List.filter_append, List.map_append, List.filter_cons, hb]
        exact (r'.mono f24.g).append (.cons r4 .nil)
      · have fb := fa.trans f24
        refine ⟨fb.g, fun b o e => ?_, fun b o e => ?_, fb.n⟩
        · rw [upd_ne (ne_of_none e fresh)]; exact fb.h b o e
        · rw [upd_ne (ne_of_none e g4)]; exact fb.e b o e
  · obtain ⟨G', acc, s', S', g', hacc, r', fa⟩ := p
    rw [List.take_length] at r'
    exact q Dl (.lst acc) G' H' fa g' fresh hacc ⟨acc, rfl, r'⟩
/-- without a test -/
theorem evo_map {α : Type} (enc : α → D) (xs : List α) (v : α → D) {wi : TI} {g : TG} {vs : List Nat} (hi : EvI B wi Γ (xs.map enc)) (hv : ∀ n ∈ vs, n < Γ.length) (hl : xs.length < 16777216)
    (hs : ∀ x ∈ xs, ∃ Γx, EvGw B g vs (wipeS Γ vs) (enc x) Γx ∧ Ev B te Γx (v x)) : EvO B (tLc wi g tYes te vs) Γ (.lst (xs.map v)) := by
  have := evo_lc (tt := tYes) (te := te) enc xs (fun _ => true) v hi hv hl fun x hx => by
    obtain ⟨Γx, h1, h2⟩ := hs x hx
    exact ⟨Γx, h1, evt_yes, fun _ => h2⟩
  rw [List.filter_eq_self.mpr (fun _ _ => rfl)] at this
  exact this
end
end Z

/-! Z6: enumerate of a text or a tuple; exceptions of the program's own. -/
namespace PySem
theorem meets_enumerate_newB1 {v : Value} {o : Obj} {H : Heap → Prop} (B : Begins v o H) :
    Meets (Builtin.«enumerate.__new__» ⟨[.type "enumerate", v], []⟩) (fun _ R s => H s.heap ∧
      R (.ok (.ret (.ref (s.heap.push o).objs.size))) { s with heap := (s.heap.push o).push { cls := .type "enumerate", data := .fields #[.none, .bool false, .ref s.heap.objs.size, rawInt 0, .none, .none] } }) :=
  .of_wp fun prog w A R s h => by
    obtain ⟨hp, g, d, tk, os⟩ := s; obtain ⟨h1, h⟩ := h
    have hsub := sub_enumerate
    have q1 : ∀ {A' : Around} {E : Value → Shared → Prop} {Q : Value → Shared → Prop}, Q (.ref hp.objs.size) ⟨hp.push o, g, d, tk, os⟩ → wpAny (model prog w) A' (pyIter v) Q E ⟨hp, g, d, tk, os⟩ :=
      fun q => B.iter prog w _ _ ⟨hp, g, d, tk, os⟩ _ h1 q
    wp_walk using q1
    refine wpAny_stack_any fun st => wpAny_pure ?_
    split
    · rename_i c _ _ _ _ _
      cases (c == Value.type "enumerate")
      · wp_walk using q1
        exact ⟨_, rfl, h⟩
      · wp_walk using q1
        exact ⟨_, rfl, h⟩
    · wp_walk using q1
      exact ⟨_, rfl, h⟩
theorem enum_begins1 {prog : Program} {w : World} {A : Around} {E : Value → Shared → Prop} {s : Shared} {v : Value} {o : Obj} {H : Heap → Prop} {Q : Value → Shared → Prop} (B : Begins v o H) (h1 : H s.heap)
    (h : ∀ h', IsEnum h' (s.heap.objs.size + 1) s.heap.objs.size 0 .none → h'.get? s.heap.objs.size = some o → h'.objs.size = s.heap.objs.size + 2 →
      (∀ b o, s.heap.get? b = some o → h'.get? b = some o) → Q (.ref (s.heap.objs.size + 1)) { s with heap := h' }) :
    wpAny (model prog w) A (call (.type "enumerate") [v]) Q E s := by
  refine callType_new F.called_enumerate (by decide) (F.typeCall_enumerate_1 _) (F.newCall_enumerate_1 _) (fun obj => F.args_object_init_2 obj _) F.entry_enumerate_new
    (meets_enumerate_newB1 B) ⟨h1, ?_⟩
  have hz : (s.heap.push o).objs.size = s.heap.objs.size + 1 := Heap.size_push ..
  show _ ∧ _
  rw [hz]
  have he : IsEnum ((s.heap.push o).push { cls := .type "enumerate", data := .fields #[.none, .bool false, .ref s.heap.objs.size, rawInt 0, .none, .none] }) (s.heap.objs.size + 1) s.heap.objs.size 0 .none := by
    have := Heap.get?_push_size (s.heap.push o) (o := { cls := .type "enumerate", data := .fields #[.none, .bool false, .ref s.heap.objs.size, rawInt 0, .none, .none] }) rfl
    rw [hz] at this; exact this
  refine ⟨⟨_, he, rfl⟩, h _ he (Heap.get?_push_of_some _ (Heap.get?_push_size _ B.free)) (by rw [Heap.size_push, hz]) fun b o x => Heap.get?_push_of_some _ (Heap.get?_push_of_some _ x)⟩
end PySem
namespace Z
open PySem PySem.Spec PyProof.Rows L2

/-- one turn of an enumerate, by what its inner iterator draws -/
theorem enum_turn {X : Cx} {pins : List (Addr × Obj)} {s : Shared} {σ : L2.St} {H : Hp} {E : Value → Shared → Prop} {e it : Addr} {fp : List Addr} {n i : Nat} {Pr : Nat → Value → Prop} {St : Nat → Heap → Prop} {old : Value} {elts : List Expr} {kk : Nat} {tpos : Pos}
    {Q : V → Hp → Prop} {R : Heap → Prop}
    (I : Inv X pins σ H s) (hf : ∀ b ∈ [e, it], FpOk X pins H b) (D : Draws X.prog X.w X.A.in1 it fp n Pr St) (he : IsEnum s.heap e it ((i : Nat) : Int) old) (hst : St i s.heap) (hlt : i < n) (hne : e ≠ it) (hef : e ∉ fp)
    (hP : ∀ u, Pr i u → ∃ x, RelV x u ∧ Q (.ref s.heap.objs.size) (upd H s.heap.objs.size (.tup [.int (i : Nat), x])))
    (hR : ∀ h', (∃ old, IsEnum h' e it (((i + 1 : Nat)) : Int) old) → St (i + 1) h' → R h') :
    wpAny (model X.prog X.w) X.A (pyNext (.ref e)) (fun r s1 => ∃ u, r = some u ∧
      wpAny (model X.prog X.w) X.A (letOwnedTupleGo (.Tuple elts kk tpos) (.ref e) u) (fun _ s2 => ∃ x H', Inv X pins σ H' s2 ∧ RelV x u ∧ Q x H' ∧ R s2.heap ∧ ∀ b ∈ [e, it], H' b = none) E s1) E s := by
  have hel : e < s.heap.objs.size := Heap.lt_size he
  have hil : it < s.heap.objs.size := by obtain ⟨o, q⟩ := D.live _ _ hst; exact Heap.lt_size q
  refine wpAny_pyNext_enum_itemD D he hst hlt hne hef fun u h' tk hPu ho hit' hT hsz hk => ?_
  obtain ⟨x, ru, q⟩ := hP u hPu
  refine ⟨_, rfl, wpAny_letOwnedTupleGo_enum (s := { s with heap := h', toks := tk + 1 }) ho fun h'' he' sb => ?_⟩
  have hT2 : h''.get? s.heap.objs.size = some { cls := .type "tuple", data := .seq #[.int i tk, u] } := (sb.2 _ (Nat.ne_of_gt hel)).trans hT
  have new : ObjOk X.prog X.w (upd H s.heap.objs.size (.tup [.int (i : Nat), x])) h'' s.heap.objs.size (.tup [.int (i : Nat), x]) :=
    ⟨by show 2 ≤ sizeLine; decide, [.int i tk, u], .cons ⟨_, rfl⟩ (.cons ru .nil), ⟨_, hT2, rfl, _, rfl⟩⟩
  have I1 : Inv X pins σ (upd H s.heap.objs.size (.tup [.int (i : Nat), x])) { s with heap := h'', toks := tk + 1 } :=
    I.turnedNew (ch := [e, it]) (fun b ob hb q => (sb.2 b (fun z => hb (by simp [z]))).trans (hk b ob (fun z => hb (by simp [z])) (fun z => hb (by simp [z])) q)) hf (Nat.le_refl _) new
  refine ⟨.ref s.heap.objs.size, _, I1, rfl, q, hR h'' ⟨u, ?_⟩ (D.frame _ _ _ hit' fun b hb o y => (sb.2 b fun z => hef (z ▸ hb)).trans y), fun b hb => ?_⟩
  · have e1 : ((i + 1 : Nat) : Int) = (i : Int) + 1 := by omega
    rw [e1]; exact he'
  · have hb' : b < s.heap.objs.size := by
      have e' : b = e ∨ b = it := by simpa using hb
      rcases e' with z | z
      · rw [z]; exact hel
      · rw [z]; exact hil
    rw [upd_ne (Nat.ne_of_lt hb')]
    exact (hf b hb).1

/-! ### a text -/
def Ites (z : Str) : It :=
  ⟨fun i _ => i < z.cps.size, fun i H v H' => ∃ T c, v = .ref T ∧ H T = none ∧ H' = upd H T (.tup [.int (i : Nat), .str ⟨#[c]⟩]) ∧ z.cps[i]? = some c, fun i _ => z.cps.size ≤ i⟩
theorem draws_str {prog : Program} {w : World} {A : Around} (hh : A.handled = none) (it : Addr) (x : Str) (t : Tok) :
    Draws prog w A it [it] x.cps.size (fun i v => ∃ c u, x.cps[i]? = some c ∧ v = .str ⟨#[c]⟩ u) (fun i h => h.IsStrIter it (strIterType x) x t i) := by
  unfold strIterType
  cases x.cps.all (· < 128)
  · exact Draws.strWide hh it x t
  · exact Draws.strAscii hh it x t
theorem turn_enumS {P : Program} {w : World} {K : PySem.W.Frag} {elts : List Expr} {kk : Nat} {tpos : Pos} (z : Str) (t : Tok) (e it : Addr) :
    Turn P w K (.Tuple elts kk tpos) (Ites z) [e, it] e (fun i h => (∃ old, IsEnum h e it ((i : Nat) : Int) old) ∧ h.IsStrIter it (strIterType z) z t i ∧ e ≠ it ∧ i ≤ z.cps.size) where
  mem := by simp
  obj := fun i h st b hb => by
    obtain ⟨⟨old, he⟩, ⟨o, ho, hc, hd⟩, _⟩ := st
    have e' : b = e ∨ b = it := by simpa using hb
    rcases e' with z | z
    · rw [z]; exact ⟨_, he, fun v q => nomatch q⟩
    · rw [z]; exact ⟨o, ho, fun v q => by rw [hd] at q; cases q⟩
  keep := fun i h h' st k => let ⟨⟨old, he⟩, ⟨o, ho, r⟩, hne⟩ := st; ⟨⟨old, k e (by simp) _ he⟩, ⟨o, k it (by simp) o ho, r⟩, hne⟩
  item := by
    intro X hP hw hK hc i pins s σ H E I hf st hg
    subst hP hw hK
    obtain ⟨⟨old, he⟩, hit, hne, _⟩ := st
    refine enum_turn (Q := (Ites z).yld i H) (R := fun h => (∃ old, IsEnum h e it (((i + 1 : Nat)) : Int) old) ∧ h.IsStrIter it (strIterType z) z t (i + 1) ∧ e ≠ it ∧ i + 1 ≤ z.cps.size) I hf (draws_str (A := X.A.in1) (I.ok.hd hc) it z t) he hit hg hne (by simp [hne]) (fun u hu => ?_) (fun h' h1 h2 => ⟨h1, h2, hne, hg⟩)
    obtain ⟨c, tk, hcx, rfl⟩ := hu
    exact ⟨.str ⟨#[c]⟩, ⟨_, rfl⟩, _, c, rfl, I.hok.fresh (Nat.le_refl _), rfl, hcx⟩
  done := by
    intro X hP hw hK hc i pins s σ H E I hf st hg
    subst hP hw hK
    obtain ⟨⟨old, he⟩, hit, hne, hi⟩ := st
    obtain ⟨f0, f1, f2, f3, f4, f5⟩ := hf it (by simp)
    have hn : i = z.cps.size := Nat.le_antisymm hi hg
    subst hn
    exact wpAny_pyNext_enum_endD (draws_str (A := X.A.in1) (I.ok.hd hc) it z t) he hit fun h' eb => ⟨rfl, I.turned (t' := s.toks) (fun b o hb q => eb b o hb q) f0 f1 f3 f4 f5⟩
  self := fun A i s Q E st h => let ⟨⟨_, he⟩, _⟩ := st; wpAny_pyIter_enum he h

/-! ### a tuple -/
def Itet (K : PySem.W.Frag) (a : Addr) : It :=
  ⟨fun i H => ∃ (xs : List V) (x : V), SqT K H a xs ∧ xs[i]? = some x, fun i H v H' => ∃ T x, v = .ref T ∧ H T = none ∧ H' = upd H T (.tup [.int (i : Nat), x]) ∧ ∀ xs, SqT K H a xs → xs[i]? = some x, fun i H => ∃ xs : List V, SqT K H a xs ∧ xs.length = i⟩
theorem apart_of {h : Heap} {a b : Addr} {o u : Obj} (h1 : h.get? a = some o) (h2 : h.get? b = some u) (hc : o.cls ≠ u.cls) : a ≠ b := fun z => by
  subst z; rw [h1] at h2; cases h2; exact hc rfl
theorem turn_enumT {P : Program} {w : World} {K : PySem.W.Frag} {elts : List Expr} {kk : Nat} {tpos : Pos} (a e it : Addr) :
    Turn P w K (.Tuple elts kk tpos) (Itet K a) [e, it] e (fun i h => (∃ old, IsEnum h e it ((i : Nat) : Int) old) ∧ h.IsTupleIter it a i ∧ e ≠ it) where
  mem := by simp
  obj := fun i h st b hb => by
    obtain ⟨⟨old, he⟩, ⟨o, ho, hc, hd⟩, _⟩ := st
    have e' : b = e ∨ b = it := by simpa using hb
    rcases e' with z | z
    · rw [z]; exact ⟨_, he, fun v q => nomatch q⟩
    · rw [z]; exact ⟨o, ho, fun v q => by rw [hd] at q; cases q⟩
  keep := fun i h h' st k => let ⟨⟨old, he⟩, hi, hne⟩ := st; ⟨⟨old, k e (by simp) _ he⟩, hi.at fun o q => k it (by simp) o q, hne⟩
  item := by
    intro X hP hw hK hc i pins s σ H E I hf st hg
    subst hP hw hK
    obtain ⟨⟨old, he⟩, hit, hne⟩ := st
    obtain ⟨xs, x, hq, hx⟩ := hg
    obtain ⟨its, rv, p, hz⟩ := I.tuple hq
    obtain ⟨u0, hu0, ru0⟩ := rv.get hx
    obtain ⟨ot, hot, hct, n, hdt⟩ := id p
    obtain ⟨oi, hoi, hci, hdi⟩ := id hit
    have nae : a ≠ e := apart_of hot he (by rw [hct]; show Value.type "tuple" ≠ Value.type "enumerate"; decide)
    have nai : a ≠ it := apart_of hot hoi (by rw [hct, hci]; decide)
    have hlt : i < its.toArray.size := by
      have := (List.getElem?_eq_some_iff.mp hu0).1
      simpa using this
    refine enum_turn (Q := (Itet X.K a).yld i H) (R := fun h => (∃ old, IsEnum h e it (((i + 1 : Nat)) : Int) old) ∧ h.IsTupleIter it a (i + 1) ∧ e ≠ it) I hf (Draws.tuple (A := X.A.in1) (I.ok.hd hc) it a nai its.toArray) he ⟨hit, p⟩ hlt hne (by simp [hne, Ne.symm nae]) (fun u hu => ?_) (fun h' h1 h2 => ⟨h1, h2.1, hne⟩)
    have eu : u0 = u := by
      have hu' : its[i]? = some u := by simpa using hu
      rw [hu0] at hu'
      exact Option.some.inj hu'
    subst eu
    exact ⟨x, ru0, _, x, rfl, I.hok.fresh (Nat.le_refl _), rfl, fun ys hy => by rw [I.tuple_inj hy hq]; exact hx⟩
  done := by
    intro X hP hw hK hc i pins s σ H E I hf st hg
    subst hP hw hK
    obtain ⟨⟨old, he⟩, hit, hne⟩ := st
    obtain ⟨xs, hq, hx⟩ := hg
    obtain ⟨its, rv, p, hz⟩ := I.tuple hq
    obtain ⟨ot, hot, hct, n, hdt⟩ := id p
    obtain ⟨oi, hoi, hci, hdi⟩ := id hit
    have nai : a ≠ it := apart_of hot hoi (by rw [hct, hci]; decide)
    obtain ⟨f0, f1, f2, f3, f4, f5⟩ := hf it (by simp)
    have hn : i = its.toArray.size := by rw [List.size_toArray, ← rv.length]; exact hx.symm
    refine wpAny_pyNext_enum_endD (Draws.tuple (A := X.A.in1) (I.ok.hd hc) it a nai its.toArray) he ⟨by rw [← hn]; exact hit, p⟩ fun h' eb => ⟨rfl, I.turned (t' := s.toks) (fun b o hb q => eb b o hb q) f0 f1 f3 f4 f5⟩
  self := fun A i s Q E st h => let ⟨⟨_, he⟩, _⟩ := st; wpAny_pyIter_enum he h
def iEnumZ (K : PySem.W.Frag) (ta : TA) : TI := fun σ H R => ta σ H fun vs H1 => (∃ a xs, vs = [.ref a] ∧ SqL K H1 a xs ∧ R (Ite K a) H1) ∨ (∃ a xs, vs = [.ref a] ∧ SqT K H1 a xs ∧ R (Itet K a) H1) ∨ ∃ z, vs = [.str z] ∧ R (Ites z) H1
theorem pi_enumZ {X : Cx} {e : Expr} {ta : TA} {p pos tpos : Pos} {elts : List Expr} {kk : Nat} (hg : Gl X "enumerate") (hm : X.mg "enumerate" = none) (ha : PA X [e] ta) (hs : starEach [e] X.env = [(false, eval e X.env)] := by rfl) :
    PI X (.Tuple elts kk tpos) (.Call (.Name "enumerate" p) [e] [] pos) (iEnumZ X.K ta) := by
  refine ⟨fun pins s σ H R I h => ?_⟩
  refine Call_ (ld_blt I hg hm boot_enumerate (PyProof.Rows.callWith_type1 (thn (ha.run pos pins s σ H _ I h) fun us s1 ⟨vs, H1, I1, r1, q1⟩ => ?_) hs rfl))
  have fp : ∀ b ∈ [s1.heap.objs.size + 1, s1.heap.objs.size], FpOk X pins H1 b := fun b hb => by
    have e' : b = s1.heap.objs.size + 1 ∨ b = s1.heap.objs.size := by simpa using hb
    have hle : s1.heap.objs.size ≤ b := by
      rcases e' with z | z
      · rw [z]; exact Nat.le_add_right _ _
      · rw [z]; exact Nat.le_refl _
    exact I1.fpOk hle (I1.hok.fresh hle)
  rcases q1 with ⟨a, xs, ex, hq, q⟩ | ⟨a, xs, ex, hq, q⟩ | ⟨z, ex, q⟩
  · subst ex
    cases r1 with
    | cons r rr =>
      cases rr
      cases r
      obtain ⟨its, rv, p', hz⟩ := I1.list hq
      refine call_enumerate_list p'.isList fun h' he hit hsz hk => wpAny_pyIter_enum he ?_
      have I2 : Inv X pins σ H1 { s1 with heap := h' } := I1.kept (t' := s1.toks) hk
      exact ⟨s1.heap.objs.size + 1, [s1.heap.objs.size + 1, s1.heap.objs.size], _, _, H1, rfl, I2, turn_enum a (s1.heap.objs.size + 1) s1.heap.objs.size, ⟨⟨.none, he⟩, hit, Nat.succ_ne_self _⟩, fp, q⟩
  · subst ex
    cases r1 with
    | cons r rr =>
      cases rr
      cases r
      obtain ⟨its, rv, p', hz⟩ := I1.tuple hq
      refine enum_begins1 (begins_tuple a its.toArray) p' fun h' he hit hsz hk => wpAny_pyIter_enum he ?_
      have I2 : Inv X pins σ H1 { s1 with heap := h' } := I1.kept (t' := s1.toks) hk
      exact ⟨s1.heap.objs.size + 1, [s1.heap.objs.size + 1, s1.heap.objs.size], _, _, H1, rfl, I2, turn_enumT a (s1.heap.objs.size + 1) s1.heap.objs.size, ⟨⟨.none, he⟩, ⟨_, hit, rfl, rfl⟩, Nat.succ_ne_self _⟩, fp, q⟩
  · subst ex
    cases r1 with
    | cons r rr =>
      cases rr
      obtain ⟨t, rfl⟩ := r
      refine enum_begins1 (begins_text z t) trivial fun h' he hit hsz hk => wpAny_pyIter_enum he ?_
      have I2 : Inv X pins σ H1 { s1 with heap := h' } := I1.kept (t' := s1.toks) hk
      exact ⟨s1.heap.objs.size + 1, [s1.heap.objs.size + 1, s1.heap.objs.size], _, _, H1, rfl, I2, turn_enumS z t (s1.heap.objs.size + 1) s1.heap.objs.size, ⟨⟨.none, he⟩, ⟨_, hit, rfl, rfl⟩, Nat.succ_ne_self _, Nat.zero_le _⟩, fp, q⟩

/-! ### the walks -/
theorem zipIdx_get {α : Type} (f : Nat → α → D) (xs : List α) (i : Nat) : ((xs.zipIdx).map fun p => f p.2 p.1)[i]? = (xs[i]?).map (f i) := by
  rw [List.getElem?_map, List.getElem?_zipIdx]
  cases xs[i]? <;> simp
def enumD (ds : List D) : List D := ds.zipIdx.map fun p => .tup [.int (p.2 : Nat), p.1]
theorem enumD_len (ds : List D) : (enumD ds).length = ds.length := by simp [enumD]
theorem enumD_get (ds : List D) (i : Nat) : (enumD ds)[i]? = (ds[i]?).map fun d => .tup [.int (i : Nat), d] := zipIdx_get (fun i d => .tup [.int (i : Nat), d]) ds i
section
variable {B : Bx} {Γ : List Sl} {aa : TA} {ds : List D}
theorem pair_laid {K : PySem.W.Frag} {G H : Hp} {T : Addr} {x : V} {d : D} {i : Nat} (s : Same G H) (n : H T = none) (r : Rp K G x d) : ∃ G', Fw G H G' (upd H T (.tup [.int (i : Nat), x])) ∧ Rp K G' (.ref T) (.tup [.int (i : Nat), d]) :=
  ⟨_, Fw.new s n, .tup (.inl (.inl upd_same)) (.cons (.int _) (.cons (r.mono (Fw.new (o := .tup [.int (i : Nat), x]) s n).g) .nil))⟩
theorem evi_enumL (h : EvA B aa Γ [.lst ds]) : EvI B (iEnumZ B.K aa) Γ (enumD ds) := fun σ G H R S q =>
  h σ G H _ S fun vs G1 H1 f r => by
    cases r with
    | cons r1 r2 =>
      cases r2
      cases r1 with
      | lst h1 r1 =>
        rename_i a xs
        refine .inl ⟨_, _, rfl, same_l f.e h1, q _ G1 H1 f ⟨_, _, by rw [enumD_len, ← r1.length]; exact walk_enum, fun G H s1 s2 => same_l (s1.trans s2) h1, fun i H x H' G hi s1 s2 y => ?_⟩⟩
        obtain ⟨T, u, v, rfl, hT, rfl, hx, hy⟩ := y
        cases hx
        obtain ⟨d, h2, h3⟩ := r1.get' hy
        obtain ⟨G', f', r'⟩ := pair_laid (i := i) s2 hT (h3.mono s1)
        exact ⟨_, G', by rw [enumD_get, h2]; rfl, f', r'⟩
theorem walk_enumT {K : PySem.W.Frag} {a : Addr} {xs : List V} : Walk (Itet K a) xs.length (fun H => SqT K H a xs) (YPair (fun i => some (.int (i : Nat))) (fun i => xs[i]?)) := by
  refine ⟨fun i _ hi q => ⟨xs, xs[i], q, by simp [hi]⟩, fun _ q => ⟨xs, q, rfl⟩, fun i H v H' _ q y => ?_⟩
  obtain ⟨T, x, h1, h2, h3, h4⟩ := y
  exact ⟨T, .int (i : Nat), x, h1, h2, h3, rfl, h4 xs q⟩
theorem evi_enumU (h : EvA B aa Γ [.tup ds]) : EvI B (iEnumZ B.K aa) Γ (enumD ds) := fun σ G H R S q =>
  h σ G H _ S fun vs G1 H1 f r => by
    cases r with
    | cons r1 r2 =>
      cases r2
      cases r1 with
      | tup h1 r1 =>
        refine .inr (.inl ⟨_, _, rfl, same_t f.e h1, q _ G1 H1 f ⟨_, _, by rw [enumD_len, ← r1.length]; exact walk_enumT, fun G H s1 s2 => same_t (s1.trans s2) h1, fun i H x H' G hi s1 s2 y => ?_⟩⟩)
        obtain ⟨T, u, v, rfl, hT, rfl, hx, hy⟩ := y
        cases hx
        obtain ⟨d, h2, h3⟩ := r1.get' hy
        obtain ⟨G', f', r'⟩ := pair_laid (i := i) s2 hT (h3.mono s1)
        exact ⟨_, G', by rw [enumD_get, h2]; rfl, f', r'⟩
theorem walk_enumS {z : Str} : Walk (Ites z) z.cps.size (fun _ => True) (fun i H v H' => ∃ T c, v = .ref T ∧ H T = none ∧ H' = upd H T (.tup [.int (i : Nat), .str ⟨#[c]⟩]) ∧ z.cps[i]? = some c) :=
  ⟨fun _ _ hi _ => hi, fun _ _ => Nat.le_refl _, fun _ _ _ _ _ _ y => y⟩
theorem evi_enumS {a : List Nat} (h : EvA B aa Γ [.str (tx a)]) : EvI B (iEnumZ B.K aa) Γ (a.zipIdx.map fun p => .tup [.int (p.2 : Nat), .str (tx [p.1])]) := fun σ G H R S q =>
  h σ G H _ S fun vs G1 H1 f r => by
    cases r with
    | cons r1 r2 =>
      cases r2
      cases r1
      have hz : (tx a).cps.size = a.length := by simp [tx]
      refine .inr (.inr ⟨_, rfl, q _ G1 H1 f ⟨_, _, by rw [List.length_map, List.length_zipIdx, ← hz]; exact walk_enumS, fun _ _ _ _ => trivial, fun i H x H' G hi s1 s2 y => ?_⟩⟩)
      obtain ⟨T, c, rfl, hT, rfl, hc⟩ := y
      have hc' : a[i]? = some c := by simpa [tx] using hc
      obtain ⟨G', f', r'⟩ := pair_laid (i := i) s2 hT (Rp.str (K := B.K) (G := G) (tx [c]))
      refine ⟨_, G', ?_, f', r'⟩
      rw [zipIdx_get (fun i c => .tup [.int (i : Nat), .str (tx [c])]) a i, hc']
      rfl
end
end Z

/-! Z7: exceptions of the program's own; isinstance. -/
namespace Z
open PySem PySem.Spec PyProof.Rows L2

/-! ### __init__ that keeps its arguments -/
def spX1 (C : Addr) (f : Str) : Sp := fun vs H Q _ => ∃ (a : Addr) (y : V), vs = [.ref a, y] ∧ H a = some (exo a C none) ∧
  ∀ dx, H dx = none → dx ≠ a → Q .non (upd (upd H dx (exd dx [(f, y)])) a (exo a C (some dx)))
def spX2 (C : Addr) (f g : Str) : Sp := fun vs H Q _ => ∃ (a : Addr) (y z : V), vs = [.ref a, y, z] ∧ H a = some (exo a C none) ∧
  ∀ dx, H dx = none → dx ≠ a → Q .non (upd (upd (upd H dx (exd dx [(f, y)])) a (exo a C (some dx))) dx (exd dx [(g, z), (f, y)]))
theorem exo_exd {a C dx : Addr} {d : Option Addr} {fs : List (Str × V)} (H : Hp) (n : dx ≠ a) : upd (upd H dx (exd dx fs)) a (exo a C d) dx = some (exd dx fs) := by
  rw [upd_ne n, upd_same]
section
variable {B : Bx} {W : WX} {Γ Γ' : List Sl} {P : Po} {aa : TA} {te : TE} {d e : D} {C : Addr} {f g : Str}
theorem del_heap {H1 : Hp} {a dx : Addr} {o1 o2 o3 o4 : HO} (h : H1 a = none) (n : dx ≠ a) : upd (del (upd (upd (upd H1 a o1) dx o2) a o3) a) dx o4 = upd H1 dx o4 := by
  funext b
  by_cases e1 : b = dx
  · subst e1; rw [upd_same, upd_same]
  · rw [upd_ne e1, upd_ne e1]
    by_cases e2 : b = a
    · subst e2; rw [del_same, h]
    · rw [del_ne e2, upd_ne e2, upd_ne e1, upd_ne e2]
theorem del_heap2 {H1 : Hp} {a dx : Addr} {o1 o2 o3 o4 o5 : HO} (h : H1 a = none) (n : dx ≠ a) : upd (del (upd (upd (upd (upd H1 a o1) dx o2) a o3) dx o5) a) dx o4 = upd H1 dx o4 := by
  funext b
  by_cases e1 : b = dx
  · subst e1; rw [upd_same, upd_same]
  · rw [upd_ne e1, upd_ne e1]
    by_cases e2 : b = a
    · subst e2; rw [del_same, h]
    · rw [del_ne e2, upd_ne e1, upd_ne e2, upd_ne e1, upd_ne e2]
/-- raise C(e) -/
theorem sv_raise1 (ha : EvA B aa Γ [d]) (k : P.xc ⟨C, [(f, d)]⟩ Γ) : Sv B W (fun _ σ H => tMkO C (spX1 C f) [] aa σ H fun cls dd H' => W cls dd σ H') Γ P := fun D σ G H E S =>
  ha σ G H _ S fun vs G1 H1 fw r => by
    cases r with
    | @cons y _ _ _ r1 r2 =>
      cases r2
      refine ⟨by show 1 ≤ 1000; decide, fun a hn => ⟨a, _, rfl, upd_same, fun dx hdx ne => ⟨rfl, dx, _, upd_same, exo_exd _ ne, ?_, ?_⟩⟩⟩
      · rw [upd_ne ne] at hdx; exact hdx
      · rw [upd_ne ne] at hdx
        rw [del_heap hn ne]
        have f2 := fw.trans (Fw.new (o := .xd [(f, y)]) fw.e hdx)
        exact E.xc ⟨C, [(f, d)]⟩ Γ _ _ σ _ _ k f2.g (S.step f2) ⟨rfl, .inr ⟨dx, _, rfl, upd_same, .cons (r1.mono (Fw.new (o := .xd [(f, y)]) fw.e hdx).g) .nil⟩⟩
theorem sv_raise2 (ha : EvA B aa Γ [d, e]) (k : P.xc ⟨C, [(g, e), (f, d)]⟩ Γ) : Sv B W (fun _ σ H => tMkO C (spX2 C f g) [] aa σ H fun cls dd H' => W cls dd σ H') Γ P := fun D σ G H E S =>
  ha σ G H _ S fun vs G1 H1 fw r => by
    cases r with
    | @cons y _ _ _ r1 r2 =>
      cases r2 with
      | @cons z _ _ _ r2 r3 =>
      cases r3
      refine ⟨by show 2 ≤ 1000; decide, fun a hn => ⟨a, _, _, rfl, upd_same, fun dx hdx ne => ⟨rfl, dx, _, ?_, upd_same, ?_, ?_⟩⟩⟩
      · rw [upd_ne (Ne.symm ne), upd_same]
      · rw [upd_ne ne] at hdx; exact hdx
      · rw [upd_ne ne] at hdx
        rw [del_heap2 hn ne]
        have f1 := Fw.new (o := .xd [(g, z), (f, y)]) fw.e hdx
        have f2 := fw.trans f1
        exact E.xc ⟨C, [(g, e), (f, d)]⟩ Γ _ _ σ _ _ k f2.g (S.step f2) ⟨rfl, .inr ⟨dx, _, rfl, upd_same, .cons (r2.mono f1.g) (.cons (r1.mono f1.g) .nil)⟩⟩

/-! ### try: .. except X as n: .. -/
def W0 : WX := fun _ _ _ _ => False
theorem sv_try_as {c : Value} {i : Nat} {tb : WX → TS} {ts : Addr → Value → Option Addr → TS} (hi : i < Γ.length)
    (hb : ∀ W', Sv B W' (tb W') Γ { P with xc := fun x Γx => (PySem.W.exmOne B.K (.ref x.C) c = some true ∧ Γx.length = Γ.length ∧ (∀ a d, Sv B W0 (ts a (.ref x.C) (some d)) (Γx.set i (.dat (.xc a d x.fs))) { P with nx := fun Γ' => Γ'.length = Γ.length ∧ P.nx (Γ'.set i .un), bk := fun Γ' => Γ'.length = Γ.length ∧ P.bk (Γ'.set i .un), ct := fun Γ' => Γ'.length = Γ.length ∧ P.ct (Γ'.set i .un), xc := fun _ _ => False }) ∧ x.fs ≠ [])
      ∨ (PySem.W.exmOne B.K (.ref x.C) c = some false ∧ P.xc x Γx) }) : Sv B W (fun D σ H => tb (wAs B.K c i ts W D) D σ H) Γ P := fun D σ G H E S => by
  refine hb (wAs B.K c i ts W D) D σ G H ⟨E.nx, E.bk, E.ct, E.rt, fun x Γx cls dd σ' G' H' k s S' xo => ?_, E.rm⟩ S
  obtain ⟨rfl, xo⟩ := xo
  rcases k with ⟨hx, hl, hs, hne⟩ | ⟨hx, hk⟩
  · refine ⟨true, hx, fun _ a ha => ?_, fun z => Bool.noConfusion z⟩
    rcases xo with ⟨h0, _⟩ | ⟨dxa, vs, rfl, hd, rf⟩
    · exact absurd h0 hne
    · have hil : i < Γx.length := by rw [hl]; exact hi
      refine hs a dxa _ _ G' H' ⟨fun Γ3 σ3 G3 H3 q s3 S3 => ?_, fun Γ3 σ3 G3 H3 q s3 S3 => ?_, fun Γ3 σ3 G3 H3 q s3 S3 => ?_, E.rt, fun _ _ _ _ _ _ _ z => z.elim, E.rm⟩ (S'.set hil (.xc hd rf))
      · exact E.nx _ _ G3 H3 q.2 (s.trans s3) (S3.forget (by rw [q.1]; exact hi))
      · exact E.bk _ _ G3 H3 q.2 (s.trans s3) (S3.forget (by rw [q.1]; exact hi))
      · exact E.ct _ _ G3 H3 q.2 (s.trans s3) (S3.forget (by rw [q.1]; exact hi))
  · exact ⟨false, hx, (fun z => Bool.noConfusion z), fun _ => E.xc x Γx _ dd σ' G' H' hk s S' ⟨rfl, xo⟩⟩
/-- try: .. except X: .. -/
theorem sv_try_only {c : Value} {tb : WX → TS} {ts : Addr → Value → Option Addr → TS}
    (hb : ∀ W', Sv B W' (tb W') Γ { P with xc := fun x Γx => (PySem.W.exmOne B.K (.ref x.C) c = some true ∧ (∀ a dd, Sv B W0 (ts a (.ref x.C) dd) Γx { P with xc := fun _ _ => False }))
      ∨ (PySem.W.exmOne B.K (.ref x.C) c = some false ∧ P.xc x Γx) }) : Sv B W (fun D σ H => tb (wOnly B.K c ts W D) D σ H) Γ P := fun D σ G H E S => by
  refine hb (wOnly B.K c ts W D) D σ G H ⟨E.nx, E.bk, E.ct, E.rt, fun x Γx cls dd σ' G' H' k s S' xo => ?_, E.rm⟩ S
  obtain ⟨rfl, xo⟩ := xo
  rcases k with ⟨hx, hs⟩ | ⟨hx, hk⟩
  · refine ⟨true, hx, fun _ a ha => ?_, fun z => Bool.noConfusion z⟩
    exact hs a dd D σ' G' H' ⟨fun Γ3 σ3 G3 H3 q s3 => E.nx _ _ G3 H3 q (s.trans s3), fun Γ3 σ3 G3 H3 q s3 => E.bk _ _ G3 H3 q (s.trans s3), fun Γ3 σ3 G3 H3 q s3 => E.ct _ _ G3 H3 q (s.trans s3), E.rt, fun _ _ _ _ _ _ _ z => z.elim, E.rm⟩ S'
  · exact ⟨false, hx, (fun z => Bool.noConfusion z), fun _ => E.xc x Γx _ dd σ' G' H' hk s S' ⟨rfl, xo⟩⟩
/-- e.f of a caught one -/
theorem ev_xf {a dd : Addr} {fs : List (Str × D)} (h : Ev B te Γ (.xc a dd fs)) (hl : fs.lookup f = some d) : Ev B (tXf a (.ref C) (some dd) C f te) Γ d := fun σ G H Q S q =>
  h σ G H _ S fun v G1 H1 f1 r => by
    cases r with
    | xc h1 r1 =>
      obtain ⟨v, e, r⟩ := r1.lookup hl
      exact ⟨rfl, rfl, dd, _, v, rfl, f1.e _ _ h1, e, q v G1 H1 f1 r⟩
end

/-! ### isinstance -/
section
variable {prog : Program} {w : World} {A : Around} {E : Value → Shared → Prop} {s : Shared} {K : PySem.W.Frag} {x D : Addr} {ox : Obj} {od : Option Obj}
open PySem.W in
/-- the class of a caught exception with a dict of its own -/
theorem xc_class {Q : Option Value → Shared → Prop} (C : ExcC K D) (X : K.In s.heap) (I : InstAt s.heap x ox D od) (h : Q (some (.ref D)) { s with toks := s.toks + 1 }) : wpAny (model prog w) A (getAttr? (.ref x) "__class__") Q E s := by
  have hf : findObj K D od "__class__" = some (.bind (.builtin "getset_descriptor.__get__") (.builtin "object.__class__")) := by
    obtain ⟨cd, hcl, _⟩ := any_some C.hd
    unfold findObj
    rw [hcl, Option.bind_some, C.ha, Option.bind_some]
    simp [C.hn, C.ht]
  obtain ⟨hp, g, d, t, os⟩ := s
  have L0 := I.type (M := model prog w)
  have L1 := looks_findIn (M := model prog w) X C.hg
  have L2 := looks_findIn (M := model prog w) X C.hk
  have L3 := looks_find (M := model prog w) X I hf
  have sub : Looks (model prog w) hp (isInstance (.ref x) (.type "BaseException")) true := L0.andThen (looks_subIn X C.hs)
  have hx0 : (false && onTheHeap (Value.builtin "BaseException.__getattribute__")) = false := rfl
  have hx2 : (Value.builtin "BaseException.__getattribute__" == Value.builtin "object.__getattribute__") = false := by decide +kernel
  have hx1 : (onTheHeap (Value.ref D) && Value.builtin "BaseException.__getattribute__" == Value.builtin "object.__getattribute__") = false := by rw [hx2]; rfl
  unfold getAttr? getAttrBy? getAttrBy
  refine wpAny_bind (wpAny_mkText (wpAny_bind (wpAny_attempt (wpAny_holding (wpAny_bind (L0.at (wpAny_bind (L1.at ?_))))))))
  show wpAny _ _ (if (onTheHeap (Value.ref D) && Value.builtin "BaseException.__getattribute__" == Value.builtin "object.__getattribute__") = true then _ else _) _ _ _
  rw [hx1, if_neg Bool.false_ne_true]
  unfold getAttrByItsOwn hookBefore
  refine wpAny_bind ?_
  rw [if_pos (show onTheHeap (Value.ref D) = true from rfl)]
  refine L2.at ?_
  refine wpAny_bind (wpAny_attempt (wpAny_holding ?_))
  unfold callGetattribute
  rw [hx0, if_neg Bool.false_ne_true]
  unfold boundAndCalled
  rw [PySem.F.excAttr_ValueError.ga.bind (.ref x)]
  refine wpAny_bind (wpAny_pure ?_)
  show wpAny _ _ (call (.builtin "BaseException.__getattribute__") [.ref x, .str "__class__" t]) _ _ _
  refine wpAny_call (codeAny_call_builtin PySem.F.excAttr_ValueError.ga.plain PySem.F.entry_bexc_ga ?_)
  refine @check_slot (model prog w) _ _ ⟨hp, g, d, t + 1, os⟩ "BaseException.__getattribute__" "BaseException" "__getattribute__" (.ref x) [.str "__class__" t] [] _ (by decide +kernel) (by decide +kernel) sub (PySem.F.args_bexc_ga (.ref x) (.str "__class__" t)) ?_
  unfold Builtin.«object.__getattribute__»
  refine wpAny_bind (wpAny_of_eq (a := ((Value.ref x : Value), [Value.str "__class__" t])) (by first | rfl | (simp only [slotArgs]; rfl)) ?_)
  refine wpAny_bind (wpAny_pure (wpAny_bind (L0.at (wpAny_bind (L3.at ?_)))))
  show wpAny _ _ (holding [Value.builtin "object.__class__"] (call (.builtin "getset_descriptor.__get__") [.builtin "object.__class__", .ref x, .ref D]) >>= ret) _ _ _
  refine wpAny_bind (wpAny_holding (wpAny_call (class_get (s := ⟨hp, g, d, t + 1, os⟩) (ox := ox) (od := od) X I C.hm ?_)))
  refine wpAny_pure ?_
  show wpAny _ _ (handedOut (.ref D)) _ _ _
  rw [handedOut_of (v := .ref D) rfl]
  first
    | exact wpAny_pure (wpAny_pure h)
    | exact wpAny_pure h
    | exact wpAny_pure (wpAny_bind (wpAny_pure (wpAny_pure h)))
open PySem.W in
theorem xc_kit (C : ExcC K D) : KitX K (.ref x) (.ref D) (fun h => ∃ ox od, InstAt h x ox D od) where
  ty := fun _ _ _ ⟨_, _, I⟩ => I.type
  it := fun _ _ X _ => by
    obtain ⟨cdD, hcD, _⟩ := any_some C.hd
    unfold clsIn at hcD
    split at hcD
    · rename_i c' d' cd' sl' ho
      intro A' Q' E' s' k q
      unfold isType loadHead
      exact wpAny_bind (wpAny_loadPart (k _ _ (X _ _ ho)) (wpAny_pure q))
    · cases hcD
  ne := fun h tp dd its n sl X htp => by
    obtain ⟨cdD, hcD, _⟩ := any_some C.hd
    refine Bool.eq_false_iff.mpr fun q => ?_
    have e : D = tp := Value.ref.inj (beq_iff_eq.mp q)
    subst e
    unfold clsIn at hcD
    split at hcD
    · rename_i c' d' cd' sl' ho
      have z := (X _ _ ho).symm.trans htp
      cases z
    · cases hcD
  ca := fun X ⟨_, _, I⟩ k => xc_class C X I k
end
/-- isinstance(e, c), e the exception that the suite holds, its dict at dd -/
def rIsX (K : PySem.W.Frag) (D a dd : Addr) : List V → Hp → VK → Prop := fun xs H Q => ∃ (c : V) (cv : Value) (b : Bool) (fs : List (Str × V)), xs = [.ref a, c] ∧ ClsV c cv ∧ H dd = some (.xd fs) ∧ PySem.W.kitOne K (.ref D) cv = some b ∧ Q (.bl b) H
theorem call_isX {X : Cx} {a D dd : Addr} {oe : Obj} {pn : List (Addr × Obj)} (C : ExcC X.K D) (hz : Zc (.ref D) (some dd) oe) (hf : ∃ vs, oe.data = .fields vs) : CallR (X.suite a ((a, oe) :: pn)) (.builtin "isinstance") (rIsX X.K D a dd) := by
  intro pins s σ H xs us Q I r h
  obtain ⟨c, cv, b, fs, rfl, hcv, hd, e, q⟩ := h
  cases r with
  | cons rx rr =>
    cases rr with
    | cons rt rr =>
      cases rr
      cases rx
      have ec := hcv.eq rt
      subst ec
      obtain ⟨hget, _⟩ := I.pin (a, oe) (List.mem_append.mpr (.inl List.mem_cons_self))
      obtain ⟨vs, hv⟩ := hf
      have hxd : ObjOk X.prog X.w H s.heap dd (.xd fs) := I.hok dd _ hd
      obtain ⟨mA, ⟨od, es, ep, hod, _⟩, _⟩ := hxd
      have J : PySem.W.InstAt s.heap a oe D (some od) := by
        obtain ⟨oc, od2, oda, osl⟩ := oe
        obtain ⟨h1, h2⟩ := hz
        dsimp only at h1 h2 hv
        subst h1 h2 hv
        exact ⟨hget, rfl, rfl, hod⟩
      exact PySem.W.kia_one (xc_kit C) I.kIn ⟨_, _, J⟩ e (fun z => (nomatch z)) fun tk => ⟨.bl b, H, I.kept (t' := tk) fun _ _ z => z, rfl, q⟩
section
variable {B : Bx} {Γ : List Sl} {aa : TA} {te : TE} {d e : D} {C : Addr} {p : Bool} {t : Value}
theorem ev_isX {a dd D : Addr} {fs : List (Str × Z.D)} {c : V} {cv : Value} {dc : Z.D} (ha : EvA B aa Γ [.xc a dd fs, dc]) (hc : ∀ G v, Rp B.K G v dc → v = c) (hcv : ClsV c cv) (hk : PySem.W.kitOne B.K (.ref D) cv = some p) : Ev B (tCB (rIsX B.K D a dd) aa) Γ (.bl p) := fun σ G H Q S q =>
  ha σ G H _ S fun vs G1 H1 f r => by
    cases r with
    | cons r1 r2 =>
      cases r2 with
      | cons r2 r3 =>
        cases r3
        have e := hc _ _ r2
        subst e
        cases r1 with
        | xc h1 _ => exact ⟨_, cv, p, _, rfl, hcv, f.e _ _ h1, hk, q _ G1 H1 f (.bl p)⟩
def D.tyv : D → Option Value
  | .non => some (.type "NoneType")
  | .bl _ => some (.type "bool")
  | .int _ => some (.type "int")
  | .str _ => some (.type "str")
  | .lst _ => some (.type "list")
  | .tup _ => some (.type "tuple")
  | .dk _ => some (.type "dict")
  | _ => none
theorem Rp.tyx {K : PySem.W.Frag} {G H : Hp} {v : V} {d : D} {t : Value} (r : Rp K G v d) (s : Same G H) (e : d.tyv = some t) : TyX K H v t := by
  cases r with
  | non => cases e; exact .base .non
  | bl => cases e; exact .base (.bl _)
  | int => cases e; exact .base (.int _)
  | str => cases e; exact .base (.str _)
  | ty => cases e
  | ref => cases e
  | obj => cases e
  | xc => cases e
  | dk h1 _ =>
    cases e
    rcases h1 with h | ⟨o, h⟩
    · exact .base (.dK (s _ _ h))
    · exact .fDict (s _ _ h)
  | lst h1 _ =>
    cases e
    rcases h1 with (h | ⟨o, h⟩) | ⟨o, its, n, hk, hc, _⟩
    · exact .base (.lst (s _ _ h))
    · exact .base (.frz (s _ _ h))
    · exact .kList hk hc
  | tup h1 _ =>
    cases e
    rcases h1 with (h | ⟨o, h⟩) | ⟨o, its, n, hk, hc, _⟩
    · exact .base (.tup (s _ _ h))
    · exact .fTuple (s _ _ h)
    · exact .kTuple hk hc
theorem rc_isi {T : String} (h : d.tyv = some t) (hk : PySem.W.kitOne B.K t (.type T) = some p) : RC B (zIsi B.K) [d, .ty T] (.bl p) := fun xs G H Q s r q => by
  cases r with
  | cons r1 r2 =>
    cases r2 with
    | cons r2 r3 =>
      cases r3; cases r2
      exact ⟨_, _, t, .type T, p, rfl, .ty T, r1.tyx s h, hk, q _ G H (.refl s) (.bl p)⟩
end
end Z

/-! Z8: defs and classes of the text as bundles; the head's facts by tests of one's own. -/
namespace Z
open PySem PySem.Spec PyProof.Rows L2

/-! ### a def with its promise -/
structure Df (P : Program) (w : World) (K : PySem.W.Frag) (mg : Str → Option Value) (base : Heap) (x : Str) (ps : List Str) (k : Nat) (sp : Sp) : Prop where
  ex : ∃ f fd, FnOk P w K mg base (L2.CX P w) k f fd ps sp ∧ mg x = some (.ref f) ∧ PySem.W.keepIn K (.ref f) = true ∧ Binds K fd ps []
section
variable {X : Cx} {W : WX} {x : Str} {ps : List Str} {k : Nat} {sp : Sp} {p pos : Pos} {e : Expr} {es : List Expr} {t : TA}
theorem pe_callZ (D : Df X.prog X.w X.K X.mg X.base x ps k sp) (hr : Room k X.A) (tk : Takes X W) (ha : PA X (e :: es) t) (hg : Gl X x := by rfl) (hdb : (x == ("__debug__" : Str)) = false := by decide)
    (he : starEach (e :: es) X.env = (false, eval e X.env) :: starEach es X.env := by rfl) (hpl : (backTo pos (starEach es X.env)).any (·.1) = false := by rfl) :
    PE X (.Call (.Name x p) (e :: es) [] pos) (tCallS sp (WE W) t) := by
  obtain ⟨f, fd, G, gm, kp, b⟩ := D.ex
  exact pe_callS G hr hg gm kp b (fun σ => passAt tk σ) ha hdb he hpl
/-- where nothing may be let out -/
theorem pe_callN (D : Df X.prog X.w X.K X.mg X.base x ps k sp) (hr : Room k X.A) (ha : PA X (e :: es) t) (hg : Gl X x := by rfl) (hdb : (x == ("__debug__" : Str)) = false := by decide)
    (he : starEach (e :: es) X.env = (false, eval e X.env) :: starEach es X.env := by rfl) (hpl : (backTo pos (starEach es X.env)).any (·.1) = false := by rfl) :
    PE X (.Call (.Name x p) (e :: es) [] pos) (tCall sp [] E0 t) := by
  obtain ⟨f, fd, G, gm, kp, b⟩ := D.ex
  exact pe_call G hr hg gm kp b .nil passL ha hdb he hpl
theorem pe_callN0 (D : Df X.prog X.w X.K X.mg X.base x ps k sp) (hr : Room k X.A) (hg : Gl X x := by rfl) (hdb : (x == ("__debug__" : Str)) = false := by decide) :
    PE X (.Call (.Name x p) [] [] pos) (tCall sp [] E0 tNil) := by
  obtain ⟨f, fd, G, gm, kp, b⟩ := D.ex
  exact pe_call0 G hr hg gm kp b .nil passL hdb
end

/-! ### an own exception class with an __init__ that keeps its arguments -/
structure Dx (P : Program) (w : World) (K : PySem.W.Frag) (mg : Str → Option Value) (base : Heap) (x : Str) (C : Addr) (ps : List Str) (sp : Sp) : Prop where
  oex : OexC K C
  gm : mg x = some (.ref C)
  ex : ∃ fI fd, FnOk P w K mg base (L2.CX P w) 1 fI fd ps sp ∧ PySem.W.findIn K (.ref C) "__init__" = some (some (.ref fI)) ∧ PySem.W.typeIn K (.ref fI) = some (.type "function") ∧ Binds K fd ps []
section
variable {X : Cx} {W : WX} {x : Str} {C : Addr} {ps : List Str} {sp : Sp} {p pos pos2 : Pos} {e : Expr} {es : List Expr} {t : TA}
theorem ps_raiseZ (D : Dx X.prog X.w X.K X.mg X.base x C ps sp) (hc : X.calm = true) (hr : Room 2 X.A) (tk : Takes X W) (ha : PA X (e :: es) t) (hg : Gl X x := by rfl) (hdb : (x == ("__debug__" : Str)) = false := by decide)
    (he : starEach (e :: es) X.env = (false, eval e X.env) :: starEach es X.env := by rfl) (hpl : (backTo pos (starEach es X.env)).any (·.1) = false := by rfl) :
    PS X (.Raise (some (.Call (.Name x p) (e :: es) [] pos)) none pos2) (fun _ σ H => tMkO C sp [] t σ H fun cls d H' => W cls d σ H') := by
  obtain ⟨fI, fd, F1, iC, tI, b⟩ := D.ex
  exact ps_raise hc tk (pmk_oex D.oex iC tI F1 hr b .nil (fun _ _ _ _ _ _ _ h => by obtain ⟨_, _, _, _, _, _, _, _, _, _, _, _, z⟩ := h; exact z.elim) hg D.gm ha hdb he hpl)
end

/-! ### e.f and isinstance(e, c) in an except suite, whatever its class -/
def tXg (K : PySem.W.Frag) (a : Addr) (cls : Value) (d : Option Addr) (f : Str) (te : TE) : TE := fun σ H Q => te σ H fun x H1 => x = .ref a ∧ ∃ (C dd : Addr) (fs : List (Str × V)) (v : V), cls = .ref C ∧ d = some dd ∧ XfC K C ∧ PySem.W.findIn K (.ref C) f = some none ∧ H1 dd = some (.xd fs) ∧ fs.lookup f = some v ∧ Q v H1
theorem pe_xg {X : Cx} {a : Addr} {oe : Obj} {cls : Value} {d : Option Addr} {pn : List (Addr × Obj)} {e : Expr} {te : TE} {pos : Pos} {n : Str}
    (hz : Zc cls d oe) (hf : ∃ vs, oe.data = .fields vs) (he : PE (X.suite a ((a, oe) :: pn)) e te) (hb : attributeBase e n X.env (eval e X.env) = eval e X.env := by rfl) :
    PE (X.suite a ((a, oe) :: pn)) (.Attribute e n pos) (tXg X.K a cls d n te) := by
  refine ⟨fun pins s σ H Q I h => ?_⟩
  refine attr_of hb (thn (he.run pins s σ H _ I h) fun u s1 hh => ?_)
  obtain ⟨x, H1, I1, rx, ex, C, dd, fs, v, ec, ed, T, hno, ea, l, q⟩ := hh
  subst ex
  obtain rfl : u = Value.ref a := rx
  subst ec
  subst ed
  obtain ⟨ha, _⟩ := I1.pin (a, oe) (List.mem_append_left _ List.mem_cons_self)
  obtain ⟨vs, hd⟩ := hf
  have hx : ObjOk X.prog X.w H1 s1.heap dd (.xd fs) := I1.hok dd _ ea
  obtain ⟨mA, hns, hr⟩ := hx
  obtain ⟨od, ho, hl⟩ := lookIn_ns hns
  obtain ⟨u, hu, ru⟩ := RelO.some_of (v := v) (o := mA n) (by rw [← l]; exact hr n)
  have J : PySem.W.InstAt s1.heap a oe C (some od) := ⟨ha, hz.1, by unfold PySem.W.notCls; rw [hd] <;> rfl, by rw [hz.2]; exact ho⟩
  exact HandSPX.exc_get I1.kIn J T.ga T.gg T.exC (PySem.W.findObj_own T.hdC hno rfl (by rw [hl, hu])) (handed_of ru) ⟨v, H1, I1.tok _, ru, q⟩
def rIsG (K : PySem.W.Frag) (a : Addr) (cls : Value) (d : Option Addr) : List V → Hp → VK → Prop := fun xs H Q => ∃ (D dd : Addr), cls = .ref D ∧ d = some dd ∧ ExcC K D ∧ rIsX K D a dd xs H Q
theorem call_isG {X : Cx} {a : Addr} {cls : Value} {d : Option Addr} {oe : Obj} {pn : List (Addr × Obj)} (hz : Zc cls d oe) (hf : ∃ vs, oe.data = .fields vs) : CallR (X.suite a ((a, oe) :: pn)) (.builtin "isinstance") (rIsG X.K a cls d) := by
  intro pins s σ H xs us Q I r h
  obtain ⟨D, dd, rfl, rfl, C, q⟩ := h
  exact call_isX C hz hf pins s σ H xs us Q I r q
section
variable {B : Bx} {Γ : List Sl} {aa : TA} {te : TE} {d e : D} {C : Addr} {f : Str} {p : Bool}
theorem ev_xg {a dd : Addr} {fs : List (Str × D)} (h : Ev B te Γ (.xc a dd fs)) (T : XfC B.K C) (hno : PySem.W.findIn B.K (.ref C) f = some none) (hl : fs.lookup f = some d) : Ev B (tXg B.K a (.ref C) (some dd) f te) Γ d := fun σ G H Q S q =>
  h σ G H _ S fun v G1 H1 f1 r => by
    cases r with
    | xc h1 r1 =>
      obtain ⟨v, e, r⟩ := r1.lookup hl
      exact ⟨rfl, C, dd, _, v, rfl, rfl, T, hno, f1.e _ _ h1, e, q v G1 H1 f1 r⟩
theorem ev_isG {a dd : Addr} {fs : List (Str × D)} {E : Addr} (ha : EvA B aa Γ [.xc a dd fs, .ref E]) (T : ExcC B.K C) (hk : PySem.W.kitOne B.K (.ref C) (.ref E) = some p) : Ev B (tCB (rIsG B.K a (.ref C) (some dd)) aa) Γ (.bl p) := fun σ G H Q S q =>
  ha σ G H _ S fun vs G1 H1 f r => by
    cases r with
    | cons r1 r2 =>
      cases r2 with
      | cons r2 r3 =>
        cases r3
        cases r2
        cases r1 with
        | xc h1 _ => exact ⟨C, dd, rfl, rfl, T, _, .ref E, p, _, rfl, .own E, f.e _ _ h1, hk, q _ G1 H1 f (.bl p)⟩
end

/-! ### tests of the written part -/
def oexB (K : PySem.W.Frag) (C : Addr) : Bool := (match K.lookup C with
  | some ⟨.type t, _, .cls cd, sl⟩ => (match cd.mro, sl.toList with
    | .ref C' :: bm, [_, _, _, _, some (.builtin n), _] => decide (t = "type") && decide (C' = C) && decide (n = "ValueError.__new__") && !cd.hasDel && cd.hasDict && PySem.HandSPX.refsVE bm
    | _, _ => false)
  | _ => false) && (decide (PySem.W.findIn K (.ref C) "__setattr__" = some (some (.builtin "object.__setattr__"))) && (decide (PySem.W.subIn K (.ref C) (.type "BaseException") = some true) && (decide (PySem.W.typeIn K (.ref C) = some (.type "type")) && PySem.W.keepIn K (.ref C))))
theorem oexB_ok {K : PySem.W.Frag} {C : Addr} (h : oexB K C = true) : OexC K C := by
  unfold oexB at h
  rw [Bool.and_eq_true, Bool.and_eq_true, Bool.and_eq_true, Bool.and_eq_true] at h
  obtain ⟨h1, h2, h3, h4, h5⟩ := h
  refine ⟨?_, of_decide_eq_true h2, of_decide_eq_true h3, of_decide_eq_true h4, h5⟩
  split at h1
  · rename_i t dd cd sl ho
    split at h1
    · rename_i C' bm k0 k1 k2 k3 n k5 hm hs
      simp only [Bool.and_eq_true, decide_eq_true_eq, Bool.not_eq_true'] at h1
      obtain ⟨⟨⟨⟨⟨rfl, rfl⟩, rfl⟩, hdel⟩, hdict⟩, hre⟩ := h1
      obtain ⟨nm, bs, mro, ns, qn, hd, sn, sub, ab, col, del⟩ := cd
      dsimp only at hm hdel hdict
      subst hm hdel hdict
      have hsl : sl = #[k0, k1, k2, k3, some (.builtin "ValueError.__new__"), k5] := by
        obtain ⟨l⟩ := sl
        simp only at hs
        rw [hs]
      subst hsl
      exact ⟨nm, qn, ns, bs, bm, sn, sub, ab, col, dd, k0, k1, k2, k3, k5, ho, hre⟩
    · cases h1
  · cases h1
def excCB (K : PySem.W.Frag) (D : Addr) : Bool :=
  decide (PySem.W.findIn K (.ref D) "__getattribute__" = some (some (.builtin "BaseException.__getattribute__"))) && (decide (PySem.W.findIn K (.ref D) "__getattr__" = some none) && (decide (PySem.W.subIn K (.ref D) (.type "BaseException") = some true) && (PySem.W.hasDictIn K D &&
  (decide (PySem.W.findIn K (.ref D) "__class__" = some (some (.builtin "object.__class__"))) && (decide (PySem.W.specialIn K (.builtin "object.__class__") "__get__" = some (some (.builtin "getset_descriptor.__get__"))) && (decide (PySem.W.takesIn K (.builtin "object.__class__") = some true) && decide (PySem.W.mroIn K D (.type "object") = some true)))))))
theorem excCB_ok {K : PySem.W.Frag} {D : Addr} (h : excCB K D = true) : ExcC K D := by
  unfold excCB at h
  simp only [Bool.and_eq_true, decide_eq_true_eq] at h
  obtain ⟨h1, h2, h3, h4, h5, h6, h7, h8⟩ := h
  exact ⟨h1, h2, h3, h4, h5, h6, h7, h8⟩
/-- a class of the text: where it stands, its __init__ -/
def initB (K : PySem.W.Frag) (x : Str) : Bool := decide (PySem.W.findIn K (.ref (He.ga K x)) "__init__" = some (some (.ref (He.ma K (He.ga K x) "__init__")))) && decide (PySem.W.typeIn K (.ref (He.ma K (He.ga K x) "__init__")) = some (.type "function"))
theorem initB_ok {K : PySem.W.Frag} {x : Str} (h : initB K x = true) : PySem.W.findIn K (.ref (He.ga K x)) "__init__" = some (some (.ref (He.ma K (He.ga K x) "__init__"))) ∧ PySem.W.typeIn K (.ref (He.ma K (He.ga K x) "__init__")) = some (.type "function") := by
  unfold initB at h
  simp only [Bool.and_eq_true, decide_eq_true_eq] at h
  exact h
def gloB (K : PySem.W.Frag) (x : Str) : Bool := (He.Fa.glo x).ok K
def freeB (K : PySem.W.Frag) (x : Str) : Bool := (He.Fa.free x).ok K

/-! ### the Hook -/
def obsZ (ts : List (PySem.W.Frag → Bool)) (fn : List He.DefD) (K : PySem.W.Frag) : He.AlD := ((ts.all fun f => f K) && fn.all fun d => d.ok K, fn.map fun d => He.fnW K d.at_)
def SaysZ (ts : List (PySem.W.Frag → Bool)) (fn : List He.DefD) (K : PySem.W.Frag) : Prop := obsZ ts fn K = He.valD fn
def obsZG (n : Nat) (ts : List (PySem.W.Frag → Bool)) (fn : List He.DefD) (g : Addr → Option Obj) : He.AlD := obsZ ts fn (He.frG g (He.asD g n))
def hookZ (n : Nat) (ts : List (PySem.W.Frag → Bool)) (fn : List He.DefD) : PySem.W.Hook where
  α := He.AlD
  obs := fun s => obsZG n ts fn s.heap.get?
  val := fun _ => He.valD fn
  says := fun _ h => ∃ K : PySem.W.Frag, K.In h ∧ SaysZ ts fn K
  of := fun _ _ e => ⟨_, He.frG_in, e⟩
  keeps := fun _ _ _ ⟨K, hK, c⟩ k => ⟨K, PySem.W.Frag.In.keeps hK k, c⟩
theorem obsZG_eq {n : Nat} {ts : List (PySem.W.Frag → Bool)} {fn : List He.DefD} {g : Addr → Option Obj} {s : Shared} (h : ∀ a, g a = s.heap.get? a) : obsZG n ts fn g = (hookZ n ts fn).obs s := by
  have e : g = s.heap.get? := funext h
  rw [e] <;> rfl
section
variable {ts : List (PySem.W.Frag → Bool)} {fn : List He.DefD} {K : PySem.W.Frag}
theorem SaysZ.fact (c : SaysZ ts fn K) (i : Nat) {f : PySem.W.Frag → Bool} (h : ts[i]? = some f := by rfl) : f K = true := by
  have c1 := (He.ba (show ((ts.all fun f => f K) && fn.all fun d => d.ok K) = true from congrArg (fun z : He.AlD => z.1) c)).1
  exact List.all_eq_true.mp c1 f (List.mem_of_getElem? h)
theorem SaysZ.def_ (c : SaysZ ts fn K) (i : Nat) {d : He.DefD} (h : fn[i]? = some d := by rfl) : ∃ fd, FunD K d.name d.qual d.params d.body d.scope (d.dvs K) (d.kws K) (He.fAd K d.at_) fd := by
  have c2 := (He.ba (show ((ts.all fun f => f K) && fn.all fun d => d.ok K) = true from congrArg (fun z : He.AlD => z.1) c)).2
  have e : fn.map (fun d => He.fnW K d.at_) = fn.map He.DefD.val := congrArg (fun z : He.AlD => z.2) c
  have e2 : (fn.map fun d => He.fnW K d.at_)[i]? = (fn.map He.DefD.val)[i]? := by rw [e]
  rw [List.getElem?_map, List.getElem?_map, h] at e2
  exact He.DefD.funD (Option.some.inj e2) (List.all_eq_true.mp c2 d (List.mem_of_getElem? h))
end
/-- the entry: what the promise gives, as slots -/
def ini (N : List Str) (ds : List D) : List Sl := ds.map Sl.dat ++ List.replicate (N.length - ds.length) Sl.un
theorem ini_own (N : List Str) (ds : List D) (i : Nat) (o : Ow) : (ini N ds)[i]? ≠ some (.own o) := fun h => by
  unfold ini at h
  have hm := List.mem_of_getElem? h
  rw [List.mem_append, List.mem_map, List.mem_replicate] at hm
  rcases hm with ⟨d, _, e⟩ | ⟨_, e⟩ <;> cases e
theorem ini_mem (N : List Str) (ds : List D) (i : Nat) (M : Mem) : (ini N ds)[i]? ≠ some (.mem M) := fun h => by
  unfold ini at h
  have hm := List.mem_of_getElem? h
  rw [List.mem_append, List.mem_map, List.mem_replicate] at hm
  rcases hm with ⟨d, _, e⟩ | ⟨_, e⟩ <;> cases e
theorem stt_start {K : PySem.W.Frag} {G H : Hp} {N : List Str} {vs : List V} {ds : List D} (s : Same G H) (r : Rps K G vs ds) : Stt ⟨K, G, H, NoF⟩ (ini N ds) (L2.start N vs) G H := by
  have hl := r.length
  have hno := ini_own N ds
  have hnm := ini_mem N ds
  refine ⟨.refl s, by unfold L2.start ini; simp [hl], fun i t h => ?_, fun i j a h => ?_, fun i o a h => absurd h (hno i o), fun i M a w h => absurd h (hnm i M)⟩
  rotate_left
  · rcases h with ⟨o, h, _⟩ | ⟨M, w, h, _⟩
    · exact absurd h (hno i o)
    · exact absurd h (hnm i M)
  unfold ini at h
  by_cases hi : i < ds.length
  · rw [List.getElem?_append_left (by simpa using hi), List.getElem?_map] at h
    cases e : ds[i]? with
    | none => rw [e] at h; cases h
    | some d =>
      rw [e] at h
      cases h
      obtain ⟨v, h1, h2⟩ := r.get e
      unfold L2.start
      rw [List.getElem?_append_left (by simpa [hl] using hi), List.getElem?_map, h1]
      exact ⟨v, rfl, h2⟩
  · rw [List.getElem?_append_right (by simpa using hi)] at h
    rw [List.getElem?_replicate] at h
    split at h
    · cases h; trivial
    · cases h
/-- the end of a def: from the data's promise to the layer's -/
theorem sv_def {K : PySem.W.Frag} {F : Fn} {N : List Str} {t : TS} {vs : List V} {H : Hp} {Q : VK} {E : XK} (h : spz K F vs H Q E)
    (hb : ∀ G ds R X, F ds R X → Sv ⟨K, G, H, NoF⟩ (fun cls d _ H' => E cls d H') t (ini N ds) { nx := fun _ => R (.dat .non), rt := R, xc := fun x _ => X x }) : t { nx := fun _ H' => Q .non H', rt := Q } (L2.start N vs) H := by
  obtain ⟨G, ds, R, X, s, r, f, q, qe⟩ := h
  refine hb G ds R X f _ (L2.start N vs) G H ⟨fun Γ σ G' H' h _ S => q (.dat .non) _ G' H' h (S.fw.fw fun _ z => z) .non, fun _ _ _ _ z => z.elim, fun _ _ _ _ z => z.elim, fun s v G' H' h f r => q s v G' H' h (f.fw fun _ z => z) r, fun x Γ cls dd σ G' H' h _ S xo => qe x cls dd G' H' h (S.fw.fw fun _ z => z) xo, fun _ _ _ _ _ _ _ _ z => z.elim⟩ (stt_start s r)
/-- an __init__ of one field -/
theorem init1 {K : PySem.W.Frag} {C : Addr} {f : Str} {vs : List V} {H : Hp} {Q : VK} {E : XK} {a b : Str}
    (T : OexC K C) (hno : PySem.W.findIn K (.ref C) f = some none) (h : spX1 C f vs H Q E) : tOst K f (tVar 0) (tVar 1) { nx := fun _ H' => Q .non H', rt := Q } (L2.start [a, b] vs) H := by
  obtain ⟨c, y, rfl, hc, q⟩ := h
  exact ⟨y, rfl, _, rfl, c, C, rfl, T, hno, .inl ⟨hc, fun dx n ne => q dx n ne⟩⟩
theorem init2 {K : PySem.W.Frag} {C : Addr} {f g : Str} {vs : List V} {H : Hp} {Q : VK} {E : XK} {a b c : Str}
    (T : OexC K C) (hno : PySem.W.findIn K (.ref C) f = some none) (hno2 : PySem.W.findIn K (.ref C) g = some none) (h : spX2 C f g vs H Q E) :
    tSeq (tOst K f (tVar 0) (tVar 1)) (tOst K g (tVar 0) (tVar 2)) { nx := fun _ H' => Q .non H', rt := Q } (L2.start [a, b, c] vs) H := by
  obtain ⟨c, y, z, rfl, hc, q⟩ := h
  refine ⟨y, rfl, _, rfl, c, C, rfl, T, hno, .inl ⟨hc, fun dx n ne => ?_⟩⟩
  refine ⟨z, rfl, _, rfl, c, C, rfl, T, hno2, .inr ⟨dx, [(f, y)], upd_same, exo_exd _ ne, by show 1 ≤ 900; decide, q dx n ne⟩⟩
theorem spX1_len {C : Addr} {f : Str} (vs : List V) (H : Hp) (Q : VK) (E : XK) (h : spX1 C f vs H Q E) : vs.length = 2 := by
  obtain ⟨_, _, rfl, _⟩ := h; rfl
theorem spX2_len {C : Addr} {f g : Str} (vs : List V) (H : Hp) (Q : VK) (E : XK) (h : spX2 C f g vs H Q E) : vs.length = 3 := by
  obtain ⟨_, _, _, rfl, _⟩ := h; rfl
end Z

/-! Z9: names of the built-ins; methods of texts; truth. -/
namespace Z
open PySem PySem.Spec PyProof.Rows L2
theorem bt_len : bootBuiltins "len" = some (.builtin "len") := by decide +kernel
theorem bt_int : bootBuiltins "int" = some (.type "int") := by decide +kernel
theorem bt_str : bootBuiltins "str" = some (.type "str") := by decide +kernel
theorem bt_bool : bootBuiltins "bool" = some (.type "bool") := by decide +kernel
theorem bt_list : bootBuiltins "list" = some (.type "list") := by decide +kernel
theorem bt_tuple : bootBuiltins "tuple" = some (.type "tuple") := by decide +kernel
theorem bt_dict : bootBuiltins "dict" = some (.type "dict") := by decide +kernel
theorem bt_set : bootBuiltins "set" = some (.type "set") := by decide +kernel
theorem bt_ValueError : bootBuiltins "ValueError" = some (.type "ValueError") := by decide +kernel
theorem bt_isinstance : bootBuiltins "isinstance" = some (.builtin "isinstance") := by decide +kernel
theorem bt_min : bootBuiltins "min" = some (.builtin "min") := by decide +kernel
theorem bt_max : bootBuiltins "max" = some (.builtin "max") := by decide +kernel
theorem bt_sum : bootBuiltins "sum" = some (.builtin "sum") := by decide +kernel
theorem bt_all : bootBuiltins "all" = some (.builtin "all") := by decide +kernel
theorem bt_sorted : bootBuiltins "sorted" = some (.builtin "sorted") := by decide +kernel

section
open PySem.StrLaws Builtin Builtin.Str
theorem occ_count (x : Str) (c : Nat) : ∀ (m k : Nat) (st : Array Nat × Nat), st.2 ≤ k → st.1.size ≤ k → k + m = x.length + 1 →
    (forIn (List.range' k m) st (occBody x ⟨#[c]⟩ x.length (x.length + 1))).run.fst.size = st.1.size + (x.cps.toList.drop k).count c
  | 0, k, st, _, _, h => by
    have e : x.cps.toList.drop k = [] := List.drop_eq_nil_of_le (by rw [Array.length_toList]; show x.length ≤ k; omega)
    rw [e]
    rfl
  | m + 1, k, st, h1, h2, h => by
    rw [List.range'_succ, List.forIn_cons]
    unfold occBody
    have hk : k ≤ x.length := by omega
    by_cases hc : k + (⟨#[c]⟩ : Str).length ≤ x.length ∧ subAt x ⟨#[c]⟩ k = true
    · have hx := (subAt_one x c k).mp hc
      have cnd : (st.1.size < x.length + 1 ∧ st.2 ≤ k) ∧ k + (⟨#[c]⟩ : Str).length ≤ x.length := ⟨⟨by omega, h1⟩, hc.1⟩
      rw [if_pos ⟨cnd, hc.2⟩]
      have ih := occ_count x c m (k + 1) (st.1.push k, k + (⟨#[c]⟩ : Str).length) (by show k + 1 ≤ k + 1; omega) (by rw [Array.size_push]; omega) (by omega)
      have ed : x.cps.toList.drop k = c :: x.cps.toList.drop (k + 1) := by
        obtain ⟨hlt, e⟩ := List.getElem?_eq_some_iff.mp hx
        rw [← e]
        exact List.drop_eq_getElem_cons hlt
      rw [ed, List.count_cons_self]
      rw [Array.size_push] at ih
      have := ih
      show (forIn (List.range' (k + 1) m) (st.1.push k, k + (⟨#[c]⟩ : Str).length) (occBody x ⟨#[c]⟩ x.length (x.length + 1))).run.fst.size = _
      rw [ih]
      omega
    · have cnd : ¬ (((st.1.size < x.length + 1 ∧ st.2 ≤ k) ∧ k + (⟨#[c]⟩ : Str).length ≤ x.length) ∧ subAt x ⟨#[c]⟩ k = true) := fun q => hc ⟨q.1.2, q.2⟩
      rw [if_neg cnd]
      have ih := occ_count x c m (k + 1) st (by omega) (by omega) (by omega)
      show (forIn (List.range' (k + 1) m) (st.1, st.2) (occBody x ⟨#[c]⟩ x.length (x.length + 1))).run.fst.size = _
      rw [show (st.1, st.2) = st from rfl, ih]
      have hx : x.cps.toList[k]? ≠ some c := fun q => hc ((subAt_one x c k).mpr q)
      by_cases hlt : k < x.cps.toList.length
      · rw [List.drop_eq_getElem_cons hlt, List.count_cons]
        rw [List.getElem?_eq_getElem hlt] at hx
        have : (x.cps.toList[k] == c) = false := by
          simp only [beq_eq_false_iff_ne]
          exact fun q => hx (congrArg some q)
        rw [this]
        simp
      · rw [List.drop_eq_nil_of_le (by omega), List.drop_eq_nil_of_le (by omega)]
theorem txt_count (a : List Nat) (c : Nat) : Txt.count (tx a) (tx [c]) = (a.count c : Nat) := by
  unfold Txt.count
  have h := occ_count (tx a) c ((tx a).length + 1) 0 (#[], 0) (Nat.le_refl _) (by simp) (by omega)
  rw [List.drop_zero, tx_cps] at h
  have e : (occurrences (tx a) (tx [c]) 0 (tx a).length ((tx a).length + 1)).length = a.count c := by
    rw [occ_eq]
    rw [Array.length_toList]
    have h2 : (tx a).length + 1 - 0 = (tx a).length + 1 := by omega
    rw [h2]
    have h3 : _ = (#[] : Array Nat).size + List.count c a := h
    rw [show (#[] : Array Nat).size + List.count c a = List.count c a from Nat.zero_add _] at h3
    exact h3
  rw [e]
end
/-- joined by a separator -/
def joinL (sep : List Nat) : List (List Nat) → List Nat
  | [] => []
  | [x] => x
  | x :: y :: r => x ++ sep ++ joinL sep (y :: r)
theorem join_fold (sep : List Nat) : ∀ (r : List (List Nat)) (acc x : List Nat), (r.map tx).foldl (fun acc p => acc ++ (tx sep).cps ++ p.cps) (acc ++ x).toArray = (acc ++ joinL sep (x :: r)).toArray
  | [], acc, x => by simp [joinL]
  | y :: r, acc, x => by
    rw [List.map_cons, List.foldl_cons]
    have e : (acc ++ x).toArray ++ (tx sep).cps ++ (tx y).cps = (acc ++ x ++ sep ++ y).toArray := by simp [tx]
    rw [e, join_fold sep r (acc ++ x ++ sep) y]
    simp [joinL]
theorem txt_join (sep : List Nat) (xs : List (List Nat)) : Txt.join (tx sep) (xs.map tx) = tx (joinL sep xs) := by
  cases xs with
  | nil => rfl
  | cons x r =>
    have h := join_fold sep r [] x
    show (⟨_⟩ : Str) = ⟨_⟩
    congr 1
def rCountT : V → List V → Hp → VK → Prop := fun x xs H Q => ∃ a b, x = .str a ∧ xs = [.str b] ∧ Q (.int (Txt.count a b)) H
def zJoin (K : PySem.W.Frag) : V → List V → Hp → VK → Prop := fun x xs H Q => ∃ a p, ∃ ys : List Str, x = .str a ∧ xs = [.ref p] ∧ (SqL K H p (ys.map V.str) ∨ SqT K H p (ys.map V.str)) ∧ (ys.map (·.length)).sum + ys.length * a.length ≤ 16777216 ∧ Q (.str (Txt.join a ys)) H
theorem mt_zCountT {X : Cx} : MtR X "str.count" rCountT := mt_count
theorem mt_zJoin {X : Cx} : MtR X "str.join" (zJoin X.K) := mt_join
def zTru (K : PySem.W.Frag) (ta : TE) : TT := fun σ H Q => ta σ H fun x H' => ∃ k, TruV K x H' k ∧ Q k H'
theorem pt_zTru {X : Cx} {a : Expr} {ta : TE} (ha : PE X a ta) (he : ∀ whole, isTrue a X.env whole = (do let v ← whole; standAt a.pos; holding [v] (truthy v)) := by intro _; rfl) : PT X a (zTru X.K ta) := pt_truth ha he
section
variable {B : Bx} {Γ : List Sl} {to te : TE} {aa : TA} {a : List Nat} {as ds : List D} {c : D}
theorem ev_bmT {x : Str} {r : V → List V → Hp → VK → Prop} (ho : Ev B to Γ (.str x)) (ha : EvA B aa Γ as) (hr : RM B r (.str x) as c) : Ev B (tBM B.K "str" r to aa) Γ c := fun σ G H Q S q =>
  ho σ G H _ S fun v G1 H1 f1 r1 => by
    cases r1
    exact ⟨rfl, ha σ G1 H1 _ (S.step f1) fun vs G2 H2 f2 r2 => hr _ vs G2 H2 Q f2.e (.str _) r2 fun v G3 H3 f3 r3 => q v G3 H3 ((f1.trans f2).trans f3) r3⟩
theorem ev_bmT0 {x : Str} {r : V → List V → Hp → VK → Prop} (ho : Ev B to Γ (.str x)) (hr : RM B r (.str x) [] c) : Ev B (tBM0 B.K "str" r to) Γ c := fun σ G H Q S q =>
  ho σ G H _ S fun v G1 H1 f1 r1 => by
    cases r1
    exact ⟨rfl, hr _ [] G1 H1 Q f1.e (.str _) .nil fun v G3 H3 f3 r3 => q v G3 H3 (f1.trans f3) r3⟩
theorem rm_count {n : Nat} : RM B rCountT (.str (tx a)) [.str (tx [n])] (.int (a.count n : Nat)) := fun x xs G H Q s r rs q => by
  cases r
  cases rs with
  | cons r1 r2 =>
    cases r1; cases r2
    exact ⟨_, _, rfl, rfl, by rw [txt_count]; exact q _ G H (.refl s) (.int _)⟩
theorem map_tx (xs : List (List Nat)) : (xs.map fun a => V.str (tx a)) = (xs.map tx).map V.str := by rw [List.map_map]; rfl
theorem rm_join {xs : List (List Nat)} (h : (xs.map (·.length)).sum + xs.length * a.length ≤ 16777216) : RM B (zJoin B.K) (.str (tx a)) [.lst (xs.map fun x => .str (tx x))] (.str (tx (joinL a xs))) := fun x ys G H Q s r rs q => by
  cases r
  cases rs with
  | cons r1 r2 =>
    cases r2
    cases r1 with
    | lst h1 r1 =>
      have e := rps_txs_inv r1
      subst e
      rw [map_tx] at h1
      refine ⟨_, _, xs.map tx, rfl, rfl, .inl (same_l s h1), ?_, by rw [txt_join]; exact q _ G H (.refl s) (.str _)⟩
      have e2 : ((xs.map tx).map (·.length)) = xs.map (·.length) := by rw [List.map_map]; exact List.map_congr_left fun x _ => tx_length x
      rw [e2, List.length_map, tx_length]
      exact h
theorem evt_truL (h : Ev B te Γ (.lst ds)) : EvT B (zTru B.K te) Γ (!ds.isEmpty) := fun σ G H Q S q =>
  h σ G H _ S fun v G1 H1 f r => by
    cases r with
    | lst h1 r1 => exact ⟨_, .inl ⟨_, same_l f.e h1, rfl⟩, by
        have := r1.length
        rename_i xs
        have e : (!xs.isEmpty) = !ds.isEmpty := by cases r1 <;> rfl
        rw [e]; exact q G1 H1 f⟩
end
end Z

/-! Z10: tactics by name; cell and digits, the helpers of every law. -/
namespace Z
open PySem PySem.Spec PyProof.Rows L2
theorem log2_lt {n k : Nat} (h : n < 2 ^ k) (hk : 0 < k) : n.log2 < k := by
  by_cases h0 : n = 0
  · subst h0; exact hk
  · exact (Nat.log2_lt h0).mpr h
theorem cmul_s {i j : Int} (h1 : -(2 ^ 200) < i) (h2 : i < 2 ^ 200) (h3 : -(2 ^ 200) < j) (h4 : j < 2 ^ 200) : CMulW i j := by
  have a := log2_lt (n := i.natAbs) (k := 200) (by omega) (by decide)
  have b := log2_lt (n := j.natAbs) (k := 200) (by omega) (by decide)
  unfold CMulW
  omega
theorem cdiv_s {i j : Int} (h1 : 0 < j) (h2 : j < 2 ^ 200) : CDivW i j := by
  have b := log2_lt (n := j.natAbs) (k := 200) (by omega) (by decide)
  unfold CDivW
  omega
theorem ru_neg {B : Bx} {i : Int} : RU B (rU fun i => .int (-i)) (.int i) (.int (-i)) := fun x G H Q s rx q => by
  cases rx; exact ⟨i, rfl, q _ G H (.refl s) (.int _)⟩
theorem ev_tupX {B : Bx} {Γ : List Sl} {aa : TA} {ds : List D} (ha : EvA B aa Γ ds) (hl : ds.length ≤ 16777216) : Ev B (tTup aa) Γ (.tup ds) := ev_tup ha hl
theorem evo_lstX {B : Bx} {Γ : List Sl} {aa : TA} {ds : List D} (ha : EvA B aa Γ ds) (hl : ds.length ≤ 16777216) : EvO B (tLst aa) Γ (.lst ds) := evo_lst ha hl
local macro_rules | `(tactic| walk_at "at") => `(tactic| first | with_reducible exact SetAt.zero | ((with_reducible apply SetAt.succ); walk_at "at"))
local macro_rules | `(tactic| walk_at "sd") => `(tactic| first | (with_reducible assumption) | omega | decide | exact Nat.le_of_ble_eq_true rfl)
local macro_rules | `(tactic| walk_at "cm") => `(tactic| first | (with_reducible assumption) | (refine cmul_s ?_ ?_ ?_ ?_ <;> first | omega | decide))
local macro_rules | `(tactic| walk_at "rv") => `(tactic| first
  | with_reducible exact rv_add | ((with_reducible apply rv_addT); walk_at "sd") | ((with_reducible apply rv_addL); walk_at "sd") | ((with_reducible apply rv_addU); walk_at "sd")
  | with_reducible exact rv_sub | ((with_reducible apply rv_mul); walk_at "cm") | ((with_reducible apply rv_mulT) <;> walk_at "sd")
  | ((with_reducible apply rv_div); first | assumption | exact cdiv_s (by walk_at "sd") (by walk_at "sd")) | ((with_reducible apply rv_mod); walk_at "sd") | ((with_reducible apply rv_pow); exact ⟨by decide, by decide, by decide⟩)
  | with_reducible exact rv_lt | with_reducible exact rv_le | with_reducible exact rv_gt | with_reducible exact rv_ge
  | with_reducible exact rv_eqI | with_reducible exact rv_eqT | with_reducible exact rv_eqB | with_reducible exact rv_neI | with_reducible exact rv_neT | with_reducible exact rv_neB
  | ((with_reducible apply rv_ixL); first | assumption | exact rfl) | ((with_reducible apply rv_ixU); first | assumption | exact rfl) | ((with_reducible apply rv_ixT); (focus (first | assumption | exact rfl)); walk_at "sd")
  | with_reducible exact rv_isN | with_reducible exact rv_isN' | with_reducible exact rv_notN'
  | with_reducible exact rv_inT | with_reducible exact rv_ninT | with_reducible exact rv_inTs | with_reducible exact rv_ninTs | with_reducible assumption)
local macro_rules | `(tactic| walk_at "rc") => `(tactic| first | with_reducible exact rc_int | with_reducible exact rc_intB | with_reducible exact rc_lenL | with_reducible exact rc_lenU | ((with_reducible apply rc_lenT); walk_at "sd") | with_reducible exact rc_min | with_reducible exact rc_max | ((with_reducible apply rc_isi); (focus (exact rfl)); decide) | with_reducible assumption)
local macro_rules | `(tactic| walk_at "rs") => `(tactic| first | with_reducible exact rs_slL | with_reducible exact rs_slU | ((with_reducible apply rs_slT); walk_at "sd"))
local macro_rules | `(tactic| walk_at "ru") => `(tactic| first | ((with_reducible apply ru_rev); walk_at "sd") | with_reducible exact ru_neg)
local macro_rules | `(tactic| walk_at "rm") => `(tactic| first | with_reducible exact rm_count | with_reducible assumption)
local macro_rules | `(tactic| walk_at "eo") => `(tactic| first
  | ((with_reducible apply evo_lstX); (focus (walk_at "ev")); exact Nat.le_of_ble_eq_true rfl)
  | ((with_reducible apply evo_callS); (focus (walk_at "ev")); (focus (walk_at "fn")))
  | with_reducible assumption)
local macro_rules | `(tactic| walk_at "ev") => `(tactic| first
  | ((with_reducible apply ev_var); exact rfl)
  | with_reducible exact ev_int | with_reducible exact ev_str | with_reducible exact ev_bl | with_reducible exact ev_non | with_reducible exact ev_ty | with_reducible exact ev_ref
  | with_reducible exact eva_nil
  | ((with_reducible apply eva_cons); (focus (walk_at "ev")); (focus (walk_at "ev")))
  | ((with_reducible apply ev_op); (focus (walk_at "ev")); (focus (walk_at "ev")); (focus (walk_at "rv")))
  | ((with_reducible apply ev_cb); (focus (walk_at "ev")); (focus (walk_at "rc")))
  | ((with_reducible apply evt_test); (focus (walk_at "ev")))
  | ((with_reducible apply evt_b); (focus (walk_at "ev")))
  | ((with_reducible apply evt_not); (focus (walk_at "ev")))
  | ((with_reducible apply evt_and); (focus (walk_at "ev")); (focus (intro _; walk_at "ev")))
  | ((with_reducible apply evt_or); (focus (walk_at "ev")); (focus (intro _; walk_at "ev")))
  | with_reducible exact evt_yes
  | ((with_reducible apply ev_and); (focus (walk_at "ev")); (focus (intro _; walk_at "ev")))
  | ((with_reducible apply ev_or); (focus (walk_at "ev")); (focus (intro _; walk_at "ev")))
  | ((with_reducible apply ev_not); (focus (walk_at "ev")))
  | ((with_reducible apply ev_callS); (focus (walk_at "ev")); (focus (walk_at "fn")))
  | ((with_reducible apply ev_call); (focus (walk_at "ev")); (focus (walk_at "fn")))
  | ((with_reducible apply ev_tupX); (focus (walk_at "ev")); exact Nat.le_of_ble_eq_true rfl)
  | with_reducible exact evp_none
  | ((with_reducible apply evp_some); (focus (walk_at "ev")))
  | ((with_reducible apply ev_sl); (focus (walk_at "ev")); (focus (walk_at "ev")); (focus (walk_at "ev")); (focus (walk_at "rs")))
  | ((with_reducible apply ev_un); (focus (walk_at "ev")); (focus (walk_at "ru")))
  | ((with_reducible apply ev_bmT); (focus (walk_at "ev")); (focus (walk_at "ev")); (focus (walk_at "rm")))
  | ((with_reducible apply ev_bmT0); (focus (walk_at "ev")); (focus (walk_at "rm")))
  | ((with_reducible apply evi_list); (focus (walk_at "ev")))
  | ((with_reducible apply evi_tup); (focus (walk_at "ev")))
  | ((with_reducible apply evi_str); (focus (walk_at "ev")))
  | ((with_reducible apply evi_rng1); (focus (walk_at "ev")); (focus (constructor <;> walk_at "sd")))
  | ((with_reducible apply evi_rng2); (focus (walk_at "ev")); (focus (constructor <;> walk_at "sd")); (focus (constructor <;> walk_at "sd")))
  | ((with_reducible apply Ev.of_own); walk_at "eo")
  | with_reducible assumption)
local macro_rules | `(tactic| walk_at "st") => `(tactic| repeat (first
  | (with_reducible apply sv_seq)
  | ((with_reducible apply sv_set); (focus (walk_at "ev")); (focus (walk_at "at")))
  | ((with_reducible apply sv_drop); (focus (walk_at "ev")))
  | (with_reducible apply sv_next)))
local macro_rules | `(tactic| walk_at "eq") => `(tactic| (with_reducible apply ev_eq); (focus (walk_at "ev")); rfl)
section
variable {B : Bx} {W : WX} {Γ : List Sl} {P : Po} {tb : TS} {g : TG} {wi : TI}
/-- for, by the index -/
theorem sv_forI {α : Type} (enc : α → D) (xs : List α) (hi : EvI B wi Γ (xs.map enc)) (V : Nat → List Sl → Prop) (h0 : V 0 Γ) (hd : ∀ Γ', V xs.length Γ' → P.nx Γ')
    (hs : ∀ i x Γ', xs[i]? = some x → V i Γ' → ∃ Γ2, EvG B g Γ' (enc x) Γ2 ∧ Sv B W tb Γ2 { P with nx := V (i + 1), ct := V (i + 1), bk := P.nx }) : Sv B W (tFor wi g tb) Γ P :=
  sv_for enc xs hi (fun r Γ' => ∃ i, i ≤ xs.length ∧ r = xs.drop i ∧ V i Γ') ⟨0, Nat.zero_le _, rfl, h0⟩
    (fun Γ' ⟨i, hl, e, v⟩ => by
      have : xs.length ≤ i := List.drop_eq_nil_iff.mp e.symm
      have e2 : i = xs.length := Nat.le_antisymm hl this
      subst e2
      exact hd Γ' v)
    fun x r Γ' _ ⟨i, hl, e, v⟩ => by
      have hlt : i < xs.length := by
        rcases Nat.lt_or_ge i xs.length with h | h
        · exact h
        · rw [List.drop_eq_nil_of_le h] at e; cases e
      rw [List.drop_eq_getElem_cons hlt] at e
      injection e with e1 e2
      obtain ⟨Γ2, hg, hb⟩ := hs i x Γ' (by rw [List.getElem?_eq_getElem hlt, e1]) v
      exact ⟨Γ2, hg, sv_post hb (fun _ q => ⟨i + 1, hlt, e2, q⟩) (fun _ q => q) (fun _ q => q) (fun _ q => ⟨i + 1, hlt, e2, q⟩) fun _ _ q => q⟩
theorem sv_forR {n : Nat} (hi : EvI B wi Γ ((List.range n).map fun k => .int (k : Nat))) (V : Nat → List Sl → Prop) (h0 : V 0 Γ) (hd : ∀ Γ', V n Γ' → P.nx Γ')
    (hs : ∀ k Γ', k < n → V k Γ' → ∃ Γ2, EvG B g Γ' (.int (k : Nat)) Γ2 ∧ Sv B W tb Γ2 { P with nx := V (k + 1), ct := V (k + 1), bk := P.nx }) : Sv B W (tFor wi g tb) Γ P :=
  sv_forI _ (List.range n) hi V h0 (fun Γ' v => hd Γ' (by rw [List.length_range] at v; exact v)) fun i x Γ' hx v => by
    obtain ⟨hlt, e⟩ := List.getElem?_eq_some_iff.mp hx
    rw [List.length_range] at hlt
    rw [List.getElem_range] at e
    subst e
    exact hs i Γ' hlt v
end
/-! cell -/
def cellStep (s c : Int) : Int := (s * 31 + c % 1000003) % 1000003
def cellZ (ns : List Int) (k : Int) : Int := match ns[k.toNat]? with
  | some n => n % (10 ^ 60 * 10 ^ 60)
  | none => (ns.foldl cellStep 17 + 7) * (k + 3) * 69621 % 2147483647
theorem cellStep_lt (s c : Int) : 0 ≤ cellStep s c ∧ cellStep s c < 1000003 := ⟨Int.emod_nonneg _ (by decide), Int.emod_lt_of_pos _ (by decide)⟩
theorem cellZ_lt (ns : List Int) (k : Int) : 0 ≤ cellZ ns k ∧ cellZ ns k < 10 ^ 120 := by
  unfold cellZ
  split
  · exact ⟨Int.emod_nonneg _ (by decide), Int.emod_lt_of_pos _ (by decide)⟩
  · have h1 := Int.emod_nonneg ((List.foldl cellStep 17 ns + 7) * (k + 3) * 69621) (show (2147483647 : Int) ≠ 0 by decide)
    have h2 := Int.emod_lt_of_pos ((List.foldl cellStep 17 ns + 7) * (k + 3) * 69621) (show (0 : Int) < 2147483647 by decide)
    omega
def ztCell (K : PySem.W.Frag) : TS :=
  (tSeq (tIfS (tTest (tOp zLt (tVar 1) (tCB (zLen K) (tCons (tVar 0) tNil)))) (tRet (tOp zMod (tCB zInt (tCons (tOp (zIx K) (tVar 0) (tVar 1)) tNil)) (tOp zMul (tOp zPow (tC (.int 10)) (tC (.int 60))) (tOp zPow (tC (.int 10)) (tC (.int 60)))))) tNext)
  (tSeq (tAsg (tC (.int 17)) (gName 2))
  (tSeq (tFor (iList K (tVar 0)) (gName 3) (tAsg (tOp zMod (tCB zInt (tCons (tOp (zAdd K) (tOp zMul (tVar 2) (tC (.int 31))) (tOp zMod (tCB zInt (tCons (tVar 3) tNil)) (tC (.int 1000003)))) tNil)) (tC (.int 1000003))) (gName 2)))
  (tRet (tOp zMod (tCB zInt (tCons (tOp zMul (tOp zMul (tOp (zAdd K) (tVar 2) (tC (.int 7))) (tOp (zAdd K) (tVar 1) (tC (.int 3)))) (tC (.int 69621))) tNil)) (tC (.int 2147483647)))))))
def Fcell : Fn := fun ds R _ => ∃ (ns : List Int) (k : Int), ds = [.lst (ns.map .int), .int k] ∧ 0 ≤ k ∧ k < 2 ^ 62 ∧ R (.dat (.int (cellZ ns k)))
theorem pure_cell (B : Bx) (W : WX) (ds : List D) (R : Sl → Prop) (X : Xc → Prop) (h : Fcell ds R X) : Sv B W (ztCell B.K) (ini ["script", "k", "seed", "cell"] ds) { nx := fun _ => R (.dat .non), rt := R, xc := fun x _ => X x } := by
  obtain ⟨ns, k, rfl, h0, h1, hR⟩ := h
  show Sv B W _ [.dat (.lst (ns.map .int)), .dat (.int k), .un, .un] _
  refine sv_seq (sv_if (by walk_at "ev") (fun hk => ?_) fun hk => ?_)
  · rw [List.length_map] at hk
    have hlt : k.toNat < ns.length := by have := of_decide_eq_true hk; omega
    have hx : atI (ns.map D.int) k = some (.int ns[k.toNat]) := by
      have e : ((k.toNat : Nat) : Int) = k := by omega
      have h2 : atI (ns.map D.int) ((k.toNat : Nat) : Int) = some (.int ns[k.toNat]) := atI_ofNat (by rw [List.getElem?_map, List.getElem?_eq_getElem hlt]; rfl)
      rw [e] at h2
      exact h2
    have c1 : CMulW (10 ^ (60 : Int).toNat) (10 ^ (60 : Int).toNat) := cmul_s (by decide +kernel) (by decide +kernel) (by decide +kernel) (by decide +kernel)
    have c2 : (0 : Int) < 10 ^ (60 : Int).toNat * 10 ^ (60 : Int).toNat := by decide +kernel
    refine sv_ret (by walk_at "ev") ?_
    unfold cellZ at hR
    rw [List.getElem?_eq_getElem hlt] at hR
    exact hR
  · rw [List.length_map] at hk
    have hge : ns.length ≤ k.toNat := by have := of_decide_eq_false hk; omega
    refine sv_next ?_
    walk_at "st"
    refine sv_for D.int ns (by walk_at "ev") (fun r Γ' => ∃ (s : Int) (c : Sl), Γ' = [.dat (.lst (ns.map .int)), .dat (.int k), .dat (.int s), c] ∧ 0 ≤ s ∧ s < 1000003 ∧ ns.foldl cellStep 17 = r.foldl cellStep s) ⟨17, _, rfl, by decide, by decide, rfl⟩ ?_ ?_
    · rintro Γ' ⟨s, c, rfl, b1, b2, e⟩
      have hv : cellZ ns k = (s + 7) * (k + 3) * 69621 % 2147483647 := by
        unfold cellZ
        rw [List.getElem?_eq_none hge, e]
        rfl
      rw [hv] at hR
      refine sv_ret ?_ hR
      have c1 : CMulW (s + 7) (k + 3) := cmul_s (by omega) (by omega) (by omega) (by omega)
      have c2 : CMulW ((s + 7) * (k + 3)) 69621 := by
        have m1 : 0 ≤ (s + 7) * (k + 3) := Int.mul_nonneg (by omega) (by omega)
        have m2 : (s + 7) * (k + 3) ≤ 2 ^ 64 * 2 ^ 64 := Int.mul_le_mul (by omega) (by omega) (by omega) (by omega)
        exact cmul_s (by omega) (by omega) (by decide) (by decide)
      walk_at "ev"
    · rintro x r Γ' _ ⟨s, c, rfl, b1, b2, e⟩
      refine ⟨_, evg_name (by walk_at "at"), ?_⟩
      refine sv_set (by walk_at "ev") (by walk_at "at") ?_
      exact ⟨_, _, rfl, (cellStep_lt s x).1, (cellStep_lt s x).2, e⟩
/-! digits -/
def digA : Int → List Int → List Int
  | _, [] => []
  | r, s :: ss => r % s :: digA (r / s) ss
def digSeed (seed : Int) (k : Nat) : Int := (seed * 48271 + 974711 * (k : Nat) + 12345) % 2147483647
def digTwice (seed : Int) : Int := seed * (seed / 65537 + 3) % 2147483629
def digB : Int → Nat → List Int → List Int
  | _, _, [] => []
  | seed, k, s :: ss => digTwice (digSeed seed k) / 19 % s :: digB (digSeed seed k) (k + 1) ss
def digits (z : Int) (sizes : List Int) : List Int := if 10 ^ 18 ≤ z then digA (z - 10 ^ 18) sizes else digB (z % 2147483629) 0 sizes
theorem digA_len : ∀ (ss : List Int) (r : Int), (digA r ss).length = ss.length
  | [], _ => rfl
  | s :: ss, r => congrArg (· + 1) (digA_len ss (r / s))
theorem digB_len : ∀ (ss : List Int) (r : Int) (k : Nat), (digB r k ss).length = ss.length
  | [], _, _ => rfl
  | s :: ss, r, k => congrArg (· + 1) (digB_len ss _ _)
theorem digits_len (z : Int) (ss : List Int) : (digits z ss).length = ss.length := by
  unfold digits
  split
  · exact digA_len _ _
  · exact digB_len _ _ _
theorem digA_lt : ∀ (ss : List Int) (r : Int) (i : Nat) (s : Int), ss[i]? = some s → 0 < s → ∃ d, (digA r ss)[i]? = some d ∧ 0 ≤ d ∧ d < s
  | [], _, _, _, h, _ => by simp at h
  | t :: ss, r, 0, s, h, hs => by
    simp at h; subst h
    exact ⟨_, rfl, Int.emod_nonneg _ (by omega), Int.emod_lt_of_pos _ hs⟩
  | t :: ss, r, i + 1, s, h, hs => by
    obtain ⟨d, h1, h2⟩ := digA_lt ss (r / t) i s (by simpa using h) hs
    exact ⟨d, by simpa [digA] using h1, h2⟩
theorem digB_lt : ∀ (ss : List Int) (r : Int) (k : Nat) (i : Nat) (s : Int), ss[i]? = some s → 0 < s → ∃ d, (digB r k ss)[i]? = some d ∧ 0 ≤ d ∧ d < s
  | [], _, _, _, _, h, _ => by simp at h
  | t :: ss, r, k, 0, s, h, hs => by
    simp at h; subst h
    exact ⟨_, rfl, Int.emod_nonneg _ (by omega), Int.emod_lt_of_pos _ hs⟩
  | t :: ss, r, k, i + 1, s, h, hs => by
    obtain ⟨d, h1, h2⟩ := digB_lt ss (digSeed r k) (k + 1) i s (by simpa using h) hs
    exact ⟨d, by simpa [digB] using h1, h2⟩
theorem digits_lt (z : Int) (ss : List Int) (i : Nat) (s : Int) (h : ss[i]? = some s) (hs : 0 < s) : ∃ d, (digits z ss)[i]? = some d ∧ 0 ≤ d ∧ d < s := by
  unfold digits
  split
  · exact digA_lt ss _ i s h hs
  · exact digB_lt ss _ 0 i s h hs
theorem digSeed_lt (s : Int) (k : Nat) : 0 ≤ digSeed s k ∧ digSeed s k < 2147483647 := ⟨Int.emod_nonneg _ (by decide), Int.emod_lt_of_pos _ (by decide)⟩
def ztDigits (K : PySem.W.Frag) : TS :=
  (tSeq (tAsg (tLst tNil) (gName 2))
  (tSeq (tAsg (tCB zInt (tCons (tVar 0) tNil)) (gName 3))
  (tSeq (tIfS (tTest (tOp zGe (tVar 3) (tOp zPow (tC (.int 10)) (tC (.int 18))))) (tSeq (tAsg (tOp zSub (tVar 3) (tOp zPow (tC (.int 10)) (tC (.int 18)))) (gName 3))
  (tSeq (tFor (iList K (tVar 1)) (gName 4) (tSeq (tDrop (tBM K "list" rAppend (tVar 2) (tCons (tOp zMod (tCB zInt (tCons (tVar 3) tNil)) (tVar 4)) tNil)))
  (tAsg (tOp zDiv (tCB zInt (tCons (tVar 3) tNil)) (tVar 4)) (gName 3))))
  (tRet (tVar 2)))) tNext)
  (tSeq (tAsg (tOp zMod (tCB zInt (tCons (tVar 3) tNil)) (tC (.int 2147483629))) (gName 5))
  (tSeq (tFor (iRng1 (tCons (tCB (zLen K) (tCons (tVar 1) tNil)) tNil)) (gName 6) (tSeq (tAsg (tOp zMod (tCB zInt (tCons (tOp (zAdd K) (tOp (zAdd K) (tOp zMul (tVar 5) (tC (.int 48271))) (tOp zMul (tC (.int 974711)) (tVar 6))) (tC (.int 12345))) tNil)) (tC (.int 2147483647))) (gName 5))
  (tSeq (tAsg (tOp zMod (tCB zInt (tCons (tOp zMul (tVar 5) (tOp (zAdd K) (tOp zDiv (tVar 5) (tC (.int 65537))) (tC (.int 3)))) tNil)) (tC (.int 2147483629))) (gName 7))
  (tDrop (tBM K "list" rAppend (tVar 2) (tCons (tOp zMod (tOp zDiv (tVar 7) (tC (.int 19))) (tOp (zIx K) (tVar 1) (tVar 6))) tNil))))))
  (tRet (tVar 2)))))))
def Fdigits : Fn := fun ds R _ => ∃ (z : Int) (ss : List Int), ds = [.int z, .lst (ss.map .int)] ∧ (∀ s ∈ ss, 0 < s ∧ s < 2 ^ 100) ∧ ss.length < 1000000 ∧ R (.own (.lst ((digits z ss).map .int)))
theorem map_snoc (row : List Int) (d : Int) : row.map D.int ++ [.int d] = (row ++ [d]).map D.int := by simp
theorem pure_digits (B : Bx) (W : WX) (ds : List D) (R : Sl → Prop) (X : Xc → Prop) (h : Fdigits ds R X) : Sv B W (ztDigits B.K) (ini ["cell", "sizes", "row", "rest", "size", "seed", "k", "twice"] ds) { nx := fun _ => R (.dat .non), rt := R, xc := fun x _ => X x } := by
  obtain ⟨z, ss, rfl, hs, hl, hR⟩ := h
  show Sv B W _ [.dat (.int z), .dat (.lst (ss.map .int)), .un, .un, .un, .un, .un, .un] _
  refine sv_seq (sv_setO (by walk_at "eo") (by walk_at "at") ?_)
  refine sv_seq (sv_set (by walk_at "ev") (by walk_at "at") ?_)
  refine sv_seq (sv_if (by walk_at "ev") (fun hk => ?_) fun hk => ?_)
  · refine sv_seq (sv_set (by walk_at "ev") (by walk_at "at") ?_)
    have hz : 10 ^ 18 ≤ z := of_decide_eq_true hk
    unfold digits at hR
    rw [if_pos hz] at hR
    refine sv_seq (sv_forI D.int ss (by walk_at "ev") (fun i Γ' => ∃ (row : List Int) (r : Int) (c : Sl), Γ' = [.dat (.int z), .dat (.lst (ss.map .int)), .own (.lst (row.map .int)), .dat (.int r), c, .un, .un, .un] ∧ row.length = i ∧ digA (z - 10 ^ 18) ss = row ++ digA r (ss.drop i)) ⟨[], _, _, rfl, rfl, rfl⟩ ?_ ?_)
    · rintro Γ' ⟨row, r, c, rfl, hr, e⟩
      rw [List.drop_length] at e
      rw [e] at hR
      refine sv_retOv rfl ?_
      show R _
      rw [show digA r [] = [] from rfl, List.append_nil] at hR
      exact hR
    · rintro i x Γ' hx ⟨row, r, c, rfl, hr, e⟩
      have hlt : i < ss.length := (List.getElem?_eq_some_iff.mp hx).1
      obtain ⟨hx1, hx2⟩ := hs x (List.mem_of_getElem? hx)
      refine ⟨_, evg_name (by walk_at "at"), ?_⟩
      refine sv_seq (sv_app rfl (by walk_at "ev") (by rw [List.length_map]; omega) (by walk_at "at") ?_)
      refine sv_set (by walk_at "ev") (by walk_at "at") ?_
      refine ⟨row ++ [r % x], r / x, .dat (.int x), by rw [map_snoc], by simp [hr], ?_⟩
      · rw [e]
        have ed : ss.drop i = x :: ss.drop (i + 1) := by
          rw [List.drop_eq_getElem_cons hlt]
          rw [List.getElem?_eq_getElem hlt] at hx
          rw [Option.some.inj hx]
        rw [ed]
        simp [digA]
  · refine sv_next ?_
    have hz : ¬ 10 ^ 18 ≤ z := of_decide_eq_false hk
    unfold digits at hR
    rw [if_neg hz] at hR
    refine sv_seq (sv_set (by walk_at "ev") (by walk_at "at") ?_)
    have hi : EvI B (iRng1 (tCons (tCB (zLen B.K) (tCons (tVar 1) tNil)) tNil)) [.dat (.int z), .dat (.lst (ss.map .int)), .own (.lst []), .dat (.int z), .un, .dat (.int (z % 2147483629)), .un, .un] ((List.range ss.length).map fun k => .int (k : Nat)) := by
      have := evi_rng1 (B := B) (Γ := [.dat (.int z), .dat (.lst (ss.map .int)), .own (.lst []), .dat (.int z), .un, .dat (.int (z % 2147483629)), .un, .un]) (aa := tCons (tCB (zLen B.K) (tCons (tVar 1) tNil)) tNil) (n := ((ss.map D.int).length : Nat)) (by walk_at "ev") (by rw [List.length_map]; omega)
      rw [List.length_map] at this
      exact this
    refine sv_seq (sv_forR hi (fun i Γ' => ∃ (row : List Int) (s : Int) (c1 c2 : Sl), Γ' = [.dat (.int z), .dat (.lst (ss.map .int)), .own (.lst (row.map .int)), .dat (.int z), .un, .dat (.int s), c1, c2] ∧ row.length = i ∧ 0 ≤ s ∧ s < 2147483647 ∧ digB (z % 2147483629) 0 ss = row ++ digB s i (ss.drop i)) ⟨[], _, _, _, rfl, rfl, by omega, by omega, rfl⟩ ?_ ?_)
    · rintro Γ' ⟨row, s, c1, c2, rfl, hr, b1, b2, e⟩
      rw [List.drop_length] at e
      rw [e] at hR
      refine sv_retOv rfl ?_
      show R _
      rw [show digB s ss.length [] = [] from rfl, List.append_nil] at hR
      exact hR
    · rintro i Γ' hlt ⟨row, s, c1, c2, rfl, hr, b1, b2, e⟩
      have hx : ss[i]? = some ss[i] := List.getElem?_eq_getElem hlt
      obtain ⟨hx1, hx2⟩ := hs ss[i] (List.getElem_mem hlt)
      obtain ⟨q1, q2⟩ := digSeed_lt s i
      have hat : atI (ss.map D.int) ((i : Nat) : Int) = some (.int ss[i]) := atI_ofNat (by rw [List.getElem?_map, hx]; rfl)
      refine ⟨_, evg_name (by walk_at "at"), ?_⟩
      refine sv_seq (sv_set (d := .int (digSeed s i)) (by walk_at "eq") (by walk_at "at") ?_)
      have c1 : CMulW (digSeed s i) (digSeed s i / 65537 + 3) := cmul_s (by omega) (by omega) (by omega) (by omega)
      refine sv_seq (sv_set (d := .int (digTwice (digSeed s i))) (by walk_at "eq") (by walk_at "at") ?_)
      refine sv_app rfl (by walk_at "ev") (by rw [List.length_map]; omega) (by walk_at "at") ?_
      refine ⟨row ++ [digTwice (digSeed s i) / 19 % ss[i]], digSeed s i, .dat (.int (i : Nat)), .dat (.int (digTwice (digSeed s i))), by rw [map_snoc], by simp [hr], q1, q2, ?_⟩
      · rw [e, List.drop_eq_getElem_cons hlt]
        simp [digB]
end Z

/-! Z11: the law's end. -/
namespace Z
open PySem PySem.Spec PyProof.Rows L2
/-- the law's promise -/
def Flaw : Fn := fun ds R _ => ∃ ns : List Int, ds = [.lst (ns.map .int)] ∧ ns.length ≤ 63 ∧ R (.dat (.bl true))
theorem flaw_len (ds : List D) (R : Sl → Prop) (X : Xc → Prop) (h : Flaw ds R X) : ds.length = 1 := by
  obtain ⟨_, rfl, _⟩ := h; rfl
theorem fcell_len (ds : List D) (R : Sl → Prop) (X : Xc → Prop) (h : Fcell ds R X) : ds.length = 2 := by
  obtain ⟨_, _, rfl, _⟩ := h; rfl
theorem fdigits_len (ds : List D) (R : Sl → Prop) (X : Xc → Prop) (h : Fdigits ds R X) : ds.length = 2 := by
  obtain ⟨_, _, rfl, _⟩ := h; rfl
theorem law_sp {K : PySem.W.Frag} (H : Hp) (a : Addr) (ns : List Int) (hl : ns.length ≤ 63) (hS : SqL K H a (ns.map V.int)) : spz K Flaw [.ref a] H (fun v _ => v = .bl true) fun _ _ _ => False :=
  ⟨H, [.lst (ns.map .int)], fun s => s = .dat (.bl true), fun _ => False, Same.refl _, .cons (.lst hS (rps_ints ns)) .nil, ⟨ns, rfl, hl, rfl⟩,
    fun s v G' H' e _ r => by subst e; cases r; rfl, fun _ _ _ _ _ z => z.elim⟩
/-- the law's end, where what flies knows the world -/
theorem walk_ofX {l : PySem.W.OpenLaw} {k : Nat} {q : Program} {loose : List Str} {XP : (Str → Option Value) → Heap → Prop} {YP : World → Heap → Prop} {d : DefRec} {x : Str}
    (hn : l.most = some 63) (hdf : d.params.defaults = []) (hr : Room k callerA)
    (F : ∀ (w : World) (mg : Str → Option Value) (fa : Addr) (h : Heap), YP w h → h.Ns mainGlobals mg → mg d.name = some (.ref fa) →
      ∃ (K : PySem.W.Frag) (fd : FuncData), K.In h ∧ (∀ (s : Shared) (u : Value), BindsTo s fd ⟨[u], []⟩ [(x, u)]) ∧
        ∀ base : Heap, K.In base → base.Ns mainGlobals mg → FnOk l.prog w K mg base (L2.CX l.prog w) k fa fd [x] (spz K Flaw)) :
    PySem.W.WalkO q loose XP YP l.row.toRowW d [] (fun f vs => PySem.call f vs) := by
  refine Att.attach_call hn hdf fun w s₀ s₁ mg mb fa o pm cd doc a vs ns G Y ho hd hcd hmg hobj hints hlen hg => ?_
  obtain ⟨K, fd, KX, hb, hF⟩ := F w mg fa _ Y G.T.g hmg
  exact law_call KX G.T.g G.T.b G.T.builtins G.T.nolimit hg hobj hints (Nat.le_trans hlen (by rw [sizeLine_eq]; decide)) hr hF hb (fun H _ hS => law_sp H a ns hlen hS)
    fun H e s' h => by obtain ⟨_, _, _, _, _, _, _, _, _, _, _, _, z⟩ := h; exact z
theorem fact_app {α : Type} {l r : List α} {i : Nat} {f : α} (h : l[i]? = some f) : (l ++ r)[i]? = some f := by
  have hlt := (List.getElem?_eq_some_iff.mp h).1
  rw [List.getElem?_append_left hlt]; exact h
theorem cut_take {α : Type} (xs : List α) (k : Nat) : cut xs none (some (k : Int)) = xs.take k := by
  unfold cut
  rw [HT.sIx_nat, HT.sIx_none, List.drop_zero, Nat.sub_zero]
  rcases Nat.le_total k xs.length with h | h
  · rw [Nat.min_eq_left h]
  · rw [Nat.min_eq_right h, List.take_of_length_le h, List.take_length]
theorem cut_drop {α : Type} (xs : List α) (k : Nat) : cut xs (some (k : Int)) none = xs.drop k := by
  unfold cut
  rw [HT.sIx_nat, HT.sIx_none]
  rcases Nat.le_total k xs.length with h | h
  · rw [Nat.min_eq_left h, List.take_of_length_le (by rw [List.length_drop]; exact Nat.le_refl _)]
  · rw [Nat.min_eq_right h, List.drop_length, List.drop_of_length_le h]; simp
theorem cut_sub {α : Type} (xs : List α) (k m : Nat) (h : k ≤ xs.length) (h2 : m ≤ xs.length) : cut xs (some (k : Int)) (some (m : Int)) = (xs.drop k).take (m - k) := by
  unfold cut
  rw [HT.sIx_nat, HT.sIx_nat, Nat.min_eq_left h, Nat.min_eq_left h2]

theorem kitT {K : PySem.W.Frag} {t : Value} : PySem.W.kitOne K t t = some true := if_pos (beq_self_eq_true t)
theorem strOk_tx {a : List Nat} (h : ∀ c ∈ a, c < 1114112) : PyData.strOk (tx a) = true := by
  unfold PyData.strOk tx
  rw [List.all_toArray, List.all_eq_true]
  intro c hc
  exact decide_eq_true (h c hc)
/-! named readings of the generator -/
def tTryAs (K : PySem.W.Frag) (c : Value) (i : Nat) (ts : Addr → Value → Option Addr → TS) (W : WX) (tb : WX → TS) : TS := fun D σ H => tb (wAs K c i ts W D) D σ H
def tTryOnly (K : PySem.W.Frag) (c : Value) (ts : Addr → Value → Option Addr → TS) (W : WX) (tb : WX → TS) : TS := fun D σ H => tb (wOnly K c ts W D) D σ H
def tRaise (C : Addr) (sp : Sp) (aa : TA) (W : WX) : TS := fun _ σ H => tMkO C sp [] aa σ H fun cls dd H' => W cls dd σ H'
section
variable {B : Bx} {W : WX} {Γ Γ' : List Sl} {P : Po} {aa : TA} {te : TE} {tt : TT} {d e : D} {C : Addr} {f g : Str} {wi : TI}
theorem svr1 (ha : EvA B aa Γ [d]) (k : P.xc ⟨C, [(f, d)]⟩ Γ) : Sv B W (tRaise C (spX1 C f) aa W) Γ P := sv_raise1 ha k
theorem svr2 (ha : EvA B aa Γ [d, e]) (k : P.xc ⟨C, [(g, e), (f, d)]⟩ Γ) : Sv B W (tRaise C (spX2 C f g) aa W) Γ P := sv_raise2 ha k
theorem svt_as {c : Value} {i : Nat} {tb : WX → TS} {ts : Addr → Value → Option Addr → TS} (hi : i < Γ.length)
    (hb : ∀ W', Sv B W' (tb W') Γ { P with xc := fun x Γx => (PySem.W.exmOne B.K (.ref x.C) c = some true ∧ Γx.length = Γ.length ∧ (∀ a d, Sv B W0 (ts a (.ref x.C) (some d)) (Γx.set i (.dat (.xc a d x.fs))) { P with nx := fun Γ' => Γ'.length = Γ.length ∧ P.nx (Γ'.set i .un), bk := fun Γ' => Γ'.length = Γ.length ∧ P.bk (Γ'.set i .un), ct := fun Γ' => Γ'.length = Γ.length ∧ P.ct (Γ'.set i .un), xc := fun _ _ => False }) ∧ x.fs ≠ [])
      ∨ (PySem.W.exmOne B.K (.ref x.C) c = some false ∧ P.xc x Γx) }) : Sv B W (tTryAs B.K c i ts W tb) Γ P := sv_try_as hi hb
theorem svt_only {c : Value} {tb : WX → TS} {ts : Addr → Value → Option Addr → TS}
    (hb : ∀ W', Sv B W' (tb W') Γ { P with xc := fun x Γx => (PySem.W.exmOne B.K (.ref x.C) c = some true ∧ (∀ a dd, Sv B W0 (ts a (.ref x.C) dd) Γx { P with xc := fun _ _ => False }))
      ∨ (PySem.W.exmOne B.K (.ref x.C) c = some false ∧ P.xc x Γx) }) : Sv B W (tTryOnly B.K c ts W tb) Γ P := sv_try_only hb
/-- a comprehension of one name -/
theorem evo_lc1 {α : Type} (enc : α → D) (xs : List α) (f : α → Bool) (v : α → D) {i : Nat} (hi : EvI B wi Γ (xs.map enc)) (hlen : i < Γ.length) (hl : xs.length < 16777216)
    (hs : ∀ x ∈ xs, EvT B tt (Γ.set i (.dat (enc x))) (f x) ∧ (f x = true → Ev B te (Γ.set i (.dat (enc x))) (v x))) : EvO B (tLc wi (gName i) tt te [i]) Γ (.lst ((xs.filter f).map v)) :=
  evo_lc enc xs f v hi (by simpa using hlen) hl fun x hx => ⟨_, evgw_name (SetAt.of (by rw [wipeS_len]; exact hlen)), by
    have e : (wipeS Γ [i]).set i (.dat (enc x)) = Γ.set i (.dat (enc x)) := by show (Γ.set i .un).set i _ = _; rw [List.set_set]
    rw [e]; exact hs x hx⟩
theorem evo_map1 {α : Type} (enc : α → D) (xs : List α) (v : α → D) {i : Nat} (hi : EvI B wi Γ (xs.map enc)) (hlen : i < Γ.length) (hl : xs.length < 16777216)
    (hs : ∀ x ∈ xs, Ev B te (Γ.set i (.dat (enc x))) (v x)) : EvO B (tLc wi (gName i) tYes te [i]) Γ (.lst (xs.map v)) := by
  have := evo_lc1 (tt := tYes) (te := te) enc xs (fun _ => true) v hi hlen hl fun x hx => ⟨evt_yes, fun _ => hs x hx⟩
  rw [List.filter_eq_self.mpr (fun _ _ => rfl)] at this
  exact this
/-- how many -/
theorem ev_lenLc {α : Type} {K : PySem.W.Frag} (hK : K = B.K) (enc : α → D) (xs : List α) (f : α → Bool) (v : α → D) {i : Nat} (hi : EvI B wi Γ (xs.map enc)) (hlen : i < Γ.length) (hl : xs.length < 16777216)
    (hs : ∀ x ∈ xs, EvT B tt (Γ.set i (.dat (enc x))) (f x) ∧ (f x = true → Ev B te (Γ.set i (.dat (enc x))) (v x))) : Ev B (tCB (zLen K) (tCons (tLc wi (gName i) tt te [i]) tNil)) Γ (.int ((xs.filter f).length : Nat)) := by
  subst hK
  have := ev_cb (eva_cons (Ev.of_own (evo_lc1 enc xs f v hi hlen hl hs)) eva_nil) rc_lenL
  rw [List.length_map] at this
  exact this
end
end Z

/-! Z12: try with several except clauses, with names or without. -/
namespace Z
open PySem PySem.Spec PyProof.Rows L2
abbrev Cl := Value × Option Nat × (Addr → Value → Option Addr → TS)
def endA (D : Ends) (i : Nat) : Ends := { nx := fun σ H => D.nx (σ.set i none) H, rt := D.rt, bk := fun σ H => D.bk (σ.set i none) H, ct := fun σ H => D.ct (σ.set i none) H }
def wManyA (K : PySem.W.Frag) (Wout : WX) (D : Ends) : List Cl → WX
  | [] => Wout
  | (c, o, ts) :: r => fun cls d σ H => ∃ b, PySem.W.exmOne K cls c = some b ∧
      (b = true → ∀ a, H a = none → match o with
        | none => ts a cls d D σ H
        | some i => ts a cls d (endA D i) (σ.set i (some (.ref a))) H) ∧ (b = false → wManyA K Wout D r cls d σ H)
abbrev SuiteOk (X : Cx) (ss : List Stmt) (ts : Addr → Value → Option Addr → TS) : Prop := ∀ (a : Addr) (oe : Obj) (cls : Value) (d : Option Addr) (pn : List (Addr × Obj)), Zc cls d oe → (∃ vs, oe.data = .fields vs) → PSs (X.suite a ((a, oe) :: pn)) ss (ts a cls d)
inductive HdsA (X : Cx) : List ExceptHandler → List Cl → Prop
  | nil : HdsA X [] []
  | only {x : Str} {c : Value} {ts : Addr → Value → Option Addr → TS} {b₀ : Stmt} {ss : List Stmt} {np p : Pos} {hds : List ExceptHandler} {l : List Cl} (hc : Names X x c) (hsu : SuiteOk X (b₀ :: ss) ts) (r : HdsA X hds l) :
      HdsA X (.ExceptHandler (some (.Name x np)) none (b₀ :: ss) p :: hds) ((c, none, ts) :: l)
  | named {x n : Str} {i : Nat} {c : Value} {ts : Addr → Value → Option Addr → TS} {b₀ : Stmt} {ss : List Stmt} {np p : Pos} {hds : List ExceptHandler} {l : List Cl} (hN : X.N.Nodup) (hi : X.N[i]? = some n) (hln : X.env.kindOf n = some .local) (hc : Names X x c) (hsu : SuiteOk X (b₀ :: ss) ts) (r : HdsA X hds l) :
      HdsA X (.ExceptHandler (some (.Name x np)) (some n) (b₀ :: ss) p :: hds) ((c, some i, ts) :: l)
section
variable {X : Cx} {body : List Stmt} {h₀ : ExceptHandler} {hds : List ExceptHandler} {l : List Cl} {pos : Pos} {tb : WX → TS} {Wout : WX}
theorem ps_try_manyA (hs : X.stack = X.env :: X.outer) (hf : X.env.frame = some X.env.locals) (tk : Takes X Wout)
    (hb : ∀ (W : WX) (pn : List (Addr × Obj)) (xe : Value → Shared → Prop), Takes (X.tr pn xe) W → PassesOwn (model X.prog X.w) X.A X.env xe → PSs (X.tr pn xe) body (tb W))
    (hh : HdsA X (h₀ :: hds) l) : PS X (.Try body (h₀ :: hds) [] [] pos) (fun D σ H => tb (wManyA X.K Wout D l) D σ H) := by
  refine ⟨fun pins s σ H D I h => wpAny_Try_except ?_⟩
  have ok := I.ok
  have frames : X.A.frames = some (X.env :: X.outer) := ok.frames.trans (congrArg some hs)
  let air : Value → Shared → Prop := fun e s₁ => wpAny (model X.prog X.w) X.A (noteFrame e X.env) (fun _ s₂ => wpAny (model X.prog X.w) X.A (setFlight e none) (fun _ s₃ =>
    wpAny (model X.prog X.w) X.A (handleBy e X.env (h₀ :: hds)) (SP X pins D) X.xe s₃) X.xe s₂) X.xe s₁
  refine wpAny_mono ((hb (wManyA X.K Wout D l) (X.pn ++ pins) air (fun u s' xx => ?_) PassesOwn.looking).run [] s σ H D (I.toTry _) h) (fun f s1 sp => ?_) (fun _ _ z => z)
  · obtain ⟨a, B, sI, q, σ', H', cls, d, rfl, Jt, nb, up, sky, na, os, ag, w⟩ := xx
    have J : Inv X pins σ' H' sI := Jt.ofTry ok
    have sky1 : Sky B (X.env :: X.outer) a (Zc cls d) X.env.locals s'.heap := hs ▸ sky
    refine Sky.land Zc.steady frames hf sky1 fun h3 fl3 up3 => ?_
    have J3 : Inv X pins σ' H' { s' with heap := h3 } := J.landed nb fl3.1 (up.trans up3) os ag
    obtain ⟨oe3, vs3, there3, z3, dat3⟩ := fl3.there
    have out : a ∉ frs (X.env :: X.outer) := fun hm => by
      obtain ⟨_, o', e', nf⟩ := fl3.2.2.1.mem hm
      have eo := there3.symm.trans e'
      cases eo
      exact nf _ dat3
    have nL : a ≠ X.env.locals := fun z => out (List.mem_filterMap.mpr ⟨X.env, List.mem_cons_self, hf.trans (congrArg some z.symm)⟩)
    have nF : a ∉ X.fs := fun hm => by
      obtain ⟨e, he, q⟩ := List.mem_filterMap.mp hm
      exact out (List.mem_filterMap.mpr ⟨e, List.mem_cons_of_mem _ he, q⟩)
    have S3 := J3.suite there3 dat3 na nL nF
    have LT : PySem.W.Looks (model X.prog X.w) h3 (typeOf (.ref a)) cls := fun A Q E s k q => wpAny_typeOf_ref (k _ _ there3) (by rw [z3.1]; exact q)
    have test : ∀ {x : Str} {c : Value} {np : Pos} {Q : Value → Shared → Prop} {E : Value → Shared → Prop}, Names X x c → Q c { s' with heap := h3 } → wpAny (model X.prog X.w) (X.A.mark (some (.ref a))) (eval (.Name x np) X.env) Q E { s' with heap := h3 } := fun {x c np Q E} hc q => by
      rcases hc with ⟨g, dbg, m | ⟨m, bo, nn⟩⟩
      · exact ld_glob (X := X.suite a ((a, oe3) :: (X.pn ++ pins))) S3 g m q dbg
      · exact ld_blt (X := X.suite a ((a, oe3) :: (X.pn ++ pins))) S3 g m bo q nn dbg
    have go : ∀ {hs1 : List ExceptHandler} {l1 : List Cl}, HdsA X hs1 l1 → wManyA X.K Wout D l1 cls d σ' H' → wpAny (model X.prog X.w) X.A (handleBy (.ref a) X.env hs1) (SP X pins D) X.xe { s' with heap := h3 } := by
      intro hs1 l1 hk
      induction hk with
      | nil =>
        intro w
        refine wpAny_handleBy_nil ?_
        obtain ⟨k1, k2, k3, oe, vs, T, oT, ts', he, hz, hd, h1, hr⟩ := id fl3
        unfold PySem.passOn
        refine wpAny_bind (wpAny_field he hd h1 ?_)
        rw [if_neg (show ¬ ((Value.ref T == Value.none) = true) from by simp)]
        have leave : wpAny (model X.prog X.w) X.A (setFlight (.ref a) X.env.frame) (fun _ s4 => wpAny (model X.prog X.w) X.A (throw (.ref a) : Sem Flow) (SP X pins D) X.xe s4) X.xe { s' with heap := h3 } := by
          rw [hf]
          exact HandSPX.setFlight_upZ fl3 fun h4 hh4 up4 => wpAny_throw (tk _ _ ⟨a, B, sI, pins, σ', H', cls, d, rfl, J, nb, (up.trans up3).trans up4, .inr (.inr (hs.symm ▸ hh4)), na, os, ag, w⟩)
        first
          | exact wpAny_bind (wpAny_pure (wpAny_bind leave))
          | exact wpAny_bind leave
      | only hc hsu r ih =>
        rintro ⟨b, hx, yes, no⟩
        refine wpAny_handleBy_cons (codeAny_handlers_test (test hc ((PySem.W.exm_one (M := model X.prog X.w) J3.kIn LT hx).here ?_))) (fun z => nomatch z)
        cases b with
        | false => exact ih (no rfl)
        | true =>
          refine codeAny_handlers_suite (HandSPX.lands_againZ fl3 fun h4 fl4 up4 => ?_)
          have J4 : Inv X pins σ' H' { s' with heap := h4 } := J.landed nb fl4.1 ((up.trans up3).trans up4) os ag
          obtain ⟨oe4, vs4, there4, z4, dat4⟩ := fl4.there
          refine wpAny_mono ((hsu a oe4 cls d (X.pn ++ pins) z4 ⟨_, dat4⟩).run [] _ _ H' _ (J4.suite there4 dat4 na nL nF) (yes rfl a na)) (fun f s6 sp => ?_) (fun _ _ z => z.elim)
          cases f with
          | ret u => obtain ⟨v, _, _, S6, rv, q⟩ := sp; exact ⟨v, _, _, S6.unsuite ok, rv, q⟩
          | next => obtain ⟨_, _, S6, q⟩ := sp; exact ⟨_, _, S6.unsuite ok, q⟩
          | brk => obtain ⟨_, _, S6, q⟩ := sp; exact ⟨_, _, S6.unsuite ok, q⟩
          | cont => obtain ⟨_, _, S6, q⟩ := sp; exact ⟨_, _, S6.unsuite ok, q⟩
      | named hN hi hln hc hsu r ih =>
        rintro ⟨b, hx, yes, no⟩
        refine wpAny_handleBy_cons (codeAny_handlers_test (test hc ((PySem.W.exm_one (M := model X.prog X.w) J3.kIn LT hx).here ?_))) (fun z => nomatch z)
        cases b with
        | false => exact ih (no rfl)
        | true =>
          refine codeAny_handlers_suite_as (HandSPX.lands_againZ fl3 fun h4 fl4 up4 => ?_)
          have J4 : Inv X pins σ' H' { s' with heap := h4 } := J.landed nb fl4.1 ((up.trans up3).trans up4) os ag
          obtain ⟨oe4, vs4, there4, z4, dat4⟩ := fl4.there
          refine store_ok (X := X.suite a ((a, oe4) :: (X.pn ++ pins))) (v := .ref a) (J4.suite there4 dat4 na nL nF) hN hi (.inl hln) rfl (fun s5 S5 => ?_) (.inr hln)
          refine wpAny_mono ((hsu a oe4 cls d (X.pn ++ pins) z4 ⟨_, dat4⟩).run [] s5 _ H' _ S5 (yes rfl a na)) (fun f s6 sp => ?_) (fun _ _ z => z.elim)
          cases f with
          | ret u => obtain ⟨v, _, _, S6, rv, q⟩ := sp; exact gone_ok (S6.unsuite ok) hN hi hln fun s7 J7 => ⟨v, _, _, J7, rv, q⟩
          | next => obtain ⟨_, _, S6, q⟩ := sp; exact gone_ok (S6.unsuite ok) hN hi hln fun s7 J7 => ⟨_, _, J7, q⟩
          | brk => obtain ⟨_, _, S6, q⟩ := sp; exact gone_ok (S6.unsuite ok) hN hi hln fun s7 J7 => ⟨_, _, J7, q⟩
          | cont => obtain ⟨_, _, S6, q⟩ := sp; exact gone_ok (S6.unsuite ok) hN hi hln fun s7 J7 => ⟨_, _, J7, q⟩
    exact go hh w
  · cases f with
    | ret u => obtain ⟨v, _, _, J, rv, q⟩ := sp; exact ⟨v, _, _, J.ofTry ok, rv, q⟩
    | next => obtain ⟨_, _, J, q⟩ := sp; exact wpAny_execs_nil ⟨_, _, J.ofTry ok, q⟩
    | brk => obtain ⟨_, _, J, q⟩ := sp; exact ⟨_, _, J.ofTry ok, q⟩
    | cont => obtain ⟨_, _, J, q⟩ := sp; exact ⟨_, _, J.ofTry ok, q⟩
end
def tTryMany (K : PySem.W.Frag) (l : List Cl) (W : WX) (tb : WX → TS) : TS := fun D σ H => tb (wManyA K W D l) D σ H

/-! by data -/
/-- what the clauses do with an exception x of the body at the slots Γx -/
def Caught (B : Bx) (W : WX) (P : Po) (n : Nat) (x : Xc) (Γx : List Sl) : List Cl → Prop
  | [] => P.xc x Γx
  | (c, o, ts) :: r => (PySem.W.exmOne B.K (.ref x.C) c = some true ∧ (match o with
      | none => ∀ a dd, Sv B W0 (ts a (.ref x.C) dd) Γx { P with xc := fun _ _ => False }
      | some i => i < n ∧ Γx.length = n ∧ x.fs ≠ [] ∧ ∀ a d, Sv B W0 (ts a (.ref x.C) (some d)) (Γx.set i (.dat (.xc a d x.fs))) { P with nx := fun Γ' => Γ'.length = n ∧ P.nx (Γ'.set i .un), bk := fun Γ' => Γ'.length = n ∧ P.bk (Γ'.set i .un), ct := fun Γ' => Γ'.length = n ∧ P.ct (Γ'.set i .un), xc := fun _ _ => False }))
      ∨ (PySem.W.exmOne B.K (.ref x.C) c = some false ∧ Caught B W P n x Γx r)
theorem svt_many {B : Bx} {W : WX} {Γ : List Sl} {P : Po} {l : List Cl} {tb : WX → TS} (n : Nat) (hb : ∀ W', Sv B W' (tb W') Γ { P with xc := fun x Γx => Caught B W P n x Γx l }) : Sv B W (tTryMany B.K l W tb) Γ P := fun D σ G H E S => by
  refine hb (wManyA B.K W D l) D σ G H ⟨E.nx, E.bk, E.ct, E.rt, fun x Γx cls dd σ' G' H' k s S' xo => ?_, E.rm⟩ S
  obtain ⟨rfl, xo⟩ := xo
  clear hb
  induction l with
  | nil => exact E.xc x Γx _ dd σ' G' H' k s S' ⟨rfl, xo⟩
  | cons h r ih =>
    obtain ⟨c, o, ts⟩ := h
    rcases k with ⟨hx, hs⟩ | ⟨hx, hk⟩
    · refine ⟨true, hx, fun _ a ha => ?_, fun z => Bool.noConfusion z⟩
      cases o with
      | none => exact hs a dd D σ' G' H' ⟨fun Γ3 σ3 G3 H3 q s3 => E.nx _ _ G3 H3 q (s.trans s3), fun Γ3 σ3 G3 H3 q s3 => E.bk _ _ G3 H3 q (s.trans s3), fun Γ3 σ3 G3 H3 q s3 => E.ct _ _ G3 H3 q (s.trans s3), E.rt, fun _ _ _ _ _ _ _ z => z.elim, E.rm⟩ S'
      | some i =>
        obtain ⟨hi, hl, hne, hs⟩ := hs
        rcases xo with ⟨h0, _⟩ | ⟨dxa, vs, rfl, hd, rf⟩
        · exact absurd h0 hne
        · refine hs a dxa _ _ G' H' ⟨fun Γ3 σ3 G3 H3 q s3 S3 => ?_, fun Γ3 σ3 G3 H3 q s3 S3 => ?_, fun Γ3 σ3 G3 H3 q s3 S3 => ?_, E.rt, fun _ _ _ _ _ _ _ z => z.elim, E.rm⟩ (S'.set (by rw [hl]; exact hi) (.xc hd rf))
          · exact E.nx _ _ G3 H3 q.2 (s.trans s3) (S3.forget (by rw [q.1]; exact hi))
          · exact E.bk _ _ G3 H3 q.2 (s.trans s3) (S3.forget (by rw [q.1]; exact hi))
          · exact E.ct _ _ G3 H3 q.2 (s.trans s3) (S3.forget (by rw [q.1]; exact hi))
    · exact ⟨false, hx, (fun z => Bool.noConfusion z), fun _ => ih hk⟩
end Z

/-! Z13: defs called within an except suite that let nothing out. -/
namespace Z
open PySem PySem.Spec PyProof.Rows L2 L2H
/-- what a def promises there: an object p is kept aside -/
structure FnS (P : Program) (w : World) (K : PySem.W.Frag) (mg : Str → Option Value) (base : Heap) (k : Nat) (f : Addr) (fd : FuncData) (ps : List Str) (sp : Sp) : Prop where
  len : ∀ vs H Q E, sp vs H Q E → vs.length = ps.length
  run : ∀ (A : Around) (outer : List Env) (s : Shared) (H : Hp) (us : List Value) (vs : List V) (Q : VK) (E : XK) (p : Addr × Obj), RoomH k A → PinOk outer H s p → Env0 P w K mg base A outer s H → BindsTo s fd ⟨us, []⟩ (ps.zip us) → Vals vs us → sp vs H Q E →
    codeAny (model P w) A (.call (.ref f) ⟨us, []⟩) (CR (L2.CX P w) outer P w H s Q E) s
section
variable {P : Program} {w : World} {K : PySem.W.Frag} {mg : Str → Option Value} {base : Heap} {x qual : Str} {params : Arguments} {body : List Stmt} {scope : Scope} {f : Addr} {fd : FuncData} {N ps : List Str} {k : Nat} {sp : Sp}
theorem okS (F : FunD K x qual params body scope [] [] f fd) (S : FnScope N ps scope) (len : ∀ vs H Q E, sp vs H Q E → vs.length = ps.length)
    (hbody : ∀ (cdv : Value) (A : Around) (outer : List Env) (s : Shared) (H : Hp) (vs : List V) (Q : VK) (E : XK) (p : Addr × Obj), RoomH k (A.deeper (envOfC qual scope s.heap.objs.size f cdv)) → sp vs H Q E →
      ∃ t, PSs (cxH (L2.CX P w) P w K mg base N qual scope f cdv A outer s H E p) body t ∧ t { nx := fun _ H' => Q .non H', rt := Q } (L2.start N vs) H) : FnS P w K mg base (k + 1) f fd ps sp := by
  obtain ⟨oc, od, dV, kV, doc, pm, an, cdv, ct, osl, rfl, lk, hcd, _, _⟩ := F.ex
  refine ⟨len, fun A outer s H us vs Q E p hr pin e0 hb r hsp => ?_⟩
  have hkind : ∀ y ∈ ps.zip us, scope.names.lookup y.1 = some .local ∨ (scope.names.lookup y.1 = some .cell ∧ ((cellsFrom (s.heap.objs.size + 1) scope.names []).lookup y.1).isSome = true) := by
    rintro ⟨n, v⟩ hy
    rcases S.par n (List.of_mem_zip hy).1 with q | q
    · exact .inl q
    · exact .inr ⟨q, PySem.W.cellsFrom_some _ _ _ (.inl q)⟩
  have KX : K.In s.heap := e0.mod.kin.keeps fun b o e => (e0.bs b o e).1
  have lim : s.heap.NoLimit := e0.mod.nolimit.keeps fun b o e => (e0.bs b o e).1
  refine codeAny_call_function hr.depth (KX _ _ lk) rfl S.co S.gen rfl (PySem.W.codeRec_of KX hcd) (hb _ _ _ _ (wpAny_newFunctionEnv_cells S.kind hkind fun env he s1 y => ?_))
  subst he
  obtain ⟨t, ht, hq⟩ := hbody cdv A outer s H vs Q E p (hr.deeper _) hsp
  refine ⟨lim.keeps y.toInCall.keep, codeAny_func (wpAny_mono (ht.run [] s1 (L2.start N vs) H _ (inv_startH S pin e0 (len _ _ _ _ hsp) r y) hq) (fun fl s' sp => ?_) fun _ _ z => z)⟩
  cases fl with
  | ret u => obtain ⟨v, _, H', J, rv, q⟩ := sp; exact ⟨v, H', J.os, J.bare, J.base, J.hok, rv, q⟩
  | next => obtain ⟨_, H', J, q⟩ := sp; exact ⟨V.non, H', J.os, J.bare, J.base, J.hok, rfl, q⟩
  | brk => obtain ⟨_, _, _, q⟩ := sp; exact q.elim
  | cont => obtain ⟨_, _, _, q⟩ := sp; exact q.elim
end
/-- such a def with its promise -/
structure Ds (P : Program) (w : World) (K : PySem.W.Frag) (mg : Str → Option Value) (base : Heap) (x : Str) (ps : List Str) (k : Nat) (sp : Sp) : Prop where
  ex : ∃ f fd, FnS P w K mg base k f fd ps sp ∧ mg x = some (.ref f) ∧ PySem.W.keepIn K (.ref f) = true ∧ Binds K fd ps []
theorem roomS {k : Nat} {X : Cx} {a : Addr} {pn : List (Addr × Obj)} (r : Room k X.A) : RoomH k (X.suite a pn).A := ⟨r.dp, r.un⟩
theorem pe_callZS {X : Cx} {a : Addr} {oe : Obj} {pn : List (Addr × Obj)} {x : Str} {ps : List Str} {k : Nat} {sp : Sp} {q pos : Pos} {e : Expr} {es : List Expr} {t : TA} (D : Ds X.prog X.w X.K X.mg X.base x ps k sp) (hr : Room k X.A)
    (ha : PA (X.suite a ((a, oe) :: pn)) (e :: es) t) (hg : Gl (X.suite a ((a, oe) :: pn)) x := by rfl) (hdb : (x == ("__debug__" : Str)) = false := by decide)
    (he : starEach (e :: es) X.env = (false, eval e X.env) :: starEach es X.env := by rfl) (hpl : (backTo pos (starEach es X.env)).any (·.1) = false := by rfl) :
    PE (X.suite a ((a, oe) :: pn)) (.Call (.Name x q) (e :: es) [] pos) (tCallS sp (fun _ => E0) t) := by
  obtain ⟨f, fd, FS, gm, kp, hb⟩ := D.ex
  refine ⟨fun pins s σ H Q I h => wpAny_Call_Name_kw (ld_glob I hg gm ?_ hdb)⟩
  refine PySem.W.callWith_K (h₀ := X.base) I.ok.mod.kin kp (thn (ha.run pos pins s σ H _ I h) fun us s1 ⟨vs, H1, I1, r, k1⟩ => ⟨I1.kIn, ?_⟩) he hpl
  have hl : us.length = ps.length := r.length.symm.trans (FS.len _ _ _ _ k1)
  have b := hb s1 us I1.kIn (by rw [List.append_nil]; exact hl)
  rw [List.append_nil] at b
  have P1 := I1.pin (a, oe) (List.mem_append_left _ List.mem_cons_self)
  have pin : PinOk X.stack H1 s1 (a, oe) := ⟨P1.1, P1.2.1, fun hm => (List.mem_cons.mp (I1.stkSub a hm)).elim P1.2.2.1 P1.2.2.2.1, P1.2.2.2.2⟩
  refine wpAny_call (codeAny_mono (FS.run _ X.stack s1 H1 us vs Q E0 (a, oe) (roomS hr) pin I1.env0 b r k1) fun res s' hq => ?_)
  cases res with
  | error e =>
    obtain ⟨_, _, _, _, _, _, _, _, _, _, _, _, z⟩ := hq
    exact z.elim
  | ok fl =>
    cases fl with
    | ret u => exact I1.after hq
    | next => exact hq.elim
    | brk => exact hq.elim
    | cont => exact hq.elim
end Z

/-! Z14: types of built-ins; list(..), tuple(..), a + b made new. -/
namespace Z
open PySem PySem.Spec PyProof.Rows L2
theorem kit_NoneType_int {K : PySem.W.Frag} : PySem.W.kitOne K (.type "NoneType") (.type "int") = some false := kit_ty (by decide +kernel)
theorem kit_NoneType_bool {K : PySem.W.Frag} : PySem.W.kitOne K (.type "NoneType") (.type "bool") = some false := kit_ty (by decide +kernel)
theorem kit_NoneType_str {K : PySem.W.Frag} : PySem.W.kitOne K (.type "NoneType") (.type "str") = some false := kit_ty (by decide +kernel)
theorem kit_NoneType_list {K : PySem.W.Frag} : PySem.W.kitOne K (.type "NoneType") (.type "list") = some false := kit_ty (by decide +kernel)
theorem kit_NoneType_tuple {K : PySem.W.Frag} : PySem.W.kitOne K (.type "NoneType") (.type "tuple") = some false := kit_ty (by decide +kernel)
theorem kit_bool_int {K : PySem.W.Frag} : PySem.W.kitOne K (.type "bool") (.type "int") = some true := kit_ty (by decide +kernel)
theorem kit_bool_bool {K : PySem.W.Frag} : PySem.W.kitOne K (.type "bool") (.type "bool") = some true := kit_ty (by decide +kernel)
theorem kit_bool_str {K : PySem.W.Frag} : PySem.W.kitOne K (.type "bool") (.type "str") = some false := kit_ty (by decide +kernel)
theorem kit_bool_list {K : PySem.W.Frag} : PySem.W.kitOne K (.type "bool") (.type "list") = some false := kit_ty (by decide +kernel)
theorem kit_bool_tuple {K : PySem.W.Frag} : PySem.W.kitOne K (.type "bool") (.type "tuple") = some false := kit_ty (by decide +kernel)
theorem kit_int_int {K : PySem.W.Frag} : PySem.W.kitOne K (.type "int") (.type "int") = some true := kit_ty (by decide +kernel)
theorem kit_int_bool {K : PySem.W.Frag} : PySem.W.kitOne K (.type "int") (.type "bool") = some false := kit_ty (by decide +kernel)
theorem kit_int_str {K : PySem.W.Frag} : PySem.W.kitOne K (.type "int") (.type "str") = some false := kit_ty (by decide +kernel)
theorem kit_int_list {K : PySem.W.Frag} : PySem.W.kitOne K (.type "int") (.type "list") = some false := kit_ty (by decide +kernel)
theorem kit_int_tuple {K : PySem.W.Frag} : PySem.W.kitOne K (.type "int") (.type "tuple") = some false := kit_ty (by decide +kernel)
theorem kit_str_int {K : PySem.W.Frag} : PySem.W.kitOne K (.type "str") (.type "int") = some false := kit_ty (by decide +kernel)
theorem kit_str_bool {K : PySem.W.Frag} : PySem.W.kitOne K (.type "str") (.type "bool") = some false := kit_ty (by decide +kernel)
theorem kit_str_str {K : PySem.W.Frag} : PySem.W.kitOne K (.type "str") (.type "str") = some true := kit_ty (by decide +kernel)
theorem kit_str_list {K : PySem.W.Frag} : PySem.W.kitOne K (.type "str") (.type "list") = some false := kit_ty (by decide +kernel)
theorem kit_str_tuple {K : PySem.W.Frag} : PySem.W.kitOne K (.type "str") (.type "tuple") = some false := kit_ty (by decide +kernel)
theorem kit_list_int {K : PySem.W.Frag} : PySem.W.kitOne K (.type "list") (.type "int") = some false := kit_ty (by decide +kernel)
theorem kit_list_bool {K : PySem.W.Frag} : PySem.W.kitOne K (.type "list") (.type "bool") = some false := kit_ty (by decide +kernel)
theorem kit_list_str {K : PySem.W.Frag} : PySem.W.kitOne K (.type "list") (.type "str") = some false := kit_ty (by decide +kernel)
theorem kit_list_list {K : PySem.W.Frag} : PySem.W.kitOne K (.type "list") (.type "list") = some true := kit_ty (by decide +kernel)
theorem kit_list_tuple {K : PySem.W.Frag} : PySem.W.kitOne K (.type "list") (.type "tuple") = some false := kit_ty (by decide +kernel)
theorem kit_tuple_int {K : PySem.W.Frag} : PySem.W.kitOne K (.type "tuple") (.type "int") = some false := kit_ty (by decide +kernel)
theorem kit_tuple_bool {K : PySem.W.Frag} : PySem.W.kitOne K (.type "tuple") (.type "bool") = some false := kit_ty (by decide +kernel)
theorem kit_tuple_str {K : PySem.W.Frag} : PySem.W.kitOne K (.type "tuple") (.type "str") = some false := kit_ty (by decide +kernel)
theorem kit_tuple_list {K : PySem.W.Frag} : PySem.W.kitOne K (.type "tuple") (.type "list") = some false := kit_ty (by decide +kernel)
theorem kit_tuple_tuple {K : PySem.W.Frag} : PySem.W.kitOne K (.type "tuple") (.type "tuple") = some true := kit_ty (by decide +kernel)
section
variable {X : Cx}
def zTuple (K : PySem.W.Frag) : List V → Hp → VK → Prop := fun xs H Q => ∃ p ys, xs = [.ref p] ∧ ((SqL K H p ys ∧ ∀ l, H l = none → Q (.ref l) (upd H l (.tup ys))) ∨ (SqT K H p ys ∧ Q (.ref p) H))
theorem call_zTuple : CallR X (.type "tuple") (zTuple X.K) := call_tuple_of
def zList (K : PySem.W.Frag) : List V → Hp → VK → Prop := fun xs H Q => ∃ p ys, xs = [.ref p] ∧ (SqL K H p ys ∨ SqT K H p ys) ∧ ∀ l, H l = none → Q (.ref l) (upd H l (.lst ys))
theorem call_zList : CallR X (.type "list") (zList X.K) := call_list_of
end
section
variable {B : Bx} {Γ : List Sl} {ta tb te : TE} {aa : TA} {as bs ds : List D} {d : D}
theorem rc_tupleL : RC B (zTuple B.K) [.lst as] (.tup as) := fun xs G H Q s r q => by
  cases r with
  | cons r1 r2 =>
    cases r2
    cases r1 with
    | lst h1 r1 => exact ⟨_, _, rfl, .inl ⟨same_l s h1, fun p hp => q _ _ _ (.new s hp) (.tup (.inl (.inl upd_same)) (r1.mono (Fw.new (o := .tup _) s hp).g))⟩⟩
theorem rc_tupleU : RC B (zTuple B.K) [.tup as] (.tup as) := fun xs G H Q s r q => by
  cases r with
  | cons r1 r2 =>
    cases r2
    cases r1 with
    | tup h1 r1 => exact ⟨_, _, rfl, .inr ⟨same_t s h1, q _ G H (.refl s) (.tup h1 r1)⟩⟩
theorem rc_listL : RC B (zList B.K) [.lst as] (.lst as) := fun xs G H Q s r q => by
  cases r with
  | cons r1 r2 =>
    cases r2
    cases r1 with
    | lst h1 r1 => exact ⟨_, _, rfl, .inl (same_l s h1), fun p hp => q _ _ _ (.new s hp) (.lst (.inl (.inl upd_same)) (r1.mono (Fw.new (o := .lst _) s hp).g))⟩
theorem rc_listU : RC B (zList B.K) [.tup as] (.lst as) := fun xs G H Q s r q => by
  cases r with
  | cons r1 r2 =>
    cases r2
    cases r1 with
    | tup h1 r1 => exact ⟨_, _, rfl, .inr (same_t s h1), fun p hp => q _ _ _ (.new s hp) (.lst (.inl (.inl upd_same)) (r1.mono (Fw.new (o := .lst _) s hp).g))⟩
/-- list(a), one's own -/
theorem evo_listL {K : PySem.W.Frag} (hK : K = B.K) (h : EvA B aa Γ [.lst as]) : EvO B (tCB (zList K) aa) Γ (.lst as) := fun σ G H Q S q => by
  subst hK
  refine h σ G H _ S fun vs G1 H1 f r => ?_
  cases r with
  | cons r1 r2 =>
    cases r2
    cases r1 with
    | lst h1 r1 => exact ⟨_, _, rfl, .inl (same_l f.e h1), fun p hp => q p (.lst _) G1 _ (f.trans (Fw.newO f.e hp)) (f.e.free hp) (f.h.free hp) upd_same ⟨_, rfl, r1⟩⟩
theorem evo_listU {K : PySem.W.Frag} (hK : K = B.K) (h : EvA B aa Γ [.tup as]) : EvO B (tCB (zList K) aa) Γ (.lst as) := fun σ G H Q S q => by
  subst hK
  refine h σ G H _ S fun vs G1 H1 f r => ?_
  cases r with
  | cons r1 r2 =>
    cases r2
    cases r1 with
    | tup h1 r1 => exact ⟨_, _, rfl, .inr (same_t f.e h1), fun p hp => q p (.lst _) G1 _ (f.trans (Fw.newO f.e hp)) (f.e.free hp) (f.h.free hp) upd_same ⟨_, rfl, r1⟩⟩
/-- a + b, one's own -/
theorem evo_addL {K : PySem.W.Frag} (hK : K = B.K) (ha : Ev B ta Γ (.lst as)) (hb : Ev B tb Γ (.lst bs)) (hl : as.length + bs.length ≤ 16777216) : EvO B (tOp (zAdd K) ta tb) Γ (.lst (as ++ bs)) := fun σ G H Q S q => by
  subst hK
  refine ha σ G H _ S fun x G1 H1 f1 r1 => hb σ G1 H1 _ (S.step f1) fun y G2 H2 f2 r2 => ?_
  have r1 := r1.mono f2.g
  cases r1 with
  | lst h1 r1 =>
    cases r2 with
    | lst h2 r2 =>
      have f := f1.trans f2
      exact .inr (.inr (.inl ⟨_, _, _, _, rfl, rfl, same_l f2.e h1, same_l f2.e h2, by rw [r1.length, r2.length]; exact line_le hl, fun p hp => q p (.lst _) G2 _ (f.trans (Fw.newO f.e hp)) (f.e.free hp) (f.h.free hp) upd_same ⟨_, rfl, r1.append r2⟩⟩))
end
end Z

/-! Z15: dicts, stores, chains, tests of identity. -/
namespace Z
open PySem PySem.Spec PyProof.Rows L2
def valD (ks : List (Key × D)) (k : Key) : Option D := (ks.find? fun kv => decide (kv.1 = k)).map (·.2)
def putD (ks : List (Key × D)) (k : Key) (d : D) : List (Key × D) :=
  if (ks.any fun kv => decide (kv.1 = k)) = true then ks.map (fun kv => if kv.1 = k then (kv.1, d) else kv) else ks ++ [(k, d)]
def kD : Key → D
  | .inl i => .int i
  | .inr x => .str x
section
variable {K : PySem.W.Frag} {G : Hp}
theorem Rks.length : ∀ {vs : List (Key × V)} {ds : List (Key × D)}, Rks K G vs ds → vs.length = ds.length
  | _, _, .nil => rfl
  | _, _, .cons _ r => congrArg (· + 1) r.length
theorem Rks.val : ∀ {vs : List (Key × V)} {ds : List (Key × D)} {k : Key} {d : D}, Rks K G vs ds → valD ds k = some d → ∃ v, valV vs k = some v ∧ Rp K G v d
  | _, _, _, _, .nil, e => by simp [valD] at e
  | _, _, k, d, .cons (k := j) (d := d0) (ds := ds0) h r, e => by
    by_cases q : j = k
    · subst q
      have : d0 = d := by simpa [valD] using e
      subst this
      exact ⟨_, valV_pos rfl, h⟩
    · have e' : valD ds0 k = some d := by
        have : valD ((j, d0) :: ds0) k = valD ds0 k := by simp [valD, List.find?_cons, q]
        rw [← this]; exact e
      obtain ⟨v, h1, h2⟩ := r.val e'
      exact ⟨v, by rw [valV_neg q]; exact h1, h2⟩
theorem Rks.miss : ∀ {vs : List (Key × V)} {ds : List (Key × D)} {k : Key}, Rks K G vs ds → valD ds k = none → valV vs k = none
  | _, _, _, .nil, _ => rfl
  | _, _, k, .cons (k := j) (d := d0) (ds := ds0) h r, e => by
    by_cases q : j = k
    · subst q; simp [valD] at e
    · have e' : valD ds0 k = none := by
        have : valD ((j, d0) :: ds0) k = valD ds0 k := by simp [valD, List.find?_cons, q]
        rw [← this]; exact e
      rw [valV_neg q]; exact r.miss e'
theorem Rks.any (k : Key) : ∀ {vs : List (Key × V)} {ds : List (Key × D)}, Rks K G vs ds → (vs.any fun kv => decide (kv.1 = k)) = ds.any fun kv => decide (kv.1 = k)
  | _, _, .nil => rfl
  | _, _, .cons _ r => by rw [List.any_cons, List.any_cons, r.any k]
theorem Rks.snoc {k : Key} {v : V} {d : D} (h : Rp K G v d) : ∀ {vs : List (Key × V)} {ds : List (Key × D)}, Rks K G vs ds → Rks K G (vs ++ [(k, v)]) (ds ++ [(k, d)])
  | _, _, .nil => .cons h .nil
  | _, _, .cons q r => .cons q (r.snoc h)
theorem Rks.over {k : Key} {v : V} {d : D} (h : Rp K G v d) : ∀ {vs : List (Key × V)} {ds : List (Key × D)}, Rks K G vs ds → Rks K G (vs.map fun kv => if kv.1 = k then (kv.1, v) else kv) (ds.map fun kv => if kv.1 = k then (kv.1, d) else kv)
  | _, _, .nil => .nil
  | _, _, .cons (k := j) q r => by
    rw [List.map_cons, List.map_cons]
    by_cases e : j = k
    · rw [if_pos e, if_pos e]; exact .cons h (r.over h)
    · rw [if_neg e, if_neg e]; exact .cons q (r.over h)
theorem Rks.put {k : Key} {v : V} {d : D} (h : Rp K G v d) {vs : List (Key × V)} {ds : List (Key × D)} (r : Rks K G vs ds) : Rks K G (putK vs k v) (putD ds k d) := by
  unfold putK putD
  rw [r.any k]
  split
  · exact r.over h
  · exact r.snoc h
theorem rp_key {v : V} {k : Key} (h : Rp K G v (kD k)) : v = kV k := by
  cases k with
  | inl i => cases h; rfl
  | inr x => cases h; rfl
end
theorem valD_put (ks : List (Key × D)) (k j : Key) (d : D) : valD (putD ks k d) j = if j = k then some d else valD ks j := by
  unfold putD
  split
  · rename_i h
    induction ks with
    | nil => simp at h
    | cons p r ih =>
      by_cases q : p.1 = k
      · by_cases e : j = k
        · subst e; simp [valD, q]
        · have : ¬ k = j := fun z => e z.symm
          rw [if_neg e]
          simp only [List.map_cons, if_pos q]
          have e1 : valD ((p.1, d) :: r.map fun kv => if kv.1 = k then (kv.1, d) else kv) j = valD (r.map fun kv => if kv.1 = k then (kv.1, d) else kv) j := by simp [valD, List.find?_cons, q, this]
          have e2 : valD (p :: r) j = valD r j := by simp [valD, List.find?_cons, q, this]
          rw [e1, e2]
          by_cases a : (r.any fun kv => decide (kv.1 = k)) = true
          · have := ih a; rw [if_neg e] at this; exact this
          · have hm : (r.map fun kv => if kv.1 = k then (kv.1, d) else kv) = r := by
              conv => rhs; rw [← List.map_id r]
              refine List.map_congr_left fun x hx => ?_
              have : ¬ x.1 = k := fun z => a (List.any_eq_true.mpr ⟨x, hx, by simpa using z⟩)
              rw [if_neg this]; rfl
            rw [hm]
      · have a : (r.any fun kv => decide (kv.1 = k)) = true := by simpa [q] using h
        simp only [List.map_cons, if_neg q]
        by_cases e3 : p.1 = j
        · have : ¬ j = k := fun z => q (e3.trans z)
          rw [if_neg this]; simp [valD, List.find?_cons, e3]
        · have e1 : valD (p :: r.map fun kv => if kv.1 = k then (kv.1, d) else kv) j = valD (r.map fun kv => if kv.1 = k then (kv.1, d) else kv) j := by simp [valD, List.find?_cons, e3]
          have e2 : valD (p :: r) j = valD r j := by simp [valD, List.find?_cons, e3]
          rw [e1, e2]; exact ih a
  · rename_i h
    have hn : ∀ x ∈ ks, ¬ x.1 = k := fun x hx z => h (List.any_eq_true.mpr ⟨x, hx, by simpa using z⟩)
    by_cases e : j = k
    · subst e
      rw [if_pos rfl]
      unfold valD
      rw [List.find?_append]
      have : ks.find? (fun kv => decide (kv.1 = j)) = none := List.find?_eq_none.mpr fun x hx => by simpa using hn x hx
      rw [this]; simp
    · rw [if_neg e]
      unfold valD
      rw [List.find?_append]
      have : ¬ k = j := fun z => e z.symm
      simp [this]
section
variable {B : Bx} {W : WX} {Γ Γ' : List Sl} {P : Po} {ta tb tc td ty te : TE} {ks : List (Key × D)} {k : Key} {d e : D} {i : Int} {x : Str} {n : Nat} {ds as : List D}
theorem rv_ixD (h : valD ks k = some d) : RV B (zIx B.K) (.dk ks) (kD k) d := fun x y G H Q s rx ry q => by
  have ey := rp_key ry
  subst ey
  cases rx with
  | dk h1 r1 =>
    obtain ⟨v, e, r⟩ := r1.val h
    exact .inr ⟨_, v, rfl, .inl ⟨_, k, same_r s h1, rfl, e.symm⟩, q v G H (.refl s) r⟩
theorem rv_ixDi (h : valD ks (.inl i) = some d) : RV B (zIx B.K) (.dk ks) (.int i) d := rv_ixD (k := .inl i) h
theorem rv_ixDs (h : valD ks (.inr x) = some d) : RV B (zIx B.K) (.dk ks) (.str x) d := rv_ixD (k := .inr x) h
theorem dget_rks {K : PySem.W.Frag} {G : Hp} {kvs : List (Key × V)} (r : Rks K G kvs ks) (k : Key) : (valV kvs k).isSome = (valD ks k).isSome := by
  cases e : valD ks k with
  | none => rw [r.miss e]; rfl
  | some d => obtain ⟨v, h, _⟩ := r.val e; rw [h]; rfl
theorem rv_inD : RV B (zIn B.K false) (kD k) (.dk ks) (.bl (valD ks k).isSome) := fun x y G H Q s rx ry q => by
  have ex := rp_key rx
  subst ex
  cases ry with
  | dk h1 r1 => exact .inr (.inr ⟨_, _, rfl, .inl ⟨_, k, same_r s h1, rfl, rfl⟩, by rw [dget_rks r1 k]; exact q _ G H (.refl s) (.bl _)⟩)
theorem rv_inDi : RV B (zIn B.K false) (.int i) (.dk ks) (.bl (valD ks (.inl i)).isSome) := rv_inD (k := .inl i)
theorem rv_inDs : RV B (zIn B.K false) (.str x) (.dk ks) (.bl (valD ks (.inr x)).isSome) := rv_inD (k := .inr x)
theorem rv_ninD : RV B (zIn B.K true) (kD k) (.dk ks) (.bl (!(valD ks k).isSome)) := fun x y G H Q s rx ry q => by
  have ex := rp_key rx
  subst ex
  cases ry with
  | dk h1 r1 => exact .inr (.inr ⟨_, _, rfl, .inl ⟨_, k, same_r s h1, rfl, rfl⟩, by show Q (.bl (!(valV _ k).isSome)) H; rw [dget_rks r1 k]; exact q _ G H (.refl s) (.bl _)⟩)
theorem rv_ninDi : RV B (zIn B.K true) (.int i) (.dk ks) (.bl (!(valD ks (.inl i)).isSome)) := rv_ninD (k := .inl i)
theorem rv_ninDs : RV B (zIn B.K true) (.str x) (.dk ks) (.bl (!(valD ks (.inr x)).isSome)) := rv_ninD (k := .inr x)
/-- d.get(k, x) -/
theorem ev_dget2 (hd : Ev B td Γ (.dk ks)) (hk : Ev B ty Γ (kD k)) (hx : Ev B te Γ e) : Ev B (tDGet2 td ty te) Γ ((valD ks k).getD e) := fun σ G H Q S q =>
  hd σ G H _ S fun v1 G1 H1 f1 r1 => by
    cases r1 with
    | dk h1 r1 =>
      refine ⟨_, rfl, .inl ⟨_, same_r f1.e h1⟩, hk σ G1 H1 _ (S.step f1) fun v2 G2 H2 f2 r2 => ?_⟩
      refine hx σ G2 H2 _ ((S.step f1).step f2) fun v3 G3 H3 f3 r3 => ?_
      have ey := rp_key r2
      subst ey
      have rr := r1.mono (f2.g.trans f3.g)
      refine ⟨_, .inl ⟨_, k, same_r ((f1.e.trans f2.h).trans f3.h) h1, rfl, rfl⟩, ?_⟩
      cases e1 : valD ks k with
      | none => rw [rr.miss e1]; exact q _ G3 H3 ((f1.trans f2).trans f3) (by rw [e1] at *; exact r3)
      | some d =>
        obtain ⟨v, h, rv⟩ := rr.val e1
        rw [h]; exact q v G3 H3 ((f1.trans f2).trans f3) (by rw [e1] at *; exact rv)
theorem ev_dget2i (hd : Ev B td Γ (.dk ks)) (hk : Ev B ty Γ (.int i)) (hx : Ev B te Γ e) : Ev B (tDGet2 td ty te) Γ ((valD ks (.inl i)).getD e) := ev_dget2 (k := .inl i) hd hk hx
theorem ev_dget2s (hd : Ev B td Γ (.dk ks)) (hk : Ev B ty Γ (.str x)) (hx : Ev B te Γ e) : Ev B (tDGet2 td ty te) Γ ((valD ks (.inr x)).getD e) := ev_dget2 (k := .inr x) hd hk hx
theorem evo_dnew : EvO B tDNewK Γ (.dk []) := fun σ G H Q S q p hp => q p (.dK []) G _ (Fw.newO S.same hp) (S.same.free hp) hp upd_same ⟨[], rfl, .nil⟩
theorem rc_lenD : True := trivial
end

/-! stores -/
theorem PSet.or {X : Cx} {t t' : V → V → V → Hp → (Hp → Prop) → Prop} (h : PSet X t) (h' : PSet X t') : PSet X (fun o i v H Q => t o i v H Q ∨ t' o i v H Q) := by
  intro pins s σ H o i v ov iv u Q I ro ri rv q
  rcases q with q | q
  · exact h pins s σ H o i v ov iv u Q I ro ri rv q
  · exact h' pins s σ H o i v ov iv u Q I ro ri rv q
def zSet : V → V → V → Hp → (Hp → Prop) → Prop := fun o i v H Q => rSetL o i v H Q ∨ rSetD o i v H Q
theorem set_z {X : Cx} (hu : X.A.units + 64 < cLine) : PSet X zSet := PSet.or set_list (set_dict (hu1 hu))
section
variable {B : Bx} {W : WX} {Γ Γ' : List Sl} {P : Po} {ti te : TE} {ks : List (Key × D)} {k : Key} {d : D} {i : Int} {n j : Nat} {ds : List D} {x : Str}
/-- xs[i] = e, xs one's own -/
theorem sv_stL (hn : Γ[n]? = some (.own (.lst ds))) (he : Ev B te Γ d) (hi : Ev B ti Γ (.int i)) (hj : ixN ds.length i = some j) (hs : SetAt Γ n (.own (.lst (ds.set j d))) Γ') (k : P.nx Γ') : Sv B W (tAsg te (gSub (tVar n) ti zSet)) Γ P := fun D σ G H E S =>
  he σ G H _ S fun v G1 H1 f1 r1 => by
    have S1 := S.step f1
    obtain ⟨a, u, e, g, hh, ⟨xs, hu, r⟩, h0⟩ := S1.own hn
    subst hu
    refine ⟨.ref a, e, hi σ G1 H1 _ S1 fun y G2 H2 f2 r2 => ?_⟩
    cases r2
    refine .inl ⟨a, xs, i, j, rfl, rfl, f2.h _ _ hh, by rw [r.length]; exact hj, ?_⟩
    obtain ⟨_, rfl⟩ := hs.eq
    exact E.nx _ _ G2 _ k (f1.trans f2).g ((S1.step f2).mut hn e ⟨_, rfl, (r.mono f2.g).set (r1.mono f2.g) j⟩)
/-- d[k] = e, d one's own -/
theorem sv_stD (hn : Γ[n]? = some (.own (.dk ks))) (he : Ev B te Γ d) (hi : Ev B ti Γ (kD k)) (hl : ks.length < 16777216) (hs : SetAt Γ n (.own (.dk (putD ks k d))) Γ') (kk : P.nx Γ') : Sv B W (tAsg te (gSub (tVar n) ti zSet)) Γ P := fun D σ G H E S =>
  he σ G H _ S fun v G1 H1 f1 r1 => by
    have S1 := S.step f1
    obtain ⟨a, u, e, g, hh, ⟨xs, hu, r⟩, h0⟩ := S1.own hn
    subst hu
    refine ⟨.ref a, e, hi σ G1 H1 _ S1 fun y G2 H2 f2 r2 => ?_⟩
    have ey := rp_key r2
    subst ey
    refine .inr ⟨a, _, rfl, .inl ⟨xs, k, f2.h _ _ hh, rfl, by rw [r.length]; exact line_lt hl, rfl⟩, ?_⟩
    obtain ⟨_, rfl⟩ := hs.eq
    exact E.nx _ _ G2 _ kk (f1.trans f2).g ((S1.step f2).mut hn e ⟨_, rfl, (r.mono f2.g).put (r1.mono f2.g)⟩)
theorem sv_stDi (hn : Γ[n]? = some (.own (.dk ks))) (he : Ev B te Γ d) (hi : Ev B ti Γ (.int i)) (hl : ks.length < 16777216) (hs : SetAt Γ n (.own (.dk (putD ks (.inl i) d))) Γ') (kk : P.nx Γ') : Sv B W (tAsg te (gSub (tVar n) ti zSet)) Γ P := sv_stD (k := .inl i) hn he hi hl hs kk
theorem sv_stDs (hn : Γ[n]? = some (.own (.dk ks))) (he : Ev B te Γ d) (hi : Ev B ti Γ (.str x)) (hl : ks.length < 16777216) (hs : SetAt Γ n (.own (.dk (putD ks (.inr x) d))) Γ') (kk : P.nx Γ') : Sv B W (tAsg te (gSub (tVar n) ti zSet)) Γ P := sv_stD (k := .inr x) hn he hi hl hs kk
end
end Z

/-! Z16: classes of the text: making, fields. -/
namespace Z
open PySem PySem.Spec PyProof.Rows L2
/-- what an __init__ promises: H0 is the heap ahead of the new object -/
def spI (K : PySem.W.Frag) (C : Addr) (F : Fn) : Sp := fun vs H Q E => ∃ (H0 G : Hp) (a dx : Addr) (vs' : List V) (ds : List D) (R : Sl → Prop) (X : Xc → Prop), vs = .ref a :: vs' ∧ Same H0 H ∧ H0 a = none ∧ H a = some (.ins C dx []) ∧ Same G H0 ∧ Rps K G vs' ds ∧ F ds R X ∧
  (∀ fs G' H' u, R (.own (.ins C fs none)) → Fw G H0 G' H' → G' a = none → H' a = some u → OwOk K G' a (.ins C fs none) u → Q .non H') ∧
  (∀ x cls dd G' H', X x → Fw G H0 G' H' → XOk K G' x cls dd → E cls dd H')
theorem spI_len {K : PySem.W.Frag} {C : Addr} {F : Fn} {n : Nat} (h : ∀ ds R X, F ds R X → ds.length = n) (vs : List V) (H : Hp) (Q : VK) (E : XK) (s : spI K C F vs H Q E) : vs.length = n + 1 := by
  obtain ⟨H0, G, a, dx, vs', ds, R, X, rfl, _, _, _, _, r, f, _⟩ := s
  rw [List.length_cons, r.length, h ds R X f]
structure Dc (P : Program) (w : World) (K : PySem.W.Frag) (mg : Str → Option Value) (base : Heap) (x : Str) (C : Addr) (ps : List Str) (k : Nat) (sp : Sp) : Prop where
  gm : mg x = some (.ref C)
  ex : ∃ f fd, Mk K C f ∧ FnOk P w K mg base (L2.CX P w) k f fd ps sp ∧ Binds K fd ps []
def tMkZ (C : Addr) (sp : Sp) (E : L2.St → XK) (t : TA) : TE := fun σ H Q => t σ H fun vs H1 => ∀ x dx, H1 x = none → H1 dx = none → dx ≠ x →
  sp (.ref x :: vs) (upd (upd H1 dx (.own x)) x (.ins C dx [])) (fun v H2 => v = .non ∧ Q (.ref x) H2) (E σ)
section
variable {X : Cx} {W : WX} {x : Str} {C : Addr} {ps : List Str} {k : Nat} {sp : Sp} {p pos : Pos} {e : Expr} {es : List Expr} {t : TA}
theorem pe_mkZ (D : Dc X.prog X.w X.K X.mg X.base x C ps k sp) (hr : Room (k + 1) X.A) (tk : Takes X W) (ha : PA X (e :: es) t) (hg : Gl X x := by rfl) (hdb : (x == ("__debug__" : Str)) = false := by decide)
    (he : starEach (e :: es) X.env = (false, eval e X.env) :: starEach es X.env := by rfl) (hpl : (backTo pos (starEach es X.env)).any (·.1) = false := by rfl) :
    PE X (.Call (.Name x p) (e :: es) [] pos) (tMkZ C sp (WE W) t) := by
  obtain ⟨f, fd, M, FO, hb⟩ := D.ex
  refine ⟨fun pins s0 σ H0 Q I0 h0 => wpAny_Call_Name_kw (ld_glob I0 hg D.gm ?_ hdb)⟩
  refine PySem.W.callWith_K (h₀ := X.base) I0.ok.mod.kin M.kp (thn (ha.run pos pins s0 σ H0 _ I0 h0) fun us s ⟨vs, H, I, r, h⟩ => ⟨I.kIn, ?_⟩) he hpl
  have hq := h (s.heap.objs.size + 1) s.heap.objs.size (I.hok.fresh (Nat.le_succ _)) (I.hok.fresh (Nat.le_refl _)) (Nat.ne_of_lt (Nat.lt_succ_self _))
  have I2 := Inv.made (C := C) I
  have r2 : Vals (V.ref (s.heap.objs.size + 1) :: vs) (Value.ref (s.heap.objs.size + 1) :: us) := .cons rfl r
  have hl : (Value.ref (s.heap.objs.size + 1) :: us ++ []).length = ps.length := by
    rw [List.append_nil]
    exact r2.length.symm.trans (FO.len _ _ _ _ hq)
  have b := hb _ (Value.ref (s.heap.objs.size + 1) :: us) I2.kIn hl
  rw [List.append_nil] at b
  refine wpAny_call (make_map (f := f) I.kIn M.makes M.init (beq_iff_eq.mp M.fn) (codeAny_mono (FO.run _ X.stack _ _ ⟨Value.ref (s.heap.objs.size + 1) :: us, []⟩ (Value.ref (s.heap.objs.size + 1) :: us) _ _ (WE W σ) (hr.make C us [])
    (I2.env0.make C us []) b r2 hq) fun res s' hq' => ?_))
  cases res with
  | error e => exact passAt tk σ pins _ _ e s' I2 hq'
  | ok fl =>
    cases fl with
    | ret u =>
      obtain ⟨v, H', I3, rv, ev, q3⟩ := I2.after hq'
      subst ev
      exact ⟨rv, ⟨V.ref (s.heap.objs.size + 1), H', I3, rfl, q3⟩⟩
    | next => exact hq'.elim
    | brk => exact hq'.elim
    | cont => exact hq'.elim
end
section
variable {B : Bx} {W : WX} {Γ Γ' : List Sl} {P : Po} {aa : TA} {te : TE} {ds : List D} {d : D} {C : Addr} {F : Fn} {E : L2.St → XK} {fs : List (Str × D)} {f : Str} {n : Nat} {oa : Option Addr} {x : Xc}
theorem made_fw {G H1 : Hp} {a dx : Addr} {u1 u2 : HO} (h1 : H1 a = none) (h2 : H1 dx = none) : Same H1 (upd (upd H1 dx u1) a u2) := fun b o q => by
  rw [upd_ne (ne_of_none q h1), upd_ne (ne_of_none q h2)]; exact q
theorem evo_mk (ha : EvA B aa Γ ds) (hF : F ds (fun s => s = .own (.ins C fs none)) (fun _ => False)) : EvO B (tMkZ C (spI B.K C F) E aa) Γ (.ins C fs none) := fun σ G H Q S q =>
  ha σ G H _ S fun vs G1 H1 f1 r1 => fun a dx na ndx ne => ⟨H1, G1, a, dx, vs, ds, _, _, rfl, made_fw (G := G1) na ndx, na, upd_same, f1.e, r1, hF, fun fs' G' H' u hs f' ga ha' ow => by
    cases hs
    exact ⟨rfl, q a u G' H' (f1.trans f') ga (f1.h.free na) ha' ow⟩, fun _ _ _ _ _ z => z.elim⟩
theorem evx_mk (ha : EvA B aa Γ ds) (hF : F ds (fun _ => False) (fun y => y = x)) : EvX B W (tMkZ C (spI B.K C F) (WE W) aa) Γ x := fun σ G H Q S q =>
  ha σ G H _ S fun vs G1 H1 f1 r1 => fun a dx na ndx ne => ⟨H1, G1, a, dx, vs, ds, _, _, rfl, made_fw (G := G1) na ndx, na, upd_same, f1.e, r1, hF, fun _ _ _ _ z => z.elim, fun y cls dd G' H' hy f' xo => by
    subst hy; exact q cls dd G' H' (f1.trans f') xo⟩
/-! fields -/
def putFD (f : Str) (d : D) : List (Str × D) → List (Str × D)
  | [] => [(f, d)]
  | (g, x) :: r => if g = f then (g, d) :: r else (g, x) :: putFD f d r
theorem Rfs.put {K : PySem.W.Frag} {G : Hp} {v : V} (h : Rp K G v d) : ∀ {xs : List (Str × V)} {fs : List (Str × D)}, Rfs K G xs fs → Rfs K G (putF f v xs) (putFD f d fs)
  | _, _, .nil => .cons h .nil
  | _, _, .cons (f := g) q r => by
    unfold putF putFD
    by_cases e : g = f
    · rw [if_pos e, if_pos e]; exact .cons h r
    · rw [if_neg e, if_neg e]; exact .cons q (r.put h)
/-- self.f = e -/
theorem sv_fld (hn : Γ[n]? = some (.own (.ins C fs oa))) (c : Cls B.K C) (na : NoAttr B.K C f) (he : Ev B te Γ d) (hl : fs.length < 1000) (hs : SetAt Γ n (.own (.ins C (putFD f d fs) oa)) Γ') (k : P.nx Γ') : Sv B W (sFld B.K (tVar n) te f) Γ P := fun D σ G H E S =>
  he σ G H _ S fun v G1 H1 f1 r1 => by
    have S1 := S.step f1
    obtain ⟨a, u, e, g, hh, ⟨ha, dx, xs, hu, r⟩, h0⟩ := S1.own hn
    subst hu
    refine ⟨.ref a, e, a, C, dx, xs, rfl, hh, c, na, by rw [r.length]; exact hl, ?_⟩
    obtain ⟨_, rfl⟩ := hs.eq
    exact E.nx _ _ G1 _ k f1.g (S1.mut hn e ⟨ha, dx, _, rfl, r.put r1⟩)
/-- e.f of data -/
theorem ev_fld (h : Ev B te Γ (.obj C fs)) (c : Cls B.K C) (na : NoAttr B.K C f) (hl : fs.lookup f = some d) : Ev B (tFld B.K te f) Γ d := fun σ G H Q S q =>
  h σ G H _ S fun v G1 H1 f1 r1 => by
    cases r1 with
    | obj h1 r1 =>
      obtain ⟨v, e, r⟩ := r1.lookup hl
      exact ⟨_, C, _, _, v, rfl, f1.e _ _ h1, c, na, e, q v G1 H1 f1 r⟩
/-- self.f of one's own -/
theorem ev_fldO (hn : Γ[n]? = some (.own (.ins C fs oa))) (c : Cls B.K C) (na : NoAttr B.K C f) (hl : fs.lookup f = some d) : Ev B (tFld B.K (tVar n) f) Γ d := fun σ G H Q S q => by
  obtain ⟨a, u, e, g, hh, ⟨ha, dx, xs, hu, r⟩, h0⟩ := S.own hn
  subst hu
  obtain ⟨v, e2, r2⟩ := r.lookup hl
  exact ⟨.ref a, e, a, C, dx, xs, v, rfl, hh, c, na, e2, q v G H (.refl S.same) r2⟩
end
/-! __init__'s body -/
def iniI (N : List Str) (C a : Addr) (ds : List D) : List Sl := .own (.ins C [] (some a)) :: ini N.tail ds
theorem stt_startI {K : PySem.W.Frag} {G H0 H : Hp} {N : List Str} {C a dx : Addr} {vs : List V} {ds : List D} (hN : 0 < N.length) (s0 : Same H0 H) (n0 : H0 a = none) (ha : H a = some (.ins C dx [])) (s : Same G H0) (r : Rps K G vs ds) :
    Stt ⟨K, G, H0, NoF⟩ (iniI N C a ds) (L2.start N (.ref a :: vs)) G H := by
  obtain ⟨n, N', rfl⟩ : ∃ n N', N = n :: N' := by cases N with
    | nil => simp at hN
    | cons n N' => exact ⟨n, N', rfl⟩
  have T : Stt ⟨K, G, H, NoF⟩ (ini N' ds) (L2.start N' vs) G H := stt_start (s.trans s0) r
  have e1 : L2.start (n :: N') (.ref a :: vs) = some (.ref a) :: L2.start N' vs := by simp [L2.start]
  have hno := ini_own N' ds
  have hnm := ini_mem N' ds
  have ow : ∀ (i : Nat) (b : Addr), Owns (iniI (n :: N') C a ds) (some (.ref a) :: L2.start N' vs) i b → i = 0 ∧ b = a := fun i b h => by
    cases i with
    | zero =>
      rcases h with ⟨o, _, h2⟩ | ⟨M, w, h1, _⟩
      · have q : some (some (V.ref a)) = some (some (.ref b)) := h2
        cases q; exact ⟨rfl, rfl⟩
      · have q : some (Sl.own (.ins C [] (some a))) = some (.mem M) := h1
        cases q
    | succ i =>
      rcases h with ⟨o, h1, _⟩ | ⟨M, w, h1, _⟩
      · exact absurd h1 (hno i o)
      · exact absurd h1 (hnm i M)
  rw [e1]
  refine ⟨.of ⟨Same.refl _, s0, s.trans s0, fun b o q m => by have m : G b = none := m; rw [m] at q; cases q⟩, by unfold iniI; rw [List.length_cons, List.length_cons, T.len]; rfl, fun i sl h => ?_, fun i j b h1 h2 => (ow i b h1).1.trans (ow j b h2).1.symm, fun i o b h1 h2 => ?_, fun i M b w h1 h2 => ?_⟩
  · cases i with
    | zero =>
      have e : sl = .own (.ins C [] (some a)) := (Option.some.inj h).symm
      subst e
      exact ⟨a, _, rfl, s.free n0, ha, fun b e => (Option.some.inj e).symm, dx, [], rfl, .nil⟩
    | succ i => exact T.sl i sl h
  · have := (ow i b (.inl ⟨o, h1, h2⟩)).2
    subst this
    exact n0
  · have := (ow i b (.inr ⟨M, w, h1, h2⟩)).2
    subst this
    exact .inl n0
theorem sv_init {K : PySem.W.Frag} {C : Addr} {F : Fn} {N : List Str} {t : TS} {vs : List V} {H : Hp} {Q : VK} {E : XK} (hN : 0 < N.length) (h : spI K C F vs H Q E)
    (hb : ∀ H0 G a ds R X, F ds R X → Sv ⟨K, G, H0, NoF⟩ (fun cls d _ H' => E cls d H') t (iniI N C a ds) { nx := fun Γ => ∃ fs, Γ[0]? = some (.own (.ins C fs (some a))) ∧ R (.own (.ins C fs none)), rt := fun _ => False, xc := fun x _ => X x }) :
    t { nx := fun _ H' => Q .non H', rt := Q } (L2.start N vs) H := by
  obtain ⟨H0, G, a, dx, vs', ds, R, X, rfl, s0, n0, ha, s, r, f, q, qe⟩ := h
  refine hb H0 G a ds R X f _ (L2.start N (.ref a :: vs')) G H ⟨fun Γ σ G' H' h _ S => ?_, fun _ _ _ _ z => z.elim, fun _ _ _ _ z => z.elim, fun s v G' H' z => z.elim, fun x Γ cls dd σ G' H' h _ S xo => qe x cls dd G' H' h (S.fw.fw fun _ z => z) xo, fun _ _ _ _ _ _ _ _ z => z.elim⟩ (stt_startI hN s0 n0 ha s r)
  obtain ⟨fs, h1, hR⟩ := h
  obtain ⟨b, u, e, g, hh, ⟨hab, dx', xs, hu, rr⟩, h0⟩ := S.own h1
  have e2 := hab a rfl
  subst e2
  exact q fs G' H' u hR (S.fw.fw fun _ z => z) g hh ⟨(fun _ z => nomatch z), dx', xs, hu, rr⟩
end Z

/-! Z17: dicts of the module with text keys; the Hook with them. -/
namespace Z
open PySem PySem.Spec PyProof.Rows L2
abbrev TabZ : Type := Str × List Str
abbrev AlZ : Type := He.AlD × List (Option (List (Option (Str × Int))))
def obsW (ts : List (PySem.W.Frag → Bool)) (fn : List He.DefD) (tb : List TabZ) (K : PySem.W.Frag) : AlZ := (obsZ ts fn K, tb.map fun t => He.dicW K (He.ga K t.1))
def valW (fn : List He.DefD) (tb : List TabZ) (w : World) : AlZ := (He.valD fn, tb.map fun t => some (He.keysIn w.params t.2))
def SaysW (ts : List (PySem.W.Frag → Bool)) (fn : List He.DefD) (tb : List TabZ) (w : World) (K : PySem.W.Frag) : Prop := obsW ts fn tb K = valW fn tb w
def obsWG (n : Nat) (ts : List (PySem.W.Frag → Bool)) (fn : List He.DefD) (tb : List TabZ) (g : Addr → Option Obj) : AlZ := obsW ts fn tb (He.frG g (He.asD g n))
def hookW (n : Nat) (ts : List (PySem.W.Frag → Bool)) (fn : List He.DefD) (tb : List TabZ) : PySem.W.Hook where
  α := AlZ
  obs := fun s => obsWG n ts fn tb s.heap.get?
  val := fun w => valW fn tb w
  says := fun w h => ∃ K : PySem.W.Frag, K.In h ∧ SaysW ts fn tb w K
  of := fun _ _ e => ⟨_, He.frG_in, e⟩
  keeps := fun _ _ _ ⟨K, hK, c⟩ k => ⟨K, PySem.W.Frag.In.keeps hK k, c⟩
theorem obsWG_eq {n : Nat} {ts : List (PySem.W.Frag → Bool)} {fn : List He.DefD} {tb : List TabZ} {g : Addr → Option Obj} {s : Shared} (h : ∀ a, g a = s.heap.get? a) : obsWG n ts fn tb g = (hookW n ts fn tb).obs s := by
  have e : g = s.heap.get? := funext h
  rw [e] <;> rfl
section
variable {ts : List (PySem.W.Frag → Bool)} {fn : List He.DefD} {tb : List TabZ} {w : World} {K : PySem.W.Frag}
theorem SaysW.z (c : SaysW ts fn tb w K) : SaysZ ts fn K := congrArg (fun z : AlZ => z.1) c
theorem SaysW.tab (c : SaysW ts fn tb w K) (i : Nat) {t : TabZ} (h : tb[i]? = some t := by rfl) : ∃ es n, KDict K w (He.ga K t.1) es n := by
  have e : (tb.map fun t => He.dicW K (He.ga K t.1)) = tb.map fun t => some (He.keysIn w.params t.2) := congrArg (fun z : AlZ => z.2) c
  have e2 : (tb.map fun t => He.dicW K (He.ga K t.1))[i]? = (tb.map fun t => some (He.keysIn w.params t.2))[i]? := by rw [e]
  rw [List.getElem?_map, List.getElem?_map, h] at e2
  exact He.dicW_ok (Option.some.inj e2)
end
/-! ### such a dict, read -/
def rKIx (K : PySem.W.Frag) (a : Addr) : R2 := fun x y H Q => ∃ (z : Str) (u : Value) (v : V), x = .ref a ∧ y = .str z ∧ PySem.W.nsIn K a z = some (some u) ∧ RelV v u ∧ Q v H
def rKIn (K : PySem.W.Frag) (a : Addr) (neg : Bool) : R2 := fun x y H Q => ∃ (z : Str) (r : Option Value), x = .str z ∧ y = .ref a ∧ PySem.W.nsIn K a z = some r ∧ Q (.bl (if neg then !r.isSome else r.isSome)) H
section
variable {X : Cx} {a : Addr}
theorem ix_K (D : ∃ es n, KDict X.K X.w a es n) : IxR X (rKIx X.K a) := by
  intro value slice pins s σ H x y v u Q I rx ry h hs
  obtain ⟨es, n, D⟩ := D
  obtain ⟨z, u0, v0, rfl, rfl, e, r, q⟩ := h
  have T := kd_type D I
  have rx0 := rx
  cases rx
  exact tail_any (T := "dict") (ops := [.ref a, u]) T PySem.F.slot_dict_getitem.lookup (op_item_kd D pins s σ H (.ref a) (.str z) _ u Q I rx0 ry ⟨z, u0, v0, rfl, rfl, e, r, q⟩) hs
theorem op_KIn (D : ∃ es n, KDict X.K X.w a es n) : OpR X (compareOp .In) (rKIn X.K a false) := by
  intro pins s σ H x y v u Q I rx ry h
  obtain ⟨es, n, D⟩ := D
  obtain ⟨z, r, rfl, rfl, e, q⟩ := h
  exact op_in_kd D pins s σ H _ _ v u Q I rx ry ⟨z, r, rfl, rfl, e, q⟩
theorem op_KNotIn (D : ∃ es n, KDict X.K X.w a es n) : OpR X (compareOp .NotIn) (rKIn X.K a true) := by
  intro pins s σ H x y v u Q I rx ry h
  obtain ⟨es, n, D⟩ := D
  obtain ⟨z, r, rfl, rfl, e, q⟩ := h
  exact op_notIn_kd D pins s σ H _ _ v u Q I rx ry ⟨z, r, rfl, rfl, e, q⟩
end
section
variable {B : Bx} {a : Addr} {z : Str} {d : D}
/-- what stands under a key: one value for all -/
def KVal (K : PySem.W.Frag) (a : Addr) (z : Str) (v : V) : Prop := ∃ u, PySem.W.nsIn K a z = some (some u) ∧ RelV v u
theorem rv_KIx {v : V} (h : KVal B.K a z v) (r : ∀ G, Rp B.K G v d) : RV B (rKIx B.K a) (.ref a) (.str z) d := fun x y G H Q s rx ry q => by
  cases rx; cases ry
  obtain ⟨u, e, ru⟩ := h
  exact ⟨z, u, v, rfl, rfl, e, ru, q v G H (.refl s) (r G)⟩
theorem rv_KInY {v : V} (h : KVal B.K a z v) : RV B (rKIn B.K a false) (.str z) (.ref a) (.bl true) := fun x y G H Q s rx ry q => by
  cases rx; cases ry
  obtain ⟨u, e, ru⟩ := h
  exact ⟨z, _, rfl, rfl, e, q _ G H (.refl s) (.bl _)⟩
theorem rv_KNotInY {v : V} (h : KVal B.K a z v) : RV B (rKIn B.K a true) (.str z) (.ref a) (.bl false) := fun x y G H Q s rx ry q => by
  cases rx; cases ry
  obtain ⟨u, e, ru⟩ := h
  exact ⟨z, _, rfl, rfl, e, q _ G H (.refl s) (.bl _)⟩
theorem rv_KNotInN (h : PySem.W.nsIn B.K a z = some none) : RV B (rKIn B.K a true) (.str z) (.ref a) (.bl true) := fun x y G H Q s rx ry q => by
  cases rx; cases ry
  exact ⟨z, _, rfl, rfl, h, q _ G H (.refl s) (.bl _)⟩
theorem rv_KInN (h : PySem.W.nsIn B.K a z = some none) : RV B (rKIn B.K a false) (.str z) (.ref a) (.bl false) := fun x y G H Q s rx ry q => by
  cases rx; cases ry
  exact ⟨z, _, rfl, rfl, h, q _ G H (.refl s) (.bl _)⟩
end
def kvalB (K : PySem.W.Frag) (x : Str) (k : Str) (v : He.Dv) : Bool := He.valsB K (He.ga K x) [(k, v)]
theorem kvalB_ok {K : PySem.W.Frag} {x k : Str} {v : He.Dv} (h : kvalB K x k v = true) : KVal K (He.ga K x) k (v.v K) := He.valsB_ok h (q := (k, v)) List.mem_cons_self
end Z

/-! Z18: identity with booleans, chains, isinstance with several, lists of ints searched. -/
namespace Z
open PySem PySem.Spec PyProof.Rows L2
def zIsB : R2 := fun x y H Q => ∃ b : Bool, y = .bl b ∧ Q (.bl (decide (x = .bl b))) H
def zNotB : R2 := fun x y H Q => ∃ b : Bool, y = .bl b ∧ Q (.bl (!decide (x = .bl b))) H
section
variable {X : Cx}
theorem relv_bool {x : V} {b : Bool} (h : RelV x (Value.bool b)) : x = .bl b := by
  cases x <;> first
    | (cases h; rfl)
    | (obtain ⟨t, h⟩ := h; cases h)
    | (cases h)
theorem op_zIsB : OpR X (compareOp .Is) zIsB := by
  intro pins s σ H x y v u Q I rx ry h
  obtain ⟨b, rfl, q⟩ := h
  cases (show u = Value.bool b from ry)
  by_cases e : x = .bl b
  · subst e
    cases (show v = Value.bool b from rx)
    exact wpAny_is_self rfl ⟨.bl true, H, I, rfl, by simpa using q⟩
  · refine wpAny_is_other ?_ (fun z => e (relv_bool (z ▸ rx))) ⟨.bl false, H, I, rfl, by simpa [e] using q⟩
    cases x <;> first
      | (cases rx; rfl)
      | (obtain ⟨t, rfl⟩ := rx; rfl)
theorem op_zNotB : OpR X (compareOp .IsNot) zNotB := by
  intro pins s σ H x y v u Q I rx ry h
  obtain ⟨b, rfl, q⟩ := h
  cases (show u = Value.bool b from ry)
  by_cases e : x = .bl b
  · subst e
    cases (show v = Value.bool b from rx)
    exact wpAny_isNot_self rfl ⟨.bl false, H, I, rfl, by simpa using q⟩
  · refine wpAny_isNot_other ?_ (fun z => e (relv_bool (z ▸ rx))) ⟨.bl true, H, I, rfl, by simpa [e] using q⟩
    cases x <;> first
      | (cases rx; rfl)
      | (obtain ⟨t, rfl⟩ := rx; rfl)
end
def D.isBl (b : Bool) : D → Bool
  | .bl c => c == b
  | _ => false
section
variable {B : Bx} {Γ : List Sl} {ta tb tc : TE} {a b c d : D} {r r' : R2} {p q : Bool} {i : Int} {ns : List Int}
theorem rp_bl {K : PySem.W.Frag} {G : Hp} {v : V} (r : Rp K G v d) : decide (v = .bl p) = d.isBl p := by
  cases r <;> first
    | rfl
    | (rename_i c; show decide (V.bl c = V.bl p) = (c == p); rw [dec_bl])
theorem rv_isB : RV B zIsB d (.bl p) (.bl (d.isBl p)) := fun x y G H Q s rx ry q => by
  cases ry; refine ⟨p, rfl, ?_⟩; rw [rp_bl rx]; exact q _ G H (.refl s) (.bl _)
theorem rv_notB : RV B zNotB d (.bl p) (.bl (!d.isBl p)) := fun x y G H Q s rx ry q => by
  cases ry; refine ⟨p, rfl, ?_⟩; rw [rp_bl rx]; exact q _ G H (.refl s) (.bl _)
/-- a r b r' c -/
theorem ev_chain (ha : Ev B ta Γ a) (hb : Ev B tb Γ b) (hr : RV B r a b (.bl p)) (hc : p = true → Ev B tc Γ c) (hr' : p = true → RV B r' b c (.bl q)) : Ev B (tChain r r' ta tb tc) Γ (.bl (p && q)) := fun σ G H Q S k =>
  ha σ G H _ S fun x G1 H1 f1 r1 => hb σ G1 H1 _ (S.step f1) fun y G2 H2 f2 r2 => hr x y G2 H2 _ f2.e (r1.mono f2.g) r2 fun v G3 H3 f3 r3 => by
    cases r3
    refine ⟨p, rfl, ?_⟩
    have f123 := (f1.trans f2).trans f3
    cases p with
    | false => exact k _ G3 H3 f123 (.bl false)
    | true => exact hc rfl σ G3 H3 _ (S.step f123) fun z G4 H4 f4 r4 => hr' rfl y z G4 H4 Q f4.e (r2.mono (f3.g.trans f4.g)) r4 fun v G5 H5 f5 r5 => k v G5 H5 ((f123.trans f4).trans f5) r5
end
/-! isinstance(x, (c, d)) -/
section
variable {X : Cx}
def zIsi2 (K : PySem.W.Frag) : List V → Hp → VK → Prop := fun xs H Q => rIsi K xs H Q ∨ rIsiT K xs H Q
theorem call_zIsi2 : CallR X (.builtin "isinstance") (zIsi2 X.K) := CallR.or call_isi call_isiT
end
section
variable {B : Bx} {Γ : List Sl} {ta : TE} {d : D} {t : Value} {p : Bool} {Ts : List String}
theorem ev_tys {aa : TA} : ∀ {Ts : List String}, True := fun {_} => trivial
/-- the classes, laid as a tuple -/
theorem ev_isiT {tx tu : TE} {S T : String} (hx : Ev B tx Γ d) (ht : d.tyv = some t) (hk : PySem.W.kitAny B.K t [.type S, .type T] = some p) :
    Ev B (tCB (zIsi2 B.K) (tCons tx (tCons (tTup (tCons (tC (.ty S)) (tCons (tC (.ty T)) tNil))) tNil))) Γ (.bl p) := fun σ G H Q Sx q =>
  hx σ G H _ Sx fun x G1 H1 f1 r1 => ⟨by show 2 ≤ sizeLine; decide, fun a na => .inr ⟨x, a, [.ty S, .ty T], t, [.type S, .type T], p, rfl, upd_same, .cons (.ty S) (.cons (.ty T) .nil), r1.tyx (f1.e.trans (Fw.newO (o := .tup [.ty S, .ty T]) f1.e na).h) ht, hk, q (.bl p) G1 _ (f1.trans (Fw.newO f1.e na)) (.bl p)⟩⟩
end
end Z

/-! Z19: set(xs), xs a list of ints; sorted of it. -/
namespace Z
open PySem PySem.Spec PyProof.Rows L2
/-- a new set, empty -/
def set0 (w : World) : Obj := { cls := .type "set", dict := none, data := .set #[] 0 (.fresh 0 0 (!w.params.followText "set-order")) }
section
variable {P : Program} {w : World} {A : Around} {E : Value → Shared → Prop} {s : Shared}
theorem call_setL {l : Addr} {items : Array Value} (ns : List Int) {Q : Value → Shared → Prop} (hh : A.handled = none) (hl : s.heap.IsList l items) (hit : IntsAre items.toList ns) (hb : ns.length + 1 < scanBound)
    (h : ∀ (h' : Heap) (tk c : Nat), SetR w h' s.heap.objs.size (fun j => decide (j ∈ ns)) c → c ≤ ns.length → (∀ b o, s.heap.get? b = some o → h'.get? b = some o) → Q (.ref s.heap.objs.size) { s with heap := h', toks := tk }) :
    wpAny (model P w) A (call (.type "set") [.ref l]) Q E s := by
  have many : items.size = ns.length := by have q := IntsAre.length hit; rw [Array.length_toList] at q; exact q
  obtain ⟨c, tl, hmro⟩ := F.called_set.mro
  have hmade := F.called_set.made
  have hsub := F.called_set.sub
  refine wpAny_call (codeAny_of_tree (wpAny_pure ⟨Code.quiet_builtin _ (by decide +kernel), codeAny_builtin PySem.F.entry_type_call ?_⟩))
  rw [Around.under_plain (weight_type_call_type "set" [.ref l] []) rfl]
  have h1 := F.called_set.notType
  have h2 := F.called_set.canCreate
  have hct := F.typeCall_set_1 (.ref l)
  repeat (any_goals (first | assumption | wp_step))
  refine codeAny_mono (code_set_led1 (w := w) (.ref l) (E := E) (Q₁ := fun obj s₁ => obj = .ref s.heap.objs.size ∧ s₁ = { s with heap := s.heap.push (set0 w) }) ⟨rfl, rfl⟩) fun r s₁ hr => ?_
  cases r with
  | error e => exact hr
  | ok fl =>
    cases fl with
    | next => exact hr.elim
    | brk => exact hr.elim
    | cont => exact hr.elim
    | ret obj =>
      obtain ⟨rfl, rfl⟩ := hr
      have hS : (s.heap.push (set0 w)).get? s.heap.objs.size = some (set0 w) := Heap.get?_push_size _ rfl
      have hT : Shared.TypeIs { s with heap := s.heap.push (set0 w) } (.ref s.heap.objs.size) "set" := ⟨_, hS, rfl⟩
      have hli := F.called_set.init.lookup
      have hbi := F.called_set.init.bind (.ref s.heap.objs.size)
      repeat (any_goals (first | assumption | wp_step))
      let End : Value → Shared → Prop := fun r s₂ => r = .none ∧ ∃ h' tk c, s₂ = { s with heap := h', toks := tk } ∧ SetR w h' s.heap.objs.size (fun j => decide (j ∈ ns)) c ∧ c ≤ ns.length ∧ ∀ b o, s.heap.get? b = some o → h'.get? b = some o
      refine codeAny_mono (codeAny_call_builtin (R := wants End E) F.called_set.init.plain F.entry_set_init (check_set_init_1 hT ?_)) fun r₂ s₂ hr₂ => ?_
      · obtain ⟨ol, hol, hcl, nl, hdl⟩ := hl
        obtain ⟨ocls, odict, odata, oslots⟩ := ol
        simp only at hcl hdl
        subst hcl hdl
        have hol' : (s.heap.push (set0 w)).get? l = some { cls := .type "list", dict := odict, data := .seq items nl, slots := oslots } := Heap.get?_push_of_some _ hol
        have hsls := F.sub_list_set
        have hslf := F.sub_list_frozenset
        have hne : (Value.type "list" == Value.type "dict") = false := by decide
        have hl1 : (s.heap.push (set0 w)).IsList l items := ⟨_, hol', rfl, nl, rfl⟩
        unfold Builtin.«set.__init__» noKeywords Builtin.Frozenset.updateFrom
        generalize hPI : pyIter = PI
        wp_walk
        subst hPI
        refine wpAny_pyIter_list hl1 (wpAny_bind (wpAny_runValue ?_))
        have sz : (s.heap.push (set0 w)).objs.size = s.heap.objs.size + 1 := Heap.size_push ..
        have lS : l < s.heap.objs.size := Heap.lt_size hol
        have far : l ≠ (s.heap.push (set0 w)).objs.size := by rw [sz]; exact Nat.ne_of_lt (Nat.lt_succ_of_lt lS)
        have out : s.heap.objs.size ∉ [(s.heap.push (set0 w)).objs.size, l] := by
          rw [sz]; simp only [List.mem_cons, List.not_mem_nil, or_false, not_or]; exact ⟨Nat.ne_of_lt (Nat.lt_succ_self _), Nat.ne_of_gt lS⟩
        have val : ∀ (i : Nat) (v : Value), items[i]? = some v → ∃ k t, ns[i]? = some k ∧ v = .int k t := fun i v hv => by
          have hi : i < ns.length := by rw [← many]; exact (Array.getElem?_eq_some_iff.mp hv).1
          obtain ⟨t, e⟩ := PyProof.Rows.IntsAre.int_at hit i v (by rw [Array.getElem?_toList]; exact hv)
          exact ⟨ns[i], t, List.getElem?_eq_getElem hi, by rw [e, List.getD_eq_getElem?_getD, List.getElem?_eq_getElem hi]; rfl⟩
        refine set_update_ints ((Walks.list (show A.in1.in1.in1.handled = none by simp [hh]) _ l far items).toS) s.heap.objs.size out ns many hb val (items.size - 0) 0 _ (by omega) (Nat.zero_le _)
          ⟨⟨_, Heap.get?_push_size _ rfl, rfl, rfl⟩, hl1.push _⟩ ⟨0, Nat.le_refl 0, setR_new_at (Heap.get?_push_of_some _ hS)⟩ fun s' c' hm hc' hS' => ?_
        obtain ⟨h', g2, d', tk', os'⟩ := s'
        obtain rfl : g2 = s.gens := hm.gens
        obtain rfl : d' = s.drawn := hm.drawn
        obtain rfl : os' = s.os := hm.os
        rw [many] at hc'
        refine wpAny_pure (wpAny_pure ⟨rfl, h', tk', c', rfl, hS', hc', fun b o e => ?_⟩)
        have b0 : b < s.heap.objs.size := Heap.lt_size e
        exact hm.heap b o (by rw [sz]; simp only [List.mem_cons, List.not_mem_nil, or_false, not_or]; exact ⟨Nat.ne_of_lt b0, Nat.ne_of_lt (Nat.lt_succ_of_lt b0)⟩) (Heap.get?_push_of_some _ (Heap.get?_push_of_some _ e))
      · cases r₂ with
        | error e => exact hr₂
        | ok fl₂ =>
          cases fl₂ with
          | next => exact hr₂.elim
          | brk => exact hr₂.elim
          | cont => exact hr₂.elim
          | ret r =>
            obtain ⟨rfl, h', tk, c', rfl, hS', hc', hk'⟩ := hr₂
            repeat (any_goals (first | assumption | wp_step))
            exact h _ _ _ hS' hc' hk'
end
section
variable {X : Cx}
/-- set(xs) -/
def rSetL1 (K : PySem.W.Frag) (w : World) : List V → Hp → VK → Prop := fun xs H Q => ∃ (l : Addr) (ns : List Int), xs = [.ref l] ∧ SqL K H l (ns.map V.int) ∧ ns.length < 60 ∧
  ∀ (a : Addr) (c : Nat), H a = none → c ≤ ns.length → Q (.ref a) (upd H a (SetO w a (fun j => decide (j ∈ ns)) c))
theorem cr_setL1 (hc : X.calm = true) : CallR X (.type "set") (rSetL1 X.K X.w) := by
  intro pins s σ H xs us Q I r h
  obtain ⟨l, ns, rfl, hl, hf, q⟩ := h
  rw [Vals.ref1 r]
  obtain ⟨its, rv, pl, hz⟩ := I.list hl
  exact call_setL (P := X.prog) (w := X.w) ns (I.ok.hd hc) pl.isList (by simpa using ints_of_vals rv) (by unfold scanBound; omega) fun h' tk c R hc k =>
    ⟨.ref s.heap.objs.size, _, I.laid (t' := tk) k (Nat.le_refl _) (setO_new R), rfl, q _ c (I.hok.fresh (Nat.le_refl _)) hc⟩
end
theorem lt_ext : ∀ {a b : List Int}, a.Pairwise (· < ·) → b.Pairwise (· < ·) → (∀ k, k ∈ a ↔ k ∈ b) → a = b
  | [], [], _, _, _ => rfl
  | [], y :: b, _, _, h => absurd ((h y).mpr List.mem_cons_self) (by simp)
  | x :: a, [], _, _, h => absurd ((h x).mp List.mem_cons_self) (by simp)
  | x :: a, y :: b, ha, hb, h => by
    obtain ⟨a1, a2⟩ := List.pairwise_cons.mp ha
    obtain ⟨b1, b2⟩ := List.pairwise_cons.mp hb
    have e : x = y := by
      rcases List.mem_cons.mp ((h x).mp List.mem_cons_self) with q | q
      · exact q
      · rcases List.mem_cons.mp ((h y).mpr List.mem_cons_self) with r | r
        · exact r.symm
        · have := a1 y r; have := b1 x q; omega
    subst e
    congr 1
    refine lt_ext a2 b2 fun k => ⟨fun hk => ?_, fun hk => ?_⟩
    · rcases List.mem_cons.mp ((h k).mp (List.mem_cons_of_mem _ hk)) with q | q
      · subst q; have := a1 k hk; omega
      · exact q
    · rcases List.mem_cons.mp ((h k).mpr (List.mem_cons_of_mem _ hk)) with q | q
      · subst q; have := b1 k hk; omega
      · exact q
section
variable {B : Bx} {Γ : List Sl} {te : TE} {ns ms : List Int} {w : World}
/-- sorted(set(xs)): ms -/
theorem ev_sortset {K : PySem.W.Frag} (hK : K = B.K) (h : Ev B te Γ (.lst (ns.map .int))) (hl : ns.length < 60) (h1 : ms.Pairwise (· < ·)) (h2 : ∀ k, k ∈ ms ↔ k ∈ ns) : Ev B (tCB (rSortedSet w) (tCons (tCB (rSetL1 K w) (tCons te tNil)) tNil)) Γ (.lst (ms.map .int)) := fun σ G H Q S q => by
  subst hK
  refine h σ G H _ S fun v G1 H1 f r => ?_
  cases r with
  | lst hh r1 =>
    have e := rps_ints_inv r1
    subst e
    refine ⟨_, ns, rfl, same_l f.e hh, hl, fun a c na hc => ⟨a, _, c, rfl, upd_same, by omega, fun ks p kp km kl np => ?_⟩⟩
    have e2 : ks = ms := lt_ext kp h1 fun k => by rw [km k, h2 k]; simp
    subst e2
    have fa : Fw G1 H1 G1 (upd H1 a (SetO w a (fun j => decide (j ∈ ns)) c)) := Fw.newO f.e na
    exact q _ _ _ ((f.trans fa).trans (Fw.new fa.e np)) (.lst (.inl (.inl upd_same)) (rps_ints ks))
end
end Z

/-! Z20: more methods and built-ins. -/
namespace Z
open PySem PySem.Spec PyProof.Rows L2
def rFindT : V → List V → Hp → VK → Prop := fun x xs H Q => ∃ a b, x = .str a ∧ xs = [.str b] ∧ Q (.int (Txt.find a b)) H
theorem mt_zFindT {X : Cx} : MtR X "str.find" rFindT := mt_find
def rSplitT : V → List V → Hp → VK → Prop := fun x xs H Q => ∃ a b, x = .str a ∧ xs = [.str b] ∧ (b.length == 0) = false ∧ a.length + 2 ≤ sizeLine ∧ rNewStrs (Txt.split a b) H Q
theorem mt_zSplitT {X : Cx} : MtR X "str.split" rSplitT := mt_split
def zAll (K : PySem.W.Frag) : List V → Hp → VK → Prop := rAll K
theorem call_zAll {X : Cx} (hc : X.calm = true) : CallR X (.builtin "all") (zAll X.K) := cr_all hc
def zSum (K : PySem.W.Frag) : List V → Hp → VK → Prop := rSum K
theorem call_zSum {X : Cx} (hc : X.calm = true) : CallR X (.builtin "sum") (zSum X.K) := cr_sum hc
def zMaxL (K : PySem.W.Frag) : List V → Hp → VK → Prop := rMax K
theorem call_zMaxL {X : Cx} (hc : X.calm = true) : CallR X (.builtin "max") (zMaxL X.K) := cr_max hc
def rSortedDI : List V → Hp → VK → Prop := fun xs H Q => ∃ (a : Addr) (kvs : List (Key × V)) (ks : List Int), xs = [.ref a] ∧ Rd H a (.dK kvs) ∧ kvs.map (·.1) = ks.map Sum.inl ∧ ks.length < 64 ∧ ∀ (ys : List Int) (p : Addr), ys.Perm ks → ys.Pairwise (· ≤ ·) → H p = none → Q (.ref p) (upd H p (.lst (ys.map V.int)))
def zSorted (K : PySem.W.Frag) : List V → Hp → VK → Prop := fun xs H Q => rSorted K xs H Q ∨ rSortedDI xs H Q
theorem call_zSorted {X : Cx} (hc : X.calm = true) : CallR X (.builtin "sorted") (zSorted X.K) := CallR.or cr_sorted (call_sortedDI hc)
section
variable {B : Bx} {bs : List Bool} {ns : List Int} {m : Int} {a b : List Nat}
theorem rps_bls_inv {K : PySem.W.Frag} {G : Hp} : ∀ {vs : List V} {xs : List Bool}, Rps K G vs (xs.map D.bl) → vs = xs.map V.bl
  | _, [], h => by cases h; rfl
  | _, n :: r, h => by
    cases h with
    | cons h q =>
      cases h
      rw [rps_bls_inv q] <;> rfl
theorem rc_all : RC B (zAll B.K) [.lst (bs.map .bl)] (.bl (bs.all id)) := fun xs G H Q s r q => by
  cases r with
  | cons r1 r2 =>
    cases r2
    cases r1 with
    | lst h1 r1 =>
      have e := rps_bls_inv r1
      subst e
      exact ⟨_, bs, rfl, same_l s h1, q _ G H (.refl s) (.bl _)⟩
theorem rc_sum : RC B (zSum B.K) [.lst (ns.map .int)] (.int ns.sum) := fun xs G H Q s r q => by
  cases r with
  | cons r1 r2 =>
    cases r2
    cases r1 with
    | lst h1 r1 =>
      have e := rps_ints_inv r1
      subst e
      exact ⟨_, ns, rfl, same_l s h1, q _ G H (.refl s) (.int _)⟩
theorem rc_maxL (hm : m ∈ ns) (hle : ∀ y ∈ ns, y ≤ m) : RC B (zMaxL B.K) [.lst (ns.map .int)] (.int m) := fun xs G H Q s r q => by
  cases r with
  | cons r1 r2 =>
    cases r2
    cases r1 with
    | lst h1 r1 =>
      have e := rps_ints_inv r1
      subst e
      refine ⟨_, ns, rfl, same_l s h1, List.length_pos_of_mem hm, fun k hk hk2 => ?_⟩
      have e2 : k = m := Int.le_antisymm (hle k hk) (hk2 m hm)
      subst e2
      exact q _ G H (.refl s) (.int _)
theorem rm_find : RM B rFindT (.str (tx a)) [.str (tx b)] (.int (Txt.find (tx a) (tx b))) := fun x xs G H Q s r rs q => by
  cases r
  cases rs with
  | cons r1 r2 => cases r1; cases r2; exact ⟨_, _, rfl, rfl, q _ G H (.refl s) (.int _)⟩
end
end Z

/-! Z21: a name set to a dict comprehension. -/
namespace Z
open PySem PySem.Spec PyProof.Rows L2
section
variable {X : Cx}
theorem ps_setDc {i : Nat} {y : Str} {py : Pos} {kx vx tg iter : Expr} {ifs : List Expr} {scope : Scope} {own : List (Str × Nat)} {pos spos : Pos} {wi : TI} {g : TG} {tt : TT} {tk tv : TE} (hc : X.calm = true) (hN : X.N.Nodup) (hy : X.N[i]? = some y) (hyl : X.env.scope.names.lookup y = some .local)
    (hsw : swapsWith (.DictComp kx vx [⟨tg, iter, ifs, 0⟩] scope pos) (some (.Name y py)) spos.line X.env = pure true) (hi : PI X tg iter wi) (ok : BlkOk X.N X.env.scope scope own)
    (hg : ∀ (s : Shared) (H : Hp) (C : Addr) (cl : List (Str × Addr)) (fp : List Addr), PG (X.blk s H scope (compEnvC scope cl C X.env) fp) tg g) (ht : ∀ (s : Shared) (H : Hp) (C : Addr) (cl : List (Str × Addr)) (fp : List Addr), PTs (X.blk s H scope (compEnvC scope cl C X.env) fp) ifs tt)
    (hk : ∀ (s : Shared) (H : Hp) (C : Addr) (cl : List (Str × Addr)) (fp : List Addr), PE (X.blk s H scope (compEnvC scope cl C X.env) fp) kx tk)
    (he : ∀ (s : Shared) (H : Hp) (C : Addr) (cl : List (Str × Addr)) (fp : List Addr), PE (X.blk s H scope (compEnvC scope cl C X.env) fp) vx tv) (hs : ∀ x, foldedSetIterable iter X.env x = pure x := by intro _; rfl) :
    PS X (.Assign [.Name y py] (.DictComp kx vx [⟨tg, iter, ifs, 0⟩] scope pos) spos) (tAsg (tDc wi g tt tk tv (own.map (·.2))) (gName i)) := by
  refine ⟨fun pins s σ H D I h => ?_⟩
  rw [exec_Assign_Name_used _ _ _ _ hsw]
  refine wpAny_bind (wpAny_standAt (wpAny_bind ?_))
  have h : tDc wi g tt tk tv (own.map (·.2)) σ H (fun x H1 => gName i x σ H1 D.nx) := h
  refine wpAny_bind (thn (dc_core (use := some (assign (.Name y py) X.env)) (Qf := fun _ s' => SP X pins D .next s') hc hN I hi ok hg ht hk he hs h fun L C s' m H' I' q hn f => ?_) fun _ s' hq => wpAny_pure (wpAny_pure hq))
  show wpAny _ _ (assign (.Name y py) X.env (.ref L)) _ _ _
  refine wpAny_assign_Name (store_ok2 (v := V.ref L) I' hN hy (.inl hyl) rfl (fun s2 I2 ⟨a, sb, ha⟩ => ?_) (.inr hyl))
  obtain ⟨f0, f1, f2, f3, f4, f5⟩ := f
  have off : C ≠ a := by
    rcases ha with z | z
    · rw [z]; exact f1
    · exact fun e => f4 y a z e.symm
  exact ⟨m, hn.sameBut sb off, fun h3 sb3 => ⟨_, H', I2.turned (t' := s2.toks) (fun b o hb e => (sb3.2 b hb).trans e) f0 f1 f3 f4 f5, q⟩⟩
theorem swD_true {kx vx : Expr} {gs : List Comprehension} {scope : Scope} {pos py : Pos} {y : Str} {l : Nat} {env : Env} (hk : env.scope.kind = .function) (hy : env.scope.names.lookup y = some .local) (hl : (py.line == pos.line) = true)
    (ha : (scope.names.any fun (n, k) => n == y && (k == .local || k == .cell)) = false) : swapsWith (.DictComp kx vx gs scope pos) (some (.Name y py)) l env = pure true := by
  have ky : env.kindOf y = some .local := hy
  have kb : env.blockKind = .function := by unfold Env.blockKind; rw [hk]; rfl
  unfold swapsWith
  simp only [kb, ky, ha, Expr.pos, hl]
  rfl
end
end Z

/-! Z22: memory: objects of one's own by their addresses. -/
namespace Z
open PySem PySem.Spec PyProof.Rows L2
def ups (M : Mem) (a : Addr) (w : Ow) : Mem := fun b => if b = a then some w else M b
def mem0 : Mem := fun _ => none
theorem ups_same {M : Mem} {a : Addr} {w : Ow} : ups M a w a = some w := if_pos rfl
theorem ups_ne {M : Mem} {a b : Addr} {w : Ow} (h : b ≠ a) : ups M a w b = M b := if_neg h
theorem ups_ups {M : Mem} {a : Addr} {w w' : Ow} : ups (ups M a w) a w' = ups M a w' := by
  funext b
  by_cases e : b = a
  · subst e; rw [ups_same, ups_same]
  · rw [ups_ne e, ups_ne e, ups_ne e]
theorem mem_ne {M : Mem} {a b : Addr} {w : Ow} (h : M a = some w) (n : M b = none) : a ≠ b := fun e => by subst e; rw [h] at n; cases n
theorem ups_get {M : Mem} {a b : Addr} {w u : Ow} (h : M a = some w) (n : M b = none) : ups M b u a = some w := by rw [ups_ne (mem_ne h n)]; exact h
section
variable {K : PySem.W.Frag} {B : Bx} {W : WX} {Γ Γ' : List Sl} {P : Po} {σ σ' : L2.St} {G G' H H' : Hp} {M N M' : Mem} {i j m : Nat} {a : Addr} {w w' : Ow} {d e : D} {ds as : List D} {ks : List (Key × D)} {k : Key}
theorem Stt.memMut {u' : HO} (S : Stt B Γ σ G H) (hi : Γ[i]? = some (.mem M)) (ha : M a = some w) (r : OwOk B.K G a w' u') : Stt B (Γ.set i (.mem (ups M a w'))) σ G (upd H a u') := by
  have hil : i < Γ.length := (List.getElem?_eq_some_iff.mp hi).1
  have oi : Owns Γ σ i a := .inr ⟨M, w, hi, ha⟩
  obtain ⟨hg, ⟨u, hh⟩, h0⟩ := S.owned oi
  have key : ∀ (j : Nat) (c : Addr), Owns (Γ.set i (.mem (ups M a w'))) σ j c → Owns Γ σ j c := fun j c h => by
    by_cases e : j = i
    · subst e
      unfold Owns at h
      rw [List.getElem?_set_self hil] at h
      rcases h with ⟨o, h1, _⟩ | ⟨M2, w2, h1, h2⟩
      · cases h1
      · cases h1
        by_cases z : c = a
        · subst z; exact oi
        · rw [ups_ne z] at h2; exact .inr ⟨M, w2, hi, h2⟩
    · exact owns_neΓ e h
  refine ⟨S.frame hg h0, by simp [S.len], fun j s h => ?_, fun j k b h1 h2 => S.ap j k b (key j b h1) (key k b h2), fun j o b h1 h2 => ?_, fun j M2 b w2 h1 h2 => ?_⟩
  · by_cases e : j = i
    · subst e
      rw [List.getElem?_set_self hil] at h
      cases h
      intro b w2 hb
      by_cases z : b = a
      · subst z
        rw [ups_same] at hb
        cases hb
        exact ⟨hg, u', upd_same, r⟩
      · rw [ups_ne z] at hb
        obtain ⟨g2, u2, z2, r2⟩ := S.mem hi b w2 hb
        exact ⟨g2, u2, by rw [upd_ne z]; exact z2, r2⟩
    · rw [List.getElem?_set_ne (Ne.symm e)] at h
      exact S.keepSl h fun q => e (S.ap j i a q oi)
  · by_cases e : j = i
    · subst e; rw [List.getElem?_set_self hil] at h1; cases h1
    · rw [List.getElem?_set_ne (Ne.symm e)] at h1; exact S.nw j o b h1 h2
  · by_cases e : j = i
    · subst e
      rw [List.getElem?_set_self hil] at h1
      cases h1
      by_cases z : b = a
      · subst z; exact h0
      · rw [ups_ne z] at h2; exact S.nm j M b w2 hi h2
    · rw [List.getElem?_set_ne (Ne.symm e)] at h1; exact S.nm j M2 b w2 h1 h2
theorem Stt.memNew {u : HO} (S : Stt B Γ σ G H) (hi : Γ[i]? = some (.mem M)) (n : H a = none) (r : OwOk B.K G a w u) : Stt B (Γ.set i (.mem (ups M a w))) σ G (upd H a u) := by
  have hil : i < Γ.length := (List.getElem?_eq_some_iff.mp hi).1
  have hg := S.same.free n
  have no := S.apart n
  have key : ∀ (j : Nat) (c : Addr), Owns (Γ.set i (.mem (ups M a w))) σ j c → (c = a ∧ j = i) ∨ Owns Γ σ j c := fun j c h => by
    by_cases e : j = i
    · subst e
      unfold Owns at h
      rw [List.getElem?_set_self hil] at h
      rcases h with ⟨o, h1, _⟩ | ⟨M2, w2, h1, h2⟩
      · cases h1
      · cases h1
        by_cases z : c = a
        · exact .inl ⟨z, rfl⟩
        · rw [ups_ne z] at h2; exact .inr (.inr ⟨M, w2, hi, h2⟩)
    · exact .inr (owns_neΓ e h)
  refine ⟨S.frame hg (.inl (S.fr n)), by simp [S.len], fun j s h => ?_, fun j k b h1 h2 => ?_, fun j o b h1 h2 => ?_, fun j M2 b w2 h1 h2 => ?_⟩
  · by_cases e : j = i
    · subst e
      rw [List.getElem?_set_self hil] at h
      cases h
      intro b w2 hb
      by_cases z : b = a
      · subst z
        rw [ups_same] at hb
        cases hb
        exact ⟨hg, u, upd_same, r⟩
      · rw [ups_ne z] at hb
        obtain ⟨g2, u2, z2, r2⟩ := S.mem hi b w2 hb
        exact ⟨g2, u2, by rw [upd_ne z]; exact z2, r2⟩
    · rw [List.getElem?_set_ne (Ne.symm e)] at h
      exact S.keepSl h (no j)
  · rcases key j b h1 with ⟨rfl, rfl⟩ | q1
    · rcases key k b h2 with ⟨_, rfl⟩ | q2
      · rfl
      · exact absurd q2 (no k)
    · rcases key k b h2 with ⟨rfl, rfl⟩ | q2
      · exact absurd q1 (no j)
      · exact S.ap j k b q1 q2
  · by_cases e : j = i
    · subst e; rw [List.getElem?_set_self hil] at h1; cases h1
    · rw [List.getElem?_set_ne (Ne.symm e)] at h1; exact S.nw j o b h1 h2
  · by_cases e : j = i
    · subst e
      rw [List.getElem?_set_self hil] at h1
      cases h1
      by_cases z : b = a
      · subst z; exact .inl (S.fr n)
      · rw [ups_ne z] at h2; exact S.nm j M b w2 hi h2
    · rw [List.getElem?_set_ne (Ne.symm e)] at h1; exact S.nm j M2 b w2 h1 h2
/-- an empty memory is begun -/
theorem Stt.mem0 (S : Stt B Γ σ G H) (hi : i < Γ.length) : Stt B (Γ.set i (.mem Z.mem0)) σ G H := by
  have key : ∀ (j : Nat) (c : Addr), Owns (Γ.set i (.mem Z.mem0)) σ j c → Owns Γ σ j c ∧ j ≠ i := fun j c h => by
    by_cases e : j = i
    · subst e
      unfold Owns at h
      rw [List.getElem?_set_self hi] at h
      rcases h with ⟨o, h1, _⟩ | ⟨M2, w2, h1, h2⟩
      · cases h1
      · cases h1; cases h2
    · exact ⟨owns_neΓ e h, e⟩
  refine ⟨S.fw, by simp [S.len], fun j s h => ?_, fun j k b h1 h2 => S.ap j k b (key j b h1).1 (key k b h2).1, fun j o b h1 h2 => ?_, fun j M2 b w2 h1 h2 => ?_⟩
  · by_cases e : j = i
    · subst e
      rw [List.getElem?_set_self hi] at h
      cases h
      exact fun b w2 hb => nomatch hb
    · rw [List.getElem?_set_ne (Ne.symm e)] at h
      exact S.sl j s h
  · by_cases e : j = i
    · subst e; rw [List.getElem?_set_self hi] at h1; cases h1
    · rw [List.getElem?_set_ne (Ne.symm e)] at h1; exact S.nw j o b h1 h2
  · by_cases e : j = i
    · subst e; rw [List.getElem?_set_self hi] at h1; cases h1; cases h2
    · rw [List.getElem?_set_ne (Ne.symm e)] at h1; exact S.nm j M2 b w2 h1 h2
theorem sv_mem0 {t : TS} (i : Nat) (hs : SetAt Γ i (.mem mem0) Γ') (h : Sv B W t Γ' P) : Sv B W t Γ P := fun D σ G H E S => by
  obtain ⟨hi, rfl⟩ := hs.eq
  exact h D σ G H E (S.mem0 hi)

/-! ### what may change memory -/
def EvE (B : Bx) (W : WX) (te : TE) (Γ : List Sl) (k : D → List Sl → Prop) (kx : Xc → List Sl → Prop) : Prop := ∀ σ G H Q, Stt B Γ σ G H →
  (∀ v d Γ' G' H', k d Γ' → Same G G' → Stt B Γ' σ G' H' → Rp B.K G' v d → Q v H') → (∀ x cls dd Γ' G' H', kx x Γ' → Same G G' → Stt B Γ' σ G' H' → XOk B.K G' x cls dd → W cls dd σ H') → te σ H Q
def EvAE (B : Bx) (W : WX) (ta : TA) (Γ : List Sl) (k : List D → List Sl → Prop) (kx : Xc → List Sl → Prop) : Prop := ∀ σ G H Q, Stt B Γ σ G H →
  (∀ vs ds Γ' G' H', k ds Γ' → Same G G' → Stt B Γ' σ G' H' → Rps B.K G' vs ds → Q vs H') → (∀ x cls dd Γ' G' H', kx x Γ' → Same G G' → Stt B Γ' σ G' H' → XOk B.K G' x cls dd → W cls dd σ H') → ta σ H Q
def EvTE (B : Bx) (W : WX) (tt : TT) (Γ : List Sl) (k : Bool → List Sl → Prop) (kx : Xc → List Sl → Prop) : Prop := ∀ σ G H Q, Stt B Γ σ G H →
  (∀ b Γ' G' H', k b Γ' → Same G G' → Stt B Γ' σ G' H' → Q b H') → (∀ x cls dd Γ' G' H', kx x Γ' → Same G G' → Stt B Γ' σ G' H' → XOk B.K G' x cls dd → W cls dd σ H') → tt σ H Q
section
variable {te to ti tf : TE} {ta aa : TA} {tt tu : TT} {t u : TS} {kk : D → List Sl → Prop} {ka : List D → List Sl → Prop} {kt : Bool → List Sl → Prop} {kx : Xc → List Sl → Prop}
theorem eve_of (h : Ev B te Γ d) (k : kk d Γ) : EvE B W te Γ kk kx := fun σ G H Q S q _ => h σ G H Q S fun v G1 H1 f r => q v d Γ G1 H1 k f.g (S.step f) r
theorem evae_of (h : EvA B ta Γ ds) (k : ka ds Γ) : EvAE B W ta Γ ka kx := fun σ G H Q S q _ => h σ G H Q S fun v G1 H1 f r => q v ds Γ G1 H1 k f.g (S.step f) r
theorem evte_of {p : Bool} (h : EvT B tt Γ p) (k : kt p Γ) : EvTE B W tt Γ kt kx := fun σ G H Q S q _ => h σ G H Q S fun G1 H1 f => q p Γ G1 H1 k f.g (S.step f)
theorem evx_e {x : Xc} (h : EvX B W te Γ x) (k : kx x Γ) : EvE B W te Γ kk kx := fun σ G H Q S _ q => h σ G H Q S fun cls dd G1 H1 f o => q x cls dd Γ G1 H1 k f.g (S.step f) o
theorem eve_mono {k2 : D → List Sl → Prop} {kx2 : Xc → List Sl → Prop} (h : EvE B W te Γ k2 kx2) (h1 : ∀ d Γ, k2 d Γ → kk d Γ) (h2 : ∀ x Γ, kx2 x Γ → kx x Γ) : EvE B W te Γ kk kx := fun σ G H Q S q qx =>
  h σ G H Q S (fun v d Γ' G' H' k => q v d Γ' G' H' (h1 d Γ' k)) fun x cls dd Γ' G' H' k => qx x cls dd Γ' G' H' (h2 x Γ' k)
theorem evae_nil (k : ka [] Γ) : EvAE B W tNil Γ ka kx := evae_of eva_nil k
theorem evae_cons (h : EvE B W te Γ (fun d Γ1 => EvAE B W ta Γ1 (fun ds Γ2 => ka (d :: ds) Γ2) kx) kx) : EvAE B W (tCons te ta) Γ ka kx := fun σ G H Q S q qx =>
  h σ G H _ S (fun v d Γ1 G1 H1 k s1 S1 r1 => k σ G1 H1 _ S1 (fun vs ds Γ2 G2 H2 k2 s2 S2 r2 => q (v :: vs) (d :: ds) Γ2 G2 H2 k2 (s1.trans s2) S2 (.cons (r1.mono s2) r2)) fun x cls dd Γ2 G2 H2 k2 s2 => qx x cls dd Γ2 G2 H2 k2 (s1.trans s2)) qx
theorem evte_test (h : EvE B W te Γ (fun d Γ1 => ∃ p, d = .bl p ∧ kt p Γ1) kx) : EvTE B W (tTest te) Γ kt kx := fun σ G H Q S q qx =>
  h σ G H _ S (fun v d Γ1 G1 H1 k s1 S1 r1 => by obtain ⟨p, rfl, k⟩ := k; cases r1; exact ⟨p, rfl, q p Γ1 G1 H1 k s1 S1⟩) qx
theorem evte_b (h : EvE B W te Γ (fun d Γ1 => ∃ p, d = .bl p ∧ kt p Γ1) kx) : EvTE B W (tB te) Γ kt kx := fun σ G H Q S q qx =>
  h σ G H _ S (fun v d Γ1 G1 H1 k s1 S1 r1 => by obtain ⟨p, rfl, k⟩ := k; cases r1; exact ⟨p, rfl, q p Γ1 G1 H1 k s1 S1⟩) qx
theorem evte_not (h : EvTE B W tt Γ (fun p => kt (!p)) kx) : EvTE B W (tNot tt) Γ kt kx := fun σ G H Q S q qx => h σ G H _ S (fun p => q (!p)) qx
theorem evte_and (h : EvTE B W tt Γ (fun p Γ1 => if p then EvTE B W tu Γ1 kt kx else kt false Γ1) kx) : EvTE B W (tAnd tt tu) Γ kt kx := fun σ G H Q S q qx =>
  h σ G H _ S (fun p Γ1 G1 H1 k s1 S1 => by
    cases p with
    | true => exact (show EvTE B W tu Γ1 kt kx from k) σ G1 H1 Q S1 (fun b Γ2 G2 H2 k2 s2 => q b Γ2 G2 H2 k2 (s1.trans s2)) fun x cls dd Γ2 G2 H2 k2 s2 => qx x cls dd Γ2 G2 H2 k2 (s1.trans s2)
    | false => exact q false Γ1 G1 H1 k s1 S1) qx
theorem evte_or (h : EvTE B W tt Γ (fun p Γ1 => if p then kt true Γ1 else EvTE B W tu Γ1 kt kx) kx) : EvTE B W (tOr tt tu) Γ kt kx := fun σ G H Q S q qx =>
  h σ G H _ S (fun p Γ1 G1 H1 k s1 S1 => by
    cases p with
    | false => exact (show EvTE B W tu Γ1 kt kx from k) σ G1 H1 Q S1 (fun b Γ2 G2 H2 k2 s2 => q b Γ2 G2 H2 k2 (s1.trans s2)) fun x cls dd Γ2 G2 H2 k2 s2 => qx x cls dd Γ2 G2 H2 k2 (s1.trans s2)
    | true => exact q true Γ1 G1 H1 k s1 S1) qx
/-! statements -/
theorem sv_setE (h : EvE B W te Γ (fun d Γ1 => ∃ Γ2, SetAt Γ1 i (.dat d) Γ2 ∧ P.nx Γ2) P.xc) : Sv B W (tAsg te (gName i)) Γ P := fun D σ G H E S =>
  h σ G H _ S (fun v d Γ1 G1 H1 k s1 S1 r1 => by
    obtain ⟨Γ2, hs, k⟩ := k
    obtain ⟨hi, rfl⟩ := hs.eq
    exact E.nx _ _ G1 H1 k s1 (S1.set hi r1)) fun x cls dd Γ1 G1 H1 k s1 S1 o => E.xc x Γ1 cls dd σ G1 H1 k s1 S1 o
theorem sv_asgE {g : TG} (h : EvE B W te Γ (fun d Γ1 => ∃ Γ2, EvG B g Γ1 d Γ2 ∧ P.nx Γ2) P.xc) : Sv B W (tAsg te g) Γ P := fun D σ G H E S =>
  h σ G H _ S (fun v d Γ1 G1 H1 k s1 S1 r1 => by
    obtain ⟨Γ2, hg, k⟩ := k
    exact hg σ G1 H1 v _ S1 r1 fun σ' S' => E.nx _ _ G1 H1 k s1 S') fun x cls dd Γ1 G1 H1 k s1 S1 o => E.xc x Γ1 cls dd σ G1 H1 k s1 S1 o
theorem sv_dropE (h : EvE B W te Γ (fun _ Γ1 => P.nx Γ1) P.xc) : Sv B W (tDrop te) Γ P := fun D σ G H E S =>
  h σ G H _ S (fun v d Γ1 G1 H1 k s1 S1 r1 => E.nx _ _ G1 H1 k s1 S1) fun x cls dd Γ1 G1 H1 k s1 S1 o => E.xc x Γ1 cls dd σ G1 H1 k s1 S1 o
theorem sv_retE (h : EvE B W te Γ (fun d Γ1 => ∃ (i : Nat) (M : Mem), Γ1[i]? = some (.mem M) ∧ P.rm d M) P.xc) : Sv B W (tRet te) Γ P := fun D σ G H E S =>
  h σ G H _ S (fun v d Γ1 G1 H1 k s1 S1 r1 => by obtain ⟨i, M, hi, k⟩ := k; exact E.rm d M v i Γ1 σ G1 H1 k hi S1 r1) fun x cls dd Γ1 G1 H1 k s1 S1 o => E.xc x Γ1 cls dd σ G1 H1 k s1 S1 o
theorem sv_retM (hm : Γ[m]? = some (.mem M)) (h : Ev B te Γ d) (k : P.rm d M) : Sv B W (tRet te) Γ P := sv_retE (eve_of h ⟨m, M, hm, k⟩)
theorem sv_retNM (hm : Γ[m]? = some (.mem M)) (k : P.rm .non M) : Sv B W tRetN Γ P := fun D σ G H E S => E.rm .non M .non m Γ σ G H k hm S .non
theorem sv_retR (h : EvE B W te Γ (fun d _ => P.rt (.dat d)) P.xc) (h0 : ∀ a, ¬ B.F0 a) : Sv B W (tRet te) Γ P := fun D σ G H E S =>
  h σ G H _ S (fun v d Γ1 G1 H1 k s1 S1 r1 => E.rt (.dat d) v G1 H1 k S1.fw r1) fun x cls dd Γ1 G1 H1 k s1 S1 o => E.xc x Γ1 cls dd σ G1 H1 k s1 S1 o
theorem sv_ifE (h : EvTE B W tt Γ (fun p Γ1 => if p then Sv B W t Γ1 P else Sv B W u Γ1 P) P.xc) : Sv B W (tIfS tt t u) Γ P := fun D σ G H E S =>
  h σ G H _ S (fun p Γ1 G1 H1 k s1 S1 => by
    cases p with
    | true => exact (show Sv B W t Γ1 P from k) D σ G1 H1 (E.mono s1) S1
    | false => exact (show Sv B W u Γ1 P from k) D σ G1 H1 (E.mono s1) S1) fun x cls dd Γ1 G1 H1 k s1 S1 o => E.xc x Γ1 cls dd σ G1 H1 k s1 S1 o
/-! new objects -/
theorem eve_lst (ha : EvA B aa Γ ds) (hl : ds.length ≤ 16777216) (hm : Γ[m]? = some (.mem M)) (k : ∀ a, M a = none → kk (.ref a) (Γ.set m (.mem (ups M a (.lst ds))))) : EvE B W (tLst aa) Γ kk kx := fun σ G H Q S q _ =>
  ha σ G H _ S fun vs G1 H1 f1 r1 => ⟨by rw [r1.length]; exact line_le hl, fun p hp => by
    have S1 := S.step f1
    have hn : M p = none := by
      cases e : M p with
      | none => rfl
      | some w => obtain ⟨_, u, z, _⟩ := S1.mem hm p w e; rw [hp] at z; cases z
    exact q (.ref p) (.ref p) _ G1 _ (k p hn) f1.g (S1.memNew hm hp ⟨vs, rfl, r1⟩) (.ref p)⟩
theorem fresh_mem {S : Stt B Γ σ G H} (hm : Γ[m]? = some (.mem M)) (hp : H a = none) : M a = none := by
  cases e : M a with
  | none => rfl
  | some w => obtain ⟨_, u, z, _⟩ := S.mem hm a w e; rw [hp] at z; cases z
/-- one's own new object, kept in memory -/
theorem eve_own (h : EvO B te Γ w) (hm : Γ[m]? = some (.mem M)) (k : ∀ a, M a = none → kk (.ref a) (Γ.set m (.mem (ups M a w)))) : EvE B W te Γ kk kx := fun σ G H Q S q _ =>
  h σ G H _ S fun a u G1 H1 f g n e o => by
    have S0 := S.step f
    have hil : m < Γ.length := (List.getElem?_eq_some_iff.mp hm).1
    have hn : M a = none := fresh_mem (S := S) hm n
    have no := S.apart n
    refine q (.ref a) (.ref a) _ G1 H1 (k a hn) f.g ?_ (.ref a)
    have key : ∀ (j : Nat) (c : Addr), Owns (Γ.set m (.mem (ups M a w))) σ j c → (c = a ∧ j = m) ∨ Owns Γ σ j c := fun j c h => by
      by_cases e : j = m
      · subst e
        unfold Owns at h
        rw [List.getElem?_set_self hil] at h
        rcases h with ⟨o, h1, _⟩ | ⟨M2, w2, h1, h2⟩
        · cases h1
        · cases h1
          by_cases z : c = a
          · exact .inl ⟨z, rfl⟩
          · rw [ups_ne z] at h2; exact .inr (.inr ⟨M, w2, hm, h2⟩)
      · exact .inr (owns_neΓ e h)
    refine ⟨S0.fw, by simp [S.len], fun j s h => ?_, fun j l b h1 h2 => ?_, fun j o b h1 h2 => ?_, fun j M2 b w2 h1 h2 => ?_⟩
    · by_cases e2 : j = m
      · subst e2
        rw [List.getElem?_set_self hil] at h
        cases h
        intro b w2 hb
        by_cases z : b = a
        · subst z
          rw [ups_same] at hb
          cases hb
          exact ⟨g, u, e, o⟩
        · rw [ups_ne z] at hb
          exact S0.mem hm b w2 hb
      · rw [List.getElem?_set_ne (Ne.symm e2)] at h
        exact S0.sl j s h
    · rcases key j b h1 with ⟨rfl, rfl⟩ | q1
      · rcases key l b h2 with ⟨_, rfl⟩ | q2
        · rfl
        · exact absurd q2 (no l)
      · rcases key l b h2 with ⟨rfl, rfl⟩ | q2
        · exact absurd q1 (no j)
        · exact S.ap j l b q1 q2
    · by_cases e2 : j = m
      · subst e2; rw [List.getElem?_set_self hil] at h1; cases h1
      · rw [List.getElem?_set_ne (Ne.symm e2)] at h1; exact S.nw j o b h1 h2
    · by_cases e2 : j = m
      · subst e2
        rw [List.getElem?_set_self hil] at h1
        cases h1
        by_cases z : b = a
        · subst z; exact .inl (S.fr n)
        · rw [ups_ne z] at h2; exact S.nm j M b w2 hm h2
      · rw [List.getElem?_set_ne (Ne.symm e2)] at h1; exact S.nm j M2 b w2 h1 h2
theorem eve_dnew (hm : Γ[m]? = some (.mem M)) (k : ∀ a, M a = none → kk (.ref a) (Γ.set m (.mem (ups M a (.dk []))))) : EvE B W tDNewK Γ kk kx := eve_own evo_dnew hm k
end
end
end Z

/-! Z23: objects of memory changed and read; lent and given up. -/
namespace Z
open PySem PySem.Spec PyProof.Rows L2
section
variable {K : PySem.W.Frag} {B : Bx} {W : WX} {Γ Γ' : List Sl} {P : Po} {σ σ' : L2.St} {G G' H H' : Hp} {M N M' : Mem} {i j m n : Nat} {a : Addr} {w w' : Ow} {d e : D} {ds as : List D} {ks : List (Key × D)} {k : Key} {z : Int} {x : Str}
variable {te to ti tf : TE} {ta aa : TA} {tt tu : TT} {t u : TS} {kk : D → List Sl → Prop} {kx : Xc → List Sl → Prop}
theorem Stt.atM (S : Stt B Γ σ G H) (hm : Γ[m]? = some (.mem M)) (ha : M a = some w) : G a = none ∧ ∃ u, H a = some u ∧ OwOk B.K G a w u := S.mem hm a w ha
/-! ### statements that change an object -/
/-- o.append(e) -/
theorem eve_mApp (ho : Ev B to Γ (.ref a)) (hm0 : Γ[m]? = some (.mem M)) (ha0 : M a = some (.lst as))
    (he : EvE B W te Γ (fun d Γ1 => ∃ M1 ds, Γ1[m]? = some (.mem M1) ∧ M1 a = some (.lst ds) ∧ ds.length < 16777216 ∧ kk .non (Γ1.set m (.mem (ups M1 a (.lst (ds ++ [d])))))) kx) :
    EvE B W (tBM B.K "list" rAppend to (tCons te tNil)) Γ kk kx := fun σ G H Q S q qx =>
  ho σ G H _ S fun v G1 H1 f1 r1 => by
    cases r1 with
    | ref =>
      have S1 := S.step f1
      obtain ⟨g, u, hu, ⟨xs, rfl, _⟩⟩ := S1.atM hm0 ha0
      refine ⟨.inl ⟨rfl, xs, .inl (.inl hu)⟩, ?_⟩
      refine he σ G1 H1 _ S1 (fun v2 d Γ1 G2 H2 k s2 S2 r2 => ?_) fun x cls dd Γ2 G2 H2 k2 s2 => qx x cls dd Γ2 G2 H2 k2 (f1.g.trans s2)
      obtain ⟨M1, ds, hm1, ha1, hl, k⟩ := k
      obtain ⟨g2, u2, hu2, ⟨xs2, rfl, rr⟩⟩ := S2.atM hm1 ha1
      exact ⟨a, xs2, v2, rfl, rfl, hu2, by rw [rr.length]; exact line_lt hl, q .non .non _ G2 _ k (f1.g.trans s2) (S2.memMut hm1 ha1 ⟨_, rfl, rr.append (.cons r2 .nil)⟩) .non⟩
/-- o.pop() -/
theorem eve_mPop (ho : Ev B to Γ (.ref a)) (hm : Γ[m]? = some (.mem M)) (ha : M a = some (.lst (as ++ [d]))) (k : kk d (Γ.set m (.mem (ups M a (.lst as))))) : EvE B W (tBM0 B.K "list" rPop to) Γ kk kx := fun σ G H Q S q qx =>
  ho σ G H _ S fun v G1 H1 f1 r1 => by
    cases r1 with
    | ref =>
      have S1 := S.step f1
      obtain ⟨g, u, hu, ⟨xs, rfl, rr⟩⟩ := S1.atM hm ha
      obtain ⟨v, hv, rv⟩ := rr.get (i := as.length) (d := d) (by simp)
      have hl : xs.length = as.length + 1 := by rw [rr.length]; simp
      refine ⟨.inl ⟨rfl, xs, .inl (.inl hu)⟩, a, xs, v, rfl, rfl, hu, by rw [hl]; exact hv, ?_⟩
      refine q v d _ G1 _ k f1.g (S1.memMut hm ha ⟨_, rfl, ?_⟩) rv
      have := rr.take as.length
      rw [List.take_left'] at this
      · rw [List.dropLast_eq_take, hl]; exact this
      · rfl
/-- o.reverse() -/
theorem eve_mRev (ho : Ev B to Γ (.ref a)) (hm : Γ[m]? = some (.mem M)) (ha : M a = some (.lst as)) (k : kk .non (Γ.set m (.mem (ups M a (.lst as.reverse))))) : EvE B W (tBM0 B.K "list" rReverse to) Γ kk kx := fun σ G H Q S q qx =>
  ho σ G H _ S fun v G1 H1 f1 r1 => by
    cases r1 with
    | ref =>
      have S1 := S.step f1
      obtain ⟨g, u, hu, ⟨xs, rfl, rr⟩⟩ := S1.atM hm ha
      exact ⟨.inl ⟨rfl, xs, .inl (.inl hu)⟩, a, xs, rfl, rfl, hu, q .non .non _ G1 _ k f1.g (S1.memMut hm ha ⟨_, rfl, rr.reverse⟩) .non⟩
/-- o[i] = e -/
theorem sv_mStL (he : EvE B W te Γ (fun d Γ1 => ∃ M1 ds a i j, Γ1[m]? = some (.mem M1) ∧ M1 a = some (.lst ds) ∧ Ev B to Γ1 (.ref a) ∧ Ev B ti Γ1 (.int i) ∧ ixN ds.length i = some j ∧ P.nx (Γ1.set m (.mem (ups M1 a (.lst (ds.set j d)))))) P.xc) :
    Sv B W (tAsg te (gSub to ti zSet)) Γ P := fun D σ G H E S =>
  he σ G H _ S (fun v d Γ1 G1 H1 k s1 S1 r1 => by
    obtain ⟨M1, ds, a, i, j, hm, ha, ho, hi, hj, k⟩ := k
    refine ho σ G1 H1 _ S1 fun o G2 H2 f2 r2 => hi σ G2 H2 _ (S1.step f2) fun y G3 H3 f3 r3 => ?_
    cases r2; cases r3
    have S3 := (S1.step f2).step f3
    obtain ⟨g, u, hu, ⟨xs, rfl, rr⟩⟩ := S3.atM hm ha
    refine .inl ⟨a, xs, i, j, rfl, rfl, hu, by rw [rr.length]; exact hj, ?_⟩
    have r13 := r1.mono (f2.g.trans f3.g)
    exact E.nx _ _ G3 _ k ((s1.trans f2.g).trans f3.g) (S3.memMut hm ha ⟨_, rfl, rr.set r13 j⟩)) fun x cls dd Γ1 G1 H1 k s1 S1 o => E.xc x Γ1 cls dd σ G1 H1 k s1 S1 o
/-- o[k] = e, o a dict -/
theorem sv_mStD (he : EvE B W te Γ (fun d Γ1 => ∃ M1 ks a k, Γ1[m]? = some (.mem M1) ∧ M1 a = some (.dk ks) ∧ Ev B to Γ1 (.ref a) ∧ Ev B ti Γ1 (kD k) ∧ ks.length < 16777216 ∧ P.nx (Γ1.set m (.mem (ups M1 a (.dk (putD ks k d)))))) P.xc) :
    Sv B W (tAsg te (gSub to ti zSet)) Γ P := fun D σ G H E S =>
  he σ G H _ S (fun v d Γ1 G1 H1 k s1 S1 r1 => by
    obtain ⟨M1, ks, a, k, hm, ha, ho, hi, hl, kk⟩ := k
    refine ho σ G1 H1 _ S1 fun o G2 H2 f2 r2 => hi σ G2 H2 _ (S1.step f2) fun y G3 H3 f3 r3 => ?_
    have ey := rp_key r3
    subst ey
    cases r2
    have S3 := (S1.step f2).step f3
    obtain ⟨g, u, hu, ⟨xs, rfl, rr⟩⟩ := S3.atM hm ha
    refine .inr ⟨a, _, rfl, .inl ⟨xs, k, hu, rfl, by rw [rr.length]; exact line_lt hl, rfl⟩, ?_⟩
    have r13 := r1.mono (f2.g.trans f3.g)
    exact E.nx _ _ G3 _ kk ((s1.trans f2.g).trans f3.g) (S3.memMut hm ha ⟨_, rfl, rr.put r13⟩)) fun x cls dd Γ1 G1 H1 k s1 S1 o => E.xc x Γ1 cls dd σ G1 H1 k s1 S1 o
/-- o.f = e -/
theorem sv_mFld {f : Str} (he : EvE B W te Γ (fun d Γ1 => ∃ M1 a C fs, Γ1[m]? = some (.mem M1) ∧ M1 a = some (.ins C fs none) ∧ Ev B to Γ1 (.ref a) ∧ Cls B.K C ∧ NoAttr B.K C f ∧ fs.length < 1000 ∧ P.nx (Γ1.set m (.mem (ups M1 a (.ins C (putFD f d fs) none))))) P.xc) :
    Sv B W (sFld B.K to te f) Γ P := fun D σ G H E S =>
  he σ G H _ S (fun v d Γ1 G1 H1 k s1 S1 r1 => by
    obtain ⟨M1, a, C, fs, hm, ha, ho, c, na, hl, k⟩ := k
    refine ho σ G1 H1 _ S1 fun o G2 H2 f2 r2 => ?_
    cases r2
    have S2 := S1.step f2
    obtain ⟨g, u, hu, ⟨_, dx, xs, rfl, rr⟩⟩ := S2.atM hm ha
    refine ⟨a, C, dx, xs, rfl, hu, c, na, by rw [rr.length]; exact hl, ?_⟩
    exact E.nx _ _ G2 _ k (s1.trans f2.g) (S2.memMut hm ha ⟨(fun _ z => nomatch z), dx, _, rfl, rr.put (r1.mono f2.g)⟩)) fun x cls dd Γ1 G1 H1 k s1 S1 o => E.xc x Γ1 cls dd σ G1 H1 k s1 S1 o
/-- o.setdefault(k, []).append(e) -/
theorem eve_setdApp (hm : Γ[m]? = some (.mem M)) (ho : Ev B to Γ (.ref a)) (ha : M a = some (.dk ks)) (hk : Ev B ti Γ (kD k)) (hl : ks.length < 16777216)
    (h : ∀ b M1 ds, ((valD ks k = some (.ref b) ∧ M b = some (.lst ds) ∧ b ≠ a ∧ M1 = M) ∨ (valD ks k = none ∧ M b = none ∧ ds = [] ∧ M1 = ups (ups M b (.lst [])) a (.dk (putD ks k (.ref b))))) →
      ds.length < 16777216 ∧ ∃ d, Ev B te (Γ.set m (.mem M1)) d ∧ kk .non (Γ.set m (.mem (ups M1 b (.lst (ds ++ [d]))))))
    (hex : ∀ d, valD ks k = some d → ∃ b ds, d = .ref b ∧ M b = some (.lst ds) ∧ b ≠ a) :
    EvE B W (tBM B.K "list" rAppend (tDSetd to ti (tLst tNil)) (tCons te tNil)) Γ kk kx := fun σ G H Q S q qx =>
  ho σ G H _ S fun v G1 H1 f1 r1 => by
    cases r1 with
    | ref =>
      have S1 := S.step f1
      have hil : m < Γ.length := (List.getElem?_eq_some_iff.mp hm).1
      have e0 : Γ.set m (.mem M) = Γ := by
        refine List.ext_getElem? fun j => ?_
        by_cases e : j = m
        · subst e; rw [List.getElem?_set_self hil, hm]
        · rw [List.getElem?_set_ne (Ne.symm e)]
      obtain ⟨g, u, hu, ⟨kvs, rfl, rr⟩⟩ := S1.atM hm ha
      refine ⟨a, rfl, .inl ⟨kvs, .inl hu⟩, hk σ G1 H1 _ S1 fun y G2 H2 f2 r2 => ?_⟩
      have ey := rp_key r2
      subst ey
      have S2 := S1.step f2
      refine ⟨by show 0 ≤ sizeLine; exact Nat.zero_le _, fun b hb => ?_⟩
      have nb : M b = none := fresh_mem (S := S2) hm hb
      have S3 := S2.memNew (w := .lst []) (u := .lst []) hm hb ⟨[], rfl, .nil⟩
      have hm3 : (Γ.set m (.mem (ups M b (.lst []))))[m]? = some (.mem (ups M b (.lst []))) := List.getElem?_set_self hil
      have ab : a ≠ b := mem_ne ha nb
      have ha3 : ups M b (.lst []) a = some (.dk ks) := ups_get ha nb
      obtain ⟨g3, u3, hu3, ⟨kvs3, rfl, rr3⟩⟩ := S3.atM hm3 ha3
      refine ⟨kvs3, k, hu3, rfl, by rw [rr3.length]; exact line_lt hl, fun v hv => ?_, fun hv => ?_⟩
      · -- it is there
        cases e : valD ks k with
        | none => rw [rr3.miss e] at hv; cases hv
        | some d =>
          obtain ⟨c, ds, rfl, hc, hca⟩ := hex d e
          obtain ⟨v', h1, h2⟩ := rr3.val e
          rw [hv] at h1
          cases h1
          cases h2
          obtain ⟨hl2, d2, he2, kq⟩ := h c M ds (.inl ⟨e, hc, hca, rfl⟩)
          rw [e0] at he2
          have S2' : Stt B Γ σ G2 (upd H2 b (.lst [])) := S2.other (S2.fr hb) (S2.same.free hb) (S2.apart hb)
          obtain ⟨g4, u4, hu4, ⟨xs4, rfl, rr4⟩⟩ := S2'.atM hm hc
          refine ⟨.inl ⟨rfl, xs4, .inl (.inl hu4)⟩, he2 σ G2 _ _ S2' fun v5 G5 H5 f5 r5 => ?_⟩
          have S5 := S2'.step f5
          obtain ⟨g6, u6, hu6, ⟨xs6, rfl, rr6⟩⟩ := S5.atM hm hc
          exact ⟨c, xs6, v5, rfl, rfl, hu6, by rw [rr6.length]; exact line_lt hl2, q .non .non _ G5 _ kq ((f1.g.trans f2.g).trans f5.g) (S5.memMut hm hc ⟨_, rfl, rr6.append (.cons r5 .nil)⟩) .non⟩
      · -- it is new
        have e : valD ks k = none := by
          cases e : valD ks k with
          | none => rfl
          | some d => obtain ⟨v', h1, _⟩ := rr3.val e; rw [hv] at h1; cases h1
        obtain ⟨hl2, d2, he2, kq⟩ := h b _ [] (.inr ⟨e, nb, rfl, rfl⟩)
        have S4 := S3.memMut (w' := .dk (putD ks k (.ref b))) (u' := .dK (putK kvs3 k (.ref b))) hm3 ha3 ⟨_, rfl, rr3.put (.ref b)⟩
        rw [List.set_set] at S4
        have hm4 : (Γ.set m (.mem (ups (ups M b (.lst [])) a (.dk (putD ks k (.ref b))))))[m]? = some (.mem (ups (ups M b (.lst [])) a (.dk (putD ks k (.ref b))))) := List.getElem?_set_self hil
        have hb4 : ups (ups M b (.lst [])) a (.dk (putD ks k (.ref b))) b = some (.lst []) := by rw [ups_ne (Ne.symm ab), ups_same]
        obtain ⟨g4, u4, hu4, ⟨xs4, rfl, rr4⟩⟩ := S4.atM hm4 hb4
        refine ⟨.inl ⟨rfl, xs4, .inl (.inl hu4)⟩, he2 σ G2 _ _ S4 fun v5 G5 H5 f5 r5 => ?_⟩
        have S5 := S4.step f5
        obtain ⟨g6, u6, hu6, ⟨xs6, rfl, rr6⟩⟩ := S5.atM hm4 hb4
        refine ⟨b, xs6, v5, rfl, rfl, hu6, by rw [rr6.length]; exact line_lt hl2, ?_⟩
        have S6 := S5.memMut (w' := .lst ([] ++ [d2])) (u' := .lst (xs6 ++ [v5])) hm4 hb4 ⟨_, rfl, rr6.append (.cons r5 .nil)⟩
        rw [List.set_set] at S6
        exact q .non .non _ G5 _ kq ((f1.g.trans f2.g).trans f5.g) S6 .non
/-! ### reads of what is one's own -/
theorem ev_mIx (hm : Γ[m]? = some (.mem M)) (ho : Ev B to Γ (.ref a)) (ha : M a = some (.lst ds)) (hi : Ev B ti Γ (.int z)) (h : atI ds z = some d) : Ev B (tOp (zIx B.K) to ti) Γ d := fun σ G H Q S q =>
  ho σ G H _ S fun v G1 H1 f1 r1 => hi σ G1 H1 _ (S.step f1) fun y G2 H2 f2 r2 => by
    cases r1; cases r2
    obtain ⟨g, u, hu, ⟨xs, rfl, rr⟩⟩ := ((S.step f1).step f2).atM hm ha
    obtain ⟨v, e, r⟩ := atI_rps rr h
    exact .inl (.inl ⟨_, _, z, v, rfl, rfl, .inl (.inl hu), e, q v G2 H2 (f1.trans f2) r⟩)
theorem ev_mIxD (hm : Γ[m]? = some (.mem M)) (ho : Ev B to Γ (.ref a)) (ha : M a = some (.dk ks)) (hi : Ev B ti Γ (kD k)) (h : valD ks k = some d) : Ev B (tOp (zIx B.K) to ti) Γ d := fun σ G H Q S q =>
  ho σ G H _ S fun v G1 H1 f1 r1 => hi σ G1 H1 _ (S.step f1) fun y G2 H2 f2 r2 => by
    have ey := rp_key r2
    subst ey
    cases r1
    obtain ⟨g, u, hu, ⟨xs, rfl, rr⟩⟩ := ((S.step f1).step f2).atM hm ha
    obtain ⟨v, e, r⟩ := rr.val h
    exact .inr ⟨_, v, rfl, .inl ⟨_, k, .inl hu, rfl, e.symm⟩, q v G2 H2 (f1.trans f2) r⟩
theorem ev_mGet2 (hm : Γ[m]? = some (.mem M)) (hd : Ev B to Γ (.ref a)) (ha : M a = some (.dk ks)) (hk : Ev B ti Γ (kD k)) (hx : Ev B te Γ e) : Ev B (tDGet2 to ti te) Γ ((valD ks k).getD e) := fun σ G H Q S q =>
  hd σ G H _ S fun v1 G1 H1 f1 r1 => by
    cases r1
    obtain ⟨g, u, hu, ⟨xs, rfl, rr⟩⟩ := (S.step f1).atM hm ha
    refine ⟨_, rfl, .inl ⟨_, .inl hu⟩, hk σ G1 H1 _ (S.step f1) fun v2 G2 H2 f2 r2 => ?_⟩
    refine hx σ G2 H2 _ ((S.step f1).step f2) fun v3 G3 H3 f3 r3 => ?_
    have ey := rp_key r2
    subst ey
    have rr' := rr.mono (f2.g.trans f3.g)
    refine ⟨_, .inl ⟨_, k, .inl (f3.h _ _ (f2.h _ _ hu)), rfl, rfl⟩, ?_⟩
    cases e1 : valD ks k with
    | none => rw [rr'.miss e1]; exact q _ G3 H3 ((f1.trans f2).trans f3) (by rw [e1] at *; exact r3)
    | some d =>
      obtain ⟨v, h, rv⟩ := rr'.val e1
      rw [h]; exact q v G3 H3 ((f1.trans f2).trans f3) (by rw [e1] at *; exact rv)
theorem ev_mFld {C : Addr} {fs : List (Str × D)} {oa : Option Addr} {f : Str} (hm : Γ[m]? = some (.mem M)) (ho : Ev B to Γ (.ref a)) (ha : M a = some (.ins C fs oa)) (c : Cls B.K C) (na : NoAttr B.K C f) (hl : fs.lookup f = some d) : Ev B (tFld B.K to f) Γ d := fun σ G H Q S q =>
  ho σ G H _ S fun v G1 H1 f1 r1 => by
    cases r1
    obtain ⟨g, u, hu, ⟨_, dx, xs, rfl, rr⟩⟩ := (S.step f1).atM hm ha
    obtain ⟨v, e2, r2⟩ := rr.lookup hl
    exact ⟨a, C, dx, xs, v, rfl, hu, c, na, e2, q v G1 H1 f1 r2⟩
/-! ### views -/
mutual
inductive View (N : Mem) : D → D → Prop
  | rfl {d : D} : View N d d
  | lst {a : Addr} {ds es : List D} : N a = some (.lst ds) → Views N ds es → View N (.ref a) (.lst es)
  | dk {a : Addr} {ks ls : List (Key × D)} : N a = some (.dk ks) → Viewk N ks ls → View N (.ref a) (.dk ls)
  | ins {a C : Addr} {oa : Option Addr} {fs gs : List (Str × D)} : N a = some (.ins C fs oa) → Viewf N fs gs → View N (.ref a) (.obj C gs)
  | lstD {ds es : List D} : Views N ds es → View N (.lst ds) (.lst es)
  | tupD {ds es : List D} : Views N ds es → View N (.tup ds) (.tup es)
inductive Views (N : Mem) : List D → List D → Prop
  | nil : Views N [] []
  | cons {d e : D} {ds es : List D} : View N d e → Views N ds es → Views N (d :: ds) (e :: es)
inductive Viewk (N : Mem) : List (Key × D) → List (Key × D) → Prop
  | nil : Viewk N [] []
  | cons {k : Key} {d e : D} {ds es : List (Key × D)} : View N d e → Viewk N ds es → Viewk N ((k, d) :: ds) ((k, e) :: es)
inductive Viewf (N : Mem) : List (Str × D) → List (Str × D) → Prop
  | nil : Viewf N [] []
  | cons {k : Str} {d e : D} {ds es : List (Str × D)} : View N d e → Viewf N ds es → Viewf N ((k, d) :: ds) ((k, e) :: es)
end
theorem Views.refl : ∀ ds : List D, Views N ds ds
  | [] => .nil
  | _ :: r => .cons .rfl (Views.refl r)
theorem Viewk.refl : ∀ ds : List (Key × D), Viewk N ds ds
  | [] => .nil
  | _ :: r => .cons .rfl (Viewk.refl r)
theorem Viewf.refl : ∀ ds : List (Str × D), Viewf N ds ds
  | [] => .nil
  | _ :: r => .cons .rfl (Viewf.refl r)
mutual
theorem View.rp {Gp : Hp} (s : Same G Gp) (hN : ∀ a w, N a = some w → ∃ u, Gp a = some u ∧ OwOk K G a w u) : ∀ {d e : D} {v : V}, View N d e → Rp K G v d → Rp K Gp v e
  | _, _, _, .rfl, r => r.mono s
  | _, _, _, .lst h q, r => by
    cases r
    obtain ⟨u, hu, xs, rfl, rr⟩ := hN _ _ h
    exact .lst (.inl (.inl hu)) (Views.rp s hN q rr)
  | _, _, _, .dk h q, r => by
    cases r
    obtain ⟨u, hu, xs, rfl, rr⟩ := hN _ _ h
    exact .dk (.inl hu) (Viewk.rp s hN q rr)
  | _, _, _, .ins h q, r => by
    cases r
    obtain ⟨u, hu, _, dx, xs, rfl, rr⟩ := hN _ _ h
    exact .obj hu (Viewf.rp s hN q rr)
  | _, _, _, .lstD q, .lst h1 r1 => .lst (same_l s h1) (Views.rp s hN q r1)
  | _, _, _, .tupD q, .tup h1 r1 => .tup (same_t s h1) (Views.rp s hN q r1)
theorem Views.rp {Gp : Hp} (s : Same G Gp) (hN : ∀ a w, N a = some w → ∃ u, Gp a = some u ∧ OwOk K G a w u) : ∀ {d e : List D} {v : List V}, Views N d e → Rps K G v d → Rps K Gp v e
  | _, _, _, .nil, .nil => .nil
  | _, _, _, .cons q qs, .cons r rs => .cons (View.rp s hN q r) (Views.rp s hN qs rs)
theorem Viewk.rp {Gp : Hp} (s : Same G Gp) (hN : ∀ a w, N a = some w → ∃ u, Gp a = some u ∧ OwOk K G a w u) : ∀ {d e : List (Key × D)} {v : List (Key × V)}, Viewk N d e → Rks K G v d → Rks K Gp v e
  | _, _, _, .nil, .nil => .nil
  | _, _, _, .cons q qs, .cons r rs => .cons (View.rp s hN q r) (Viewk.rp s hN qs rs)
theorem Viewf.rp {Gp : Hp} (s : Same G Gp) (hN : ∀ a w, N a = some w → ∃ u, Gp a = some u ∧ OwOk K G a w u) : ∀ {d e : List (Str × D)} {v : List (Str × V)}, Viewf N d e → Rfs K G v d → Rfs K Gp v e
  | _, _, _, .nil, .nil => .nil
  | _, _, _, .cons q qs, .cons r rs => .cons (View.rp s hN q r) (Viewf.rp s hN qs rs)
end
/-- the slots, where N's objects have become data; M' is left in memory -/
inductive SlV (N M M' : Mem) : Sl → Sl → Prop
  | un : SlV N M M' .un .un
  | any {s : Sl} : SlV N M M' s .un
  | dat {d e : D} : View N d e → SlV N M M' (.dat d) (.dat e)
  | mem : SlV N M M' (.mem M) (.mem M')
  | own {w : Ow} : SlV N M M' (.own w) (.own w)
inductive SlVs (N M M' : Mem) : List Sl → List Sl → Prop
  | nil : SlVs N M M' [] []
  | cons {s t : Sl} {ss ts : List Sl} : SlV N M M' s t → SlVs N M M' ss ts → SlVs N M M' (s :: ss) (t :: ts)
theorem SlVs.length : ∀ {ss ts : List Sl}, SlVs N M M' ss ts → ss.length = ts.length
  | _, _, .nil => rfl
  | _, _, .cons _ r => congrArg (· + 1) r.length
theorem SlVs.get : ∀ {ss ts : List Sl} {i : Nat} {t : Sl}, SlVs N M M' ss ts → ts[i]? = some t → ∃ s, ss[i]? = some s ∧ SlV N M M' s t
  | _, _, _, _, .nil, e => by simp at e
  | _, _, 0, _, .cons h _, e => by simp at e; subst e; exact ⟨_, rfl, h⟩
  | _, _, i + 1, t, .cons _ r, e => by
    obtain ⟨v, h1, h2⟩ := SlVs.get (i := i) (t := t) r (by simpa using e)
    exact ⟨v, by simpa using h1, h2⟩
def frzM (N : Mem) (G H : Hp) : Hp := fun a => match N a with
  | some _ => H a
  | none => G a
theorem Stt.view (S : Stt B Γ σ G H) (hN : ∀ a w, N a = some w → M a = some w) (hM' : ∀ a w, M' a = some w → M a = some w ∧ N a = none) (hm : Γ[m]? = some (.mem M)) (V : SlVs N M M' Γ Γ') : Same G (frzM N G H) ∧ Stt B Γ' σ (frzM N G H) H := by
  have gn : ∀ a w, N a = some w → G a = none := fun a w e => (S.atM hm (hN a w e)).1
  have sg : Same G (frzM N G H) := fun b o q => by
    unfold frzM
    cases e : N b with
    | none => exact q
    | some w => rw [gn b w e] at q; cases q
  have hb : ∀ a w, N a = some w → ∃ u, frzM N G H a = some u ∧ OwOk B.K G a w u := fun a w e => by
    obtain ⟨_, u, hu, o⟩ := S.atM hm (hN a w e)
    exact ⟨u, by unfold frzM; rw [e]; exact hu, o⟩
  have off : ∀ a, N a = none → frzM N G H a = G a := fun a e => by unfold frzM; rw [e]
  have key : ∀ (j : Nat) (c : Addr), Owns Γ' σ j c → Owns Γ σ j c ∧ N c = none := fun j c h => by
    rcases h with ⟨o, h1, h2⟩ | ⟨M2, w2, h1, h2⟩
    · obtain ⟨s, hs, q⟩ := V.get h1
      cases q
      have oj : Owns Γ σ j c := .inl ⟨o, hs, h2⟩
      refine ⟨oj, ?_⟩
      cases e : N c with
      | none => rfl
      | some w =>
        have := S.ap j m c oj (.inr ⟨M, w, hm, hN c w e⟩)
        subst this
        rw [hs] at hm
        cases hm
    · obtain ⟨s, hs, q⟩ := V.get h1
      cases q
      have := hM' c w2 h2
      exact ⟨.inr ⟨M, w2, hs, this.1⟩, this.2⟩
  refine ⟨sg, ⟨⟨S.fw.g.trans sg, S.fw.h, S.fw.l, fun b o q => ?_, fun b o q n => ?_⟩, by rw [← V.length]; exact S.len, fun j t h => ?_, fun j k b h1 h2 => S.ap j k b (key j b h1).1 (key k b h2).1, fun j o b h1 h2 => ?_, fun j M2 b w2 h1 h2 => ?_⟩⟩
  · cases e : N b with
    | none => rw [off b e] at q; exact S.same b o q
    | some w => unfold frzM at q; rw [e] at q; exact q
  · cases e : N b with
    | none => rw [off b e] at q; exact S.fw.n b o q n
    | some w => exact S.nm m M b w hm (hN b w e)
  · obtain ⟨s, hs, q⟩ := V.get h
    have qs := S.sl j s hs
    cases q with
    | un => trivial
    | any => trivial
    | dat v => obtain ⟨x, e, r⟩ := qs; exact ⟨x, e, v.rp sg hb r⟩
    | mem =>
      intro b w2 e
      obtain ⟨g2, u2, z2, r2⟩ := S.mem hs b w2 (hM' b w2 e).1
      exact ⟨by rw [off b (hM' b w2 e).2]; exact g2, u2, z2, r2.mono sg⟩
    | own =>
      obtain ⟨b, u2, e2, g2, z2, r2⟩ := qs
      refine ⟨b, u2, e2, ?_, z2, r2.mono sg⟩
      have oj : Owns Γ' σ j b := .inl ⟨_, h, by
        cases q : σ[j]? with
        | none => rw [q] at e2; cases e2
        | some y => rw [q] at e2; exact congrArg some e2⟩
      rw [off b (key j b oj).2]
      exact g2
  · obtain ⟨s, hs, q⟩ := V.get h1
    cases q
    exact S.nw j o b hs h2
  · obtain ⟨s, hs, q⟩ := V.get h1
    cases q
    exact S.nm j M b w2 hs (hM' b w2 h2).1
/-- memory is given up, in part or whole -/
theorem sv_view (N M' : Mem) (hm : Γ[m]? = some (.mem M)) (hN : ∀ a w, N a = some w → M a = some w) (hM' : ∀ a w, M' a = some w → M a = some w ∧ N a = none) (V : SlVs N M M' Γ Γ') (h : Sv B W t Γ' P) : Sv B W t Γ P := fun D σ G H E S => by
  obtain ⟨s, S'⟩ := S.view hN hM' hm V
  exact h D σ _ H (E.mono s) S'
theorem sv_viewAll (hm : Γ[m]? = some (.mem M)) (V : SlVs M M mem0 Γ Γ') (h : Sv B W t Γ' P) : Sv B W t Γ P := sv_view M mem0 hm (fun _ _ h => h) (fun _ _ z => nomatch z) V h
/-- lent, for a flat answer -/
theorem ev_lend (hm : Γ[m]? = some (.mem M)) (V : SlVs M M mem0 Γ Γ') (hd : flatD d = true) (h : Ev B te Γ' d) : Ev B te Γ d := fun σ G H Q S q => by
  obtain ⟨s, S'⟩ := S.view (fun _ _ h => h) (fun _ _ z => by cases z) hm V
  exact h σ _ H Q S' fun v G' H' f r => q v G H' ⟨Same.refl _, f.h, S.same.trans f.h, fun b o e n => by rw [n] at e; cases e⟩ (r.flat hd)
theorem evt_lend {p : Bool} (hm : Γ[m]? = some (.mem M)) (V : SlVs M M mem0 Γ Γ') (h : EvT B tt Γ' p) : EvT B tt Γ p := fun σ G H Q S q => by
  obtain ⟨s, S'⟩ := S.view (fun _ _ h => h) (fun _ _ z => by cases z) hm V
  exact h σ _ H Q S' fun G' H' f => q G H' ⟨Same.refl _, f.h, S.same.trans f.h, fun b o e n => by rw [n] at e; cases e⟩
end
end Z

/-! Z24: defs that change memory; instances in memory; methods. -/
namespace Z
open PySem PySem.Spec PyProof.Rows L2
abbrev FnM := List D → Mem → (D → Mem → Prop) → (Xc → Mem → Prop) → Prop
structure AftM (K : PySem.W.Frag) (M : Mem) (G H G' H' : Hp) (M' : Mem) : Prop where
  fw : FwF (fun a => M a ≠ none) G H G' H'
  ok : MemOk K G' H' M'
  nw : ∀ a w, M' a = some w → H a = none ∨ M a ≠ none
def spm (K : PySem.W.Frag) (F : FnM) : Sp := fun vs H Q E => ∃ (G : Hp) (ds : List D) (M : Mem) (R : D → Mem → Prop) (X : Xc → Mem → Prop), Same G H ∧ Rps K G vs ds ∧ MemOk K G H M ∧ F ds M R X ∧
  (∀ d v M' G' H', R d M' → AftM K M G H G' H' M' → Rp K G' v d → Q v H') ∧ (∀ x cls dd M' G' H', X x M' → AftM K M G H G' H' M' → XOk K G' x cls dd → E cls dd H')
theorem spm_len {K : PySem.W.Frag} {F : FnM} {n : Nat} (h : ∀ ds M R X, F ds M R X → ds.length = n) (vs : List V) (H : Hp) (Q : VK) (E : XK) (s : spm K F vs H Q E) : vs.length = n := by
  obtain ⟨G, ds, M, R, X, _, r, _, f, _⟩ := s
  rw [r.length, h ds M R X f]
section
variable {K : PySem.W.Frag} {B : Bx} {W : WX} {Γ Γ' : List Sl} {P : Po} {σ σ' : L2.St} {G G' H H' : Hp} {M N M' : Mem} {i j m n : Nat} {a : Addr} {w w' : Ow} {d e : D} {ds as : List D} {ks : List (Key × D)} {k : Key} {z : Int} {x : Str}
variable {te to ti tf : TE} {ta aa : TA} {tt tu : TT} {t u : TS} {kk : D → List Sl → Prop} {kx : Xc → List Sl → Prop}
theorem Stt.after (S : Stt B Γ σ G H) (hm : Γ[m]? = some (.mem M)) (A : AftM B.K M G H G' H' M') : Stt B (Γ.set m (.mem M')) σ G' H' := by
  have hil : m < Γ.length := (List.getElem?_eq_some_iff.mp hm).1
  have fr : ∀ c, M c ≠ none → B.H0 c = none ∨ B.F0 c := fun c h => by
    cases e : M c with
    | none => exact absurd e h
    | some w => exact S.nm m M c w hm e
  have mine : ∀ (j : Nat) (c : Addr), j ≠ m → Owns Γ σ j c → M c = none ∧ ∀ w, M' c ≠ some w := fun j c ne h => by
    have h1 : M c = none := by
      cases e : M c with
      | none => rfl
      | some w => exact absurd (S.ap j m c h (.inr ⟨M, w, hm, e⟩)) ne
    refine ⟨h1, fun w e => ?_⟩
    obtain ⟨_, ⟨u, hu⟩, _⟩ := S.owned h
    rcases A.nw c w e with q | q
    · rw [hu] at q; cases q
    · exact q h1
  have keep : ∀ (c : Addr) (u : HO), G c = none → H c = some u → M c = none → G' c = none ∧ H' c = some u := fun c u g h mc => by
    refine ⟨?_, A.fw.h c u h fun q => q mc⟩
    cases e : G' c with
    | none => rfl
    | some o =>
      rcases A.fw.n c o e g with q | q
      · rw [h] at q; cases q
      · exact absurd mc q
  have key : ∀ (j : Nat) (c : Addr), Owns (Γ.set m (.mem M')) σ j c → (j = m ∧ ∃ w, M' c = some w) ∨ (j ≠ m ∧ Owns Γ σ j c) := fun j c h => by
    by_cases e : j = m
    · subst e
      unfold Owns at h
      rw [List.getElem?_set_self hil] at h
      rcases h with ⟨o, h1, _⟩ | ⟨M2, w2, h1, h2⟩
      · cases h1
      · cases h1; exact .inl ⟨rfl, w2, h2⟩
    · exact .inr ⟨e, owns_neΓ e h⟩
  refine ⟨⟨S.fw.g.trans A.fw.g, fun c o q nf => ?_, fun c q => S.fw.l c (A.fw.l c q), A.fw.e, fun c o q n => ?_⟩, by simp [S.len], fun j s h => ?_, fun j k b h1 h2 => ?_, fun j o b h1 h2 => ?_, fun j M2 b w2 h1 h2 => ?_⟩
  · refine A.fw.h c o (S.fw.h c o q nf) fun mc => ?_
    rcases fr c mc with z | z
    · rw [q] at z; cases z
    · exact nf z
  · cases e : G c with
    | some o2 => exact S.fw.n c o2 e n
    | none =>
      rcases A.fw.n c o q e with z | z
      · exact .inl (S.fw.l c z)
      · exact fr c z
  · by_cases e : j = m
    · subst e
      rw [List.getElem?_set_self hil] at h
      cases h
      exact A.ok
    · rw [List.getElem?_set_ne (Ne.symm e)] at h
      have q := S.sl j s h
      cases s with
      | un => trivial
      | dat d => obtain ⟨v, e2, r2⟩ := q; exact ⟨v, e2, r2.mono A.fw.g⟩
      | own o =>
        obtain ⟨b, u2, e2, g2, z2, r2⟩ := q
        have oj : Owns Γ σ j b := .inl ⟨o, h, by
          cases q : σ[j]? with
          | none => rw [q] at e2; cases e2
          | some y => rw [q] at e2; exact congrArg some e2⟩
        obtain ⟨k1, k2⟩ := keep b u2 g2 z2 (mine j b e oj).1
        exact ⟨b, u2, e2, k1, k2, r2.mono A.fw.g⟩
      | mem M2 =>
        intro b w2 e2
        obtain ⟨g2, u2, z2, r2⟩ := q b w2 e2
        obtain ⟨k1, k2⟩ := keep b u2 g2 z2 (mine j b e (.inr ⟨M2, w2, h, e2⟩)).1
        exact ⟨k1, u2, k2, r2.mono A.fw.g⟩
  · rcases key j b h1 with ⟨rfl, w1, q1⟩ | ⟨n1, q1⟩
    · rcases key k b h2 with ⟨rfl, _⟩ | ⟨n2, q2⟩
      · rfl
      · exact absurd q1 ((mine k b n2 q2).2 w1)
    · rcases key k b h2 with ⟨rfl, w2, q2⟩ | ⟨n2, q2⟩
      · exact absurd q2 ((mine j b n1 q1).2 w2)
      · exact S.ap j k b q1 q2
  · by_cases e : j = m
    · subst e; rw [List.getElem?_set_self hil] at h1; cases h1
    · rw [List.getElem?_set_ne (Ne.symm e)] at h1; exact S.nw j o b h1 h2
  · by_cases e : j = m
    · subst e
      rw [List.getElem?_set_self hil] at h1
      cases h1
      rcases A.nw b w2 h2 with q | q
      · exact .inl (S.fr q)
      · exact fr b q
    · rw [List.getElem?_set_ne (Ne.symm e)] at h1; exact S.nm j M2 b w2 h1 h2
/-- a call of a def that changes memory -/
theorem eve_callS {F : FnM} (hm : Γ[m]? = some (.mem M)) (ha : EvA B aa Γ as) (hF : F as M (fun d M' => kk d (Γ.set m (.mem M'))) (fun x M' => kx x (Γ.set m (.mem M')))) : EvE B W (tCallS (spm B.K F) (WE W) aa) Γ kk kx := fun σ G H Q S q qx =>
  ha σ G H _ S fun vs G1 H1 f1 r1 => by
    have S1 := S.step f1
    exact ⟨G1, as, M, _, _, f1.e, r1, S1.mem hm, hF, fun d v M' G' H' k A r => q v d _ G' H' k (f1.g.trans A.fw.g) (S1.after hm A) r, fun x cls dd M' G' H' k A o => qx x cls dd _ G' H' k (f1.g.trans A.fw.g) (S1.after hm A) o⟩
theorem eve_call {F : FnM} (hm : Γ[m]? = some (.mem M)) (ha : EvA B aa Γ as) (hF : F as M (fun d M' => kk d (Γ.set m (.mem M'))) (fun _ _ => False)) : EvE B W (tCall (spm B.K F) [] E0 aa) Γ kk kx := fun σ G H Q S q qx =>
  ha σ G H _ S fun vs G1 H1 f1 r1 => by
    have S1 := S.step f1
    show spm B.K F (vs ++ []) H1 Q E0
    rw [List.append_nil]
    exact ⟨G1, as, M, _, _, f1.e, r1, S1.mem hm, hF, fun d v M' G' H' k A r => q v d _ G' H' k (f1.g.trans A.fw.g) (S1.after hm A) r, fun _ _ _ _ _ _ z => z.elim⟩
/-- arguments that change memory -/
theorem eve_callSE {F : FnM} (ha : EvAE B W aa Γ (fun as Γ1 => ∃ M1, Γ1[m]? = some (.mem M1) ∧ F as M1 (fun d M' => kk d (Γ1.set m (.mem M'))) (fun x M' => kx x (Γ1.set m (.mem M')))) kx) : EvE B W (tCallS (spm B.K F) (WE W) aa) Γ kk kx := fun σ G H Q S q qx =>
  ha σ G H _ S (fun vs ds Γ1 G1 H1 k s1 S1 r1 => by
    obtain ⟨M1, hm, hF⟩ := k
    exact ⟨G1, ds, M1, _, _, S1.same, r1, S1.mem hm, hF, fun d v M' G' H' k A r => q v d _ G' H' k (s1.trans A.fw.g) (S1.after hm A) r, fun x cls dd M' G' H' k A o => qx x cls dd _ G' H' k (s1.trans A.fw.g) (S1.after hm A) o⟩) qx
/-- a pure def, its arguments changing memory -/
theorem eve_callPE {F : Fn} (ha : EvAE B W aa Γ (fun as Γ1 => ∃ d, F as (fun s => s.toD = some d) (fun _ => False) ∧ kk d Γ1) kx) {E : L2.St → XK} : EvE B W (tCallS (spz B.K F) E aa) Γ kk kx := fun σ G H Q S q qx =>
  ha σ G H _ S (fun vs ds Γ1 G1 H1 k s1 S1 r1 => by
    obtain ⟨d, hF, k⟩ := k
    exact ⟨G1, ds, _, _, S1.same, r1, hF, fun s v G' H' hs f' rs => by
      obtain ⟨G2, f2, r2⟩ := rs_toD f' hs rs
      exact q v d Γ1 G2 H' k (s1.trans f2.g) (S1.step f2) r2, fun _ _ _ _ _ z => z.elim⟩) qx
/-- such a def where no memory is at hand, its answer data -/
theorem ev_callM {F : FnM} {E : L2.St → XK} (ha : EvA B aa Γ as) (hF : F as mem0 (fun c _ => c = d) (fun _ _ => False)) : Ev B (tCallS (spm B.K F) E aa) Γ d := fun σ G H Q S q =>
  ha σ G H _ S fun vs G1 H1 f1 r1 => ⟨G1, as, mem0, _, _, f1.e, r1, (fun _ _ z => nomatch z), hF, fun c v M' G' H' k A r => by
    subst k
    exact q v G' H' (f1.trans (A.fw.fw fun a z => z rfl)) r, fun _ _ _ _ _ _ z => z.elim⟩
theorem ev_callM0 {F : FnM} (ha : EvA B aa Γ as) (hF : F as mem0 (fun c _ => c = d) (fun _ _ => False)) : Ev B (tCall (spm B.K F) [] E0 aa) Γ d := fun σ G H Q S q =>
  ha σ G H _ S fun vs G1 H1 f1 r1 => by
    show spm B.K F (vs ++ []) H1 Q E0
    rw [List.append_nil]
    exact ⟨G1, as, mem0, _, _, f1.e, r1, (fun _ _ z => nomatch z), hF, fun c v M' G' H' k A r => by
      subst k
      exact q v G' H' (f1.trans (A.fw.fw fun a z => z rfl)) r, fun _ _ _ _ _ _ z => z.elim⟩
/-- a new instance in memory -/
theorem eve_mkM {F : FnM} {C : Addr} (hm : Γ[m]? = some (.mem M)) (ha : EvA B aa Γ as) (hF : ∀ a, M a = none → F (.ref a :: as) (ups M a (.ins C [] none)) (fun d M' => d = .non ∧ kk (.ref a) (Γ.set m (.mem M'))) (fun x M' => kx x (Γ.set m (.mem M')))) :
    EvE B W (tMkZ C (spm B.K F) (WE W) aa) Γ kk kx := fun σ G H Q S q qx =>
  ha σ G H _ S fun vs G1 H1 f1 r1 => fun a dx na ndx ne => by
    have S1 := S.step f1
    have nm : M a = none := fresh_mem (S := S1) hm na
    have S2 := S1.other (u := .own a) (S1.fr ndx) (S1.same.free ndx) (S1.apart ndx)
    have na2 : (upd H1 dx (.own a)) a = none := by rw [upd_ne (Ne.symm ne)]; exact na
    have S3 := S2.memNew (w := .ins C [] none) (u := .ins C dx []) hm na2 ⟨(fun _ z => nomatch z), dx, [], rfl, .nil⟩
    have hil : m < Γ.length := (List.getElem?_eq_some_iff.mp hm).1
    have hm3 : (Γ.set m (.mem (ups M a (.ins C [] none))))[m]? = some (.mem (ups M a (.ins C [] none))) := List.getElem?_set_self hil
    refine ⟨G1, .ref a :: as, _, _, _, S3.same, .cons (.ref a) r1, S3.mem hm3, hF a nm, fun d v M' G' H' k A r => ?_, fun x cls dd M' G' H' k A o => ?_⟩
    · obtain ⟨rfl, k⟩ := k
      cases r
      have S4 := S3.after hm3 A
      rw [List.set_set] at S4
      exact ⟨rfl, q (.ref a) (.ref a) _ G' H' k (f1.g.trans A.fw.g) S4 (.ref a)⟩
    · have S4 := S3.after hm3 A
      rw [List.set_set] at S4
      exact qx x cls dd _ G' H' k (f1.g.trans A.fw.g) S4 o
/-! the body of such a def: its last slot holds the memory -/
def iniM (N : List Str) (ds : List D) (M : Mem) : List Sl := ds.map Sl.dat ++ (List.replicate (N.length - ds.length - 1) Sl.un ++ [.mem M])
theorem iniM_eq {N : List Str} {ds : List D} {M : Mem} (h : ds.length < N.length) : iniM N ds M = (ini N ds).set (N.length - 1) (.mem M) := by
  unfold iniM ini
  have e : N.length - ds.length = (N.length - ds.length - 1) + 1 := by omega
  rw [e, List.replicate_succ', ← List.append_assoc, ← List.append_assoc, List.set_append_right _ _ (by simp; omega)]
  have e2 : N.length - 1 - (List.map Sl.dat ds ++ List.replicate (N.length - ds.length - 1) Sl.un).length = 0 := by simp; omega
  rw [e2]
  simp
theorem iniM_get {N : List Str} {ds : List D} {M : Mem} (h : ds.length < N.length) : (iniM N ds M)[N.length - 1]? = some (.mem M) := by
  rw [iniM_eq h, List.getElem?_set_self]
  unfold ini
  simp
  omega
theorem stt_startM {N : List Str} {vs : List V} (hl : ds.length < N.length) (s : Same G H) (r : Rps K G vs ds) (ok : MemOk K G H M) : Stt ⟨K, G, H, fun a => M a ≠ none⟩ (iniM N ds M) (L2.start N vs) G H := by
  have T : Stt ⟨K, G, H, NoF⟩ (ini N ds) (L2.start N vs) G H := stt_start s r
  have hli : N.length - 1 < (ini N ds).length := by unfold ini; simp; omega
  have no : ∀ (j : Nat) (c : Addr), ¬ Owns (ini N ds) (L2.start N vs) j c := fun j c h => by
    rcases h with ⟨o, h, _⟩ | ⟨M, w, h, _⟩
    · exact absurd h (ini_own N ds j o)
    · exact absurd h (ini_mem N ds j M)
  have key : ∀ (j : Nat) (c : Addr), Owns (iniM N ds M) (L2.start N vs) j c → j = N.length - 1 ∧ ∃ w, M c = some w := fun j c h => by
    rw [iniM_eq hl] at h
    by_cases e : j = N.length - 1
    · subst e
      unfold Owns at h
      rw [List.getElem?_set_self hli] at h
      rcases h with ⟨o, h1, _⟩ | ⟨M2, w2, h1, h2⟩
      · cases h1
      · cases h1; exact ⟨rfl, w2, h2⟩
    · exact absurd (owns_neΓ e h) (no j c)
  refine ⟨.refl s, by rw [T.len, iniM_eq hl, List.length_set], fun j t h => ?_, fun j k b h1 h2 => (key j b h1).1.trans (key k b h2).1.symm, fun j o b h1 h2 => ?_, fun j M2 b w2 h1 h2 => ?_⟩
  · rw [iniM_eq hl] at h
    by_cases e : j = N.length - 1
    · subst e
      rw [List.getElem?_set_self hli] at h
      cases h
      exact ok
    · rw [List.getElem?_set_ne (Ne.symm e)] at h
      exact T.sl j t h
  · obtain ⟨_, w, e⟩ := key j b (.inl ⟨o, h1, h2⟩)
    rw [iniM_eq hl] at h1
    by_cases e : j = N.length - 1
    · subst e; rw [List.getElem?_set_self hli] at h1; cases h1
    · rw [List.getElem?_set_ne (Ne.symm e)] at h1; exact absurd h1 (ini_own N ds j o)
  · obtain ⟨_, w, e⟩ := key j b (.inr ⟨M2, w2, h1, h2⟩)
    exact .inr (by show M b ≠ none; rw [e]; simp)
theorem sv_defM {F : FnM} {N : List Str} {vs : List V} {Q : VK} {E : XK} (h : spm K F vs H Q E) (hN : ∀ ds M R X, F ds M R X → ds.length < N.length)
    (hb : ∀ G ds M R X, F ds M R X → Sv ⟨K, G, H, fun a => M a ≠ none⟩ (fun cls d _ H' => E cls d H') t (iniM N ds M) { nx := fun Γ => ∃ M', Γ[N.length - 1]? = some (.mem M') ∧ R .non M', rt := fun _ => False, rm := R, xc := fun x Γ => ∃ M', Γ[N.length - 1]? = some (.mem M') ∧ X x M' }) : t { nx := fun _ H' => Q .non H', rt := Q } (L2.start N vs) H := by
  obtain ⟨G, ds, M, R, X, s, r, ok, f, q, qe⟩ := h
  have aft : ∀ (Γ : List Sl) σ G' H' (i : Nat) M', Γ[i]? = some (.mem M') → Stt ⟨K, G, H, fun a => M a ≠ none⟩ Γ σ G' H' → AftM K M G H G' H' M' := fun Γ σ G' H' i M' hi S => ⟨S.fw, S.mem hi, fun a w e => S.nm i M' a w hi e⟩
  refine hb G ds M R X f _ (L2.start N vs) G H ⟨fun Γ σ G' H' h _ S => ?_, fun _ _ _ _ z => z.elim, fun _ _ _ _ z => z.elim, fun s v G' H' h f r => h.elim, fun x Γ cls dd σ G' H' h _ S xo => ?_, fun d M' v i Γ σ G' H' k hi S r => ?_⟩ (stt_startM (hN ds M R X f) s r ok)
  · obtain ⟨M', hi, k⟩ := h
    exact q .non .non M' G' H' k (aft Γ σ G' H' _ M' hi S) .non
  · obtain ⟨M', hi, k⟩ := h
    exact qe x cls dd M' G' H' k (aft Γ σ G' H' _ M' hi S) xo
  · exact q d v M' G' H' k (aft Γ σ G' H' i M' hi S) r
end
/-! methods -/
def tMethO (C : Addr) (m : Str) (sp : Sp) (E : L2.St → XK) (ta : TE) (t : TA) : TE := fun σ H Q => ta σ H fun x H1 => ∃ a dx fs, x = .ref a ∧ H1 a = some (.ins C dx fs) ∧ fs.lookup m = none ∧ t σ H1 fun vs H2 => sp (x :: vs) H2 Q (E σ)
structure Dm (P : Program) (w : World) (K : PySem.W.Frag) (mg : Str → Option Value) (base : Heap) (C : Addr) (x : Str) (ps : List Str) (k : Nat) (sp : Sp) : Prop where
  cl : Cls K C
  ex : ∃ f fd, Meth K C x f ∧ FnOk P w K mg base (L2.CX P w) k f fd ps sp ∧ Binds K fd ps []
section
variable {X : Cx} {W : WX} {x : Str} {C : Addr} {ps : List Str} {k : Nat} {sp : Sp} {apos pos : Pos} {o e : Expr} {es : List Expr} {ta : TE} {t : TA}
theorem pe_methZ {pl : Sem Bool} (he : PE X o ta) (D : Dm X.prog X.w X.K X.mg X.base C x ps k sp) (hr : Room k X.A) (tk : Takes X W) (ha : PA X (e :: es) t)
    (hst : starEach (e :: es) X.env = (false, eval e X.env) :: starEach es X.env := by rfl) (hpl : (backTo pos (starEach es X.env)).any (·.1) = false := by rfl)
    (ht : eval (.Call (.Attribute o x apos) (e :: es) [] pos) X.env = (do
      let ov ← eval o X.env
      standAt apos.atName
      let (f, first) ← holding [ov] (getMethod ov x pl)
      callWith pos f first (backTo pos (starEach (e :: es) X.env)) (backToKw pos (keywordEach [] X.env))) := by rfl) :
    PE X (.Call (.Attribute o x apos) (e :: es) [] pos) (tMethO C x sp (WE W) ta t) := by
  obtain ⟨f, fd, hm, F, hb⟩ := D.ex
  refine ⟨fun pins s σ H Q I h => ?_⟩
  refine PySem.W.methodCall_KW (pl := pl) (thn (he.run pins s σ H _ I h) fun u s1 ⟨x, H1, I1, rx, a, dx, fs, ex, ea, l, q⟩ => ?_) ht
  subst ex
  obtain rfl : u = Value.ref a := rx
  refine getmeth_ok I1 ea D.cl hm l ?_
  refine PySem.W.callWith_K (first := [.ref a]) (h₀ := X.base) I.ok.mod.kin hm.kp (thn (ha.run pos pins s1 σ H1 _ I1 q) fun us s2 ⟨vs, H2, I2, r, q2⟩ => ⟨I2.kIn, ?_⟩) hst hpl
  exact run_fnSD (us := .ref a :: us) (vs := .ref a :: vs) F hr hb .nil (passAt tk σ) I2 (.cons rfl r) (by rw [List.append_nil]; exact q2)
theorem pe_methZ0 {pl : Sem Bool} (he : PE X o ta) (D : Dm X.prog X.w X.K X.mg X.base C x ps k sp) (hr : Room k X.A) (tk : Takes X W)
    (ht : eval (.Call (.Attribute o x apos) [] [] pos) X.env = (do
      let ov ← eval o X.env
      standAt apos.atName
      let (f, first) ← holding [ov] (getMethod ov x pl)
      callWith pos f first (backTo pos (starEach [] X.env)) (backToKw pos (keywordEach [] X.env))) := by rfl) :
    PE X (.Call (.Attribute o x apos) [] [] pos) (tMethO C x sp (WE W) ta tNil) := by
  obtain ⟨f, fd, hm, F, hb⟩ := D.ex
  refine ⟨fun pins s σ H Q I h => ?_⟩
  refine PySem.W.methodCall_KW (pl := pl) (thn (he.run pins s σ H _ I h) fun u s1 ⟨x, H1, I1, rx, a, dx, fs, ex, ea, l, q⟩ => ?_) ht
  subst ex
  obtain rfl : u = Value.ref a := rx
  refine getmeth_ok I1 ea D.cl hm l ?_
  exact PySem.W.callWith_K0 (first := [.ref a]) I1.kIn hm.kp (run_fnSD (us := [.ref a]) (vs := [.ref a]) F hr hb .nil (passAt tk σ) I1 (.cons rfl .nil) (by rw [List.append_nil]; exact q))
end
section
variable {B : Bx} {W : WX} {Γ : List Sl} {M : Mem} {m : Nat} {a C : Addr} {d : D} {ds as : List D} {fs : List (Str × D)} {x : Str} {to : TE} {aa : TA} {kk : D → List Sl → Prop} {kx : Xc → List Sl → Prop}
theorem Rfs.no {K : PySem.W.Frag} {G : Hp} : ∀ {vs : List (Str × V)} {ds : List (Str × D)} {f : Str}, Rfs K G vs ds → ds.lookup f = none → vs.lookup f = none
  | _, _, _, .nil, _ => rfl
  | _, _, f, .cons (f := g) h r, e => by
    rw [List.lookup_cons] at e
    rw [List.lookup_cons]
    by_cases q : f = g
    · have : (f == g) = true := by simpa using q
      simp only [this] at e
      cases e
    · have : (f == g) = false := by simpa using q
      simp only [this] at e ⊢
      exact Rfs.no r e
/-- o.m(..), o data -/
theorem ev_meth {F : Fn} {E : L2.St → XK} (ho : Ev B to Γ (.obj C fs)) (hl : fs.lookup x = none) (ha : EvA B aa Γ as) (hF : F (.obj C fs :: as) (fun s => s.toD = some d) (fun _ => False)) : Ev B (tMethO C x (spz B.K F) E to aa) Γ d := fun σ G H Q S q =>
  ho σ G H _ S fun v G1 H1 f1 r1 => by
    cases r1 with
    | obj h1 r1 =>
      rename_i p dx xs
      refine ⟨p, dx, xs, rfl, f1.e _ _ h1, r1.no hl, ha σ G1 H1 _ (S.step f1) fun vs G2 H2 f2 r2 => ?_⟩
      exact ⟨G2, _, _, _, f2.e, .cons (.obj (f2.g _ _ h1) (r1.mono f2.g)) r2, hF, fun s v G' H' hs f' rs => by
        obtain ⟨G3, f3, r3⟩ := rs_toD f' hs rs
        exact q v G3 H' ((f1.trans f2).trans f3) r3, fun _ _ _ _ _ z => z.elim⟩
/-- o.m(..), o in memory -/
theorem eve_meth {F : FnM} (hm : Γ[m]? = some (.mem M)) (ho : Ev B to Γ (.ref a)) (ho2 : M a = some (.ins C fs none)) (hl : fs.lookup x = none) (ha : EvA B aa Γ as) (hF : F (.ref a :: as) M (fun d M' => kk d (Γ.set m (.mem M'))) (fun x M' => kx x (Γ.set m (.mem M')))) :
    EvE B W (tMethO C x (spm B.K F) (WE W) to aa) Γ kk kx := fun σ G H Q S q qx =>
  ho σ G H _ S fun v G1 H1 f1 r1 => by
    cases r1
    have S1 := S.step f1
    obtain ⟨g, u, hu, ⟨_, dx, xs, rfl, rr⟩⟩ := S1.atM hm ho2
    refine ⟨a, dx, xs, rfl, hu, rr.no hl, ha σ G1 H1 _ S1 fun vs G2 H2 f2 r2 => ?_⟩
    have S2 := S1.step f2
    exact ⟨G2, _, M, _, _, f2.e, .cons (.ref a) r2, S2.mem hm, hF, fun d v M' G' H' k A r => q v d _ G' H' k ((f1.g.trans f2.g).trans A.fw.g) (S2.after hm A) r, fun x cls dd M' G' H' k A o => qx x cls dd _ G' H' k ((f1.g.trans f2.g).trans A.fw.g) (S2.after hm A) o⟩
end
end Z

/-! Z25: more rules: keys of a new dict walked, extend by a tuple, displays, pops. -/
namespace Z
open PySem PySem.Spec PyProof.Rows L2
open PySem.AutoSeq1 in
theorem list_extend_tupW (l : Addr) (items : Array Value) (n : Nat) (b : Addr) (items2 : Array Value) (n2 : Nat) (dd : Option Addr) (sl : Array (Option Value)) (hs0 : ¬(!items.isEmpty && Builtin.List.listTooLong (items.size + items2.size)) = true) (hs1 : items.size ≤ sizeLine) (hs2 : items.size + items2.size ≤ sizeLine + 1) :
    Meets (Builtin.«list.extend» ⟨[.ref l, .ref b], []⟩) (fun _ R s => s.heap.get? l = some { cls := .type "list", dict := none, data := .seq items n, slots := #[] } ∧ s.heap.get? b = some { cls := .type "tuple", dict := dd, data := .seq items2 n2, slots := sl } ∧ R (.ok (.ret Value.none)) { s with heap := s.heap.update l (Obj.mapSeq fun x => x ++ items2), toks := s.toks }) :=
  .of_wp fun prog w A R s h => by
    obtain ⟨hp, g, d, tk, os⟩ := s; obtain ⟨hl, hb, h⟩ := h; have f1 := idx_int; have f2 := AutoSeq1.sub_tuple_tuple; have f3 := AutoSeq1.sub_list_list; have f4 := AutoSeq1.sub_tuple_list; have f5 := AutoSeq1.sub_list_tuple;
    have hz' : (items ++ items2).size ≤ sizeLine + 1 := by rw [Array.size_append]; exact hs2
    wp_walk using (wpAny_updateSeq hl rfl (hz := hs1) (_hz' := hz')), wpAny_loadPart' hl, wpAny_loadPart' hb; exact ⟨_, rfl, h⟩
def rExtendT (K : PySem.W.Frag) : V → List V → Hp → VK → Prop := fun x vs H Q => ∃ l b xs zs, x = .ref l ∧ vs = [.ref b] ∧ H l = some (.lst xs) ∧ SqT K H b zs ∧ xs.length + zs.length ≤ sizeLine ∧ Q .non (upd H l (.lst (xs ++ zs)))
theorem mt_extendT {X : Cx} : MtR X "list.extend" (rExtendT X.K) := by
  intro pins s σ H x vs v us Q I rx rv h
  obtain ⟨l, b, xs, zs, rfl, rfl, hH, hB, hz, q⟩ := h
  cases rx
  obtain ⟨u, rfl, ru⟩ := rv.one
  cases ru
  obtain ⟨z, its, n, r, hl, e⟩ := I.lstM hH
  obtain ⟨its2, r2, ⟨⟨cls2, dd2, data2, sl2⟩, ho2, hc2, n2, hd2⟩, hz2⟩ := I.tuple hB
  simp only at hc2 hd2
  subst hc2 hd2
  have e1 := r.length
  have e2 := r2.length
  have hsz : its.toArray.size + its2.toArray.size ≤ sizeLine := by rw [List.size_toArray, List.size_toArray]; omega
  have hlong : ¬ (!its.toArray.isEmpty && Builtin.List.listTooLong (its.toArray.size + its2.toArray.size)) = true := by
    rw [notLongL hsz, Bool.and_false]
    exact Bool.false_ne_true
  refine call_meets F.slot_list_extend ⟨_, e, rfl⟩ F.entry_list_extend (F.args_list_extend_2 _ _)
    (list_extend_tupW l its.toArray n b its2.toArray n2 dd2 sl2 hlong (by rw [List.size_toArray]; omega) (by omega)) ⟨e, ho2, ?_⟩
  refine ⟨.non, _, I.lset (its' := its ++ its2) hH e (by simp) (r.append r2) ?_, rfl, q⟩
  rw [List.length_append]
  omega
def zExtend (K : PySem.W.Frag) : V → List V → Hp → VK → Prop := fun x vs H Q => rExtend x vs H Q ∨ rExtendT K x vs H Q
theorem mt_zExtend {X : Cx} : MtR X "list.extend" (zExtend X.K) := by
  intro pins s σ H x vs v us Q I rx rv h
  rcases h with h | h
  · exact mt_extend pins s σ H x vs v us Q I rx rv h
  · exact mt_extendT pins s σ H x vs v us Q I rx rv h
/-! keys of a new dict -/
def iKeysO (td : TE) : TI := fun σ H R => td σ H fun x H1 => ∃ d kvs, x = .ref d ∧ H1 d = some (.dK kvs) ∧ ∀ o, R (Itk d o kvs) (upd H1 d (.frz o (.dK kvs)))
theorem pi_keysO {X : Cx} {tg e : Expr} {td : TE} (he : PE X e td) : PI X tg e (iKeysO td) := by
  refine ⟨fun pins s σ H R I h => ?_⟩
  refine thn (he.run pins s σ H _ I h) fun u s1 ⟨x, H1, I1, rx, d, kvs, ex, hd, q⟩ => ?_
  subst ex
  obtain rfl : u = Value.ref d := rx
  obtain ⟨od, I2⟩ := I1.lock hd trivial
  obtain ⟨hs, hgd, hx, es, ep, vs, hdt, hsz, kv, hm⟩ := I2.frzK (o := od) (kvs := kvs) upd_same
  refine iter_keys hs hgd hx hdt (pi_one (tk := s1.toks) I2 _ (turn_keys _ hdt) ⟨_, Heap.get?_push_size _ rfl, rfl, ?_⟩ (q od))
  rw [hsz] <;> rfl
section
variable {B : Bx} {W : WX} {Γ Γ' : List Sl} {P : Po} {te ta tb tk tv td to : TE} {aa : TA} {d e : D} {ds as bs : List D} {ks : List (Key × D)} {k : Key} {i n m : Nat} {M : Mem} {kk : D → List Sl → Prop} {kx : Xc → List Sl → Prop} {a : Addr}
theorem rks_key {K : PySem.W.Frag} {G : Hp} : ∀ {vs : List (Key × V)} {dd : List (Key × D)} {i : Nat} {k : Key} {v : V}, Rks K G vs dd → vs[i]? = some (k, v) → (dd.map fun kv => kD kv.1)[i]? = some (kD k)
  | _, _, _, _, _, .nil, e => by simp at e
  | _, _, 0, _, _, .cons _ _, e => by
    rw [List.getElem?_cons_zero] at e
    cases e
    rfl
  | _, _, i + 1, _, _, .cons _ r, e => by
    rw [List.getElem?_cons_succ] at e
    rw [List.map_cons, List.getElem?_cons_succ]
    exact rks_key r e
theorem evi_keysO (h : EvO B td Γ (.dk ks)) : EvI B (iKeysO td) Γ (ks.map fun kv => kD kv.1) := fun σ G H R S q =>
  h σ G H _ S fun a u G1 H1 f g n e ⟨kvs, hu, r⟩ => by
    subst hu
    refine ⟨a, kvs, rfl, e, fun o => ?_⟩
    have hl := r.length
    refine q _ (upd G1 a (.frz o (.dK kvs))) _ ⟨fun b x y => ?_, fun b x y => ?_, fun b x y => ?_, fun b x y z => ?_⟩ ⟨_, _, by rw [List.length_map, ← hl]; exact walk_keys, fun G H s1 s2 => s2 _ _ (s1 _ _ upd_same), fun i H x H' G hi s1 s2 y => ?_⟩
    · rw [upd_ne (ne_of_none (f.g b x y) g)]; exact f.g b x y
    · rw [upd_ne (ne_of_none y n)]; exact f.h b x y
    · by_cases z : b = a
      · subst z; rw [upd_same] at y ⊢; exact y
      · rw [upd_ne z] at y ⊢; exact f.e b x y
    · by_cases c : b = a
      · subst c; exact n
      · rw [upd_ne c] at y; exact f.n b x y z
    · obtain ⟨rfl, k, v, h1, rfl⟩ := y
      have key := fun {i k v} => rks_key (i := i) (k := k) (v := v) r
      refine ⟨kD k, G, key h1, .refl s2, ?_⟩
      cases k with
      | inl z => exact .int z
      | inr z => exact .str z
/-- {k: v} -/
theorem evo_disp0 : True := trivial
theorem evo_disp1 (hk : Ev B tk Γ (kD k)) (hv : Ev B tv Γ d) : EvO B (tDisp [(tk, tv)]) Γ (.dk [(k, d)]) := fun σ G H Q S q p hp => by
  have S0 := S.other (u := .dK []) (S.fr hp) (S.same.free hp) (S.apart hp)
  refine hk σ G _ _ S0 fun x G1 H1 f1 r1 => hv σ G1 H1 _ (S0.step f1) fun y G2 H2 f2 r2 => ?_
  have ey := rp_key r1
  subst ey
  have f := f1.trans f2
  have hp2 : H2 p = some (.dK []) := f.h _ _ upd_same
  have gp : G2 p = none := f.gone (S.same.free hp) upd_same
  refine ⟨hp2, [(k, y)], rfl, by show 1 ≤ 15; decide, ?_⟩
  refine q p (.dK [(k, y)]) G2 _ ⟨f.g, fun b o e => ?_, fun b o e => ?_, fun b o e z => ?_⟩ gp hp upd_same ⟨_, rfl, .cons r2 .nil⟩
  · have ne := ne_of_none e hp
    rw [upd_ne ne]; exact f.h b o (by rw [upd_ne ne]; exact e)
  · rw [upd_ne (ne_of_none e gp)]; exact f.e b o e
  · have := f.n b o e z
    by_cases c : b = p
    · subst c; exact hp
    · rw [upd_ne c] at this; exact this
/-- xs.pop() of a name's own list -/
theorem eve_pop (hn : Γ[n]? = some (.own (.lst (as ++ [d])))) (k : kk d (Γ.set n (.own (.lst as)))) : EvE B W (tBM0 B.K "list" rPop (tVar n)) Γ kk kx := fun σ G H Q S q qx => by
  obtain ⟨a, u, e, g, hh, ⟨xs, hu, rr⟩, h0⟩ := S.own hn
  subst hu
  obtain ⟨v, hv, rv⟩ := rr.get (i := as.length) (d := d) (by simp)
  have hl : xs.length = as.length + 1 := by rw [rr.length]; simp
  refine ⟨.ref a, e, .inl ⟨rfl, xs, .inl (.inl hh)⟩, a, xs, v, rfl, rfl, hh, by rw [hl]; exact hv, ?_⟩
  refine q v d _ G _ k (Same.refl _) (S.mut hn e ⟨_, rfl, ?_⟩) rv
  have := rr.take as.length
  rw [List.take_left'] at this
  · rw [List.dropLast_eq_take, hl]; exact this
  · rfl
/-- d.get(k, x), the key by what changes -/
theorem eve_dget2 (hd : Ev B td Γ (.dk ks)) (hk : EvE B W tk Γ (fun d Γ1 => ∃ k e, d = kD k ∧ Ev B te Γ1 e ∧ kk ((valD ks k).getD e) Γ1) kx) : EvE B W (tDGet2 td tk te) Γ kk kx := fun σ G H Q S q qx =>
  hd σ G H _ S fun v1 G1 H1 f1 r1 => by
    cases r1 with
    | dk h1 r1 =>
      have S1 := S.step f1
      refine ⟨_, rfl, .inl ⟨_, same_r f1.e h1⟩, hk σ G1 H1 _ S1 (fun v2 d Γ2 G2 H2 k s2 S2 r2 => ?_) fun x cls dd Γ2 G2 H2 k2 s2 => qx x cls dd Γ2 G2 H2 k2 (f1.g.trans s2)⟩
      obtain ⟨k, e, rfl, he, k⟩ := k
      refine he σ G2 H2 _ S2 fun v3 G3 H3 f3 r3 => ?_
      have ey := rp_key r2
      subst ey
      have rr := r1.mono (s2.trans f3.g)
      have S3 := S2.step f3
      refine ⟨_, .inl ⟨_, _, same_r ((s2.trans f3.g).trans S3.same) h1, rfl, rfl⟩, ?_⟩
      cases e1 : valD ks _ with
      | none => rw [rr.miss e1]; exact q _ _ _ G3 H3 k ((f1.g.trans s2).trans f3.g) S3 (by rw [e1]; exact r3)
      | some d =>
        obtain ⟨v, h, rv⟩ := rr.val e1
        rw [h]; exact q v _ _ G3 H3 k ((f1.g.trans s2).trans f3.g) S3 (by rw [e1]; exact rv)
/-- a for whose list is made by what changes -/
theorem sv_forE {α : Type} (enc : α → D) (xs : List α) {g : TG} {tb : TS} (V : List α → List Sl → Prop) (hi : EvE B W te Γ (fun d Γ1 => d = .lst (xs.map enc) ∧ V xs Γ1) P.xc) (hd : ∀ Γ', V [] Γ' → P.nx Γ')
    (hs : ∀ x r Γ', (∃ pre, xs = pre ++ x :: r) → V (x :: r) Γ' → ∃ Γ2, EvG B g Γ' (enc x) Γ2 ∧ Sv B W tb Γ2 { P with nx := V r, ct := V r, bk := P.nx }) : Sv B W (tFor (iList B.K te) g tb) Γ P := fun D σ G H E S => by
  refine hi σ G H _ S (fun v d Γ1 G1 H1 k s1 S1 r1 => ?_) fun x cls dd Γ1 G1 H1 k s1 S1 o => E.xc x Γ1 cls dd σ G1 H1 k s1 S1 o
  obtain ⟨rfl, k⟩ := k
  cases r1 with
  | lst h1 r1 =>
  refine ⟨_, rfl, ⟨_, same_l S1.same h1⟩, ?_⟩
  obtain ⟨Gd, Y, w, hG, hy⟩ : Wk B.K G1 (Itl B.K _) (xs.map enc) := wk_at walk_list (fun G H s1 s2 => same_l (s1.trans s2) h1) r1
  rw [List.length_map] at w
  rw [List.length_map] at hy
  refine for_it w (fun i σ' H' => ∃ Γ' G', V (xs.drop i) Γ' ∧ Stt B Γ' σ' G' H' ∧ Same G1 G') ⟨Γ1, G1, k, S1, Same.refl _⟩ (fun i σ' H' _ p => ?_) (fun i x σ' H' H2 hlt p y => ?_) (fun σ' H' p => ?_)
  · obtain ⟨Γ', G', _, S', s'⟩ := p
    exact hG G' H' s' S'.same
  · obtain ⟨Γ', G', hv, S', s'⟩ := p
    obtain ⟨d, G2, hd', f2, r2⟩ := hy i H' x H2 G' hlt s' S'.same y
    rw [List.getElem?_map, List.getElem?_eq_getElem hlt] at hd'
    have hd2 : enc xs[i] = d := Option.some.inj hd'
    subst hd2
    have hdrop : xs.drop i = xs[i] :: xs.drop (i + 1) := List.drop_eq_getElem_cons hlt
    rw [hdrop] at hv
    obtain ⟨Γ2, hg, hb⟩ := hs xs[i] (xs.drop (i + 1)) Γ' ⟨xs.take i, by rw [← hdrop]; exact (List.take_append_drop i xs).symm⟩ hv
    refine hg σ' G2 H2 x _ (S'.step f2) r2 fun σ2 S2 => ?_
    have sG : Same G1 G2 := s'.trans f2.g
    refine hb _ σ2 G2 H2 ⟨fun Γ3 σ3 G3 H3 q s3 S3 => ⟨Γ3, G3, q, S3, sG.trans s3⟩, fun Γ3 σ3 G3 H3 q s3 S3 => E.nx Γ3 σ3 G3 H3 q ((s1.trans sG).trans s3) S3, fun Γ3 σ3 G3 H3 q s3 S3 => ⟨Γ3, G3, q, S3, sG.trans s3⟩, E.rt,
      fun x Γ c dd σ G' H' q s3 => E.xc x Γ c dd σ G' H' q ((s1.trans sG).trans s3), E.rm⟩ S2
  · obtain ⟨Γ', G', hv, S', s'⟩ := p
    rw [List.drop_length] at hv
    exact E.nx Γ' σ' G' H' (hd Γ' hv) (s1.trans s') S'
end
end Z

/-! Z26: in for flat items, own lists extended and reversed, kinds. -/
namespace Z
open PySem PySem.Spec PyProof.Rows L2
def flD : D → Bool
  | .non => true | .bl _ => true | .int _ => true | .str _ => true | _ => false
def toV : D → V
  | .non => .non | .bl b => .bl b | .int i => .int i | .str x => .str x | _ => .non
theorem rp_toV {K : PySem.W.Frag} {G : Hp} {v : V} {d : D} (h : flD d = true) (r : Rp K G v d) : v = toV d := by
  cases r <;> first | rfl | cases h
theorem rps_toV {K : PySem.W.Frag} {G : Hp} : ∀ {vs : List V} {ds : List D}, ds.all flD = true → Rps K G vs ds → vs = ds.map toV
  | _, _, _, .nil => rfl
  | _, _, h, .cons r rs => by
    rw [List.all_cons, Bool.and_eq_true] at h
    rw [List.map_cons, rp_toV h.1 r, rps_toV h.2 rs]
theorem flat_toV : ∀ {d : D}, flD d = true → flatV (toV d) = true := by
  intro d h
  cases d <;> first | rfl | cases h
theorem all_toV : ∀ {ds : List D}, ds.all flD = true → (ds.map toV).all flatV = true
  | [], _ => rfl
  | d :: r, h => by
    rw [List.all_cons, Bool.and_eq_true] at h
    rw [List.map_cons, List.all_cons, flat_toV h.1, all_toV h.2]
    rfl
section
variable {B : Bx} {W : WX} {Γ Γ' : List Sl} {P : Po} {te ta tb tk tv td to : TE} {aa : TA} {d e : D} {ds as bs : List D} {n m : Nat} {M : Mem} {kk : D → List Sl → Prop} {kx : Xc → List Sl → Prop} {a : Addr}
theorem rv_inFL (h1 : flD d = true) (h2 : ds.all flD = true) : RV B (zIn B.K false) d (.lst ds) (.bl (inV (toV d) (ds.map toV))) := fun x y G H Q s rx ry q => by
  have ex := rp_toV h1 rx
  subst ex
  cases ry with
  | lst h r =>
    have e := rps_toV h2 r
    subst e
    exact .inr (.inl ⟨_, _, rfl, .inl (same_l s h), flat_toV h1, all_toV h2, q _ G H (.refl s) (.bl _)⟩)
theorem rv_inFU (h1 : flD d = true) (h2 : ds.all flD = true) : RV B (zIn B.K false) d (.tup ds) (.bl (inV (toV d) (ds.map toV))) := fun x y G H Q s rx ry q => by
  have ex := rp_toV h1 rx
  subst ex
  cases ry with
  | tup h r =>
    have e := rps_toV h2 r
    subst e
    exact .inr (.inl ⟨_, _, rfl, .inr (same_t s h), flat_toV h1, all_toV h2, q _ G H (.refl s) (.bl _)⟩)
theorem rv_ninFL (h1 : flD d = true) (h2 : ds.all flD = true) : RV B (zIn B.K true) d (.lst ds) (.bl (!inV (toV d) (ds.map toV))) := fun x y G H Q s rx ry q => by
  have ex := rp_toV h1 rx
  subst ex
  cases ry with
  | lst h r =>
    have e := rps_toV h2 r
    subst e
    exact .inr (.inl ⟨_, _, rfl, .inl (same_l s h), flat_toV h1, all_toV h2, q _ G H (.refl s) (.bl _)⟩)
theorem rv_ninFU (h1 : flD d = true) (h2 : ds.all flD = true) : RV B (zIn B.K true) d (.tup ds) (.bl (!inV (toV d) (ds.map toV))) := fun x y G H Q s rx ry q => by
  have ex := rp_toV h1 rx
  subst ex
  cases ry with
  | tup h r =>
    have e := rps_toV h2 r
    subst e
    exact .inr (.inl ⟨_, _, rfl, .inr (same_t s h), flat_toV h1, all_toV h2, q _ G H (.refl s) (.bl _)⟩)
theorem inV_int (i : Int) : ∀ ns : List Int, inV (.int i) ((ns.map D.int).map toV) = decide (i ∈ ns)
  | [] => rfl
  | n :: r => by
    have ih := inV_int i r
    unfold inV at ih ⊢
    rw [List.map_cons, List.map_cons, List.any_cons, ih]
    show (eqV (.int n) (.int i) || decide (i ∈ r)) = _
    rw [Bool.eq_iff_iff]
    simp [eqV]
    constructor <;> rintro (h | h) <;> first | exact .inl h.symm | exact .inr h
theorem all_flI (ns : List Int) : (ns.map D.int).all flD = true := by
  induction ns with
  | nil => rfl
  | cons n r ih => rw [List.map_cons, List.all_cons, ih]; rfl
theorem rv_inI {i : Int} {ns : List Int} : RV B (zIn B.K false) (.int i) (.lst (ns.map .int)) (.bl (decide (i ∈ ns))) := by
  have h := rv_inFL (B := B) (d := .int i) (ds := ns.map .int) rfl (all_flI ns)
  rw [show toV (.int i) = .int i from rfl, inV_int] at h
  exact h
theorem rv_ninI {i : Int} {ns : List Int} : RV B (zIn B.K true) (.int i) (.lst (ns.map .int)) (.bl (!decide (i ∈ ns))) := by
  have h := rv_ninFL (B := B) (d := .int i) (ds := ns.map .int) rfl (all_flI ns)
  rw [show toV (.int i) = .int i from rfl, inV_int] at h
  exact h
/-- xs.extend(t) of a name's own list -/
theorem sv_extU (hi : Γ[n]? = some (.own (.lst as))) (h : Ev B te Γ (.tup ds)) (hl : as.length + ds.length ≤ 16777216) (hs : SetAt Γ n (.own (.lst (as ++ ds))) Γ') (k : P.nx Γ') : Sv B W (tDrop (tBM B.K "list" (zExtend B.K) (tVar n) (tCons te tNil))) Γ P := fun D σ G H E S => by
  obtain ⟨a, u, e, g, hh, ⟨xs, hu, r⟩, h0⟩ := S.own hi
  subst hu
  refine ⟨.ref a, e, .inl ⟨rfl, xs, .inl (.inl hh)⟩, ?_⟩
  refine h σ G H _ S fun v G1 H1 f rv => ?_
  cases rv with
  | tup h1 r1 =>
    refine .inr ⟨a, _, xs, _, rfl, rfl, f.h _ _ hh, same_t f.e h1, by rw [r.length, r1.length]; exact line_le hl, ?_⟩
    obtain ⟨_, rfl⟩ := hs.eq
    exact E.nx _ _ G1 _ k f.g ((S.step f).mut hi e ⟨_, rfl, (r.mono f.g).append r1⟩)
/-- xs[::-1], one's own -/
theorem evo_revL {K : PySem.W.Frag} (hK : K = B.K) (h : Ev B te Γ (.lst ds)) : EvO B (tRevL K te) Γ (.lst ds.reverse) := fun σ G H Q S q => by
  subst hK
  refine h σ G H _ S fun v G1 H1 f r => ?_
  cases r with
  | lst h1 r1 => exact ⟨_, _, rfl, same_l f.e h1, fun p hp => q p (.lst _) G1 _ (f.trans (Fw.newO f.e hp)) (f.e.free hp) (f.h.free hp) upd_same ⟨_, rfl, r1.reverse⟩⟩
theorem ev_revL {K : PySem.W.Frag} (hK : K = B.K) (h : Ev B te Γ (.lst ds)) : Ev B (tRevL K te) Γ (.lst ds.reverse) := Ev.of_own (evo_revL hK h)
end
end Z

/-! Z27: dict comprehensions; comprehensions of two names. -/
namespace Z
open PySem PySem.Spec PyProof.Rows L2
theorem dc_it {J : It} {n : Nat} {G : Hp → Prop} {Y : Nat → Hp → V → Hp → Prop} (w : Walk J n G Y) {g : TG} {tt : TT} {tk tv : TE} {vs : List Nat} {σ : L2.St} {H1 : Hp} {D : Addr} {Qd : Hp → Prop} (Pv : Nat → Hp → Prop) (h0 : Pv 0 (upd H1 D (.dK []))) (hG : ∀ i H, i ≤ n → Pv i H → G H)
    (hs : ∀ i x H H', i < n → Pv i H → Y i H x H' → g x (L2.wipe σ vs) H' fun σ2 H2 => L2.wipe σ2 vs = L2.wipe σ vs ∧ tt σ2 H2 fun b H3 =>
      if b = true then tk σ2 H3 fun y H4 => tv σ2 H4 fun z H5 => ∃ kvs k, y = kV k ∧ H5 D = some (.dK kvs) ∧ kvs.length < sizeLine ∧ Pv (i + 1) (upd H5 D (.dK (putK kvs k z))) else Pv (i + 1) H3) (hd : ∀ H, Pv n H → Qd H) :
    ∃ W : Nat → Nat → Hp → Prop, (∃ m, W 0 m (upd H1 D (.dK []))) ∧ ∀ i m H, W i m H →
      (J.stop i H ∧ Qd H) ∨ (J.go i H ∧ ∃ Nx : Hp → Prop, (∀ H', Nx H' → ∃ m', m' < m ∧ W (i + 1) m' H') ∧ ∀ x H', J.yld i H x H' → g x (L2.wipe σ vs) H' fun σ2 H2 => L2.wipe σ2 vs = L2.wipe σ vs ∧ tt σ2 H2 fun b H3 =>
        if b = true then tk σ2 H3 fun y H4 => tv σ2 H4 fun z H5 => ∃ kvs k, y = kV k ∧ H5 D = some (.dK kvs) ∧ kvs.length < sizeLine ∧ Nx (upd H5 D (.dK (putK kvs k z))) else Nx H3) := by
  refine ⟨fun i m H => m = n - i ∧ i ≤ n ∧ Pv i H, ⟨n, by simp, Nat.zero_le _, h0⟩, ?_⟩
  rintro i m H ⟨rfl, hi, hp⟩
  rcases Nat.lt_or_ge i n with h | h
  · exact .inr ⟨w.goes i H h (hG i H hi hp), fun H' => Pv (i + 1) H', fun H' q => ⟨n - (i + 1), by omega, rfl, h, q⟩, fun x H' y => hs i x H H' h hp (w.yields i H x H' h (hG i H hi hp) y)⟩
  · obtain rfl : i = n := Nat.le_antisymm hi h
    exact .inl ⟨w.stops H (hG i H hi hp), hd H hp⟩
section
variable {B : Bx} {W : WX} {Γ Γ' : List Sl} {P : Po} {te ta tb tk tv td to : TE} {tt : TT} {wi : TI} {g : TG} {aa : TA} {d e : D} {ds as bs : List D}
def dcD {α : Type} (f : α → Bool) (kf : α → Key) (v : α → D) (xs : List α) (acc : List (Key × D)) : List (Key × D) := (xs.filter f).foldl (fun acc x => putD acc (kf x) (v x)) acc
theorem putD_len (ks : List (Key × D)) (k : Key) (d : D) : (putD ks k d).length ≤ ks.length + 1 := by
  unfold putD
  split
  · rw [List.length_map]; omega
  · simp
theorem dcD_len {α : Type} (f : α → Bool) (kf : α → Key) (v : α → D) : ∀ (xs : List α) (acc : List (Key × D)), (dcD f kf v xs acc).length ≤ acc.length + xs.length
  | [], acc => by simp [dcD]
  | x :: r, acc => by
    unfold dcD
    rw [List.filter_cons]
    cases h : f x with
    | true =>
      have := dcD_len f kf v r (putD acc (kf x) (v x))
      have := putD_len acc (kf x) (v x)
      unfold dcD at *
      simp only [if_true, List.foldl_cons, List.length_cons]
      omega
    | false =>
      have := dcD_len f kf v r acc
      unfold dcD at *
      simp only [List.length_cons, Bool.false_eq_true, if_false]
      omega
theorem dcD_snoc {α : Type} (f : α → Bool) (kf : α → Key) (v : α → D) (xs : List α) (x : α) (acc : List (Key × D)) : dcD f kf v (xs ++ [x]) acc = if f x then putD (dcD f kf v xs acc) (kf x) (v x) else dcD f kf v xs acc := by
  unfold dcD
  rw [List.filter_append, List.foldl_append, List.filter_cons]
  cases f x <;> rfl
theorem evo_dc {α : Type} (enc : α → D) (xs : List α) (f : α → Bool) (kf : α → Key) (v : α → D) {vs : List Nat} (hi : EvI B wi Γ (xs.map enc)) (hv : ∀ n ∈ vs, n < Γ.length) (hl : xs.length < 16777216)
    (hs : ∀ x ∈ xs, ∃ Γx, EvGw B g vs (wipeS Γ vs) (enc x) Γx ∧ EvT B tt Γx (f x) ∧ (f x = true → Ev B tk Γx (kD (kf x)) ∧ Ev B tv Γx (v x))) : EvO B (tDc wi g tt tk tv vs) Γ (.dk (dcD f kf v xs [])) := fun σ G H Q S q => by
  refine hi σ G H _ S fun J G1 H1 fw w Dl hD => ?_
  obtain ⟨Gd, Y, w, hG, hy⟩ := w
  rw [List.length_map] at w
  rw [List.length_map] at hy
  have S1 := S.step fw
  have h0D : B.H0 Dl = none := S1.fr hD
  have gD : G1 Dl = none := S1.same.free hD
  have apD := S1.apart hD
  have fresh : H Dl = none := fw.h.free hD
  refine dc_it w (fun i H' => ∃ G' acc, Same G1 G' ∧ Stt B Γ σ G' H' ∧ G' Dl = none ∧ H' Dl = some (.dK acc) ∧ Rks B.K G' acc (dcD f kf v (xs.take i) []) ∧ Fw G H G' H') ?_ (fun i H' _ p => ?_) (fun i x H' H2 hlt p y => ?_) (fun H' p => ?_)
  · exact ⟨G1, [], Same.refl _, S1.other h0D gD apD, gD, upd_same, .nil, fw.trans (Fw.newO S1.same hD)⟩
  · obtain ⟨G', acc, s', S', _⟩ := p
    exact hG G' H' s' S'.same
  · obtain ⟨G', acc, s', S', g', hacc, r', fa⟩ := p
    obtain ⟨d, G2, hd', f2, r2⟩ := hy i H' x H2 G' hlt s' S'.same y
    rw [List.getElem?_map, List.getElem?_eq_getElem hlt] at hd'
    have hd2 : enc xs[i] = d := Option.some.inj hd'
    subst hd2
    have ht : xs.take (i + 1) = xs.take i ++ [xs[i]] := List.take_succ_eq_append_getElem hlt
    obtain ⟨Γx, hg, htt, hte⟩ := hs xs[i] (List.getElem_mem hlt)
    refine hg σ G2 H2 x _ ((S'.step f2).wipe vs hv) r2 fun σ2 hw S2 => ⟨hw, ?_⟩
    refine htt σ2 G2 H2 _ S2 fun G3 H3 f3 => ?_
    have f23 := f2.trans f3
    cases hb : f xs[i] with
    | false =>
      show ∃ G' acc, _
      refine ⟨G3, acc, s'.trans f23.g, S'.step f23, f23.gone g' hacc, f23.h _ _ hacc, ?_, fa.trans f23⟩
      rw [ht, dcD_snoc, hb]
      simpa using r'.mono f23.g
    | true =>
      obtain ⟨hk, hv2⟩ := hte hb
      refine hk σ2 G3 H3 _ (S2.step f3) fun y G4 H4 f4 r4 => ?_
      refine hv2 σ2 G4 H4 _ ((S2.step f3).step f4) fun z G5 H5 f5 r5 => ?_
      have ey := rp_key r4
      subst ey
      have f25 := (f23.trans f4).trans f5
      have hacc5 := f25.h _ _ hacc
      have g5 := f25.gone g' hacc
      refine ⟨acc, kf xs[i], rfl, hacc5, ?_, G5, _, s'.trans f25.g, (S'.step f25).other h0D g5 apD, g5, upd_same, ?_, ?_⟩
      · have e1 := r'.length
        have e2 := dcD_len f kf v (xs.take i) []
        have e3 : (xs.take i).length ≤ xs.length := by rw [List.length_take]; omega
        simp only [List.length_nil] at e2
        exact line_lt (by omega)
      · rw [ht, dcD_snoc, hb]
        exact (r'.mono f25.g).put r5
      · have fb := fa.trans f25
        refine ⟨fb.g, fun b o e => ?_, fun b o e => ?_, fb.n⟩
        · rw [upd_ne (ne_of_none e fresh)]; exact fb.h b o e
        · rw [upd_ne (ne_of_none e g5)]; exact fb.e b o e
  · obtain ⟨G', acc, s', S', g', hacc, r', fa⟩ := p
    rw [List.take_length] at r'
    exact q Dl (.dK acc) G' H' fa g' fresh hacc ⟨acc, rfl, r'⟩
theorem evo_dc1 {α : Type} (enc : α → D) (xs : List α) (kf : α → Key) (v : α → D) {i : Nat} (hi : EvI B wi Γ (xs.map enc)) (hlen : i < Γ.length) (hl : xs.length < 16777216)
    (hs : ∀ x ∈ xs, Ev B tk (Γ.set i (.dat (enc x))) (kD (kf x)) ∧ Ev B tv (Γ.set i (.dat (enc x))) (v x)) : EvO B (tDc wi (gName i) tYes tk tv [i]) Γ (.dk (dcD (fun _ => true) kf v xs [])) :=
  evo_dc enc xs (fun _ => true) kf v hi (by simpa using hlen) hl fun x hx => ⟨_, evgw_name (SetAt.of (by rw [wipeS_len]; exact hlen)), evt_yes, fun _ => by
    have e : (wipeS Γ [i]).set i (.dat (enc x)) = Γ.set i (.dat (enc x)) := by show (Γ.set i .un).set i _ = _; rw [List.set_set]
    rw [e]; exact hs x hx⟩
theorem set_comm4 {α : Type} (l : List α) {i j : Nat} (h : i ≠ j) (a b c d : α) : (((l.set j a).set i b).set i c).set j d = (l.set i c).set j d := by
  rw [List.set_set, List.set_comm _ _ (Ne.symm h), List.set_set]
/-- of two names -/
theorem evo_lc2 {α : Type} (d1 d2 : α → D) (xs : List α) (f : α → Bool) (v : α → D) {i j : Nat} (h : i ≠ j) (hi : EvI B wi Γ (xs.map fun x => .tup [d1 x, d2 x])) (hli : i < Γ.length) (hlj : j < Γ.length) (hl : xs.length < 16777216)
    (hs : ∀ x ∈ xs, EvT B tt ((Γ.set i (.dat (d1 x))).set j (.dat (d2 x))) (f x) ∧ (f x = true → Ev B te ((Γ.set i (.dat (d1 x))).set j (.dat (d2 x))) (v x))) : EvO B (tLc wi (gTup B.K 2 (gCons (gName i) (gCons (gName j) gNil))) tt te [i, j]) Γ (.lst ((xs.filter f).map v)) :=
  evo_lc (fun x => .tup [d1 x, d2 x]) xs f v hi (by simp; exact ⟨hli, hlj⟩) hl fun x hx => ⟨_, evgw_two h (SetAt.of (by rw [wipeS_len]; exact hli)) (SetAt.of (by rw [List.length_set, wipeS_len]; exact hlj)), by
    have e : ((wipeS Γ [i, j]).set i (.dat (d1 x))).set j (.dat (d2 x)) = (Γ.set i (.dat (d1 x))).set j (.dat (d2 x)) := by
      show (((Γ.set j .un).set i .un).set i _).set j _ = _
      exact set_comm4 Γ h _ _ _ _
    rw [e]; exact hs x hx⟩
theorem evo_map2 {α : Type} (d1 d2 : α → D) (xs : List α) (v : α → D) {i j : Nat} (h : i ≠ j) (hi : EvI B wi Γ (xs.map fun x => .tup [d1 x, d2 x])) (hli : i < Γ.length) (hlj : j < Γ.length) (hl : xs.length < 16777216)
    (hs : ∀ x ∈ xs, Ev B te ((Γ.set i (.dat (d1 x))).set j (.dat (d2 x))) (v x)) : EvO B (tLc wi (gTup B.K 2 (gCons (gName i) (gCons (gName j) gNil))) tYes te [i, j]) Γ (.lst (xs.map v)) := by
  have := evo_lc2 (tt := tYes) (te := te) d1 d2 xs (fun _ => true) v h hi hli hlj hl fun x hx => ⟨evt_yes, fun _ => hs x hx⟩
  rw [List.filter_eq_self.mpr (fun _ _ => rfl)] at this
  exact this
theorem atI_map {α β : Type} {l : List α} {f : α → β} {i : Int} (x0 : α) (h0 : 0 ≤ i) (h1 : i < (l.length : Nat)) : atI (l.map f) i = some (f (l.getD i.toNat x0)) := by
  have hlt : i.toNat < l.length := by omega
  have h : atI (l.map f) ((i.toNat : Nat) : Int) = some (f (l.getD i.toNat x0)) := atI_ofNat (by rw [List.getElem?_map, List.getD_eq_getElem?_getD, List.getElem?_eq_getElem hlt]; rfl)
  rwa [Int.toNat_of_nonneg h0] at h
theorem rks_keys {K : PySem.W.Frag} {G : Hp} : ∀ {vs : List (Key × V)} {dd : List (Key × D)}, Rks K G vs dd → vs.map (·.1) = dd.map (·.1)
  | _, _, .nil => rfl
  | _, _, .cons _ r => by rw [List.map_cons, List.map_cons, rks_keys r]
/-- the sorted keys of a dict -/
theorem rc_sortedDI {ks : List (Key × D)} {ns ms : List Int} (hk : ks.map (·.1) = ns.map Sum.inl) (hl : ns.length < 64) (hp : ms.Perm ns) (hs : ms.Pairwise (· ≤ ·)) : RC B (zSorted B.K) [.dk ks] (.lst (ms.map .int)) := fun xs G H Q s r q => by
  cases r with
  | cons r1 r2 =>
    cases r2
    cases r1 with
    | dk h1 r1 =>
      rename_i a kvs
      have hk2 : kvs.map (·.1) = ns.map Sum.inl := by
        rw [← hk]; exact rks_keys r1
      refine .inr ⟨a, kvs, ns, rfl, same_r s h1, hk2, hl, fun ys p hy hs2 hp2 => ?_⟩
      have e : ys = ms := by
        have hperm : ys.Perm ms := hy.trans hp.symm
        exact hperm.eq_of_pairwise (le := (· ≤ ·)) (fun a b _ _ h1 h2 => Int.le_antisymm h1 h2) hs2 hs
      subst e
      exact q _ _ _ (Fw.new s hp2) (.lst (.inl (.inl upd_same)) (rps_ints ys))
end
end Z

/-! Z28: a list or a tuple walked; equality of data with itself. -/
namespace Z
open PySem PySem.Spec PyProof.Rows L2
def iSeq (K : PySem.W.Frag) (te : TE) : TI := fun σ H R => iList K te σ H R ∨ iTup K te σ H R
theorem pi_seq {X : Cx} {tg e : Expr} {te : TE} (he : PE X e te) : PI X tg e (iSeq X.K te) :=
  ⟨fun pins s σ H R I h => h.elim ((pi_list he).run pins s σ H R I) ((pi_tup he).run pins s σ H R I)⟩
section
variable {B : Bx} {Γ : List Sl} {te : TE} {ds : List D} {d e : D}
theorem evi_seqL (h : Ev B te Γ (.lst ds)) : EvI B (iSeq B.K te) Γ ds := fun σ G H R S q => .inl (evi_list h σ G H R S q)
theorem evi_seqU (h : Ev B te Γ (.tup ds)) : EvI B (iSeq B.K te) Γ ds := fun σ G H R S q => .inr (evi_tup h σ G H R S q)
def strB (x : Str) : Bool := PyData.strOk x
def layD : Nat → D → Bool
  | _, .non => true
  | _, .bl _ => true
  | _, .int _ => true
  | _, .str x => strB x
  | n + 1, .lst l => l.all (layD n)
  | n + 1, .tup l => l.all (layD n)
  | _, _ => false
theorem layD_py : ∀ (n : Nat) (d : D), layD n d = true → ∃ u, d.py = some u ∧ u.canLay0 = true ∧ u.depth ≤ n
  | _, .non, _ => ⟨.none, rfl, by simp [PyData.canLay0], by simp [PyData.depth]⟩
  | _, .bl b, _ => ⟨.bool b, rfl, by simp [PyData.canLay0], by simp [PyData.depth]⟩
  | _, .int i, _ => ⟨.int i, rfl, by simp [PyData.canLay0], by simp [PyData.depth]⟩
  | m, .str x, h => ⟨.str x, rfl, by
      have h : strB x = true := by cases m <;> exact h
      simp [PyData.canLay0]; exact h, by simp [PyData.depth]⟩
  | 0, .lst l, h => by simp [layD] at h
  | m, .obj _ _, h => by cases m <;> cases h
  | m, .ty _, h => by cases m <;> cases h
  | m, .ref _, h => by cases m <;> cases h
  | m, .xc _ _ _, h => by cases m <;> cases h
  | m, .dk _, h => by cases m <;> cases h
  | 0, .tup l, h => by simp [layD] at h
  | n + 1, .lst l, h => by
    have h : l.all (layD n) = true := h
    have key : ∀ l : List D, l.all (layD n) = true → ∃ us, pyAll l = some us ∧ PyData.canLayAll0 us = true ∧ PyData.depthAll us ≤ n := by
      intro l
      induction l with
      | nil => intro _; exact ⟨[], rfl, by simp [PyData.canLayAll0], by simp [PyData.depthAll]⟩
      | cons d r ih =>
        intro h
        rw [List.all_cons, Bool.and_eq_true] at h
        obtain ⟨u, h1, h2, h3⟩ := layD_py n d h.1
        obtain ⟨us, h4, h5, h6⟩ := ih h.2
        refine ⟨u :: us, ?_, by simp [PyData.canLayAll0, h2, h5], ?_⟩
        · show (D.py d).bind (fun p => (pyAll r).map fun q => p :: q) = _
          rw [h1, h4]; rfl
        · simp [PyData.depthAll]; omega
    obtain ⟨us, h1, h2, h3⟩ := key l h
    refine ⟨.list us, ?_, by simp [PyData.canLay0, h2], by simp [PyData.depth]; omega⟩
    show (pyAll l).map PyData.list = _
    rw [h1]; rfl
  | n + 1, .tup l, h => by
    have h : l.all (layD n) = true := h
    have key : ∀ l : List D, l.all (layD n) = true → ∃ us, pyAll l = some us ∧ PyData.canLayAll0 us = true ∧ PyData.depthAll us ≤ n := by
      intro l
      induction l with
      | nil => intro _; exact ⟨[], rfl, by simp [PyData.canLayAll0], by simp [PyData.depthAll]⟩
      | cons d r ih =>
        intro h
        rw [List.all_cons, Bool.and_eq_true] at h
        obtain ⟨u, h1, h2, h3⟩ := layD_py n d h.1
        obtain ⟨us, h4, h5, h6⟩ := ih h.2
        refine ⟨u :: us, ?_, by simp [PyData.canLayAll0, h2, h5], ?_⟩
        · show (D.py d).bind (fun p => (pyAll r).map fun q => p :: q) = _
          rw [h1, h4]; rfl
        · simp [PyData.depthAll]; omega
    obtain ⟨us, h1, h2, h3⟩ := key l h
    refine ⟨.tuple us, ?_, by simp [PyData.canLay0, h2], by simp [PyData.depth]; omega⟩
    show (pyAll l).map PyData.tuple = _
    rw [h1]; rfl
theorem rv_eqSame {n : Nat} (h : layD n d = true) (hn : n ≤ 64) : RV B (zEq B.K) d d (.bl true) := by
  obtain ⟨u, h1, h2, h3⟩ := layD_py n d h
  have hs : SeqAt.shaped u = true := by unfold SeqAt.shaped; rw [h2, decide_eq_true (by omega : u.depth ≤ 64)]; rfl
  have := rv_eqD (B := B) h1 h1 hs hs
  rwa [SeqAt.eqv_refl u h2] at this
theorem rv_neSame {n : Nat} (h : layD n d = true) (hn : n ≤ 64) : RV B (zNe B.K) d d (.bl false) := by
  obtain ⟨u, h1, h2, h3⟩ := layD_py n d h
  have hs : SeqAt.shaped u = true := by unfold SeqAt.shaped; rw [h2, decide_eq_true (by omega : u.depth ≤ 64)]; rfl
  have := rv_neD (B := B) h1 h1 hs hs
  rwa [SeqAt.eqv_refl u h2] at this
theorem lay_ints (n : Nat) (ns : List Int) : layD (n + 1) (.lst (ns.map .int)) = true := by
  show (ns.map D.int).all (layD n) = true
  induction ns with
  | nil => rfl
  | cons x r ih =>
    rw [List.map_cons, List.all_cons, ih]
    cases n <;> rfl
end
end Z

/-! Z29: calls whose answer is left open. -/
namespace Z
open PySem PySem.Spec PyProof.Rows L2
section
variable {B : Bx} {W : WX} {Γ Γ' : List Sl} {P : Po} {te ta tb tk tv td to : TE} {tb' : TS} {tt : TT} {wi : TI} {g : TG} {aa : TA} {d e : D} {ds as bs : List D} {kk : D → List Sl → Prop} {kx : Xc → List Sl → Prop} {i j m n : Nat} {M : Mem} {a : Addr} {w : Ow}
theorem eve_callF {F : Fn} (ha : EvA B aa Γ as) (hF : F as (fun s => ∃ d, s.toD = some d ∧ kk d Γ) (fun x => kx x Γ)) : EvE B W (tCallS (spz B.K F) (WE W) aa) Γ kk kx := fun σ G H Q S q qx =>
  ha σ G H _ S fun vs G1 H1 f1 r1 => ⟨G1, as, _, _, f1.e, r1, hF, fun s v G' H' ⟨d, hs, k⟩ f' rs => by
    obtain ⟨G2, f2, r2⟩ := rs_toD f' hs rs
    exact q v d Γ G2 H' k (f1.g.trans f2.g) ((S.step f1).step f2) r2, fun x cls dd G' H' k f' o => qx x cls dd Γ G' H' k (f1.g.trans f'.g) ((S.step f1).step f') o⟩
theorem eve_callF0 {F : Fn} (ha : EvA B aa Γ as) (hF : F as (fun s => ∃ d, s.toD = some d ∧ kk d Γ) (fun _ => False)) : EvE B W (tCall (spz B.K F) [] E0 aa) Γ kk kx := fun σ G H Q S q qx =>
  ha σ G H _ S fun vs G1 H1 f1 r1 => by
    show spz B.K F (vs ++ []) H1 Q E0
    rw [List.append_nil]
    exact ⟨G1, as, _, _, f1.e, r1, hF, fun s v G' H' ⟨d, hs, k⟩ f' rs => by
      obtain ⟨G2, f2, r2⟩ := rs_toD f' hs rs
      exact q v d Γ G2 H' k (f1.g.trans f2.g) ((S.step f1).step f2) r2, fun _ _ _ _ _ z => z.elim⟩
def EvON (B : Bx) (te : TE) (Γ : List Sl) (Qw : Ow → Prop) : Prop := ∀ σ G H Q, Stt B Γ σ G H → (∀ w a u G' H', Qw w → Fw G H G' H' → G' a = none → H a = none → H' a = some u → OwOk B.K G' a w u → Q (.ref a) H') → te σ H Q
theorem evon_callS {F : Fn} {E : L2.St → XK} {Qw : Ow → Prop} (ha : EvA B aa Γ as) (hF : F as (fun s => ∃ w, s = .own w ∧ Qw w) (fun _ => False)) : EvON B (tCallS (spz B.K F) E aa) Γ Qw := fun σ G H Q S q =>
  ha σ G H _ S fun vs G1 H1 f1 r1 => ⟨G1, as, _, _, f1.e, r1, hF, fun s v G' H' ⟨w, hs, k⟩ f' rs => by
    subst hs
    obtain ⟨p, u, rfl, g, n, h, o⟩ := rs
    exact q w p u G' H' k (f1.trans f') g (f1.h.free n) h o, fun _ _ _ _ _ z => z.elim⟩
def EvIN (B : Bx) (wi : TI) (Γ : List Sl) (Qe : List D → Prop) : Prop := ∀ σ G H R, Stt B Γ σ G H → (∀ J G1 H1 es, Qe es → Fw G H G1 H1 → Wk B.K G1 J es → R J H1) → wi σ H R
theorem evin_of (h : EvI B wi Γ ds) {Qe : List D → Prop} (k : Qe ds) : EvIN B wi Γ Qe := fun σ G H R S q => h σ G H R S fun J G1 H1 f w => q J G1 H1 ds k f w
theorem evin_list {Qe : List D → Prop} (h : EvE B W0 te Γ (fun d Γ1 => Γ1 = Γ ∧ ∃ es, d = .lst es ∧ Qe es) (fun _ _ => False)) : True := trivial
theorem evin_keysO {Qe : List D → Prop} (h : EvON B td Γ (fun w => ∃ ks, w = .dk ks ∧ Qe (ks.map fun kv => kD kv.1))) : EvIN B (iKeysO td) Γ Qe := fun σ G H R S q =>
  h σ G H _ S fun w a u G1 H1 k f g n e o => by
    obtain ⟨ks, rfl, k⟩ := k
    obtain ⟨kvs, rfl, r⟩ := o
    refine ⟨a, kvs, rfl, e, fun o => ?_⟩
    have hl := r.length
    refine q _ (upd G1 a (.frz o (.dK kvs))) _ _ k ⟨fun b x y => ?_, fun b x y => ?_, fun b x y => ?_, fun b x y z => ?_⟩ ⟨_, _, by rw [List.length_map, ← hl]; exact walk_keys, fun G H s1 s2 => s2 _ _ (s1 _ _ upd_same), fun i H x H' G hi s1 s2 y => ?_⟩
    · rw [upd_ne (ne_of_none (f.g b x y) g)]; exact f.g b x y
    · rw [upd_ne (ne_of_none y n)]; exact f.h b x y
    · by_cases z : b = a
      · subst z; rw [upd_same] at y ⊢; exact y
      · rw [upd_ne z] at y ⊢; exact f.e b x y
    · by_cases c : b = a
      · subst c; exact n
      · rw [upd_ne c] at y; exact f.n b x y z
    · obtain ⟨rfl, k, v, h1, rfl⟩ := y
      refine ⟨kD k, G, rks_key r h1, .refl s2, ?_⟩
      cases k with
      | inl z => exact .int z
      | inr z => exact .str z
theorem sv_forN {α : Type} (enc : α → D) {tb : TS} (V : List α → List α → List Sl → Prop) (hi : EvIN B wi Γ (fun es => ∃ xs : List α, es = xs.map enc ∧ V xs xs Γ)) (hd : ∀ xs Γ', V xs [] Γ' → P.nx Γ')
    (hs : ∀ xs x r Γ', (∃ pre, xs = pre ++ x :: r) → V xs (x :: r) Γ' → ∃ Γ2, EvG B g Γ' (enc x) Γ2 ∧ Sv B W tb Γ2 { P with nx := V xs r, ct := V xs r, bk := P.nx }) : Sv B W (tFor wi g tb) Γ P := fun D σ G H E S => by
  refine hi σ G H _ S fun J G1 H1 es ⟨xs, he, h0⟩ f w => ?_
  subst he
  obtain ⟨Gd, Y, w, hG, hy⟩ := w
  rw [List.length_map] at w
  rw [List.length_map] at hy
  refine for_it w (fun i σ' H' => ∃ Γ' G', V xs (xs.drop i) Γ' ∧ Stt B Γ' σ' G' H' ∧ Same G1 G') ⟨Γ, G1, h0, S.step f, Same.refl _⟩ (fun i σ' H' _ p => ?_) (fun i x σ' H' H2 hlt p y => ?_) (fun σ' H' p => ?_)
  · obtain ⟨Γ', G', _, S', s'⟩ := p
    exact hG G' H' s' S'.same
  · obtain ⟨Γ', G', hv, S', s'⟩ := p
    obtain ⟨d, G2, hd', f2, r2⟩ := hy i H' x H2 G' hlt s' S'.same y
    rw [List.getElem?_map, List.getElem?_eq_getElem hlt] at hd'
    have hd2 : enc xs[i] = d := Option.some.inj hd'
    subst hd2
    have hdrop : xs.drop i = xs[i] :: xs.drop (i + 1) := List.drop_eq_getElem_cons hlt
    rw [hdrop] at hv
    obtain ⟨Γ2, hg, hb⟩ := hs xs xs[i] (xs.drop (i + 1)) Γ' ⟨xs.take i, by rw [← hdrop]; exact (List.take_append_drop i xs).symm⟩ hv
    refine hg σ' G2 H2 x _ (S'.step f2) r2 fun σ2 S2 => ?_
    have sG : Same G1 G2 := s'.trans f2.g
    refine hb _ σ2 G2 H2 ⟨fun Γ3 σ3 G3 H3 q s3 S3 => ⟨Γ3, G3, q, S3, sG.trans s3⟩, fun Γ3 σ3 G3 H3 q s3 S3 => E.nx Γ3 σ3 G3 H3 q ((f.g.trans sG).trans s3) S3, fun Γ3 σ3 G3 H3 q s3 S3 => ⟨Γ3, G3, q, S3, sG.trans s3⟩, E.rt,
      fun x Γ c dd σ G' H' q s3 => E.xc x Γ c dd σ G' H' q ((f.g.trans sG).trans s3), E.rm⟩ S2
  · obtain ⟨Γ', G', hv, S', s'⟩ := p
    rw [List.drop_length] at hv
    exact E.nx Γ' σ' G' H' (hd xs Γ' hv) (f.g.trans s') S'
theorem ups_self {M : Mem} {a : Addr} {w : Ow} (h : M a = some w) : ups M a w = M := by
  funext b
  by_cases e : b = a
  · subst e; rw [ups_same, h]
  · rw [ups_ne e]
theorem ixN_of {n : Nat} {i : Int} (h0 : 0 ≤ i) (h1 : i < (n : Nat)) : ixN n i = some i.toNat := by
  have h2 : i.toNat < n := by omega
  unfold ixN
  simp [h0, h1]
end
end Z

/-! Z30: answers left open, within expressions. -/
namespace Z
open PySem PySem.Spec PyProof.Rows L2
section
variable {B : Bx} {W : WX} {Γ Γ' : List Sl} {P : Po} {te ta tb : TE} {tt : TT} {aa : TA} {d e : D} {ds as bs : List D} {i j m n : Nat} {r : R2} {p : Bool}
def EvDN (B : Bx) (te : TE) (Γ : List Sl) (Qd : D → Prop) : Prop := ∀ σ G H Q, Stt B Γ σ G H → (∀ v d G' H', Qd d → Fw G H G' H' → Rp B.K G' v d → Q v H') → te σ H Q
theorem evdn_of {Qd : D → Prop} (h : Ev B te Γ d) (k : Qd d) : EvDN B te Γ Qd := fun σ G H Q S q => h σ G H Q S fun v G' H' f r => q v d G' H' k f r
theorem ev_of_dn (h : EvDN B te Γ (fun x => x = d)) : Ev B te Γ d := fun σ G H Q S q => h σ G H Q S fun v x G' H' k f r => by subst k; exact q v G' H' f r
theorem evdn_mono {Qd Qe : D → Prop} (h : EvDN B te Γ Qd) (k : ∀ d, Qd d → Qe d) : EvDN B te Γ Qe := fun σ G H Q S q => h σ G H Q S fun v d G' H' a => q v d G' H' (k d a)
theorem evdn_callS {F : Fn} {E : L2.St → XK} {Qd : D → Prop} (ha : EvA B aa Γ as) (hF : F as (fun s => ∃ d, s.toD = some d ∧ Qd d) (fun _ => False)) : EvDN B (tCallS (spz B.K F) E aa) Γ Qd := fun σ G H Q S q =>
  ha σ G H _ S fun vs G1 H1 f1 r1 => ⟨G1, as, _, _, f1.e, r1, hF, fun s v G' H' ⟨d, hs, k⟩ f' rs => by
    obtain ⟨G2, f2, r2⟩ := rs_toD f' hs rs
    exact q v d G2 H' k (f1.trans f2) r2, fun _ _ _ _ _ z => z.elim⟩
theorem evdn_call {F : Fn} {Qd : D → Prop} (ha : EvA B aa Γ as) (hF : F as (fun s => ∃ d, s.toD = some d ∧ Qd d) (fun _ => False)) : EvDN B (tCall (spz B.K F) [] E0 aa) Γ Qd := fun σ G H Q S q =>
  ha σ G H _ S fun vs G1 H1 f1 r1 => by
    show spz B.K F (vs ++ []) H1 Q E0
    rw [List.append_nil]
    exact ⟨G1, as, _, _, f1.e, r1, hF, fun s v G' H' ⟨d, hs, k⟩ f' rs => by
      obtain ⟨G2, f2, r2⟩ := rs_toD f' hs rs
      exact q v d G2 H' k (f1.trans f2) r2, fun _ _ _ _ _ z => z.elim⟩
theorem evdn_op {Qd : D → Prop} (ha : EvDN B ta Γ (fun a => EvDN B tb Γ (fun b => ∃ c, RV B r a b c ∧ Qd c))) : EvDN B (tOp r ta tb) Γ Qd := fun σ G H Q S q =>
  ha σ G H _ S fun x a G1 H1 k f1 r1 => k σ G1 H1 _ (S.step f1) fun y b G2 H2 ⟨c, hr, k2⟩ f2 r2 => hr x y G2 H2 Q f2.e (r1.mono f2.g) r2 fun v G3 H3 f3 r3 => q v c G3 H3 k2 ((f1.trans f2).trans f3) r3
theorem evtn_test (h : EvDN B te Γ (fun d => d = .bl p)) : EvT B (tTest te) Γ p := evt_test (ev_of_dn h)
theorem evtn_b (h : EvDN B te Γ (fun d => d = .bl p)) : EvT B (tB te) Γ p := evt_b (ev_of_dn h)
theorem sv_setN (h : EvDN B te Γ (fun d => ∃ Γ2, SetAt Γ i (.dat d) Γ2 ∧ P.nx Γ2)) : Sv B W (tAsg te (gName i)) Γ P := fun D σ G H E S =>
  h σ G H _ S fun v d G1 H1 ⟨Γ2, hs, k⟩ f r => by
    obtain ⟨hi, rfl⟩ := hs.eq
    exact E.nx _ _ G1 H1 k f.g ((S.step f).set hi r)
theorem sv_setON (h : EvON B te Γ (fun w => ∃ Γ2, SetAt Γ i (.own w) Γ2 ∧ P.nx Γ2)) : Sv B W (tAsg te (gName i)) Γ P := fun D σ G H E S =>
  h σ G H _ S fun w a u G1 H1 ⟨Γ2, hs, k⟩ f g n e o => by
    obtain ⟨hi, rfl⟩ := hs.eq
    exact E.nx _ _ G1 H1 k f.g ((S.step f).setO hi g e o (S.fr n) fun j _ => S.apart n j)
theorem evon_of {Qw : Ow → Prop} {w : Ow} (h : EvO B te Γ w) (k : Qw w) : EvON B te Γ Qw := fun σ G H Q S q => h σ G H Q S fun a u G1 H1 f g n e o => q w a u G1 H1 k f g n e o
theorem evon_addL {K : PySem.W.Frag} (hK : K = B.K) {Qw : Ow → Prop} (ha : Ev B ta Γ (.lst as)) (hb : EvDN B tb Γ (fun d => ∃ bs, d = .lst bs ∧ as.length + bs.length ≤ 16777216 ∧ Qw (.lst (as ++ bs)))) : EvON B (tOp (zAdd K) ta tb) Γ Qw := fun σ G H Q S q => by
  subst hK
  refine ha σ G H _ S fun x G1 H1 f1 r1 => hb σ G1 H1 _ (S.step f1) fun y d G2 H2 ⟨bs, hd, hl, k⟩ f2 r2 => ?_
  subst hd
  have r1 := r1.mono f2.g
  cases r1 with
  | lst h1 r1 =>
    cases r2 with
    | lst h2 r2 =>
      have f := f1.trans f2
      exact .inr (.inr (.inl ⟨_, _, _, _, rfl, rfl, same_l f2.e h1, same_l f2.e h2, by rw [r1.length, r2.length]; exact line_le hl, fun p hp => q (.lst (as ++ bs)) p (.lst _) G2 _ k (f.trans (Fw.newO f.e hp)) (f.e.free hp) (f.h.free hp) upd_same ⟨_, rfl, r1.append r2⟩⟩))
theorem sv_appN (hi : Γ[i]? = some (.own (.lst ds))) (h : EvDN B te Γ (fun d => ∃ Γ', SetAt Γ i (.own (.lst (ds ++ [d]))) Γ' ∧ P.nx Γ')) (hl : ds.length < 16777216) : Sv B W (tDrop (tBM B.K "list" rAppend (tVar i) (tCons te tNil))) Γ P := fun D σ G H E S => by
  obtain ⟨a, u, e, g, hh, ⟨xs, hu, r⟩, h0⟩ := S.own hi
  subst hu
  refine ⟨.ref a, e, .inl ⟨rfl, xs, .inl (.inl hh)⟩, ?_⟩
  refine h σ G H _ S fun v d G1 H1 ⟨Γ', hs, k⟩ f rv => ?_
  refine ⟨a, xs, v, rfl, rfl, f.h _ _ hh, by rw [r.length]; exact line_lt hl, ?_⟩
  obtain ⟨_, rfl⟩ := hs.eq
  exact E.nx _ _ G1 _ k f.g ((S.step f).mut hi e ⟨_, rfl, (r.mono f.g).append (.cons rv .nil)⟩)
end
end Z

/-! Z31: more reads of one's own. -/
namespace Z
open PySem PySem.Spec PyProof.Rows L2
section
variable {B : Bx} {W : WX} {Γ Γ' : List Sl} {n : Nat} {ks : List (Key × D)}
theorem ev_sortedO {K : PySem.W.Frag} (hK : K = B.K) {ns ms : List Int} (hn : Γ[n]? = some (.own (.dk ks))) (hk : ks.map (·.1) = ns.map Sum.inl) (hl : ns.length < 64) (hp : ms.Perm ns) (hs : ms.Pairwise (· ≤ ·)) : Ev B (tCB (zSorted K) (tCons (tVar n) tNil)) Γ (.lst (ms.map .int)) := fun σ G H Q S q => by
  subst hK
  obtain ⟨a, u, e, g, hh, ⟨kvs, hu, r⟩, h0⟩ := S.own hn
  subst hu
  have hk2 : kvs.map (·.1) = ns.map Sum.inl := by rw [← hk]; exact rks_keys r
  refine ⟨.ref a, e, .inr ⟨a, kvs, ns, rfl, .inl hh, hk2, hl, fun ys p hy hs2 hp2 => ?_⟩⟩
  have e : ys = ms := (hy.trans hp.symm).eq_of_pairwise (le := (· ≤ ·)) (fun a b _ _ h1 h2 => Int.le_antisymm h1 h2) hs2 hs
  subst e
  exact q _ _ _ (Fw.new S.same hp2) (.lst (.inl (.inl upd_same)) (rps_ints ys))
end
end Z

/-! Z32: str(i), int(text), f-strings, split, a tuple many times. -/
namespace Z
open PySem PySem.Spec PyProof.Rows L2
def itxt (i : Int) : List Nat := (toString i).toList.map Char.toNat
theorem str_itxt (i : Int) : PySem.Str.ofString (toString i) = tx (itxt i) := PySem.Str.ofString_eq_toList _
def zStr : List V → Hp → VK → Prop := fun xs H Q => ∃ i, xs = [.int i] ∧ i.natAbs.log2 < 1920 ∧ Q (.str (toString i)) H
theorem call_zStr {X : Cx} : CallR X (.type "str") zStr := call_str_int
def zIntT : List V → Hp → VK → Prop := fun xs H Q => zInt xs H Q ∨ ∃ a n, xs = [.str a] ∧ PySem.intText? a = some n ∧ a.length ≤ 640 ∧ Q (.int n) H
theorem call_zIntT {X : Cx} : CallR X (.type "int") zIntT := CallR.or call_zInt call_int_str
def zMulU (K : PySem.W.Frag) : R2 := fun x y H Q => zMul x y H Q ∨ rRepT K x y H Q
theorem op_zMulU {X : Cx} : OpR X (binaryOp .Mult) (zMulU X.K) := OpR.or op_zMul op_repT
def tJoined (ts : List TE) : TE := fun σ H Q => tJs ts Str.empty σ H fun out H1 => Q (.str out) H1
theorem pe_joinedZ {X : Cx} {v1 v2 : Expr} {rest : List Expr} {ts : List TE} {pos : Pos} (h : PJ X (v1 :: v2 :: rest) ts) : PE X (.JoinedStr (v1 :: v2 :: rest) pos) (tJoined ts) := pe_joined h
section
variable {B : Bx} {W : WX} {Γ Γ' : List Sl} {P : Po} {te ta tb tk tv td to : TE} {aa : TA} {d e : D} {ds as bs : List D} {a b : List Nat} {i k n : Int}
theorem rc_str (h : i.natAbs.log2 < 1920) : RC B zStr [.int i] (.str (tx (itxt i))) := fun xs G H Q s r q => by
  cases r with
  | cons r1 r2 => cases r1; cases r2; exact ⟨i, rfl, h, q _ G H (.refl s) (by rw [← str_itxt]; exact .str _)⟩
theorem rc_intT (h : PySem.intText? (tx a) = some n) (hl : a.length ≤ 640) : RC B zIntT [.str (tx a)] (.int n) := fun xs G H Q s r q => by
  cases r with
  | cons r1 r2 => cases r1; cases r2; exact .inr ⟨_, n, rfl, h, by rw [tx_length]; exact hl, q _ G H (.refl s) (.int _)⟩
theorem rc_intTi : RC B zIntT [.int i] (.int i) := fun xs G H Q s r q => .inl (rc_int xs G H Q s r q)
def rep2 {α : Type} (n : Nat) (l : List α) : List α := (List.replicate n l).flatten
theorem Rps.rep {K : PySem.W.Frag} {G : Hp} {vs : List V} {ds : List D} (h : Rps K G vs ds) : ∀ n : Nat, Rps K G (rep2 n vs) (rep2 n ds)
  | 0 => .nil
  | n + 1 => by
    unfold rep2
    rw [List.replicate_succ, List.replicate_succ, List.flatten_cons, List.flatten_cons]
    exact h.append (Rps.rep h n)
theorem rv_mulU (h0 : as ≠ []) (h1 : 2 ≤ k) (h2 : k ≤ 1000) (h3 : as.length ≤ 1000) : RV B (zMulU B.K) (.tup as) (.int k) (.tup (rep2 k.toNat as)) := fun x y G H Q s rx ry q => by
  cases ry
  cases rx with
  | tup h r =>
    rename_i p xs
    refine .inr ⟨p, k, xs, rfl, rfl, same_t s h, fun e => h0 ?_, h1, h2, by rw [r.length]; exact h3, fun p2 hp2 => q _ _ _ (.new s hp2) (.tup (.inl (.inl upd_same)) ?_)⟩
    · subst e; cases r; rfl
    · exact (r.rep k.toNat).mono (Fw.new (o := .tup _) s hp2).g
theorem rv_mulUT (h1 : -(2 ^ 62) < k) (h2 : k < 2 ^ 62) (h : a.length * k.toNat ≤ 16777216) : RV B (zMulU B.K) (.str (tx a)) (.int k) (.str (tx (rep k.toNat a))) := fun x y G H Q s rx ry q => .inl (rv_mulT h1 h2 h x y G H Q s rx ry q)
/-- f-strings: texts and ints -/
theorem ev_fmtT (h : Ev B te Γ (.str (tx a))) (hl : a.length ≤ 16777216) : Ev B (tFmt te) Γ (.str (tx a)) := fun σ G H Q S q =>
  h σ G H _ S fun v G1 H1 f r => by
    cases r
    exact .inl ⟨_, rfl, by rw [tx_length]; exact line_le hl, q _ G1 H1 f (.str _)⟩
theorem ev_fmtI (h : Ev B te Γ (.int i)) (hl : i.natAbs.log2 < 1920) : Ev B (tFmt te) Γ (.str (tx (itxt i))) := fun σ G H Q S q =>
  h σ G H _ S fun v G1 H1 f r => by
    cases r
    exact .inr ⟨_, rfl, hl, q _ G1 H1 f (by rw [← str_itxt]; exact .str _)⟩
/-- parts of an f-string -/
inductive EvJ (B : Bx) (Γ : List Sl) : List TE → List Nat → Prop where
  | nil : EvJ B Γ [] []
  | cons {t : TE} {ts : List TE} {a b : List Nat} (h : Ev B t Γ (.str (tx a))) (r : EvJ B Γ ts b) : EvJ B Γ (t :: ts) (a ++ b)
theorem evj_run {ts : List TE} (h : EvJ B Γ ts a) : ∀ (acc : List Nat) σ G H (Q : Str → Hp → Prop), acc.length + a.length ≤ 16777216 → Stt B Γ σ G H → (∀ G' H', Fw G H G' H' → Q (tx (acc ++ a)) H') → tJs ts (tx acc) σ H Q := by
  induction h with
  | nil => intro acc σ G H Q hl S q; have := q G H (.refl S.same); rw [List.append_nil] at this; exact this
  | cons h r ih =>
    intro acc σ G H Q hl S q
    refine h σ G H _ S fun v G1 H1 f rv => ?_
    cases rv
    rw [List.length_append] at hl
    refine ⟨_, rfl, ?_, ?_⟩
    · rw [tx_append, tx_length, List.length_append]; exact line_le (by omega)
    · rw [tx_append]
      refine ih _ σ G1 H1 Q (by rw [List.length_append]; omega) (S.step f) fun G2 H2 f2 => ?_
      rw [List.append_assoc]
      exact q G2 H2 (f.trans f2)
theorem ev_joined {ts : List TE} (h : EvJ B Γ ts a) (hl : a.length ≤ 16777216) : Ev B (tJoined ts) Γ (.str (tx a)) := fun σ G H Q S q =>
  evj_run h [] σ G H _ (by simpa using hl) S fun G' H' f => q _ G' H' f (.str _)
/-- split -/
def splt (c : Nat) (a : List Nat) : List (List Nat) := TL.spl [c] 0 [] a
theorem split_tx {c : Nat} (hc : c < 256) : Txt.split (tx a) (tx [c]) = (splt c a).map tx := SX.split_S (b := [c]) (by simp) (by simp [hc])
theorem evo_split {K : PySem.W.Frag} (hK : K = B.K) {c : Nat} (hc : c < 256) (ho : Ev B to Γ (.str (tx a))) (ha : EvA B aa Γ [.str (tx [c])]) (hl : a.length ≤ 16777000) : EvO B (tBM K "str" rSplitT to aa) Γ (.lst ((splt c a).map fun x => .str (tx x))) := fun σ G H Q S q => by
  subst hK
  refine ho σ G H _ S fun v G1 H1 f1 r1 => ?_
  cases r1
  refine ⟨rfl, ha σ G1 H1 _ (S.step f1) fun vs G2 H2 f2 r2 => ?_⟩
  cases r2 with
  | cons r3 r4 =>
    cases r3; cases r4
    refine ⟨_, _, rfl, rfl, rfl, by rw [tx_length]; exact line_le (by omega), fun p hp => ?_⟩
    have f := f1.trans f2
    refine q p _ G2 _ (f.trans (Fw.newO f.e hp)) (f.e.free hp) (f.h.free hp) upd_same ⟨_, rfl, ?_⟩
    rw [split_tx hc, List.map_map]
    exact rps_txs (splt c a)
end
/-! ### splt and joinL -/
theorem spl_free {c : Nat} : ∀ (w acc : List Nat), c ∉ w → TL.spl [c] 0 acc w = [acc ++ w]
  | [], acc, _ => by rw [TL.spl_nil, List.append_nil]
  | x :: r, acc, h => by
    rw [List.mem_cons, not_or] at h
    rw [TL.spl_miss (by simp [TL.pre]; exact fun e => h.1 e.symm), spl_free r _ h.2, List.append_assoc]
    rfl
theorem spl_sep {c : Nat} (t : List Nat) : ∀ (w acc : List Nat), c ∉ w → TL.spl [c] 0 acc (w ++ c :: t) = (acc ++ w) :: TL.spl [c] 0 [] t
  | [], acc, _ => by rw [List.nil_append, TL.spl_hit (by simp [TL.pre]), List.append_nil]; rfl
  | x :: r, acc, h => by
    rw [List.mem_cons, not_or] at h
    rw [List.cons_append, TL.spl_miss (by simp [TL.pre]; exact fun e => h.1 e.symm), spl_sep t r _ h.2, List.append_assoc]
    rfl
theorem splt_free {c : Nat} {w : List Nat} (h : c ∉ w) : splt c w = [w] := spl_free w [] h
theorem splt_sep {c : Nat} {w t : List Nat} (h : c ∉ w) : splt c (w ++ c :: t) = w :: splt c t := spl_sep t w [] h
theorem splt_join {c : Nat} : ∀ (ws : List (List Nat)), ws ≠ [] → (∀ w ∈ ws, c ∉ w) → splt c (joinL [c] ws) = ws
  | [], h, _ => absurd rfl h
  | [w], _, h => splt_free (h w (by simp))
  | w :: v :: r, _, h => by
    have ih := splt_join (v :: r) (by simp) fun x hx => h x (by simp at hx ⊢; exact .inr hx)
    show splt c (w ++ [c] ++ joinL [c] (v :: r)) = _
    rw [List.append_assoc, List.singleton_append, splt_sep (h w (by simp)), ih]
theorem splt_ne (c : Nat) (a : List Nat) : splt c a ≠ [] := by
  unfold splt
  have : ∀ (l : List Nat) (acc : List Nat), TL.spl [c] 0 acc l ≠ [] := by
    intro l
    induction l with
    | nil => intro acc; rw [TL.spl_nil]; simp
    | cons x r ih =>
      intro acc
      cases h : TL.pre [c] (x :: r) with
      | true => rw [TL.spl_hit h]; simp
      | false => rw [TL.spl_miss h]; exact ih _
  exact this a []
end Z

/-! Z33: lists of ints compared; a list's members in order; isinstance of own objects. -/
namespace Z
open PySem PySem.Spec PyProof.Rows L2
theorem pyAll_ints : ∀ ns : List Int, pyAll (ns.map .int) = some (ns.map PyData.int)
  | [] => rfl
  | n :: r => by
    show (D.py (.int n)).bind (fun p => (pyAll (r.map .int)).map fun q => p :: q) = _
    rw [pyAll_ints r]; rfl
theorem lay_intsP (ns : List Int) : PyData.canLayAll0 (ns.map PyData.int) = true ∧ PyData.depthAll (ns.map PyData.int) ≤ 0 := by
  induction ns with
  | nil => exact ⟨by simp [PyData.canLayAll0], by simp [PyData.depthAll]⟩
  | cons n r ih => exact ⟨by simp [PyData.canLayAll0, PyData.canLay0, ih.1], by simp [PyData.depthAll, PyData.depth]; have := ih.2; omega⟩
theorem shaped_ints (ns : List Int) : SeqAt.shaped (.list (ns.map PyData.int)) = true := by
  obtain ⟨h1, h2⟩ := lay_intsP ns
  unfold SeqAt.shaped
  rw [Bool.and_eq_true]
  exact ⟨by simp [PyData.canLay0, h1], decide_eq_true (by simp [PyData.depth]; omega)⟩
theorem eqvAll_ints : ∀ ns ms : List Int, PyData.eqvAll (ns.map PyData.int) (ms.map PyData.int) = decide (ns = ms)
  | [], [] => by simp [PyData.eqvAll]
  | [], _ :: _ => by simp [PyData.eqvAll]
  | _ :: _, [] => by simp [PyData.eqvAll]
  | a :: r, b :: t => by
    simp only [List.map_cons, PyData.eqvAll, PyData.eqv, eqvAll_ints r t]
    rw [Bool.eq_iff_iff]
    simp
theorem rv_eqInts {B : Bx} {ns ms : List Int} : RV B (zEq B.K) (.lst (ns.map .int)) (.lst (ms.map .int)) (.bl (decide (ns = ms))) := by
  have h1 : D.py (.lst (ns.map .int)) = some (.list (ns.map PyData.int)) := by show (pyAll (ns.map .int)).map PyData.list = _; rw [pyAll_ints]; rfl
  have h2 : D.py (.lst (ms.map .int)) = some (.list (ms.map PyData.int)) := by show (pyAll (ms.map .int)).map PyData.list = _; rw [pyAll_ints]; rfl
  have := rv_eqD (B := B) h1 h2 (shaped_ints ns) (shaped_ints ms)
  rwa [show PyData.eqv (.list (ns.map PyData.int)) (.list (ms.map PyData.int)) = decide (ns = ms) by rw [PyData.eqv, eqvAll_ints]] at this
def insI (x : Int) : List Int → List Int
  | [] => [x]
  | y :: r => if x < y then x :: y :: r else if x = y then y :: r else y :: insI x r
theorem insI_mem (x k : Int) : ∀ l : List Int, k ∈ insI x l ↔ k = x ∨ k ∈ l
  | [] => by simp [insI]
  | y :: r => by
    unfold insI
    split
    · simp
    · split
      · rename_i h; subst h; simp
      · rw [List.mem_cons, insI_mem x k r, List.mem_cons]
        constructor
        · rintro (h | h | h)
          · exact .inr (.inl h)
          · exact .inl h
          · exact .inr (.inr h)
        · rintro (h | h | h)
          · exact .inr (.inl h)
          · exact .inl h
          · exact .inr (.inr h)
theorem insI_pw (x : Int) : ∀ l : List Int, l.Pairwise (· < ·) → (insI x l).Pairwise (· < ·)
  | [], _ => by simp [insI]
  | y :: r, h => by
    obtain ⟨h1, h2⟩ := List.pairwise_cons.mp h
    unfold insI
    split
    · rename_i q
      refine List.pairwise_cons.mpr ⟨fun k hk => ?_, h⟩
      rcases List.mem_cons.mp hk with rfl | hk
      · exact q
      · exact Int.lt_trans q (h1 k hk)
    · split
      · exact h
      · rename_i q1 q2
        refine List.pairwise_cons.mpr ⟨fun k hk => ?_, insI_pw x r h2⟩
        rcases (insI_mem x k r).mp hk with rfl | hk
        · omega
        · exact h1 k hk
theorem set_sorted (ns : List Int) : ∃ ms : List Int, ms.Pairwise (· < ·) ∧ ∀ k, k ∈ ms ↔ k ∈ ns := by
  induction ns with
  | nil => exact ⟨[], .nil, fun _ => Iff.rfl⟩
  | cons n r ih =>
    obtain ⟨ms, h1, h2⟩ := ih
    exact ⟨insI n ms, insI_pw n ms h1, fun k => by rw [insI_mem, h2, List.mem_cons]⟩
/-! ### isinstance(x, C), x an object of an own class -/
structure IsC (K : PySem.W.Frag) (C : Addr) : Prop where
  ha : PySem.W.findIn K (.ref C) "__class__" = some (some (.builtin "object.__class__"))
  hn : PySem.W.specialIn K (.builtin "object.__class__") "__get__" = some (some (.builtin "getset_descriptor.__get__"))
  ht : PySem.W.takesIn K (.builtin "object.__class__") = some true
  hm : PySem.W.mroIn K C (.type "object") = some true
def isCB (K : PySem.W.Frag) (C : Addr) : Bool := decide (PySem.W.findIn K (.ref C) "__class__" = some (some (.builtin "object.__class__"))) && (decide (PySem.W.specialIn K (.builtin "object.__class__") "__get__" = some (some (.builtin "getset_descriptor.__get__"))) && (decide (PySem.W.takesIn K (.builtin "object.__class__") = some true) && decide (PySem.W.mroIn K C (.type "object") = some true)))
theorem isCB_ok {K : PySem.W.Frag} {C : Addr} (h : isCB K C = true) : IsC K C := by
  unfold isCB at h
  rw [Bool.and_eq_true, Bool.and_eq_true, Bool.and_eq_true] at h
  exact ⟨of_decide_eq_true h.1, of_decide_eq_true h.2.1, of_decide_eq_true h.2.2.1, of_decide_eq_true h.2.2.2⟩
theorem rc_isiC {B : Bx} {C E : Addr} {fs : List (Str × D)} {p : Bool} (c : Cls B.K C) (ic : IsC B.K C) (hk : PySem.W.kitOne B.K (.ref C) (.ref E) = some p) : RC B (zIsi B.K) [.obj C fs, .ref E] (.bl p) := fun xs G H Q s r q => by
  cases r with
  | cons r1 r2 =>
    cases r2 with
    | cons r2 r3 =>
      cases r3; cases r2
      cases r1 with
      | obj h1 _ => exact ⟨_, _, .ref C, .ref E, p, rfl, .own E, .base (.ins (s _ _ h1) c ic.ha ic.hn ic.ht ic.hm), hk, q _ G H (.refl s) (.bl p)⟩
end Z

/-! M75: walks over arcs; potentials. -/
namespace Z
/-- a walk of k arcs from 0 to v -/
inductive Path (tg : Nat → List Nat) : Nat → Nat → Prop
  | zero : Path tg 0 0
  | step {k u v : Nat} : Path tg k u → v ∈ tg u → Path tg (k + 1) v
/-- a fixpoint: no arc of a met node raises -/
def Fix (tg : Nat → List Nat) (f : Nat → Option Nat) : Prop := (∃ b, f 0 = some b) ∧ ∀ u x, f u = some x → ∀ v ∈ tg u, ∃ y, f v = some y ∧ x + 1 ≤ y
theorem Fix.le {tg : Nat → List Nat} {f : Nat → Option Nat} (h : Fix tg f) {b : Nat} (hb : f 0 = some b) : ∀ {k v : Nat}, Path tg k v → ∃ y, f v = some y ∧ b + k ≤ y := by
  intro k v w
  induction w with
  | zero => exact ⟨b, hb, by omega⟩
  | step w hv ih =>
    obtain ⟨x, hx, hl⟩ := ih
    obtain ⟨y, hy, hl2⟩ := h.2 _ x hx _ hv
    exact ⟨y, hy, by omega⟩
theorem Path.prefix {tg : Nat → List Nat} : ∀ {k v : Nat}, Path tg k v → ∀ j, j ≤ k → ∃ u, Path tg j u
  | _, _, .zero, j, h => ⟨0, by obtain rfl : j = 0 := Nat.le_zero.mp h; exact .zero⟩
  | _, v, .step (k := k) w hv, j, h => by
    rcases Nat.lt_or_ge k j with q | q
    · obtain rfl : j = k + 1 := by omega
      exact ⟨v, .step w hv⟩
    · exact w.prefix j q
/-- along a walk a potential takes ever greater values: a list of distinct nodes -/
theorem Path.nodes {tg : Nat → List Nat} {f : Nat → Option Nat} (h : Fix tg f) {n : Nat} (hn : ∀ u, ∀ v ∈ tg u, v < n) (h0 : 0 < n) : ∀ {k v : Nat}, Path tg k v → ∃ l : List Nat, l.length = k + 1 ∧ l.Nodup ∧ (∀ u ∈ l, u < n) ∧ v ∈ l ∧ ∃ y, f v = some y ∧ ∀ u ∈ l, ∃ x, f u = some x ∧ x ≤ y := by
  intro k v w
  induction w with
  | zero =>
    obtain ⟨b, hb⟩ := h.1
    exact ⟨[0], rfl, by simp, by simpa using h0, by simp, b, hb, fun u hu => ⟨b, by simp at hu; subst hu; exact hb, Nat.le_refl _⟩⟩
  | step w hv ih =>
    obtain ⟨l, h1, h2, h3, h4, y, hy, h5⟩ := ih
    obtain ⟨z, hz, hl⟩ := h.2 _ y hy _ hv
    rename_i k u v
    refine ⟨v :: l, by simp [h1], List.nodup_cons.mpr ⟨fun hm => ?_, h2⟩, fun u hu => ?_, by simp, z, hz, fun u hu => ?_⟩
    · obtain ⟨x, hx, hle⟩ := h5 v hm
      rw [hz] at hx
      cases hx
      omega
    · rcases List.mem_cons.mp hu with rfl | q
      · exact hn _ _ hv
      · exact h3 u q
    · rcases List.mem_cons.mp hu with rfl | q
      · exact ⟨z, hz, Nat.le_refl _⟩
      · obtain ⟨x, hx, hle⟩ := h5 u q
        exact ⟨x, hx, by omega⟩
theorem nodup_lt : ∀ {n : Nat} {l : List Nat}, l.Nodup → (∀ u ∈ l, u < n) → l.length ≤ n
  | 0, l, _, hn => by
    cases l with
    | nil => exact Nat.le_refl _
    | cons u r => exact absurd (hn u List.mem_cons_self) (Nat.not_lt_zero u)
  | n + 1, l, h, hn => by
    have h1 : (l.erase n).Nodup := h.erase n
    have h2 : ∀ u ∈ l.erase n, u < n := fun u hu => by
      have a := hn u (List.mem_of_mem_erase hu)
      have b : u ≠ n := (h.mem_erase_iff.mp hu).1
      omega
    have h3 := nodup_lt h1 h2
    rw [List.length_erase] at h3
    split at h3 <;> omega
theorem Fix.short {tg : Nat → List Nat} {f : Nat → Option Nat} (h : Fix tg f) {n : Nat} (hn : ∀ u, ∀ v ∈ tg u, v < n) (h0 : 0 < n) {k v : Nat} (w : Path tg k v) : k < n := by
  obtain ⟨l, h1, h2, h3, _⟩ := w.nodes h hn h0
  have := nodup_lt h2 h3
  omega
/-- the bill of a program -/
def Bill (tg : Nat → List Nat) (n : Nat) : Option Nat → Prop
  | none => ∃ v, Path tg n v
  | some s => 0 < s ∧ (∃ v, Path tg (s - 1) v) ∧ (∀ k v, Path tg k v → k + 1 ≤ s) ∧ ∀ k v, Path tg k v → k < n
theorem Bill.uniq {tg : Nat → List Nat} {n : Nat} : ∀ {r r' : Option Nat}, Bill tg n r → Bill tg n r' → r = r'
  | none, none, _, _ => rfl
  | none, some s, ⟨v, w⟩, ⟨_, _, _, h⟩ => absurd (h _ _ w) (Nat.lt_irrefl _)
  | some s, none, ⟨_, _, _, h⟩, ⟨v, w⟩ => absurd (h _ _ w) (Nat.lt_irrefl _)
  | some s, some s', ⟨p, ⟨v, w⟩, h, _⟩, ⟨p', ⟨v', w'⟩, h', _⟩ => by
    have a := h _ _ w'
    have b := h' _ _ w
    have : s = s' := by omega
    rw [this]
end Z

/-! M75B: lines of a program. -/
namespace Z
open PySem PySem.Spec PyProof.Rows L2
inductive Tg where
  | wd (b : Bool) | to (n : Nat)
deriving DecidableEq
def Tg.d : Tg → D
  | .wd b => .bl b
  | .to n => .int n
def Tg.num : Tg → Option Nat
  | .wd _ => none
  | .to n => some n
inductive Ln where
  | one (swap : Bool) (a b : Nat) (t : Tg)
  | first (a b : Nat) (t u : Tg)
  | every (a b s : Nat) (t u : Tg)
  | count (a : Nat) (ts : List Tg)
  | leads (a : Nat) (t u : Tg)
abbrev kChange : List Nat := [99, 104, 97, 110, 103, 101]
abbrev kSwap : List Nat := [115, 119, 97, 112]
abbrev kFirst : List Nat := [102, 105, 114, 115, 116]
abbrev kEvery : List Nat := [101, 118, 101, 114, 121]
abbrev kCount : List Nat := [99, 111, 117, 110, 116]
abbrev kLeads : List Nat := [108, 101, 97, 100, 115]
def Ln.kind : Ln → List Nat
  | .one s _ _ _ => if s then kSwap else kChange
  | .first _ _ _ _ => kFirst
  | .every _ _ _ _ _ => kEvery
  | .count _ _ => kCount
  | .leads _ _ _ => kLeads
def Ln.items : Ln → List D
  | .one _ a b t => [.str (tx [a]), .str (tx [b]), t.d]
  | .first a b t u => [.str (tx [a]), .str (tx [b]), t.d, u.d]
  | .every a b s t u => [.str (tx [a]), .str (tx [b]), .int s, t.d, u.d]
  | .count a ts => [.str (tx [a]), .tup (ts.map Tg.d)]
  | .leads a t u => [.str (tx [a]), t.d, u.d]
def Ln.d (l : Ln) : D := .tup (.str (tx l.kind) :: l.items)
def Ln.tgs : Ln → List Tg
  | .one _ _ _ t => [t]
  | .first _ _ t u => [t, u]
  | .every _ _ _ t u => [t, u]
  | .count _ ts => ts
  | .leads _ t u => [t, u]
def Ln.nums (l : Ln) : List Nat := l.tgs.filterMap Tg.num
/-- a right line: letters cs, n lines -/
def Ln.ok (cs : List Nat) (n : Nat) : Ln → Prop
  | .one _ a b t => a ∈ cs ∧ b ∈ cs ∧ ∀ k, t.num = some k → k < n
  | .first a b t u => a ∈ cs ∧ b ∈ cs ∧ ∀ k, (t.num = some k ∨ u.num = some k) → k < n
  | .every a b s t u => a ∈ cs ∧ b ∈ cs ∧ 1 ≤ s ∧ s ≤ 6 ∧ ∀ k, (t.num = some k ∨ u.num = some k) → k < n
  | .count a ts => a ∈ cs ∧ 0 < ts.length ∧ ts.length ≤ 6 ∧ ∀ t ∈ ts, ∀ k, t.num = some k → k < n
  | .leads a t u => a ∈ cs ∧ ∀ k, (t.num = some k ∨ u.num = some k) → k < n
theorem Ln.nums_lt {cs : List Nat} {n : Nat} {l : Ln} (h : l.ok cs n) : ∀ k ∈ l.nums, k < n := by
  intro k hk
  unfold Ln.nums at hk
  rw [List.mem_filterMap] at hk
  obtain ⟨t, ht, e⟩ := hk
  cases l with
  | one s a b u => simp [Ln.tgs] at ht; subst ht; exact h.2.2 k e
  | first a b u v => simp [Ln.tgs] at ht; exact h.2.2 k (by rcases ht with rfl | rfl <;> simp [e])
  | every a b s u v => simp [Ln.tgs] at ht; exact h.2.2.2.2 k (by rcases ht with rfl | rfl <;> simp [e])
  | count a ts => exact h.2.2.2 t ht k e
  | leads a u v => simp [Ln.tgs] at ht; exact h.2 k (by rcases ht with rfl | rfl <;> simp [e])
/-- the arcs of a program -/
def arcsOf (ls : List Ln) (u : Nat) : List Nat := match ls[u]? with
  | some l => l.nums
  | none => []
end Z

/-! M75C: the law's letters, targets, lines in plain Lean. -/
namespace Z
open PySem PySem.Spec PyProof.Rows L2
abbrev alpha : List Nat := [97, 98, 99, 100, 101, 102, 103, 104, 105, 106, 107, 108, 109, 110, 111, 112, 113, 114, 115, 116, 117, 118, 119, 120, 121, 122]
theorem alpha_at {i : Int} (h0 : 0 ≤ i) (h1 : i < 26) : atI alpha i = some (97 + i.toNat) := by
  have hlt : i.toNat < 26 := by omega
  have key : ∀ k : Fin 26, alpha[k.val]? = some (97 + k.val) := by decide
  have h : atI alpha ((i.toNat : Nat) : Int) = some (97 + i.toNat) := atI_ofNat (key ⟨i.toNat, hlt⟩)
  rwa [Int.toNat_of_nonneg h0] at h
def lettersOf (r0 r1 r2 r3 : Int) : List Nat :=
  if r0 = 0 then [97 + r1.toNat] else if r0 = 1 then [97 + r1.toNat, 97 + (r1 + 1 + r2).toNat, 97 + (r1 + 1 + r2 + 1 + r3).toNat] else [97 + r1.toNat, 97 + (r1 + 1 + r2).toNat]
/-- right letters: one to three of the alphabet, rising -/
def Right (ls : List Nat) : Prop := 1 ≤ ls.length ∧ ls.length ≤ 3 ∧ ls.Pairwise (· < ·) ∧ ∀ c ∈ ls, 97 ≤ c ∧ c ≤ 122
theorem lettersOf_right {r0 r1 r2 r3 : Int} (h1 : 0 ≤ r1 ∧ r1 < 8) (h2 : 0 ≤ r2 ∧ r2 < 8) (h3 : 0 ≤ r3 ∧ r3 < 8) : Right (lettersOf r0 r1 r2 r3) := by
  unfold lettersOf Right
  split
  · refine ⟨by simp, by simp, by simp, fun c hc => ?_⟩
    simp at hc; omega
  · split
    · refine ⟨by simp, by simp, ?_, fun c hc => ?_⟩
      · simp; omega
      · simp at hc; omega
    · refine ⟨by simp, by simp, ?_, fun c hc => ?_⟩
      · simp; omega
      · simp at hc; omega
/-- the law's target -/
def tgCh (d at_ many : Int) (loops : Bool) : List Tg :=
  if loops then [.wd true, .wd false, .to (at_ + 1).toNat, .to at_.toNat, .to 0, .to (d % many).toNat, .to (at_ + 2).toNat, .to (at_ + 1).toNat]
  else [.wd true, .wd false, .to (at_ + 1).toNat, .to (at_ + 1).toNat, .to (at_ + 2).toNat, .wd true, .wd false, .to (at_ + 1).toNat]
def tgCut (d many : Int) : Tg → Tg
  | .wd b => .wd b
  | .to n => if many ≤ n then .wd (decide (d % 3 = 0)) else .to n
def tgOf (d at_ many : Int) (loops : Bool) : Tg := tgCut d many ((tgCh d at_ many loops).getD (d % 8).toNat (.wd true))
theorem tgCut_lt {d many : Int} {t : Tg} {k : Nat} (h : (tgCut d many t).num = some k) : (k : Int) < many := by
  cases t with
  | wd b => cases h
  | to n =>
    by_cases q : many ≤ n
    · rw [show tgCut d many (.to n) = .wd (decide (d % 3 = 0)) from if_pos q] at h; cases h
    · rw [show tgCut d many (.to n) = .to n from if_neg q] at h; cases h; omega
theorem tgOf_lt {d at_ many : Int} {loops : Bool} {k : Nat} (h : (tgOf d at_ many loops).num = some k) : (k : Int) < many := tgCut_lt h
end Z

/-! M75D: the law's line and program in plain Lean. -/
namespace Z
open PySem PySem.Spec PyProof.Rows L2
def chOf (cs : List Nat) (r : Int) : Nat := cs.getD (r % (cs.length : Nat)).toNat 0
theorem chOf_mem {cs : List Nat} {r : Int} (h : 0 < cs.length) : chOf cs r ∈ cs ∧ atI cs (r % (cs.length : Nat)) = some (chOf cs r) := by
  have h1 : 0 ≤ r % (cs.length : Nat) := Int.emod_nonneg _ (by omega)
  have h2 : r % (cs.length : Nat) < (cs.length : Nat) := Int.emod_lt_of_pos _ (by omega)
  have h3 : (r % (cs.length : Nat)).toNat < cs.length := by omega
  have e : chOf cs r = cs[(r % (cs.length : Nat)).toNat] := by unfold chOf; rw [List.getD_eq_getElem?_getD, List.getElem?_eq_getElem h3]; rfl
  refine ⟨by rw [e]; exact List.getElem_mem _, ?_⟩
  have q : atI cs (((r % (cs.length : Nat)).toNat : Nat) : Int) = some (chOf cs r) := atI_ofNat (by rw [e]; exact List.getElem?_eq_getElem h3)
  rwa [Int.toNat_of_nonneg h1] at q
def lnOf (r : List Int) (a m : Int) (cs : List Nat) (lp : Bool) : Ln :=
  let g := fun i => r.getD i 0
  let t := fun i => tgOf (g (3 + i)) a m lp
  if g 0 = 0 then .one false (chOf cs (g 1)) (chOf cs (g 2)) (t 0)
  else if g 0 = 1 then .one true (chOf cs (g 1)) (chOf cs (g 2)) (t 0)
  else if g 0 = 2 then .first (chOf cs (g 1)) (chOf cs (g 2)) (t 0) (t 1)
  else if g 0 = 3 then .every (chOf cs (g 1)) (chOf cs (g 2)) (1 + g 6).toNat (t 0) (t 1)
  else if g 0 = 4 then .count (chOf cs (g 1)) ([t 0, t 1, t 2].take (1 + g 6 % 3).toNat)
  else .leads (chOf cs (g 1)) (t 0) (t 1)
theorem lnOf_ok {r : List Int} {a : Int} {m : Nat} {cs : List Nat} {lp : Bool} (h6 : 0 ≤ r.getD 6 0 ∧ r.getD 6 0 < 4) (hc : 0 < cs.length) : (lnOf r a m cs lp).ok cs m := by
  have lt : ∀ {d : Int} {k : Nat}, (tgOf d a m lp).num = some k → k < m := fun h => by have := tgOf_lt h; omega
  have lt2 : ∀ {d e : Int} {k : Nat}, ((tgOf d a m lp).num = some k ∨ (tgOf e a m lp).num = some k) → k < m := fun h => h.elim lt lt
  have mem : ∀ x : Int, chOf cs x ∈ cs := fun x => (chOf_mem hc).1
  unfold lnOf
  simp only
  split
  · exact ⟨mem _, mem _, fun k h => lt h⟩
  · split
    · exact ⟨mem _, mem _, fun k h => lt h⟩
    · split
      · exact ⟨mem _, mem _, fun k h => lt2 h⟩
      · split
        · exact ⟨mem _, mem _, by omega, by omega, fun k h => lt2 h⟩
        · split
          · have h3 : 0 ≤ r.getD 6 0 % 3 ∧ r.getD 6 0 % 3 < 3 := ⟨Int.emod_nonneg _ (by decide), Int.emod_lt_of_pos _ (by decide)⟩
            refine ⟨mem _, by simp; omega, by simp; omega, fun t ht k h => ?_⟩
            have := List.mem_of_mem_take ht
            simp at this
            rcases this with rfl | rfl | rfl <;> exact lt h
          · exact ⟨mem _, fun k h => lt2 h⟩
abbrev rowL : List Int := [6, 12, 12, 24, 24, 24, 4]
/-- the program: letters, marks, lines -/
def progLs (ns : List Int) (a : Int) : List Nat := let r := digits (cellZ ns a) [8, 8, 8, 8]; lettersOf (r.getD 0 0) (r.getD 1 0) (r.getD 2 0) (r.getD 3 0)
def progMk (ns : List Int) (a longest : Int) : Int := (digits (cellZ ns (a + 1)) [3, longest]).getD 0 0
def progN (ns : List Int) (a longest : Int) : Int := 1 + (digits (cellZ ns (a + 1)) [3, longest]).getD 1 0
def progCs (ns : List Int) (a longest : Int) : List Nat := progLs ns a ++ [65, 66, 67, 68, 69].take (progMk ns a longest).toNat
def progLines (ns : List Int) (a longest : Int) (lp : Bool) : List Ln :=
  (List.range (progN ns a longest).toNat).map fun k => lnOf (digits (cellZ ns (a + 2 + (k : Nat))) rowL) (k : Nat) (progN ns a longest) (progCs ns a longest) lp
end Z

/-! M77: programs as text. -/
namespace Z
open PySem PySem.Spec PyProof.Rows L2
abbrev wYes : List Nat := [121, 101, 115]
abbrev wNo : List Nat := [110, 111]
def Tg.w : Tg → List Nat
  | .wd true => wYes
  | .wd false => wNo
  | .to n => itxt n
inductive Kd where
  | change | swap | first | every | count | leads
deriving DecidableEq
def Kd.name : Kd → List Nat
  | .change => kChange | .swap => kSwap | .first => kFirst | .every => kEvery | .count => kCount | .leads => kLeads
def Kd.shape : Kd → List Nat
  | .change => [99, 99, 116] | .swap => [99, 99, 116] | .first => [99, 99, 116, 116] | .every => [99, 99, 110, 116, 116] | .count => [99, 115] | .leads => [99, 116, 116]
def Ln.kd : Ln → Kd
  | .one s _ _ _ => if s then .swap else .change
  | .first _ _ _ _ => .first
  | .every _ _ _ _ _ => .every
  | .count _ _ => .count
  | .leads _ _ _ => .leads
theorem Ln.kind_kd (l : Ln) : l.kind = l.kd.name := by
  cases l with
  | one s => cases s <;> rfl
  | _ => rfl
/-- the words behind the kind -/
def Ln.ws : Ln → List (List Nat)
  | .one _ a b t => [[a], [b], t.w]
  | .first a b t u => [[a], [b], t.w, u.w]
  | .every a b s t u => [[a], [b], itxt s, t.w, u.w]
  | .count a ts => [a] :: ts.map Tg.w
  | .leads a t u => [[a], t.w, u.w]
def wordsOf (i : Nat) (l : Ln) : List (List Nat) := itxt i :: l.kind :: l.ws
def noteOf (i : Nat) (l : Ln) : List Nat := joinL [32] (wordsOf i l)
/-! ### reading -/
def dig (c : Nat) : Bool := decide (48 ≤ c) && decide (c ≤ 57)
def plainN : List Nat → Option Nat
  | [a] => if dig a then some (a - 48) else none
  | [a, b] => if (dig a && dig b && !decide (a = 48)) then some ((a - 48) * 10 + (b - 48)) else none
  | _ => none
def rdTg (w : List Nat) (n : Nat) : Option Tg :=
  if w = wYes then some (.wd true) else if w = wNo then some (.wd false) else match plainN w with
    | some k => if k < n then some (.to k) else none
    | none => none
def rdC (w cs : List Nat) : D := match w with
  | [a] => if a ∈ cs then .str (tx [a]) else .non
  | _ => .non
def rdN (w : List Nat) : D := match plainN w with
  | some k => if 1 ≤ k ∧ k ≤ 6 then .int k else .non
  | none => .non
def rdT (w : List Nat) (n : Nat) : D := match rdTg w n with
  | some t => t.d
  | none => .non
def rdW (s : Nat) (w cs : List Nat) (n : Nat) : D := if s = 99 then rdC w cs else if s = 116 then rdT w n else rdN w
def Kd.sh (kd : Kd) (many : Nat) : List Nat := if kd = .count then 99 :: List.replicate (min (max (many - 1) 1) 6) 116 else kd.shape
def itsOf (kd : Kd) (rest : List (List Nat)) (cs : List Nat) (n : Nat) : List D := ((kd.sh rest.length).zip rest).map fun p => rdW p.1 p.2 cs n
def isNon : D → Bool
  | .non => true
  | _ => false
def rdRest (kd : Kd) (rest : List (List Nat)) (cs : List Nat) (n : Nat) : D :=
  if rest.length ≠ (kd.sh rest.length).length then .non
  else if (itsOf kd rest cs n).any isNon then .non
  else if kd = .count then .tup [.str (tx kd.name), (itsOf kd rest cs n).headD .non, .lst (itsOf kd rest cs n).tail]
  else .tup (.str (tx kd.name) :: itsOf kd rest cs n)
/-- a line as read: the targets of count still in a list -/
def Ln.e : Ln → D
  | .count a ts => .tup [.str (tx kCount), .str (tx [a]), .lst (ts.map Tg.d)]
  | l => l.d
theorem itxt_dig {k : Nat} (h : k < 10) : itxt (k : Int) = [48 + k] := by
  have : ∀ k : Fin 10, itxt ((k.val : Nat) : Int) = [48 + k.val] := by decide +kernel
  exact this ⟨k, h⟩
theorem plain_dig {k : Nat} (h : k < 10) : plainN [48 + k] = some k := by
  have e : dig (48 + k) = true := by unfold dig; rw [decide_eq_true (by omega), decide_eq_true (by omega)]; rfl
  show (if dig (48 + k) then some (48 + k - 48) else none) = some k
  rw [if_pos e]
  congr 1
  omega
theorem rdTg_w {t : Tg} {n : Nat} (hn : n ≤ 10) (h : ∀ k, t.num = some k → k < n) : rdTg t.w n = some t := by
  cases t with
  | wd b => cases b <;> rfl
  | to k =>
    have hk := h k rfl
    show rdTg (itxt (k : Nat)) n = _
    rw [itxt_dig (by omega)]
    unfold rdTg
    rw [if_neg (by simp), if_neg (by simp), plain_dig (by omega)]
    exact if_pos hk
theorem rdT_w {t : Tg} {n : Nat} (hn : n ≤ 10) (h : ∀ k, t.num = some k → k < n) : rdT t.w n = t.d := by
  unfold rdT
  rw [rdTg_w hn h]
theorem Tg.d_non (t : Tg) : isNon t.d = false := by cases t <;> rfl
theorem isNon_str (x : Str) : isNon (.str x) = false := rfl
theorem isNon_int (i : Int) : isNon (.int i) = false := rfl
theorem rdC_in {a : Nat} {cs : List Nat} (h : a ∈ cs) : rdC [a] cs = .str (tx [a]) := if_pos h
theorem rdN_s {s : Nat} (h1 : 1 ≤ s) (h2 : s ≤ 6) : rdN (itxt s) = .int s := by
  unfold rdN
  rw [itxt_dig (by omega), plain_dig (by omega)]
  exact if_pos ⟨h1, h2⟩
theorem zip_rep {α β : Type} (a : α) : ∀ (l : List β) (m : Nat), m = l.length → (List.replicate m a).zip l = l.map fun x => (a, x)
  | [], m, h => by subst h; rfl
  | x :: r, m, h => by subst h; rw [List.length_cons, List.replicate_succ, List.zip_cons_cons, zip_rep a r _ rfl]; rfl
/-- what is written is read -/
theorem rdRest_ok {l : Ln} {cs : List Nat} {n : Nat} (hn : n ≤ 10) (h : l.ok cs n) : rdRest l.kd l.ws cs n = l.e := by
  cases l with
  | one s a b t =>
    obtain ⟨h1, h2, h3⟩ := h
    have e3 := rdT_w hn h3
    have e1 := rdC_in h1
    have e2 := rdC_in h2
    cases s <;> simp [rdRest, Ln.kd, Ln.ws, Kd.sh, Kd.shape, itsOf, rdW, e1, e2, e3, Tg.d_non, isNon_str, isNon_int] <;> rfl
  | first a b t u =>
    obtain ⟨h1, h2, h3⟩ := h
    have e3 := rdT_w hn fun k e => h3 k (.inl e)
    have e4 := rdT_w hn fun k e => h3 k (.inr e)
    have e1 := rdC_in h1
    have e2 := rdC_in h2
    simp [rdRest, Ln.kd, Ln.ws, Kd.sh, Kd.shape, itsOf, rdW, e1, e2, e3, e4, Tg.d_non, isNon_str, isNon_int]; rfl
  | every a b s t u =>
    obtain ⟨h1, h2, h5, h6, h3⟩ := h
    have e3 := rdT_w hn fun k e => h3 k (.inl e)
    have e4 := rdT_w hn fun k e => h3 k (.inr e)
    have e1 := rdC_in h1
    have e2 := rdC_in h2
    have e5 := rdN_s h5 h6
    simp [rdRest, Ln.kd, Ln.ws, Kd.sh, Kd.shape, itsOf, rdW, e1, e2, e3, e4, e5, Tg.d_non, isNon_str, isNon_int]; rfl
  | leads a t u =>
    obtain ⟨h1, h3⟩ := h
    have e3 := rdT_w hn fun k e => h3 k (.inl e)
    have e4 := rdT_w hn fun k e => h3 k (.inr e)
    have e1 := rdC_in h1
    simp [rdRest, Ln.kd, Ln.ws, Kd.sh, Kd.shape, itsOf, rdW, e1, e3, e4, Tg.d_non, isNon_str, isNon_int]; rfl
  | count a ts =>
    obtain ⟨h1, h5, h6, h3⟩ := h
    have e1 := rdC_in h1
    have hm : min (max (([a] :: ts.map Tg.w).length - 1) 1) 6 = (ts.map Tg.w).length := by rw [List.length_cons, List.length_map]; omega
    have e2 : itsOf .count ([a] :: ts.map Tg.w) cs n = .str (tx [a]) :: ts.map Tg.d := by
      unfold itsOf Kd.sh
      rw [if_pos rfl, hm, List.zip_cons_cons, zip_rep _ _ _ rfl, List.map_cons, List.map_map, List.map_map]
      congr 1
      refine List.map_congr_left fun t ht => ?_
      exact rdT_w hn (h3 t ht)
    have e3 : (ts.map Tg.d).any isNon = false := by
      rw [List.any_map, List.any_eq_false]
      exact fun t _ => by simp [Tg.d_non]
    show rdRest .count ([a] :: ts.map Tg.w) cs n = _
    unfold rdRest
    rw [e2, if_neg, if_neg, if_pos rfl]
    · rfl
    · rw [List.any_cons, e3]; exact Bool.false_ne_true
    · unfold Kd.sh
      rw [if_pos rfl, hm]
      simp
theorem rdRest_non {kd : Kd} {rest : List (List Nat)} {cs : List Nat} {n : Nat} (h : (itsOf kd rest cs n).any isNon = true ∨ rest.length ≠ (kd.sh rest.length).length) : rdRest kd rest cs n = .non := by
  unfold rdRest
  by_cases q : rest.length ≠ (kd.sh rest.length).length
  · rw [if_pos q]
  · rw [if_neg q]
    rcases h with h | h
    · rw [if_pos h]
    · exact absurd h q
theorem sh_len (kd : Kd) (m : Nat) : (kd.sh m).length ≤ 7 := by
  cases kd <;> simp [Kd.sh, Kd.shape] <;> omega
theorem rdRest_long {kd : Kd} {rest : List (List Nat)} {cs : List Nat} {n : Nat} (h : 7 < rest.length) : rdRest kd rest cs n = .non :=
  rdRest_non (.inr (by have := sh_len kd rest.length; omega))
theorem sh_first (kd : Kd) (m : Nat) : ∃ r, kd.sh m = 99 :: r := by
  cases kd <;> exact ⟨_, rfl⟩
theorem rdC_bad {w cs : List Nat} (h : ∀ a ∈ cs, w ≠ [a]) : rdC w cs = .non := by
  unfold rdC
  split
  · rename_i a
    exact if_neg fun q => h a q rfl
  · rfl
theorem rdRest_first {kd : Kd} {w : List Nat} {r : List (List Nat)} {cs : List Nat} {n : Nat} (h : ∀ a ∈ cs, w ≠ [a]) : rdRest kd (w :: r) cs n = .non := by
  obtain ⟨q, e⟩ := sh_first kd (w :: r).length
  refine rdRest_non (.inl ?_)
  unfold itsOf
  rw [e, List.zip_cons_cons, List.map_cons, List.any_cons]
  show (isNon (rdC w cs) || _) = true
  rw [rdC_bad h]
  rfl
theorem sh_last (kd : Kd) (m : Nat) : ∃ r, kd.sh m = r ++ [116] := by
  cases kd with
  | change => exact ⟨[99, 99], rfl⟩
  | swap => exact ⟨[99, 99], rfl⟩
  | first => exact ⟨[99, 99, 116], rfl⟩
  | every => exact ⟨[99, 99, 110, 116], rfl⟩
  | leads => exact ⟨[99, 116], rfl⟩
  | count =>
    have : ∃ k, min (max (m - 1) 1) 6 = k + 1 := ⟨min (max (m - 1) 1) 6 - 1, by omega⟩
    obtain ⟨k, hk⟩ := this
    refine ⟨99 :: List.replicate k 116, ?_⟩
    unfold Kd.sh
    rw [if_pos rfl, hk, List.replicate_succ']
    rfl
theorem rdRest_last {kd : Kd} {w : List Nat} {r : List (List Nat)} {cs : List Nat} {n : Nat} (h : rdTg w n = none) : rdRest kd (r ++ [w]) cs n = .non := by
  by_cases q : (r ++ [w]).length ≠ (kd.sh (r ++ [w]).length).length
  · exact rdRest_non (.inr q)
  · refine rdRest_non (.inl ?_)
    obtain ⟨p, e⟩ := sh_last kd (r ++ [w]).length
    have q2 : (r ++ [w]).length = (kd.sh (r ++ [w]).length).length := Decidable.not_not.mp q
    unfold itsOf
    rw [e] at q2 ⊢
    have hl : p.length = r.length := by simp at q2; omega
    rw [List.zip_append hl, List.map_append, List.any_append]
    have : rdT w n = .non := by unfold rdT; rw [h]
    show (_ || (isNon (rdT w n) || false)) = true
    rw [this]
    simp [isNon]
/-! ### lines -/
abbrev kBad : List (List Nat) := [[], [99, 104, 97, 110, 103, 101, 115], [115, 119, 97, 112, 115], [102, 105, 114, 115, 116, 115], [101, 118, 101, 114, 121, 115], [99, 111, 117, 110, 116, 115], [108, 101, 97, 100, 115, 115]]
inductive LineR (line : List Nat) (i : Nat) (cs : List Nat) (n : Nat) : D → Prop
  | short (h : (splt 32 line).length < 3) : LineR line i cs n .non
  | num {w u v : List Nat} {r : List (List Nat)} (h : splt 32 line = w :: u :: v :: r) (hw : w ≠ itxt i) : LineR line i cs n .non
  | key {k v : List Nat} {r : List (List Nat)} (h : splt 32 line = itxt i :: k :: v :: r) (hk : k ∈ kBad) : LineR line i cs n .non
  | rest (kd : Kd) {v : List Nat} {r : List (List Nat)} (h : splt 32 line = itxt i :: kd.name :: v :: r) : LineR line i cs n (rdRest kd (v :: r) cs n)
def Let (cs : List Nat) : Prop := ∀ c ∈ cs, 65 ≤ c ∧ c ≤ 122
theorem tgw_free {t : Tg} {n : Nat} (hn : n ≤ 10) (h : ∀ k, t.num = some k → k < n) {c : Nat} (hc : c < 48) : c ∉ t.w := by
  cases t with
  | wd b => cases b <;> simp [Tg.w] <;> omega
  | to k =>
    have hk := h k rfl
    show c ∉ itxt (k : Nat)
    rw [itxt_dig (by omega)]
    simp
    omega
theorem kind_free (l : Ln) {c : Nat} (hc : c < 48) : c ∉ l.kind := by
  cases l with
  | one s => cases s <;> simp [Ln.kind] <;> omega
  | _ => simp [Ln.kind]; omega
theorem ws_free {l : Ln} {cs : List Nat} {n c : Nat} (hn : n ≤ 10) (hl : Let cs) (h : l.ok cs n) (hc : c < 48) : ∀ w ∈ l.ws, c ∉ w := by
  have ch : ∀ a ∈ cs, c ∉ [a] := fun a ha => by have := hl a ha; simp; omega
  intro w hw
  cases l with
  | one s a b t =>
    obtain ⟨h1, h2, h3⟩ := h
    simp [Ln.ws] at hw
    rcases hw with rfl | rfl | rfl
    · exact ch a h1
    · exact ch b h2
    · exact tgw_free hn h3 hc
  | first a b t u =>
    obtain ⟨h1, h2, h3⟩ := h
    simp [Ln.ws] at hw
    rcases hw with rfl | rfl | rfl | rfl
    · exact ch a h1
    · exact ch b h2
    · exact tgw_free hn (fun k e => h3 k (.inl e)) hc
    · exact tgw_free hn (fun k e => h3 k (.inr e)) hc
  | every a b s t u =>
    obtain ⟨h1, h2, h5, h6, h3⟩ := h
    simp [Ln.ws] at hw
    rcases hw with rfl | rfl | rfl | rfl | rfl
    · exact ch a h1
    · exact ch b h2
    · rw [itxt_dig (by omega)]; simp; omega
    · exact tgw_free hn (fun k e => h3 k (.inl e)) hc
    · exact tgw_free hn (fun k e => h3 k (.inr e)) hc
  | leads a t u =>
    obtain ⟨h1, h3⟩ := h
    simp [Ln.ws] at hw
    rcases hw with rfl | rfl | rfl
    · exact ch a h1
    · exact tgw_free hn (fun k e => h3 k (.inl e)) hc
    · exact tgw_free hn (fun k e => h3 k (.inr e)) hc
  | count a ts =>
    obtain ⟨h1, h5, h6, h3⟩ := h
    simp [Ln.ws] at hw
    rcases hw with rfl | ⟨t, ht, rfl⟩
    · exact ch a h1
    · exact tgw_free hn (h3 t ht) hc
theorem words_free {l : Ln} {cs : List Nat} {n c i : Nat} (hi : i < 10) (hn : n ≤ 10) (hl : Let cs) (h : l.ok cs n) (hc : c < 48) : ∀ w ∈ wordsOf i l, c ∉ w := by
  intro w hw
  unfold wordsOf at hw
  rcases List.mem_cons.mp hw with rfl | hw
  · rw [itxt_dig hi]; simp; omega
  · rcases List.mem_cons.mp hw with rfl | hw
    · exact kind_free l hc
    · exact ws_free hn hl h hc w hw
theorem note_splt {l : Ln} {cs : List Nat} {n i : Nat} (hi : i < 10) (hn : n ≤ 10) (hl : Let cs) (h : l.ok cs n) : splt 32 (noteOf i l) = wordsOf i l :=
  splt_join _ (by simp [wordsOf]) (words_free hi hn hl h (by decide))
theorem ws_ne (l : Ln) : ∃ a r, l.ws = [a] :: r := by cases l <;> exact ⟨_, _, rfl⟩
theorem ws_char {l : Ln} {cs : List Nat} {n : Nat} (h : l.ok cs n) : ∃ a r, a ∈ cs ∧ l.ws = [a] :: r := by
  cases l with
  | one s a b t => exact ⟨a, _, h.1, rfl⟩
  | first a b t u => exact ⟨a, _, h.1, rfl⟩
  | every a b s t u => exact ⟨a, _, h.1, rfl⟩
  | count a ts => exact ⟨a, _, h.1, rfl⟩
  | leads a t u => exact ⟨a, _, h.1, rfl⟩
theorem line_ok {l : Ln} {cs : List Nat} {n i : Nat} (hi : i < 10) (hn : n ≤ 10) (hl : Let cs) (h : l.ok cs n) : LineR (noteOf i l) i cs n l.e := by
  obtain ⟨a, r, e⟩ := ws_ne l
  have hs := note_splt hi hn hl h
  unfold wordsOf at hs
  rw [l.kind_kd, e] at hs
  have := LineR.rest (cs := cs) (n := n) l.kd hs
  rw [← e, rdRest_ok hn h] at this
  exact this
end Z

/-! M77B: spoilt lines, heads. -/
namespace Z
open PySem PySem.Spec PyProof.Rows L2
theorem joinL_app {c : Nat} : ∀ (ws vs : List (List Nat)), ws ≠ [] → vs ≠ [] → joinL [c] (ws ++ vs) = joinL [c] ws ++ c :: joinL [c] vs
  | [], _, h, _ => absurd rfl h
  | [w], [], _, h => absurd rfl h
  | [w], v :: r, _, _ => by show w ++ [c] ++ joinL [c] (v :: r) = w ++ c :: joinL [c] (v :: r); rw [List.append_assoc]; rfl
  | w :: x :: r, vs, _, h => by
    show w ++ [c] ++ joinL [c] ((x :: r) ++ vs) = (w ++ [c] ++ joinL [c] (x :: r)) ++ c :: joinL [c] vs
    rw [joinL_app (x :: r) vs (by simp) h, List.append_assoc, List.append_assoc, List.append_assoc]
theorem joinL_cons {c : Nat} (w : List Nat) (vs : List (List Nat)) (h : vs ≠ []) : joinL [c] (w :: vs) = w ++ c :: joinL [c] vs := joinL_app [w] vs (by simp) h
theorem joinL_free {c d : Nat} (hd : c ≠ d) : ∀ (ws : List (List Nat)), (∀ w ∈ ws, c ∉ w) → c ∉ joinL [d] ws
  | [], _ => by simp [joinL]
  | [w], h => h w (by simp)
  | w :: x :: r, h => by
    have ih := joinL_free hd (x :: r) fun y hy => h y (by simp at hy ⊢; exact .inr hy)
    show c ∉ w ++ [d] ++ joinL [d] (x :: r)
    intro q
    rcases List.mem_append.mp q with q | q
    · rcases List.mem_append.mp q with q | q
      · exact h w (by simp) q
      · exact hd (by simpa using q)
    · exact ih q
abbrev wBigYes : List Nat := [89, 101, 115]
/-- the words of a spoilt line -/
def spW (i : Nat) (l : Ln) (n mk : Nat) (kind : Nat) : List (List Nat) :=
  let W := wordsOf i l
  let w2 := l.ws.headD []
  match kind with
  | 0 => W ++ [[]]
  | 1 => [] :: W
  | 2 => [[]]
  | 3 => W ++ List.replicate 7 wYes
  | 4 => itxt i :: [] :: l.kind :: l.ws
  | 5 => (48 :: itxt i) :: l.kind :: l.ws
  | 6 => itxt ((i : Int) + 1) :: l.kind :: l.ws
  | 7 => W.take (W.length - 1) ++ [wBigYes]
  | 8 => W.take (W.length - 1) ++ [itxt n]
  | 9 => [itxt i, l.kind ++ [115]] ++ l.ws
  | 10 => [itxt i, l.kind] ++ [[65 + mk]] ++ l.ws.tail
  | 11 => W.take (W.length - 1) ++ [[48, 48]]
  | 12 => [itxt i, l.kind]
  | 13 => [itxt i, l.kind] ++ [w2 ++ w2] ++ l.ws.tail
  | 14 => [itxt i, kEvery, w2, w2, [[48], [55], [48, 49], [45, 49]].getD (i % 4) [], wYes, wNo]
  | _ => [itxt i, kCount, w2] ++ List.replicate ([0, 7].getD (i % 2) 0) wYes
theorem ws_parts {l : Ln} {cs : List Nat} {n : Nat} (h : l.ok cs n) : ∃ a q z, a ∈ cs ∧ l.ws = [a] :: (q ++ [z]) := by
  cases l with
  | one s a b t => exact ⟨a, [[b]], t.w, h.1, rfl⟩
  | first a b t u => exact ⟨a, [[b], t.w], u.w, h.1, rfl⟩
  | every a b s t u => exact ⟨a, [[b], itxt s, t.w], u.w, h.1, rfl⟩
  | leads a t u => exact ⟨a, [t.w], u.w, h.1, rfl⟩
  | count a ts =>
    have h2 : ts ≠ [] := by intro e; have := h.2.1; rw [e] at this; simp at this
    refine ⟨a, (ts.dropLast).map Tg.w, (ts.getLast h2).w, h.1, ?_⟩
    show [a] :: ts.map Tg.w = _
    congr 1
    conv => lhs; rw [← List.dropLast_concat_getLast h2]
    rw [List.map_append]
    rfl
theorem LineR.bad {line : List Nat} {i : Nat} {cs : List Nat} {n : Nat} (kd : Kd) {v : List Nat} {r : List (List Nat)} (h : splt 32 line = itxt i :: kd.name :: v :: r) (e : rdRest kd (v :: r) cs n = .non) : LineR line i cs n .non := e ▸ .rest kd h
theorem take_last {W q : List (List Nat)} {z : List Nat} (h : W = q ++ [z]) : W.take (W.length - 1) = q := by
  subst h
  rw [List.length_append, List.length_singleton, Nat.add_sub_cancel, List.take_left]
theorem wordsOf_parts {i : Nat} {l : Ln} {a : Nat} {q : List (List Nat)} {z : List Nat} (e : l.ws = [a] :: (q ++ [z])) : wordsOf i l = (itxt i :: l.kind :: [a] :: q) ++ [z] := by unfold wordsOf; rw [e]; rfl
theorem lineR_of {line : List Nat} {i : Nat} {l : Ln} {n mk kind : Nat} {cs : List Nat} (hi : i < 9) (hn : n < 10) (hk : kind < 16) (h : l.ok cs n) (hm : 65 + mk ∉ cs) (hl : splt 32 line = spW i l n mk kind) : LineR line i cs n .non := by
  obtain ⟨a, q, z, ha, e⟩ := ws_parts h
  have ew := wordsOf_parts (i := i) e
  have et := take_last ew
  have hi1 : itxt ((i : Nat) : Int) = [48 + i] := itxt_dig (by omega)
  have hi2 : itxt ((i : Int) + 1) = [48 + (i + 1)] := itxt_dig (k := i + 1) (by omega)
  have ek := l.kind_kd
  rcases kind with _ | _ | _ | _ | _ | _ | _ | _ | _ | _ | _ | _ | _ | _ | _ | _ | kind
  · refine LineR.bad l.kd (v := [a]) (r := (q ++ [z]) ++ [[]]) (by rw [hl]; unfold spW; simp [ew, ek]) (rdRest_last (r := [a] :: (q ++ [z])) rfl)
  · exact .num (w := []) (u := itxt i) (v := l.kind) (r := [a] :: (q ++ [z])) (by rw [hl]; unfold spW; simp [ew]) (by rw [hi1]; simp)
  · exact .short (by rw [hl]; unfold spW; simp)
  · exact LineR.bad l.kd (v := [a]) (r := (q ++ [z]) ++ List.replicate 7 wYes) (by rw [hl]; unfold spW; simp [ew, ek]) (rdRest_long (by simp))
  · exact .key (k := []) (v := l.kind) (r := l.ws) (by rw [hl]; rfl) (by simp)
  · exact .num (w := 48 :: itxt i) (u := l.kind) (v := [a]) (r := q ++ [z]) (by rw [hl]; unfold spW; simp [e]) (by rw [hi1]; simp)
  · exact .num (w := itxt ((i : Int) + 1)) (u := l.kind) (v := [a]) (r := q ++ [z]) (by rw [hl]; unfold spW; simp [e]) (by rw [hi1, hi2]; simp)
  · exact LineR.bad l.kd (v := [a]) (r := q ++ [wBigYes]) (by rw [hl]; unfold spW; simp only [et]; simp [ek]) (rdRest_last (r := [a] :: q) rfl)
  · exact LineR.bad l.kd (v := [a]) (r := q ++ [itxt n]) (by rw [hl]; unfold spW; simp only [et]; simp [ek]) (rdRest_last (r := [a] :: q) (by
      rw [itxt_dig hn]
      unfold rdTg
      rw [if_neg (by simp), if_neg (by simp), plain_dig hn]
      exact if_neg (Nat.lt_irrefl n)))
  · refine .key (k := l.kind ++ [115]) (v := [a]) (r := q ++ [z]) (by rw [hl]; unfold spW; simp [e]) ?_
    rw [ek]
    cases l.kd <;> simp [Kd.name]
  · exact LineR.bad l.kd (v := [65 + mk]) (r := q ++ [z]) (by rw [hl]; unfold spW; simp [e, ek]) (rdRest_first fun b hb q => hm (by injection q with q; rw [q]; exact hb))
  · exact LineR.bad l.kd (v := [a]) (r := q ++ [[48, 48]]) (by rw [hl]; unfold spW; simp only [et]; simp [ek]) (rdRest_last (r := [a] :: q) (by simp [rdTg, plainN, dig]))
  · exact .short (by rw [hl]; unfold spW; simp)
  · exact LineR.bad l.kd (v := [a, a]) (r := q ++ [z]) (by rw [hl]; unfold spW; simp [e, ek]) (rdRest_first fun b hb q => by simp at q)
  · refine LineR.bad .every (v := [a]) (r := [[a], [[48], [55], [48, 49], [45, 49]].getD (i % 4) [], wYes, wNo]) (by rw [hl]; unfold spW; simp [e]; rfl) (rdRest_non (.inl ?_))
    have : ∀ k : Fin 4, rdN (([[48], [55], [48, 49], [45, 49]] : List (List Nat)).getD k.val []) = .non := by
      intro k
      have e : ∀ k : Fin 4, (plainN (([[48], [55], [48, 49], [45, 49]] : List (List Nat)).getD k.val [])) = none ∨ (∃ j, plainN (([[48], [55], [48, 49], [45, 49]] : List (List Nat)).getD k.val []) = some j ∧ ¬ (1 ≤ j ∧ j ≤ 6)) := by
        intro k
        match k with
        | ⟨0, _⟩ => exact .inr ⟨0, rfl, by decide⟩
        | ⟨1, _⟩ => exact .inr ⟨7, rfl, by decide⟩
        | ⟨2, _⟩ => exact .inl rfl
        | ⟨3, _⟩ => exact .inl rfl
      rcases e k with e | ⟨j, e, e2⟩
      · unfold rdN; rw [e]
      · unfold rdN; rw [e]; exact if_neg e2
    have h4 := this ⟨i % 4, Nat.mod_lt _ (by decide)⟩
    simp [itsOf, Kd.sh, Kd.shape, rdW]
    rw [show rdN ([[48], [55], [48, 49], [45, 49]][i % 4]?.getD []) = .non by rw [← List.getD_eq_getElem?_getD]; exact h4]
    simp [isNon]
  · have h2 : i % 2 = 0 ∨ i % 2 = 1 := by omega
    rcases h2 with h2 | h2
    · exact LineR.bad .count (v := [a]) (r := []) (by rw [hl]; unfold spW; simp [e, h2]; rfl) (rdRest_non (.inr (by simp [Kd.sh])))
    · exact LineR.bad .count (v := [a]) (r := List.replicate 7 wYes) (by rw [hl]; unfold spW; simp [e, h2]; rfl) (rdRest_long (by simp))
  · omega
theorem spW_free {i : Nat} {l : Ln} {n mk kind : Nat} {cs : List Nat} (hi : i < 9) (hn : n < 10) (hk : kind < 16) (hl : Let cs) (h : l.ok cs n) {c : Nat} (hc : c < 45) : ∀ w ∈ spW i l n mk kind, c ∉ w := by
  have hw := words_free (i := i) (c := c) (by omega) (by omega : n ≤ 10) hl h (by omega)
  have hws := ws_free (c := c) (by omega : n ≤ 10) hl h (by omega)
  have hkd := kind_free l (c := c) (by omega)
  have h1 : c ∉ itxt ((i : Nat) : Int) := by rw [itxt_dig (by omega)]; simp; omega
  have h2 : c ∉ itxt ((i : Int) + 1) := by rw [show (i : Int) + 1 = ((i + 1 : Nat) : Int) from rfl, itxt_dig (by omega)]; simp; omega
  have h3 : c ∉ itxt ((n : Nat) : Int) := by rw [itxt_dig (by omega)]; simp; omega
  obtain ⟨a, q, z, ha, e⟩ := ws_parts h
  have h4 : c ∉ l.ws.headD [] := by rw [e]; exact hws [a] (by rw [e]; simp)
  have h5 : ∀ w ∈ l.ws.tail, c ∉ w := fun w hw => hws w (List.mem_of_mem_tail hw)
  have h6 : ∀ m, ∀ w ∈ (wordsOf i l).take m, c ∉ w := fun m w hq => hw w (List.mem_of_mem_take hq)
  have hy : c ∉ wYes := by simp; omega
  have hrep : ∀ m, ∀ w ∈ List.replicate m wYes, c ∉ w := fun m w hq => by rw [List.eq_of_mem_replicate hq]; exact hy
  intro w
  rcases kind with _ | _ | _ | _ | _ | _ | _ | _ | _ | _ | _ | _ | _ | _ | _ | _ | kind
  · intro q; rcases List.mem_append.mp q with q | q
    · exact hw w q
    · simp at q; subst q; simp
  · intro q; rcases List.mem_cons.mp q with q | q
    · subst q; simp
    · exact hw w q
  · intro q; simp [spW] at q; subst q; simp
  · intro q; rcases List.mem_append.mp q with q | q
    · exact hw w q
    · exact hrep 7 w q
  · intro q; simp [spW] at q; rcases q with rfl | rfl | rfl | q
    · exact h1
    · simp
    · exact hkd
    · exact hws w q
  · intro q; simp [spW] at q; rcases q with rfl | rfl | q
    · simp only [List.mem_cons, not_or]; exact ⟨by omega, h1⟩
    · exact hkd
    · exact hws w q
  · intro q; simp [spW] at q; rcases q with rfl | rfl | q
    · exact h2
    · exact hkd
    · exact hws w q
  · intro q; rcases List.mem_append.mp q with q | q
    · exact h6 _ w q
    · simp at q; subst q; simp; omega
  · intro q; rcases List.mem_append.mp q with q | q
    · exact h6 _ w q
    · simp at q; subst q; exact h3
  · intro q; simp [spW] at q; rcases q with rfl | rfl | q
    · exact h1
    · intro q; rcases List.mem_append.mp q with q | q
      · exact hkd q
      · simp at q; omega
    · exact hws w q
  · intro q; simp [spW] at q; rcases q with rfl | rfl | rfl | q
    · exact h1
    · exact hkd
    · simp; omega
    · exact h5 w (by simpa using q)
  · intro q; rcases List.mem_append.mp q with q | q
    · exact h6 _ w q
    · simp at q; subst q; simp; omega
  · intro q; simp [spW] at q; rcases q with rfl | rfl
    · exact h1
    · exact hkd
  · intro q
    have q : w ∈ ([itxt i, l.kind] ++ [l.ws.headD [] ++ l.ws.headD []] ++ l.ws.tail) := q
    rcases List.mem_append.mp q with q | q
    · rcases List.mem_append.mp q with q | q
      · simp at q; rcases q with rfl | rfl
        · exact h1
        · exact hkd
      · rw [List.mem_singleton] at q; subst q
        intro q; rcases List.mem_append.mp q with q | q
        · exact h4 q
        · exact h4 q
    · exact h5 w q
  · intro q
    have q : w ∈ [itxt i, kEvery, l.ws.headD [], l.ws.headD [], [[48], [55], [48, 49], [45, 49]].getD (i % 4) [], wYes, wNo] := q
    have h7 : ∀ k : Fin 4, ∀ x ∈ (([[48], [55], [48, 49], [45, 49]] : List (List Nat)).getD k.val []), 45 ≤ x := by decide
    have h8 := h7 ⟨i % 4, Nat.mod_lt _ (by decide)⟩
    simp only [List.mem_cons, List.not_mem_nil, or_false] at q
    rcases q with rfl | rfl | rfl | rfl | rfl | rfl | rfl
    · exact h1
    · simp; omega
    · exact h4
    · exact h4
    · intro q; have := h8 c q; omega
    · exact hy
    · simp; omega
  · intro q
    have q : w ∈ ([itxt i, kCount, l.ws.headD []] ++ List.replicate ([0, 7].getD (i % 2) 0) wYes) := q
    rcases List.mem_append.mp q with q | q
    · simp only [List.mem_cons, List.not_mem_nil, or_false] at q
      rcases q with rfl | rfl | rfl
      · exact h1
      · simp; omega
      · exact h4
    · exact hrep _ w q
  · omega
theorem spW_ne (i : Nat) (l : Ln) (n mk kind : Nat) : spW i l n mk kind ≠ [] := by
  rcases kind with _ | _ | _ | _ | _ | _ | _ | _ | _ | _ | _ | _ | _ | _ | _ | kind <;> simp [spW]
/-! ### heads -/
abbrev kProg : List Nat := [112, 114, 111, 103, 114, 97, 109]
def NotRight (l : List Nat) : Prop := ∃ q, l = q ++ [97] ∧ q ≠ [] ∧ q.length ≤ 3 ∧ ∀ c ∈ q, 97 ≤ c ∧ c ≤ 122
inductive HeadR (line : List Nat) : D → Prop
  | len (h : (splt 32 line).length ≠ 3) : HeadR line .non
  | name {p l m : List Nat} (h : splt 32 line = [p, l, m]) (hp : p ≠ kProg) : HeadR line .non
  | lets {l m : List Nat} (h : splt 32 line = [kProg, l, m]) (hl : NotRight l) : HeadR line .non
  | mk {l m : List Nat} (h : splt 32 line = [kProg, l, m]) (hl : Right l) (hm : m ∉ ([[48], [49], [50], [51], [52], [53]] : List (List Nat))) : HeadR line .non
  | ok {l : List Nat} {k : Nat} (h : splt 32 line = [kProg, l, [48 + k]]) (hl : Right l) (hk : k ≤ 5) : HeadR line (.tup [.str (tx l), .int k])
theorem right_free {l : List Nat} (h : Right l) {c : Nat} (hc : c < 97) : c ∉ l := fun q => by have := (h.2.2.2 c q).1; omega
def headOf (lt : List Nat) (mk : Nat) : List Nat := joinL [32] [kProg, lt, itxt mk]
theorem head_free {lt : List Nat} (h : Right lt) {mk : Nat} (hm : mk ≤ 5) {c : Nat} (hc : c < 48) : ∀ w ∈ [kProg, lt, itxt mk], c ∉ w := by
  intro w hw
  simp at hw
  rcases hw with rfl | rfl | rfl
  · simp; omega
  · exact right_free h (by omega)
  · rw [itxt_dig (by omega)]; simp; omega
theorem head_ok {lt : List Nat} (h : Right lt) {mk : Nat} (hm : mk ≤ 5) : HeadR (headOf lt mk) (.tup [.str (tx lt), .int mk]) := by
  refine .ok ?_ h hm
  unfold headOf
  rw [splt_join _ (by simp) (head_free h hm (by decide)), itxt_dig (by omega)]
/-- the law's wrong heads, as words -/
def badH (lt : List Nat) : List (List (List Nat)) :=
  [[kProg, lt, [54]], [kProg, lt], [kProg, [], lt, [48]], [[80, 114, 111, 103, 114, 97, 109], lt, [48]], [kProg, lt.reverse ++ [97], [48]], [kProg, lt, [48, 48]], [[]], [kProg, lt, [49], []]]
theorem badH_free {lt : List Nat} (h : Right lt) {c : Nat} (hc : c < 48) : ∀ ws ∈ badH lt, ∀ w ∈ ws, c ∉ w := by
  have h1 := right_free h (c := c) (by omega)
  have h2 : c ∉ lt.reverse ++ [97] := by
    intro q
    rcases List.mem_append.mp q with q | q
    · exact h1 (List.mem_reverse.mp q)
    · simp at q; omega
  have hp : c ∉ kProg := by simp; omega
  intro ws hws w hw
  simp only [badH, List.mem_cons, List.not_mem_nil, or_false] at hws
  rcases hws with rfl | rfl | rfl | rfl | rfl | rfl | rfl | rfl <;> simp only [List.mem_cons, List.not_mem_nil, or_false] at hw
  · rcases hw with rfl | rfl | rfl <;> first | assumption | (simp; omega)
  · rcases hw with rfl | rfl <;> first | assumption | (simp; omega)
  · rcases hw with rfl | rfl | rfl | rfl <;> first | assumption | (simp; done) | (simp; omega)
  · rcases hw with rfl | rfl | rfl <;> first | assumption | (simp; omega)
  · rcases hw with rfl | rfl | rfl <;> first | assumption | (simp; omega)
  · rcases hw with rfl | rfl | rfl <;> first | assumption | (simp; omega)
  · subst hw; simp
  · rcases hw with rfl | rfl | rfl | rfl <;> first | assumption | (simp; done) | (simp; omega)
theorem badH_non {lt : List Nat} (h : Right lt) {ws : List (List Nat)} (hw : ws ∈ badH lt) : HeadR (joinL [32] ws) .non := by
  have hf := badH_free h (c := 32) (by decide) ws hw
  have hs : ws ≠ [] → splt 32 (joinL [32] ws) = ws := fun e => splt_join _ e hf
  simp only [badH, List.mem_cons, List.not_mem_nil, or_false] at hw
  rcases hw with rfl | rfl | rfl | rfl | rfl | rfl | rfl | rfl
  · exact .mk (hs (by simp)) h (by simp)
  · exact .len (by rw [hs (by simp)]; simp)
  · exact .len (by rw [hs (by simp)]; simp)
  · exact .name (hs (by simp)) (by simp)
  · refine .lets (hs (by simp)) ⟨lt.reverse, rfl, ?_, ?_, fun c hc => h.2.2.2 c (List.mem_reverse.mp hc)⟩
    · have := h.1
      intro e
      have := congrArg List.length e
      rw [List.length_reverse] at this
      simp at this
      have h1 := h.1
      rw [this] at h1
      simp at h1
    · rw [List.length_reverse]; exact h.2.1
  · exact .mk (hs (by simp)) h (by simp)
  · exact .len (by rw [hs (by simp)]; simp)
  · exact .len (by rw [hs (by simp)]; simp)
end Z

/-! M77C: the program's whole text; lengths. -/
namespace Z
open PySem PySem.Spec PyProof.Rows L2
theorem joinL_len {c b : Nat} : ∀ (ws : List (List Nat)), (∀ w ∈ ws, w.length ≤ b) → (joinL [c] ws).length ≤ (b + 1) * ws.length
  | [], _ => by simp [joinL]
  | [w], h => by have := h w (by simp); show w.length ≤ _; simp; omega
  | w :: x :: r, h => by
    have ih := joinL_len (c := c) (x :: r) fun y hy => h y (by simp at hy ⊢; exact .inr hy)
    have h1 := h w (by simp)
    show (w ++ [c] ++ joinL [c] (x :: r)).length ≤ _
    rw [List.length_append, List.length_append, List.length_cons (as := x :: r), Nat.mul_succ, List.length_singleton]
    omega
theorem joinL_nest {c : Nat} : ∀ (ws vs : List (List Nat)), vs ≠ [] → joinL [c] (ws ++ [joinL [c] vs]) = joinL [c] (ws ++ vs)
  | [], vs, h => rfl
  | w :: r, vs, h => by
    rw [List.cons_append, List.cons_append, joinL_cons _ _ (by simp), joinL_cons _ _ (by simp [h]), joinL_nest r vs h]
theorem spl_len (c : Nat) : ∀ (l acc : List Nat), ∀ w ∈ TL.spl [c] 0 acc l, w.length ≤ acc.length + l.length
  | [], acc, w, hw => by rw [TL.spl_nil] at hw; simp at hw; subst hw; simp
  | x :: r, acc, w, hw => by
    cases h : TL.pre [c] (x :: r) with
    | true =>
      rw [TL.spl_hit h] at hw
      rcases List.mem_cons.mp hw with rfl | hw
      · simp
      · have := spl_len c r [] w hw
        simp at this ⊢; omega
    | false =>
      rw [TL.spl_miss h] at hw
      have := spl_len c r _ w hw
      simp at this ⊢; omega
theorem splt_len {c : Nat} {a w : List Nat} (h : w ∈ splt c a) : w.length ≤ a.length := by have := spl_len c a [] w h; simpa using this
theorem spl_many (c : Nat) : ∀ (l acc : List Nat), (TL.spl [c] 0 acc l).length ≤ l.length + 1
  | [], acc => by rw [TL.spl_nil]; simp
  | x :: r, acc => by
    cases h : TL.pre [c] (x :: r) with
    | true => rw [TL.spl_hit h]; have := spl_many c r []; simp at this ⊢; omega
    | false => rw [TL.spl_miss h]; have := spl_many c r (acc ++ [x]); simp at this ⊢; omega
theorem splt_many (c : Nat) (a : List Nat) : (splt c a).length ≤ a.length + 1 := spl_many c a []
abbrev marks5 : List Nat := [65, 66, 67, 68, 69]
def csOf (lt : List Nat) (mk : Nat) : List Nat := lt ++ marks5.take mk
theorem csOf_let {lt : List Nat} (h : Right lt) (mk : Nat) : Let (csOf lt mk) := by
  intro c hc
  rcases List.mem_append.mp hc with q | q
  · have := h.2.2.2 c q; omega
  · have := List.mem_of_mem_take q
    simp at this; omega
theorem csOf_mono {lt : List Nat} {m k : Nat} (h : m ≤ k) {c : Nat} (hc : c ∈ csOf lt m) : c ∈ csOf lt k := by
  rcases List.mem_append.mp hc with q | q
  · exact List.mem_append_left _ q
  · exact List.mem_append_right _ ((List.take_subset_take_left _ h) q)
theorem csOf_not {lt : List Nat} (h : Right lt) (mk : Nat) : 65 + mk ∉ csOf lt mk ∨ 5 < mk := by
  by_cases h5 : 5 < mk
  · exact .inr h5
  · refine .inl fun q => ?_
    rcases List.mem_append.mp q with q | q
    · have := (h.2.2.2 _ q).1; omega
    · have : ∀ k : Fin 6, 65 + k.val ∉ marks5.take k.val := by decide
      exact this ⟨mk, by omega⟩ q
theorem Ln.ok_mono {cs ds : List Nat} {n : Nat} {l : Ln} (hs : ∀ c ∈ cs, c ∈ ds) (h : l.ok cs n) : l.ok ds n := by
  cases l with
  | one s a b t => exact ⟨hs _ h.1, hs _ h.2.1, h.2.2⟩
  | first a b t u => exact ⟨hs _ h.1, hs _ h.2.1, h.2.2⟩
  | every a b s t u => exact ⟨hs _ h.1, hs _ h.2.1, h.2.2⟩
  | count a ts => exact ⟨hs _ h.1, h.2⟩
  | leads a t u => exact ⟨hs _ h.1, h.2⟩
/-- more marks and longer counts -/
def wid (r0 r1 : Int) : Ln → Ln
  | .count a ts => if r0 = 0 then .count a ((rep2 6 ts).take (1 + r1).toNat) else .count a ts
  | .every a b _ t u => .every a b (1 + r1).toNat t u
  | l => l
theorem rep2_mem {α : Type} {n : Nat} {l : List α} {x : α} (h : x ∈ rep2 n l) : x ∈ l := by
  unfold rep2 at h
  rw [List.mem_flatten] at h
  obtain ⟨m, hm, hx⟩ := h
  rw [List.eq_of_mem_replicate hm] at hx
  exact hx
theorem rep2_len {α : Type} (n : Nat) (l : List α) : (rep2 n l).length = n * l.length := by
  unfold rep2
  rw [List.length_flatten, List.map_replicate, List.sum_replicate_nat]
theorem wid_ok {r0 r1 : Int} (h0 : 0 ≤ r1) (h1 : r1 < 6) {cs : List Nat} {n : Nat} {l : Ln} (h : l.ok cs n) : (wid r0 r1 l).ok cs n := by
  cases l with
  | one s a b t => exact h
  | first a b t u => exact h
  | every a b s t u => exact ⟨h.1, h.2.1, by omega, by omega, h.2.2.2.2⟩
  | leads a t u => exact h
  | count a ts =>
    unfold wid
    simp only
    split
    · refine ⟨h.1, ?_, ?_, fun t ht => h.2.2.2 t (rep2_mem (List.mem_of_mem_take ht))⟩
      · rw [List.length_take, rep2_len]; have := h.2.1; omega
      · rw [List.length_take]; omega
    · exact h
theorem w_len {t : Tg} {n : Nat} (hn : n ≤ 10) (h : ∀ k, t.num = some k → k < n) : t.w.length ≤ 3 := by
  cases t with
  | wd b => cases b <;> simp [Tg.w]
  | to k => show (itxt (k : Nat)).length ≤ 3; rw [itxt_dig (by have := h k rfl; omega)]; simp
theorem ws_len {l : Ln} {cs : List Nat} {n : Nat} (hn : n ≤ 10) (h : l.ok cs n) : l.ws.length ≤ 7 ∧ ∀ w ∈ l.ws, w.length ≤ 6 := by
  cases l with
  | one s a b t =>
    have := w_len hn h.2.2
    refine ⟨by simp [Ln.ws], fun w hw => ?_⟩
    simp [Ln.ws] at hw
    rcases hw with rfl | rfl | rfl <;> first | (simp; done) | omega
  | first a b t u =>
    have := w_len hn fun k e => h.2.2 k (.inl e)
    have := w_len hn fun k e => h.2.2 k (.inr e)
    refine ⟨by simp [Ln.ws], fun w hw => ?_⟩
    simp [Ln.ws] at hw
    rcases hw with rfl | rfl | rfl | rfl <;> first | (simp; done) | omega
  | every a b s t u =>
    obtain ⟨h1, h2, h5, h6, h3⟩ := h
    have := w_len hn fun k e => h3 k (.inl e)
    have := w_len hn fun k e => h3 k (.inr e)
    have e : (itxt (s : Nat)).length ≤ 6 := by rw [itxt_dig (by omega)]; simp
    refine ⟨by simp [Ln.ws], fun w hw => ?_⟩
    simp [Ln.ws] at hw
    rcases hw with rfl | rfl | rfl | rfl | rfl <;> first | (simp; done) | omega
  | leads a t u =>
    have := w_len hn fun k e => h.2 k (.inl e)
    have := w_len hn fun k e => h.2 k (.inr e)
    refine ⟨by simp [Ln.ws], fun w hw => ?_⟩
    simp [Ln.ws] at hw
    rcases hw with rfl | rfl | rfl <;> first | (simp; done) | omega
  | count a ts =>
    refine ⟨by have := h.2.2.1; simp [Ln.ws]; omega, fun w hw => ?_⟩
    simp [Ln.ws] at hw
    rcases hw with rfl | ⟨t, ht, rfl⟩
    · simp
    · have := w_len hn (h.2.2.2 t ht); omega
theorem kind_len (l : Ln) : l.kind.length ≤ 6 := by
  cases l with
  | one s => cases s <;> simp [Ln.kind]
  | _ => simp [Ln.kind]
theorem words_len {l : Ln} {cs : List Nat} {n i : Nat} (hi : i < 10) (hn : n ≤ 10) (h : l.ok cs n) : (wordsOf i l).length ≤ 9 ∧ ∀ w ∈ wordsOf i l, w.length ≤ 6 := by
  obtain ⟨h1, h2⟩ := ws_len hn h
  refine ⟨by unfold wordsOf; simp; omega, fun w hw => ?_⟩
  unfold wordsOf at hw
  rcases List.mem_cons.mp hw with rfl | hw
  · rw [itxt_dig hi]; simp
  · rcases List.mem_cons.mp hw with rfl | hw
    · exact kind_len l
    · exact h2 w hw
theorem note_len {l : Ln} {cs : List Nat} {n i : Nat} (hi : i < 10) (hn : n ≤ 10) (h : l.ok cs n) : (noteOf i l).length ≤ 63 := by
  obtain ⟨h1, h2⟩ := words_len hi hn h
  have := joinL_len (c := 32) _ h2
  unfold noteOf
  omega
/-- a program's notes, its text -/
def notesFrom (k : Nat) : List Ln → List (List Nat)
  | [] => []
  | l :: r => noteOf k l :: notesFrom (k + 1) r
theorem notes_len (ls : List Ln) : ∀ k, (notesFrom k ls).length = ls.length := by
  induction ls with
  | nil => intro k; rfl
  | cons l r ih => intro k; show (notesFrom (k + 1) r).length + 1 = _; rw [ih]; rfl
theorem notes_at : ∀ (ls : List Ln) (k i : Nat), (notesFrom k ls)[i]? = (ls[i]?).map fun l => noteOf (k + i) l
  | [], k, i => by simp [notesFrom]
  | l :: r, k, 0 => by simp [notesFrom]
  | l :: r, k, i + 1 => by
    show (notesFrom (k + 1) r)[i]? = _
    rw [notes_at r (k + 1) i, List.getElem?_cons_succ]
    congr 1
    funext l
    rw [show k + 1 + i = k + (i + 1) by omega]
def progT (lt : List Nat) (mk : Nat) (ls : List Ln) : List Nat := joinL [10] (headOf lt mk :: notesFrom 0 ls)
end Z

namespace L
open PySem PySem.Spec PyProof.Rows L2 Z

def top (i : Nat) : Stmt := PySem.Challenge.pw_straightclock_k77_written_programs.main.body.getD i (.Pass ⟨0, 0, 0, 0⟩)
abbrev s__law_digits : Stmt := top 36
abbrev N__law_digits : List Str := ["cell", "sizes", "row", "rest", "size", "seed", "k", "twice"]
theorem sc__law_digits : FnScope N__law_digits ["cell", "sizes"] (defScope s__law_digits) := ⟨rfl, rfl, rfl, by decide +kernel, rfl, by decide +kernel, by decide +kernel⟩
abbrev s__law_wider : Stmt := top 43
abbrev N__law_wider : List Str := ["told", "row", "lines", "line"]
theorem sc__law_wider : FnScope N__law_wider ["told", "row"] (defScope s__law_wider) := ⟨rfl, rfl, rfl, by decide +kernel, rfl, by decide +kernel, by decide +kernel⟩
abbrev s_are_letters : Stmt := top 9
abbrev N_are_letters : List Str := ["letters", "places", "letter"]
theorem sc_are_letters : FnScope N_are_letters ["letters"] (defScope s_are_letters) := ⟨rfl, rfl, rfl, by decide +kernel, rfl, by decide +kernel, by decide +kernel⟩
abbrev s_read_head : Stmt := top 28
abbrev N_read_head : List Str := ["line", "words"]
theorem sc_read_head : FnScope N_read_head ["line"] (defScope s_read_head) := ⟨rfl, rfl, rfl, by decide +kernel, rfl, by decide +kernel, by decide +kernel⟩
abbrev s_check_letters : Stmt := top 10
abbrev N_check_letters : List Str := ["letters"]
theorem sc_check_letters : FnScope N_check_letters ["letters"] (defScope s_check_letters) := ⟨rfl, rfl, rfl, by decide +kernel, rfl, by decide +kernel, by decide +kernel⟩
abbrev s_frozen : Stmt := top 7
abbrev N_frozen : List Str := ["value", "part"]
theorem sc_frozen : FnScope N_frozen ["value"] (defScope s_frozen) := ⟨rfl, rfl, rfl, by decide +kernel, rfl, by decide +kernel, by decide +kernel⟩
abbrev s_is_whole : Stmt := top 8
abbrev N_is_whole : List Str := ["value"]
theorem sc_is_whole : FnScope N_is_whole ["value"] (defScope s_is_whole) := ⟨rfl, rfl, rfl, by decide +kernel, rfl, by decide +kernel, by decide +kernel⟩
abbrev s_is_target : Stmt := top 14
abbrev N_is_target : List Str := ["value", "sweeps"]
theorem sc_is_target : FnScope N_is_target ["value", "sweeps"] (defScope s_is_target) := ⟨rfl, rfl, rfl, by decide +kernel, rfl, by decide +kernel, by decide +kernel⟩
abbrev s_is_item : Stmt := top 21
abbrev N_is_item : List Str := ["shape", "item", "characters", "lines", "target"]
theorem sc_is_item : FnScope N_is_item ["shape", "item", "characters", "lines"] (defScope s_is_item) := ⟨rfl, rfl, rfl, by decide +kernel, rfl, by decide +kernel, by decide +kernel⟩
abbrev s_is_line : Stmt := top 22
abbrev N_is_line : List Str := ["line", "characters", "lines", "shapes", "at", "shape"]
theorem sc_is_line : FnScope N_is_line ["line", "characters", "lines"] (defScope s_is_line) := ⟨rfl, rfl, rfl, by decide +kernel, rfl, by decide +kernel, by decide +kernel⟩
abbrev s_characters_of : Stmt := top 20
abbrev N_characters_of : List Str := ["letters", "marks"]
theorem sc_characters_of : FnScope N_characters_of ["letters", "marks"] (defScope s_characters_of) := ⟨rfl, rfl, rfl, by decide +kernel, rfl, by decide +kernel, by decide +kernel⟩
abbrev s_Program : Stmt := inClass (top 23) 0
abbrev N_Program : List Str := ["self", "letters", "marks", "lines", "told", "index", "line"]
theorem sc_Program : FnScope N_Program ["self", "letters", "marks", "lines"] (defScope s_Program) := ⟨rfl, rfl, rfl, by decide +kernel, rfl, by decide +kernel, by decide +kernel⟩
abbrev s_plain_number : Stmt := top 12
abbrev N_plain_number : List Str := ["word", "digits", "sign"]
theorem sc_plain_number : FnScope N_plain_number ["word", "digits"] (defScope s_plain_number) := ⟨rfl, rfl, rfl, by decide +kernel, rfl, by decide +kernel, by decide +kernel⟩
abbrev s_read_target : Stmt := top 29
abbrev N_read_target : List Str := ["word", "lines", "number"]
theorem sc_read_target : FnScope N_read_target ["word", "lines"] (defScope s_read_target) := ⟨rfl, rfl, rfl, by decide +kernel, rfl, by decide +kernel, by decide +kernel⟩
abbrev s_read_word : Stmt := top 30
abbrev N_read_word : List Str := ["shape", "word", "characters", "lines", "number"]
theorem sc_read_word : FnScope N_read_word ["shape", "word", "characters", "lines"] (defScope s_read_word) := ⟨rfl, rfl, rfl, by decide +kernel, rfl, by decide +kernel, by decide +kernel⟩
abbrev s_read_line : Stmt := top 31
abbrev N_read_line : List Str := ["line", "at", "characters", "lines", "words", "shapes", "items", "place", "shape"]
theorem sc_read_line : FnScope N_read_line ["line", "at", "characters", "lines"] (defScope s_read_line) := ⟨rfl, rfl, rfl, by decide +kernel, rfl, by decide +kernel, by decide +kernel⟩
abbrev s_parse_program : Stmt := top 32
abbrev N_parse_program : List Str := ["string", "lines", "told", "found", "at", "line", "read"]
theorem sc_parse_program : FnScope N_parse_program ["string"] (defScope s_parse_program) := ⟨rfl, rfl, rfl, by decide +kernel, rfl, by decide +kernel, by decide +kernel⟩
abbrev s__law_word : Stmt := top 41
abbrev N__law_word : List Str := ["target"]
theorem sc__law_word : FnScope N__law_word ["target"] (defScope s__law_word) := ⟨rfl, rfl, rfl, by decide +kernel, rfl, by decide +kernel, by decide +kernel⟩
abbrev s__law_note : Stmt := top 42
abbrev N__law_note : List Str := ["at", "line", "words", "item", "target"]
theorem sc__law_note : FnScope N__law_note ["at", "line"] (defScope s__law_note) := ⟨rfl, rfl, rfl, by decide +kernel, rfl, by decide +kernel, by decide +kernel⟩
abbrev s__law_spoilt : Stmt := top 44
abbrev N__law_spoilt : List Str := ["at", "line", "many", "marks", "kind", "note", "words"]
theorem sc__law_spoilt : FnScope N__law_spoilt ["at", "line", "many", "marks", "kind"] (defScope s__law_spoilt) := ⟨rfl, rfl, rfl, by decide +kernel, rfl, by decide +kernel, by decide +kernel⟩
abbrev s__law_cell : Stmt := top 35
abbrev N__law_cell : List Str := ["script", "k", "seed", "cell"]
theorem sc__law_cell : FnScope N__law_cell ["script", "k"] (defScope s__law_cell) := ⟨rfl, rfl, rfl, by decide +kernel, rfl, by decide +kernel, by decide +kernel⟩
abbrev s__law_letters : Stmt := top 37
abbrev N__law_letters : List Str := ["row", "names", "second", "third"]
theorem sc__law_letters : FnScope N__law_letters ["row"] (defScope s__law_letters) := ⟨rfl, rfl, rfl, by decide +kernel, rfl, by decide +kernel, by decide +kernel⟩
abbrev s__law_target : Stmt := top 38
abbrev N__law_target : List Str := ["digit", "at", "many", "loops", "choices", "target"]
theorem sc__law_target : FnScope N__law_target ["digit", "at", "many", "loops"] (defScope s__law_target) := ⟨rfl, rfl, rfl, by decide +kernel, rfl, by decide +kernel, by decide +kernel⟩
abbrev s__law_line : Stmt := top 39
abbrev N__law_line : List Str := ["row", "at", "many", "characters", "loops", "kind", "one", "two", "targets", "k"]
theorem sc__law_line : FnScope N__law_line ["row", "at", "many", "characters", "loops"] (defScope s__law_line) := ⟨rfl, rfl, rfl, by decide +kernel, rfl, by decide +kernel, by decide +kernel⟩
abbrev s__law_program : Stmt := top 40
abbrev N__law_program : List Str := ["script", "at", "longest", "loops", "letters", "shape", "characters", "many", "lines", "k", "row"]
theorem sc__law_program : FnScope N__law_program ["script", "at", "longest", "loops"] (defScope s__law_program) := ⟨rfl, rfl, rfl, by decide +kernel, rfl, by decide +kernel, by decide +kernel⟩
abbrev s_target_note : Stmt := top 25
abbrev N_target_note : List Str := ["target"]
theorem sc_target_note : FnScope N_target_note ["target"] (defScope s_target_note) := ⟨rfl, rfl, rfl, by decide +kernel, rfl, by decide +kernel, by decide +kernel⟩
abbrev s_item_note : Stmt := top 26
abbrev N_item_note : List Str := ["shape", "item", "target"]
theorem sc_item_note : FnScope N_item_note ["shape", "item"] (defScope s_item_note) := ⟨rfl, rfl, rfl, by decide +kernel, rfl, by decide +kernel, by decide +kernel⟩
abbrev s_format_program : Stmt := top 27
abbrev N_format_program : List Str := ["program", "lines", "at", "line", "words", "place", "shape"]
theorem sc_format_program : FnScope N_format_program ["program"] (defScope s_format_program) := ⟨rfl, rfl, rfl, by decide +kernel, rfl, by decide +kernel, by decide +kernel⟩
abbrev s__law_whole : Stmt := top 34
abbrev N__law_whole : List Str := ["value"]
theorem sc__law_whole : FnScope N__law_whole ["value"] (defScope s__law_whole) := ⟨rfl, rfl, rfl, by decide +kernel, rfl, by decide +kernel, by decide +kernel⟩
abbrev s__law_is_refused : Stmt := top 45
abbrev N__law_is_refused : List Str := ["string", "due", "e"]
theorem sc__law_is_refused : FnScope N__law_is_refused ["string", "due"] (defScope s__law_is_refused) := ⟨rfl, rfl, rfl, by decide +kernel, rfl, by decide +kernel, by decide +kernel⟩
abbrev s_law : Stmt := top 46
abbrev N_law : List Str := ["script", "row", "told", "letters", "head", "notes", "string", "again", "place", "bad", "heads", "k"]
theorem sc_law : FnScope N_law ["script"] (defScope s_law) := ⟨rfl, rfl, rfl, by decide +kernel, rfl, by decide +kernel, by decide +kernel⟩
abbrev s_BadLetters : Stmt := inClass (top 2) 0
theorem sc_BadLetters : FnScope ["self", "letters"] ["self", "letters"] (defScope s_BadLetters) := ⟨rfl, rfl, rfl, by decide +kernel, rfl, by decide +kernel, by decide +kernel⟩
abbrev s_BadLine : Stmt := inClass (top 3) 0
theorem sc_BadLine : FnScope ["self", "line"] ["self", "line"] (defScope s_BadLine) := ⟨rfl, rfl, rfl, by decide +kernel, rfl, by decide +kernel, by decide +kernel⟩
abbrev s_BadProgram : Stmt := inClass (top 4) 0
theorem sc_BadProgram : FnScope ["self", "index"] ["self", "index"] (defScope s_BadProgram) := ⟨rfl, rfl, rfl, by decide +kernel, rfl, by decide +kernel, by decide +kernel⟩
structure Tx (w : World) (K : PySem.W.Frag) (mg : Str → Option Value) : Prop where
  f_all : mg "all" = none
  f_bool : mg "bool" = none
  f_enumerate : mg "enumerate" = none
  f_int : mg "int" = none
  f_isinstance : mg "isinstance" = none
  f_len : mg "len" = none
  f_list : mg "list" = none
  f_max : mg "max" = none
  f_min : mg "min" = none
  f_range : mg "range" = none
  f_set : mg "set" = none
  f_sorted : mg "sorted" = none
  f_str : mg "str" = none
  f_tuple : mg "tuple" = none
  g_ClockError : mg "ClockError" = some (.ref (He.ga K "ClockError"))
  g_BadLetters : mg "BadLetters" = some (.ref (He.ga K "BadLetters"))
  g_BadLine : mg "BadLine" = some (.ref (He.ga K "BadLine"))
  g_BadProgram : mg "BadProgram" = some (.ref (He.ga K "BadProgram"))
  g_Program : mg "Program" = some (.ref (He.ga K "Program"))
  x_BadLetters : OexC K (He.ga K "BadLetters")
  c_BadLetters : ExcC K (He.ga K "BadLetters")
  y_BadLetters : XfC K (He.ga K "BadLetters")
  i_BadLetters : PySem.W.findIn K (.ref (He.ga K "BadLetters")) "__init__" = some (some (.ref (He.ma K (He.ga K "BadLetters") "__init__"))) ∧ PySem.W.typeIn K (.ref (He.ma K (He.ga K "BadLetters") "__init__")) = some (.type "function")
  n_BadLetters_letters : PySem.W.findIn K (.ref (He.ga K "BadLetters")) "letters" = some none
  m_BadLetters_BadLine : PySem.W.exmOne K (.ref (He.ga K "BadLetters")) (.ref (He.ga K "BadLine")) = some false
  k_BadLetters_ClockError : PySem.W.kitOne K (.ref (He.ga K "BadLetters")) (.ref (He.ga K "ClockError")) = some true
  k_BadLetters_Program : PySem.W.kitOne K (.ref (He.ga K "BadLetters")) (.ref (He.ga K "Program")) = some false
  x_BadLine : OexC K (He.ga K "BadLine")
  c_BadLine : ExcC K (He.ga K "BadLine")
  y_BadLine : XfC K (He.ga K "BadLine")
  i_BadLine : PySem.W.findIn K (.ref (He.ga K "BadLine")) "__init__" = some (some (.ref (He.ma K (He.ga K "BadLine") "__init__"))) ∧ PySem.W.typeIn K (.ref (He.ma K (He.ga K "BadLine") "__init__")) = some (.type "function")
  n_BadLine_line : PySem.W.findIn K (.ref (He.ga K "BadLine")) "line" = some none
  m_BadLine_BadLine : PySem.W.exmOne K (.ref (He.ga K "BadLine")) (.ref (He.ga K "BadLine")) = some true
  k_BadLine_ClockError : PySem.W.kitOne K (.ref (He.ga K "BadLine")) (.ref (He.ga K "ClockError")) = some true
  k_BadLine_Program : PySem.W.kitOne K (.ref (He.ga K "BadLine")) (.ref (He.ga K "Program")) = some false
  x_BadProgram : OexC K (He.ga K "BadProgram")
  c_BadProgram : ExcC K (He.ga K "BadProgram")
  y_BadProgram : XfC K (He.ga K "BadProgram")
  i_BadProgram : PySem.W.findIn K (.ref (He.ga K "BadProgram")) "__init__" = some (some (.ref (He.ma K (He.ga K "BadProgram") "__init__"))) ∧ PySem.W.typeIn K (.ref (He.ma K (He.ga K "BadProgram") "__init__")) = some (.type "function")
  n_BadProgram_index : PySem.W.findIn K (.ref (He.ga K "BadProgram")) "index" = some none
  m_BadProgram_BadLine : PySem.W.exmOne K (.ref (He.ga K "BadProgram")) (.ref (He.ga K "BadLine")) = some false
  k_BadProgram_ClockError : PySem.W.kitOne K (.ref (He.ga K "BadProgram")) (.ref (He.ga K "ClockError")) = some true
  k_BadProgram_Program : PySem.W.kitOne K (.ref (He.ga K "BadProgram")) (.ref (He.ga K "Program")) = some false
  mk_Program : Mk K (He.ga K "Program") (He.ma K (He.ga K "Program") "__init__")
  cl_Program : Cls K (He.ga K "Program")
  is_Program : IsC K (He.ga K "Program")
  k_Program_ClockError : PySem.W.kitOne K (.ref (He.ga K "Program")) (.ref (He.ga K "ClockError")) = some false
  k_Program_Program : PySem.W.kitOne K (.ref (He.ga K "Program")) (.ref (He.ga K "Program")) = some true
  na_Program_letters : NoAttr K (He.ga K "Program") "letters"
  na_Program_marks : NoAttr K (He.ga K "Program") "marks"
  na_Program_lines : NoAttr K (He.ga K "Program") "lines"
  k_ALPHABET : ∃ t, mg "ALPHABET" = some (.str (tx [97, 98, 99, 100, 101, 102, 103, 104, 105, 106, 107, 108, 109, 110, 111, 112, 113, 114, 115, 116, 117, 118, 119, 120, 121, 122]) t)
  k_MARKS : ∃ t, mg "MARKS" = some (.str (tx [65, 66, 67, 68, 69]) t)
  k_MOST_STEP : ∃ t, mg "MOST_STEP" = some (.int 6 t)
  k_MOST_TARGETS : ∃ t, mg "MOST_TARGETS" = some (.int 6 t)
  g_SHAPES : mg "SHAPES" = some (.ref (He.ga K "SHAPES"))
  d_SHAPES : ∃ es n, KDict K w (He.ga K "SHAPES") es n
  v_SHAPES_change : KVal K (He.ga K "SHAPES") ((tx [99, 104, 97, 110, 103, 101])) (.str (tx [99, 99, 116]))
  v_SHAPES_swap : KVal K (He.ga K "SHAPES") ((tx [115, 119, 97, 112])) (.str (tx [99, 99, 116]))
  v_SHAPES_first : KVal K (He.ga K "SHAPES") ((tx [102, 105, 114, 115, 116])) (.str (tx [99, 99, 116, 116]))
  v_SHAPES_every : KVal K (He.ga K "SHAPES") ((tx [101, 118, 101, 114, 121])) (.str (tx [99, 99, 110, 116, 116]))
  v_SHAPES_count : KVal K (He.ga K "SHAPES") ((tx [99, 111, 117, 110, 116])) (.str (tx [99, 115]))
  v_SHAPES_leads : KVal K (He.ga K "SHAPES") ((tx [108, 101, 97, 100, 115])) (.str (tx [99, 116, 116]))
  a_SHAPES_ : PySem.W.nsIn K (He.ga K "SHAPES") ((tx [])) = some none
  a_SHAPES_changes : PySem.W.nsIn K (He.ga K "SHAPES") ((tx [99, 104, 97, 110, 103, 101, 115])) = some none
  a_SHAPES_swaps : PySem.W.nsIn K (He.ga K "SHAPES") ((tx [115, 119, 97, 112, 115])) = some none
  a_SHAPES_firsts : PySem.W.nsIn K (He.ga K "SHAPES") ((tx [102, 105, 114, 115, 116, 115])) = some none
  a_SHAPES_everys : PySem.W.nsIn K (He.ga K "SHAPES") ((tx [101, 118, 101, 114, 121, 115])) = some none
  a_SHAPES_counts : PySem.W.nsIn K (He.ga K "SHAPES") ((tx [99, 111, 117, 110, 116, 115])) = some none
  a_SHAPES_leadss : PySem.W.nsIn K (He.ga K "SHAPES") ((tx [108, 101, 97, 100, 115, 115])) = some none
def tabs : List TabZ := [("SHAPES", ["change", "swap", "first", "every", "count", "leads"])]
def facts : List (PySem.W.Frag → Bool) := [fun K => freeB K "all",
  fun K => freeB K "bool",
  fun K => freeB K "enumerate",
  fun K => freeB K "int",
  fun K => freeB K "isinstance",
  fun K => freeB K "len",
  fun K => freeB K "list",
  fun K => freeB K "max",
  fun K => freeB K "min",
  fun K => freeB K "range",
  fun K => freeB K "set",
  fun K => freeB K "sorted",
  fun K => freeB K "str",
  fun K => freeB K "tuple",
  fun K => gloB K "ClockError",
  fun K => gloB K "BadLetters",
  fun K => gloB K "BadLine",
  fun K => gloB K "BadProgram",
  fun K => gloB K "Program",
  fun K => oexB K (He.ga K "BadLetters"),
  fun K => excCB K (He.ga K "BadLetters"),
  fun K => xfB K (He.ga K "BadLetters"),
  fun K => initB K "BadLetters",
  fun K => decide (PySem.W.findIn K (.ref (He.ga K "BadLetters")) "letters" = some none),
  fun K => decide (PySem.W.exmOne K (.ref (He.ga K "BadLetters")) (.ref (He.ga K "BadLine")) = some false),
  fun K => decide (PySem.W.kitOne K (.ref (He.ga K "BadLetters")) (.ref (He.ga K "ClockError")) = some true),
  fun K => decide (PySem.W.kitOne K (.ref (He.ga K "BadLetters")) (.ref (He.ga K "Program")) = some false),
  fun K => oexB K (He.ga K "BadLine"),
  fun K => excCB K (He.ga K "BadLine"),
  fun K => xfB K (He.ga K "BadLine"),
  fun K => initB K "BadLine",
  fun K => decide (PySem.W.findIn K (.ref (He.ga K "BadLine")) "line" = some none),
  fun K => decide (PySem.W.exmOne K (.ref (He.ga K "BadLine")) (.ref (He.ga K "BadLine")) = some true),
  fun K => decide (PySem.W.kitOne K (.ref (He.ga K "BadLine")) (.ref (He.ga K "ClockError")) = some true),
  fun K => decide (PySem.W.kitOne K (.ref (He.ga K "BadLine")) (.ref (He.ga K "Program")) = some false),
  fun K => oexB K (He.ga K "BadProgram"),
  fun K => excCB K (He.ga K "BadProgram"),
  fun K => xfB K (He.ga K "BadProgram"),
  fun K => initB K "BadProgram",
  fun K => decide (PySem.W.findIn K (.ref (He.ga K "BadProgram")) "index" = some none),
  fun K => decide (PySem.W.exmOne K (.ref (He.ga K "BadProgram")) (.ref (He.ga K "BadLine")) = some false),
  fun K => decide (PySem.W.kitOne K (.ref (He.ga K "BadProgram")) (.ref (He.ga K "ClockError")) = some true),
  fun K => decide (PySem.W.kitOne K (.ref (He.ga K "BadProgram")) (.ref (He.ga K "Program")) = some false),
  fun K => (He.Fa.mkr "Program").ok K,
  fun K => (He.Fa.cls "Program").ok K,
  fun K => isCB K (He.ga K "Program"),
  fun K => decide (PySem.W.kitOne K (.ref (He.ga K "Program")) (.ref (He.ga K "ClockError")) = some false),
  fun K => decide (PySem.W.kitOne K (.ref (He.ga K "Program")) (.ref (He.ga K "Program")) = some true),
  fun K => (He.Fa.noat "Program" "letters").ok K,
  fun K => (He.Fa.noat "Program" "marks").ok K,
  fun K => (He.Fa.noat "Program" "lines").ok K,
  fun K => (He.Fa.str "ALPHABET" "abcdefghijklmnopqrstuvwxyz").ok K,
  fun K => (He.Fa.str "MARKS" "ABCDE").ok K,
  fun K => (He.Fa.int "MOST_STEP" 6).ok K,
  fun K => (He.Fa.int "MOST_TARGETS" 6).ok K,
  fun K => gloB K "SHAPES",
  fun K => kvalB K "SHAPES" ((tx [99, 104, 97, 110, 103, 101])) (.str (tx [99, 99, 116])),
  fun K => kvalB K "SHAPES" ((tx [115, 119, 97, 112])) (.str (tx [99, 99, 116])),
  fun K => kvalB K "SHAPES" ((tx [102, 105, 114, 115, 116])) (.str (tx [99, 99, 116, 116])),
  fun K => kvalB K "SHAPES" ((tx [101, 118, 101, 114, 121])) (.str (tx [99, 99, 110, 116, 116])),
  fun K => kvalB K "SHAPES" ((tx [99, 111, 117, 110, 116])) (.str (tx [99, 115])),
  fun K => kvalB K "SHAPES" ((tx [108, 101, 97, 100, 115])) (.str (tx [99, 116, 116])),
  fun K => decide (PySem.W.nsIn K (He.ga K "SHAPES") ((tx [])) = some none),
  fun K => decide (PySem.W.nsIn K (He.ga K "SHAPES") ((tx [99, 104, 97, 110, 103, 101, 115])) = some none),
  fun K => decide (PySem.W.nsIn K (He.ga K "SHAPES") ((tx [115, 119, 97, 112, 115])) = some none),
  fun K => decide (PySem.W.nsIn K (He.ga K "SHAPES") ((tx [102, 105, 114, 115, 116, 115])) = some none),
  fun K => decide (PySem.W.nsIn K (He.ga K "SHAPES") ((tx [101, 118, 101, 114, 121, 115])) = some none),
  fun K => decide (PySem.W.nsIn K (He.ga K "SHAPES") ((tx [99, 111, 117, 110, 116, 115])) = some none),
  fun K => decide (PySem.W.nsIn K (He.ga K "SHAPES") ((tx [108, 101, 97, 100, 115, 115])) = some none)]
theorem tx_of {w : World} {K : PySem.W.Frag} {h : Heap} {mg : Str → Option Value} (X : K.In h) (G : h.Ns mainGlobals mg) (c : ∀ (i : Nat) (f : PySem.W.Frag → Bool), facts[i]? = some f → f K = true) (tb : ∀ (i : Nat) (t : TabZ), tabs[i]? = some t → ∃ es n, KDict K w (He.ga K t.1) es n) : Tx w K mg :=
  ⟨He.free_ok X G (c 0 _ rfl),
   He.free_ok X G (c 1 _ rfl),
   He.free_ok X G (c 2 _ rfl),
   He.free_ok X G (c 3 _ rfl),
   He.free_ok X G (c 4 _ rfl),
   He.free_ok X G (c 5 _ rfl),
   He.free_ok X G (c 6 _ rfl),
   He.free_ok X G (c 7 _ rfl),
   He.free_ok X G (c 8 _ rfl),
   He.free_ok X G (c 9 _ rfl),
   He.free_ok X G (c 10 _ rfl),
   He.free_ok X G (c 11 _ rfl),
   He.free_ok X G (c 12 _ rfl),
   He.free_ok X G (c 13 _ rfl),
   He.glo_ok X G (c 14 _ rfl),
   He.glo_ok X G (c 15 _ rfl),
   He.glo_ok X G (c 16 _ rfl),
   He.glo_ok X G (c 17 _ rfl),
   He.glo_ok X G (c 18 _ rfl),
   oexB_ok (c 19 _ rfl),
   excCB_ok (c 20 _ rfl),
   xfB_ok (c 21 _ rfl),
   initB_ok (c 22 _ rfl),
   of_decide_eq_true (c 23 _ rfl),
   of_decide_eq_true (c 24 _ rfl),
   of_decide_eq_true (c 25 _ rfl),
   of_decide_eq_true (c 26 _ rfl),
   oexB_ok (c 27 _ rfl),
   excCB_ok (c 28 _ rfl),
   xfB_ok (c 29 _ rfl),
   initB_ok (c 30 _ rfl),
   of_decide_eq_true (c 31 _ rfl),
   of_decide_eq_true (c 32 _ rfl),
   of_decide_eq_true (c 33 _ rfl),
   of_decide_eq_true (c 34 _ rfl),
   oexB_ok (c 35 _ rfl),
   excCB_ok (c 36 _ rfl),
   xfB_ok (c 37 _ rfl),
   initB_ok (c 38 _ rfl),
   of_decide_eq_true (c 39 _ rfl),
   of_decide_eq_true (c 40 _ rfl),
   of_decide_eq_true (c 41 _ rfl),
   of_decide_eq_true (c 42 _ rfl),
   He.mkr_ok (c 43 _ rfl),
   He.cls_ok (c 44 _ rfl),
   isCB_ok (c 45 _ rfl),
   of_decide_eq_true (c 46 _ rfl),
   of_decide_eq_true (c 47 _ rfl),
   He.noat_ok (c 48 _ rfl),
   He.noat_ok (c 49 _ rfl),
   He.noat_ok (c 50 _ rfl),
   He.str_ok X G (c 51 _ rfl),
   He.str_ok X G (c 52 _ rfl),
   He.int_ok X G (c 53 _ rfl),
   He.int_ok X G (c 54 _ rfl),
   He.glo_ok X G (c 55 _ rfl),
   tb 0 _ rfl,
   kvalB_ok (c 56 _ rfl),
   kvalB_ok (c 57 _ rfl),
   kvalB_ok (c 58 _ rfl),
   kvalB_ok (c 59 _ rfl),
   kvalB_ok (c 60 _ rfl),
   kvalB_ok (c 61 _ rfl),
   of_decide_eq_true (c 62 _ rfl),
   of_decide_eq_true (c 63 _ rfl),
   of_decide_eq_true (c 64 _ rfl),
   of_decide_eq_true (c 65 _ rfl),
   of_decide_eq_true (c 66 _ rfl),
   of_decide_eq_true (c 67 _ rfl),
   of_decide_eq_true (c 68 _ rfl)⟩
abbrev F__law_cell (K : PySem.W.Frag) : Fn := Fcell
theorem len__law_cell {K : PySem.W.Frag} (ds : List D) (R : Sl → Prop) (X : Xc → Prop) (h : F__law_cell K ds R X) : ds.length = 2 := fcell_len ds R X h
abbrev F__law_digits (K : PySem.W.Frag) : Fn := Fdigits
theorem len__law_digits {K : PySem.W.Frag} (ds : List D) (R : Sl → Prop) (X : Xc → Prop) (h : F__law_digits K ds R X) : ds.length = 2 := fdigits_len ds R X h
abbrev F_law (K : PySem.W.Frag) : Fn := Flaw
theorem len_law {K : PySem.W.Frag} (ds : List D) (R : Sl → Prop) (X : Xc → Prop) (h : F_law K ds R X) : ds.length = 1 := flaw_len ds R X h
end L

namespace L
open PySem PySem.Spec PyProof.Rows L2 Z
def strD (x : List Nat) : D := .str (tx x)
def chD (c : Nat) : D := .str (tx [c])
def natD (v : Nat) : D := .int v
def progD (K : PySem.W.Frag) (lt : List Nat) (mk : Int) (ls : List Ln) : D := .obj (He.ga K "Program") [("letters", .str (tx lt)), ("marks", .int mk), ("lines", .tup (ls.map Ln.d))]
def progI (K : PySem.W.Frag) (lt : List Nat) (mk : Int) (ls : List Ln) : Ow := .ins (He.ga K "Program") [("letters", .str (tx lt)), ("marks", .int mk), ("lines", .tup (ls.map Ln.d))] none
def okD : Nat → D → Bool
  | 0, _ => false
  | _ + 1, .non => true
  | _ + 1, .bl _ => true
  | _ + 1, .int _ => true
  | _ + 1, .str _ => true
  | n + 1, .lst l => decide (l.length < 16777216) && l.all (okD n)
  | n + 1, .tup l => decide (l.length < 16777216) && l.all (okD n)
  | _ + 1, _ => false
def frzD : Nat → D → D
  | 0, d => d
  | n + 1, .lst l => .tup (l.map (frzD n))
  | n + 1, .tup l => .tup (l.map (frzD n))
  | _ + 1, d => d
def ItOk (s : Nat) (it : D) (cs : List Nat) (n : Nat) : Prop := (s = 99 ∧ ∃ a ∈ cs, it = .str (tx [a])) ∨ (s = 110 ∧ ∃ i : Int, it = .int i ∧ 1 ≤ i ∧ i ≤ 6) ∨ (s = 116 ∧ ∃ t : Tg, it = t.d ∧ ∀ k, t.num = some k → k < n) ∨
  (s = 115 ∧ ∃ ts : List Tg, it = .tup (ts.map Tg.d) ∧ 0 < ts.length ∧ ts.length ≤ 6 ∧ ∀ t ∈ ts, ∀ k, t.num = some k → k < n)
def ProgOk (cs : List Nat) (ls : List Ln) : Prop := 0 < ls.length ∧ ls.length ≤ 60 ∧ ∀ l ∈ ls, l.ok cs ls.length
def optN : Option Nat → D
  | none => .non
  | some k => .int k
def xBL (K : PySem.W.Frag) (k : Nat) : Xc := ⟨He.ga K "BadLine", [("line", .int k)]⟩
inductive ItW : Nat → D → List Nat → Prop
  | c (a : Nat) : ItW 99 (.str (tx [a])) [a]
  | s (ts : List Tg) (h : ts.length ≤ 6) (k : ∀ t ∈ ts, ∀ k, t.num = some k → k < 10) : ItW 115 (.tup (ts.map Tg.d)) (joinL [32] (ts.map Tg.w))
  | t (s : Nat) (h : s ≠ 99) (h2 : s ≠ 115) (t : Tg) (k : ∀ k, t.num = some k → k < 10) : ItW s t.d t.w
inductive RefR (s : List Nat) : Nat → Prop
  | head {h : List Nat} {t : List (List Nat)} (e : splt 10 s = h :: t) (hh : HeadR h .non) : RefR s 1
  | none {h lt : List Nat} {k : Nat} (e : splt 10 s = [h]) (hh : HeadR h (.tup [.str (tx lt), .int k])) : RefR s 2
  | line {h lt x : List Nat} {t : List (List Nat)} {k : Nat} (ls : List Ln) (e : splt 10 s = h :: t) (hh : HeadR h (.tup [.str (tx lt), .int k])) (hl : lt.length ≤ 3) (ht : t.length ≤ 60)
      (hp : ∀ (i : Nat) (l : Ln), ls[i]? = some l → ∃ y, t[i]? = some y ∧ LineR y i (csOf lt k) t.length l.e) (hx : t[ls.length]? = some x) (hb : LineR x ls.length (csOf lt k) t.length .non) : RefR s (ls.length + 2)
def F__law_letters (K : PySem.W.Frag) : Fn := fun ds R _ => ∃ r0 r1 r2 r3 : Int, ds = [.lst [.int r0, .int r1, .int r2, .int r3]] ∧ (0 ≤ r1 ∧ r1 < 8) ∧ (0 ≤ r2 ∧ r2 < 8) ∧ (0 ≤ r3 ∧ r3 < 8) ∧ R (.dat (.str (tx (lettersOf r0 r1 r2 r3))))
theorem len__law_letters {K : PySem.W.Frag} (ds : List D) (R : Sl → Prop) (X : Xc → Prop) (h : F__law_letters K ds R X) : ds.length = 1 := by obtain ⟨_, _, _, _, rfl, _⟩ := h; rfl
def F__law_target (K : PySem.W.Frag) : Fn := fun ds R _ => ∃ (d a m : Int) (lp : Bool), ds = [.int d, .int a, .int m, .bl lp] ∧ 0 ≤ a ∧ 0 < m ∧ R (.dat (tgOf d a m lp).d)
theorem len__law_target {K : PySem.W.Frag} (ds : List D) (R : Sl → Prop) (X : Xc → Prop) (h : F__law_target K ds R X) : ds.length = 4 := by obtain ⟨_, _, _, _, rfl, _⟩ := h; rfl
def F__law_line (K : PySem.W.Frag) : Fn := fun ds R _ => ∃ (r : List Int) (a m : Int) (cs : List Nat) (lp : Bool), ds = [.lst (r.map .int), .int a, .int m, .str (tx cs), .bl lp] ∧ r.length = 7 ∧ (0 ≤ r.getD 0 0 ∧ r.getD 0 0 < 6) ∧ (0 ≤ r.getD 6 0 ∧ r.getD 6 0 < 4) ∧ 0 ≤ a ∧ 0 < m ∧ 0 < cs.length ∧ cs.length ≤ 1000 ∧ R (.dat (lnOf r a m cs lp).d)
theorem len__law_line {K : PySem.W.Frag} (ds : List D) (R : Sl → Prop) (X : Xc → Prop) (h : F__law_line K ds R X) : ds.length = 5 := by obtain ⟨_, _, _, _, _, rfl, _⟩ := h; rfl
def F__law_program (K : PySem.W.Frag) : Fn := fun ds R _ => ∃ (ns : List Int) (lp : Bool), ds = [.lst (ns.map .int), .int 0, .int 8, .bl lp] ∧ R (.dat (.lst [.str (tx (progLs ns 0)), .int (progMk ns 0 8), .lst ((progLines ns 0 8 lp).map Ln.d)]))
theorem len__law_program {K : PySem.W.Frag} (ds : List D) (R : Sl → Prop) (X : Xc → Prop) (h : F__law_program K ds R X) : ds.length = 4 := by obtain ⟨_, _, rfl, _⟩ := h; rfl
def F_are_letters (K : PySem.W.Frag) : Fn := fun ds R _ => ∃ (ls : List Nat) (b : Bool), ds = [.str (tx ls)] ∧ ((b = true ∧ Right ls) ∨ (b = false ∧ NotRight ls)) ∧ R (.dat (.bl b))
theorem len_are_letters {K : PySem.W.Frag} (ds : List D) (R : Sl → Prop) (X : Xc → Prop) (h : F_are_letters K ds R X) : ds.length = 1 := by obtain ⟨_, _, rfl, _⟩ := h; rfl
def F_check_letters (K : PySem.W.Frag) : Fn := fun ds R _ => ∃ ls, ds = [.str (tx ls)] ∧ Right ls ∧ R (.dat .non)
theorem len_check_letters {K : PySem.W.Frag} (ds : List D) (R : Sl → Prop) (X : Xc → Prop) (h : F_check_letters K ds R X) : ds.length = 1 := by obtain ⟨_, rfl, _⟩ := h; rfl
def F_frozen : Nat → PySem.W.Frag → Fn
  | 0, _ => fun _ _ _ => False
  | n + 1, _ => fun ds R _ => ∃ d, ds = [d] ∧ okD (n + 1) d = true ∧ R (.dat (frzD (n + 1) d))
def F_is_whole (K : PySem.W.Frag) : Fn := fun ds R _ => ∃ (d : D) (p : Bool), ds = [d] ∧ ((p = true ∧ ∃ i, d = .int i) ∨ (p = false ∧ ((∃ b, d = .bl b) ∨ (∃ x, d = .str x)))) ∧ R (.dat (.bl p))
theorem len_is_whole {K : PySem.W.Frag} (ds : List D) (R : Sl → Prop) (X : Xc → Prop) (h : F_is_whole K ds R X) : ds.length = 1 := by obtain ⟨_, _, rfl, _⟩ := h; rfl
def F_is_target (K : PySem.W.Frag) : Fn := fun ds R _ => ∃ (t : Tg) (n : Nat), ds = [t.d, .int n] ∧ (∀ k, t.num = some k → k < n) ∧ R (.dat (.bl true))
theorem len_is_target {K : PySem.W.Frag} (ds : List D) (R : Sl → Prop) (X : Xc → Prop) (h : F_is_target K ds R X) : ds.length = 2 := by obtain ⟨_, _, rfl, _⟩ := h; rfl
def F_is_item (K : PySem.W.Frag) : Fn := fun ds R _ => ∃ (s : Nat) (it : D) (cs : List Nat) (n : Nat), ds = [.str (tx [s]), it, .str (tx cs), .int n] ∧ ItOk s it cs n ∧ R (.dat (.bl true))
theorem len_is_item {K : PySem.W.Frag} (ds : List D) (R : Sl → Prop) (X : Xc → Prop) (h : F_is_item K ds R X) : ds.length = 4 := by obtain ⟨_, _, _, _, rfl, _⟩ := h; rfl
def F_is_line (K : PySem.W.Frag) : Fn := fun ds R _ => ∃ (l : Ln) (cs : List Nat) (n : Nat), ds = [l.d, .str (tx cs), .int n] ∧ l.ok cs n ∧ R (.dat (.bl true))
theorem len_is_line {K : PySem.W.Frag} (ds : List D) (R : Sl → Prop) (X : Xc → Prop) (h : F_is_line K ds R X) : ds.length = 3 := by obtain ⟨_, _, _, rfl, _⟩ := h; rfl
def F_characters_of (K : PySem.W.Frag) : Fn := fun ds R _ => ∃ (ls : List Nat) (mk : Int), ds = [.str (tx ls), .int mk] ∧ 0 ≤ mk ∧ ls.length ≤ 1000 ∧ R (.dat (.str (tx (ls ++ [65, 66, 67, 68, 69].take mk.toNat))))
theorem len_characters_of {K : PySem.W.Frag} (ds : List D) (R : Sl → Prop) (X : Xc → Prop) (h : F_characters_of K ds R X) : ds.length = 2 := by obtain ⟨_, _, rfl, _⟩ := h; rfl
def F_Program (K : PySem.W.Frag) : Fn := fun ds R _ => ∃ (lt : List Nat) (mk : Int) (ls : List Ln) (es : List D), ds = [.str (tx lt), .int mk, .lst es] ∧ Right lt ∧ 0 ≤ mk ∧ ProgOk (lt ++ [65, 66, 67, 68, 69].take mk.toNat) ls ∧ es.length ≤ 60 ∧ okD 5 (.lst es) = true ∧ frzD 5 (.lst es) = .tup (ls.map Ln.d) ∧ R (.own (progI K lt mk ls))
theorem len_Program {K : PySem.W.Frag} (ds : List D) (R : Sl → Prop) (X : Xc → Prop) (h : F_Program K ds R X) : ds.length = 3 := by obtain ⟨_, _, _, _, rfl, _⟩ := h; rfl
def F__law_whole (K : PySem.W.Frag) : Fn := fun ds R _ => ∃ (d : D) (p : Bool), ds = [d] ∧ ((p = true ∧ ∃ i, d = .int i) ∨ (p = false ∧ ((∃ b, d = .bl b) ∨ (∃ x, d = .str x)))) ∧ R (.dat (.bl p))
theorem len__law_whole {K : PySem.W.Frag} (ds : List D) (R : Sl → Prop) (X : Xc → Prop) (h : F__law_whole K ds R X) : ds.length = 1 := by obtain ⟨_, _, rfl, _⟩ := h; rfl
def F__law_wider (K : PySem.W.Frag) : Fn := fun ds R _ => ∃ (lt : List Nat) (mk : Int) (ls : List Ln) (row : List Int) (cs : List Nat), ds = [.lst [.str (tx lt), .int mk, .lst (ls.map Ln.d)], .lst (row.map .int)] ∧ row.length = 7 ∧ (0 ≤ row.getD 1 0 ∧ row.getD 1 0 < 6) ∧ ProgOk cs ls ∧
  R (.dat (.lst [.str (tx lt), .int (if row.getD 2 0 > mk then row.getD 2 0 else mk), .lst ((ls.map (wid (row.getD 0 0) (row.getD 1 0))).map Ln.d)]))
theorem len__law_wider {K : PySem.W.Frag} (ds : List D) (R : Sl → Prop) (X : Xc → Prop) (h : F__law_wider K ds R X) : ds.length = 2 := by obtain ⟨_, _, _, _, _, rfl, _⟩ := h; rfl
def F__law_word (K : PySem.W.Frag) : Fn := fun ds R _ => ∃ t : Tg, ds = [t.d] ∧ (∀ k, t.num = some k → k < 10) ∧ R (.dat (.str (tx t.w)))
theorem len__law_word {K : PySem.W.Frag} (ds : List D) (R : Sl → Prop) (X : Xc → Prop) (h : F__law_word K ds R X) : ds.length = 1 := by obtain ⟨_, rfl, _⟩ := h; rfl
def F__law_note (K : PySem.W.Frag) : Fn := fun ds R _ => ∃ (i : Nat) (l : Ln) (cs : List Nat) (n : Nat), ds = [.int i, l.d] ∧ i < 10 ∧ n ≤ 10 ∧ l.ok cs n ∧ R (.dat (.str (tx (noteOf i l))))
theorem len__law_note {K : PySem.W.Frag} (ds : List D) (R : Sl → Prop) (X : Xc → Prop) (h : F__law_note K ds R X) : ds.length = 2 := by obtain ⟨_, _, _, _, rfl, _⟩ := h; rfl
def F__law_spoilt (K : PySem.W.Frag) : Fn := fun ds R _ => ∃ (i : Nat) (l : Ln) (cs : List Nat) (n mk kind : Nat), ds = [.int i, l.d, .int n, .int mk, .int kind] ∧ i < 9 ∧ n < 10 ∧ mk ≤ 5 ∧ kind < 16 ∧ Let cs ∧ l.ok cs n ∧ R (.dat (.str (tx (joinL [32] (spW i l n mk kind)))))
theorem len__law_spoilt {K : PySem.W.Frag} (ds : List D) (R : Sl → Prop) (X : Xc → Prop) (h : F__law_spoilt K ds R X) : ds.length = 5 := by obtain ⟨_, _, _, _, _, _, rfl, _⟩ := h; rfl
def F_target_note (K : PySem.W.Frag) : Fn := fun ds R _ => ∃ t : Tg, ds = [t.d] ∧ (∀ k, t.num = some k → k < 10) ∧ R (.dat (.str (tx t.w)))
theorem len_target_note {K : PySem.W.Frag} (ds : List D) (R : Sl → Prop) (X : Xc → Prop) (h : F_target_note K ds R X) : ds.length = 1 := by obtain ⟨_, rfl, _⟩ := h; rfl
def F_item_note (K : PySem.W.Frag) : Fn := fun ds R _ => ∃ (s : Nat) (it : D) (w : List Nat), ds = [.str (tx [s]), it] ∧ ItW s it w ∧ R (.dat (.str (tx w)))
theorem len_item_note {K : PySem.W.Frag} (ds : List D) (R : Sl → Prop) (X : Xc → Prop) (h : F_item_note K ds R X) : ds.length = 2 := by obtain ⟨_, _, _, rfl, _⟩ := h; rfl
def F_format_program (K : PySem.W.Frag) : Fn := fun ds R _ => ∃ (cs lt : List Nat) (mk : Nat) (ls : List Ln), ds = [progD K lt mk ls] ∧ ProgOk cs ls ∧ ls.length < 10 ∧ mk ≤ 5 ∧ lt.length ≤ 3 ∧ R (.dat (.str (tx (progT lt mk ls))))
theorem len_format_program {K : PySem.W.Frag} (ds : List D) (R : Sl → Prop) (X : Xc → Prop) (h : F_format_program K ds R X) : ds.length = 1 := by obtain ⟨_, _, _, _, rfl, _⟩ := h; rfl
def F_read_head (K : PySem.W.Frag) : Fn := fun ds R _ => ∃ (s : List Nat) (d : D), ds = [.str (tx s)] ∧ s.length ≤ 100000 ∧ HeadR s d ∧ R (.dat d)
theorem len_read_head {K : PySem.W.Frag} (ds : List D) (R : Sl → Prop) (X : Xc → Prop) (h : F_read_head K ds R X) : ds.length = 1 := by obtain ⟨_, _, rfl, _⟩ := h; rfl
def F_plain_number (K : PySem.W.Frag) : Fn := fun ds R _ => ∃ (w : List Nat), ds = [.str (tx w), .int 2] ∧ w.length ≤ 100000 ∧ R (.dat (optN (plainN w)))
theorem len_plain_number {K : PySem.W.Frag} (ds : List D) (R : Sl → Prop) (X : Xc → Prop) (h : F_plain_number K ds R X) : ds.length = 2 := by obtain ⟨_, rfl, _⟩ := h; rfl
def F_read_target (K : PySem.W.Frag) : Fn := fun ds R _ => ∃ (w : List Nat) (n : Nat), ds = [.str (tx w), .int n] ∧ w.length ≤ 100000 ∧ R (.dat (rdT w n))
theorem len_read_target {K : PySem.W.Frag} (ds : List D) (R : Sl → Prop) (X : Xc → Prop) (h : F_read_target K ds R X) : ds.length = 2 := by obtain ⟨_, _, rfl, _⟩ := h; rfl
def F_read_word (K : PySem.W.Frag) : Fn := fun ds R _ => ∃ (s : Nat) (w cs : List Nat) (n : Nat), ds = [.str (tx [s]), .str (tx w), .str (tx cs), .int n] ∧ w.length ≤ 100000 ∧ R (.dat (rdW s w cs n))
theorem len_read_word {K : PySem.W.Frag} (ds : List D) (R : Sl → Prop) (X : Xc → Prop) (h : F_read_word K ds R X) : ds.length = 4 := by obtain ⟨_, _, _, _, rfl, _⟩ := h; rfl
def F_read_line (K : PySem.W.Frag) : Fn := fun ds R _ => ∃ (line cs : List Nat) (i n : Nat) (d : D), ds = [.str (tx line), .int i, .str (tx cs), .int n] ∧ line.length ≤ 100000 ∧ i < 10000 ∧ LineR line i cs n d ∧ R (.dat d)
theorem len_read_line {K : PySem.W.Frag} (ds : List D) (R : Sl → Prop) (X : Xc → Prop) (h : F_read_line K ds R X) : ds.length = 4 := by obtain ⟨_, _, _, _, _, rfl, _⟩ := h; rfl
def F_parse_program (K : PySem.W.Frag) : Fn := fun ds R X => ∃ (s : List Nat), ds = [.str (tx s)] ∧ s.length ≤ 100000 ∧ ((∃ due, RefR s due ∧ X (xBL K due)) ∨
  ∃ (lt h : List Nat) (k : Nat) (ls : List Ln) (t : List (List Nat)), splt 10 s = h :: t ∧ HeadR h (.tup [.str (tx lt), .int k]) ∧ Right lt ∧ t.length = ls.length ∧ (∀ (i : Nat) (l : Ln), ls[i]? = some l → ∃ y, t[i]? = some y ∧ LineR y i (csOf lt k) t.length l.e) ∧ ProgOk (csOf lt k) ls ∧ R (.own (progI K lt k ls)))
theorem len_parse_program {K : PySem.W.Frag} (ds : List D) (R : Sl → Prop) (X : Xc → Prop) (h : F_parse_program K ds R X) : ds.length = 1 := by obtain ⟨_, rfl, _⟩ := h; rfl
def F__law_is_refused (K : PySem.W.Frag) : Fn := fun ds R _ => ∃ (s : List Nat) (due : Nat), ds = [.str (tx s), .int due] ∧ s.length ≤ 100000 ∧ RefR s due ∧ R (.dat (.bl true))
theorem len__law_is_refused {K : PySem.W.Frag} (ds : List D) (R : Sl → Prop) (X : Xc → Prop) (h : F__law_is_refused K ds R X) : ds.length = 2 := by obtain ⟨_, _, rfl, _⟩ := h; rfl
theorem len_frozen (n : Nat) {K : PySem.W.Frag} (ds : List D) (R : Sl → Prop) (X : Xc → Prop) (h : F_frozen n K ds R X) : ds.length = 1 := by
  cases n with
  | zero => exact h.elim
  | succ n => obtain ⟨_, rfl, _⟩ := h; rfl
end L

namespace L
open PySem PySem.Spec PyProof.Rows L2 Z

section
variable {P : Program} {w : World} {K : PySem.W.Frag} {mg : Str → Option Value} {base : Heap}
def t__law_digits (w : World) (K : PySem.W.Frag) (W : WX) : TS :=
  (tSeq (tAsg (tLst tNil) (gName 2))
  (tSeq (tAsg (tCB zInt (tCons (tVar 0) tNil)) (gName 3))
  (tSeq (tIfS (tTest (tOp zGe (tVar 3) (tOp zPow (tC (.int 10)) (tC (.int 18))))) (tSeq (tAsg (tOp zSub (tVar 3) (tOp zPow (tC (.int 10)) (tC (.int 18)))) (gName 3))
  (tSeq (tFor (iList K (tVar 1)) (gName 4) (tSeq (tDrop (tBM K "list" rAppend (tVar 2) (tCons (tOp zMod (tCB zInt (tCons (tVar 3) tNil)) (tVar 4)) tNil)))
  (tAsg (tOp zDiv (tCB zInt (tCons (tVar 3) tNil)) (tVar 4)) (gName 3))))
  (tRet (tVar 2)))) tNext)
  (tSeq (tAsg (tOp zMod (tCB zInt (tCons (tVar 3) tNil)) (tC (.int 2147483629))) (gName 5))
  (tSeq (tFor (iRng1 (tCons (tCB (zLen K) (tCons (tVar 1) tNil)) tNil)) (gName 6) (tSeq (tAsg (tOp zMod (tCB zInt (tCons (tOp (zAdd K) (tOp (zAdd K) (tOp zMul (tVar 5) (tC (.int 48271))) (tOp zMul (tC (.int 974711)) (tVar 6))) (tC (.int 12345))) tNil)) (tC (.int 2147483647))) (gName 5))
  (tSeq (tAsg (tOp zMod (tCB zInt (tCons (tOp zMul (tVar 5) (tOp (zAdd K) (tOp zDiv (tVar 5) (tC (.int 65537))) (tC (.int 3)))) tNil)) (tC (.int 2147483629))) (gName 7))
  (tDrop (tBM K "list" rAppend (tVar 2) (tCons (tOp zMod (tOp zDiv (tVar 7) (tC (.int 19))) (tOp (zIx K) (tVar 1) (tVar 6))) tNil))))))
  (tRet (tVar 2)))))))
theorem ps__law_digits (T : Tx w K mg)  {f : Addr} {cdv : Value} {A : Around} {outer : List Env} {s : Shared} {H : Hp} {E : XK} (hr : Room 0 (A.deeper (envOfC "_law_digits" (defScope s__law_digits) s.heap.objs.size f cdv))) :
    PSs (cxOf (L2.CX P w) P w K mg base N__law_digits "_law_digits" (defScope s__law_digits) f cdv A outer s H E) (defBody s__law_digits) (t__law_digits w K (fun cls d _ H' => E cls d H')) := by
  have nd := sc__law_digits.nd
  have hu := hr.units
  have tk : Takes (cxOf (L2.CX P w) P w K mg base N__law_digits "_law_digits" (defScope s__law_digits) f cdv A outer s H E) (fun cls d _ H' => E cls d H') := takes_of rfl rfl rfl rfl
  exact (pss_cons (ps_set (i := 2) nd rfl (Or.inl rfl) (pe_lst pa_nil))
  (pss_cons (ps_set (i := 3) nd rfl (Or.inl rfl) (pe_callTy call_zInt (by rfl) T.f_int bt_int (pa_cons (pv 0) pa_nil)))
  (pss_cons (ps_if (pt_cmpR op_zGe (pv 3) (pe_op op_zPow pe_int pe_int) (nomark _)) (pss_cons (ps_set (i := 3) nd rfl (Or.inl rfl) (pe_op op_zSub (pv 3) (pe_op op_zPow pe_int pe_int)))
  (pss_cons (ps_for (passes_of rfl) rfl (pi_list (pv 1)) (pg_name (i := 4) nd rfl (Or.inl rfl)) (pss_cons (ps_expr (pe_bm PySem.F.plainAttrs_list PySem.F.slot_list_append PySem.F.type_list_append mt_append (pv 2) (pa_cons (pe_op op_zMod (pe_callTy call_zInt (by rfl) T.f_int bt_int (pa_cons (pv 3) pa_nil)) (pv 4)) pa_nil)))
  (pss_one (ps_set (i := 3) nd rfl (Or.inl rfl) (pe_op op_zDiv (pe_callTy call_zInt (by rfl) T.f_int bt_int (pa_cons (pv 3) pa_nil)) (pv 4))))))
  (pss_one (ps_ret (pv 2))))) pss_nil)
  (pss_cons (ps_set (i := 5) nd rfl (Or.inl rfl) (pe_op op_zMod (pe_callTy call_zInt (by rfl) T.f_int bt_int (pa_cons (pv 3) pa_nil)) pe_int))
  (pss_cons (ps_for (passes_of rfl) rfl (pi_range1 (by rfl) T.f_range (pa_cons (pe_callB call_zLen (by rfl) T.f_len bt_len (pa_cons (pv 1) pa_nil)) pa_nil)) (pg_name (i := 6) nd rfl (Or.inl rfl)) (pss_cons (ps_set (i := 5) nd rfl (Or.inl rfl) (pe_op op_zMod (pe_callTy call_zInt (by rfl) T.f_int bt_int (pa_cons (pe_op op_zAdd (pe_op op_zAdd (pe_op op_zMul (pv 5) pe_int) (pe_op op_zMul pe_int (pv 6))) pe_int) pa_nil)) pe_int))
  (pss_cons (ps_set (i := 7) nd rfl (Or.inl rfl) (pe_op op_zMod (pe_callTy call_zInt (by rfl) T.f_int bt_int (pa_cons (pe_op op_zMul (pv 5) (pe_op op_zAdd (pe_op op_zDiv (pv 5) pe_int) pe_int)) pa_nil)) pe_int))
  (pss_one (ps_expr (pe_bm PySem.F.plainAttrs_list PySem.F.slot_list_append PySem.F.type_list_append mt_append (pv 2) (pa_cons (pe_op op_zMod (pe_op op_zDiv (pv 7) pe_int) (pe_ix (ix_z hu) (pv 1) (pv 6) (fun _ _ => rfl))) pa_nil)))))))
  (pss_one (ps_ret (pv 2))))))))
def t__law_wider (w : World) (K : PySem.W.Frag) (W : WX) : TS :=
  (tSeq (tAsg (tLst tNil) (gName 2))
  (tSeq (tFor (iList K (tOp (zIx K) (tVar 0) (tC (.int 2)))) (gName 3) (tIfS (tAnd (tTest (tOp (zEq K) (tOp (zIx K) (tVar 3) (tC (.int 0))) (tC (.str (tx [99, 111, 117, 110, 116]))))) (tTest (tOp (zEq K) (tOp (zIx K) (tVar 1) (tC (.int 0))) (tC (.int 0))))) (tDrop (tBM K "list" rAppend (tVar 2) (tCons (tTup (tCons (tOp (zIx K) (tVar 3) (tC (.int 0))) (tCons (tOp (zIx K) (tVar 3) (tC (.int 1))) (tCons (tSl (zSl K) (tOp (zMulU K) (tOp (zIx K) (tVar 3) (tC (.int 2))) (tC (.int 6))) tNoPart (tPart (tOp (zAdd K) (tC (.int 1)) (tOp (zIx K) (tVar 1) (tC (.int 1)))))) tNil)))) tNil))) (tIfS (tTest (tOp (zEq K) (tOp (zIx K) (tVar 3) (tC (.int 0))) (tC (.str (tx [101, 118, 101, 114, 121]))))) (tDrop (tBM K "list" rAppend (tVar 2) (tCons (tOp (zAdd K) (tOp (zAdd K) (tSl (zSl K) (tVar 3) tNoPart (tPart (tC (.int 3)))) (tTup (tCons (tOp (zAdd K) (tC (.int 1)) (tOp (zIx K) (tVar 1) (tC (.int 1)))) tNil))) (tSl (zSl K) (tVar 3) (tPart (tC (.int 4))) tNoPart)) tNil))) (tDrop (tBM K "list" rAppend (tVar 2) (tCons (tVar 3) tNil))))))
  (tRet (tLst (tCons (tOp (zIx K) (tVar 0) (tC (.int 0))) (tCons (tCB zMax2 (tCons (tOp (zIx K) (tVar 0) (tC (.int 1))) (tCons (tOp (zIx K) (tVar 1) (tC (.int 2))) tNil))) (tCons (tVar 2) tNil)))))))
theorem ps__law_wider (T : Tx w K mg)  {f : Addr} {cdv : Value} {A : Around} {outer : List Env} {s : Shared} {H : Hp} {E : XK} (hr : Room 0 (A.deeper (envOfC "_law_wider" (defScope s__law_wider) s.heap.objs.size f cdv))) :
    PSs (cxOf (L2.CX P w) P w K mg base N__law_wider "_law_wider" (defScope s__law_wider) f cdv A outer s H E) (defBody s__law_wider) (t__law_wider w K (fun cls d _ H' => E cls d H')) := by
  have nd := sc__law_wider.nd
  have hu := hr.units
  have tk : Takes (cxOf (L2.CX P w) P w K mg base N__law_wider "_law_wider" (defScope s__law_wider) f cdv A outer s H E) (fun cls d _ H' => E cls d H') := takes_of rfl rfl rfl rfl
  exact (pss_cons (ps_set (i := 2) nd rfl (Or.inl rfl) (pe_lst pa_nil))
  (pss_cons (ps_for (passes_of rfl) rfl (pi_list (pe_ix (ix_z hu) (pv 0) pe_int (fun _ _ => rfl))) (pg_name (i := 3) nd rfl (Or.inl rfl)) (pss_one (ps_if (PW.pt (pw_and (pt_cmpR (op_zEq hu) (pe_ix (ix_z hu) (pv 3) pe_int (fun _ _ => rfl)) pe_str (nomark _)) (pw_and1 (pt_cmpR (op_zEq hu) (pe_ix (ix_z hu) (pv 1) pe_int (fun _ _ => rfl)) pe_int (nomark _))))) (pss_one (ps_expr (pe_bm PySem.F.plainAttrs_list PySem.F.slot_list_append PySem.F.type_list_append mt_append (pv 2) (pa_cons (pe_tup (pa_cons (pe_ix (ix_z hu) (pv 3) pe_int (fun _ _ => rfl)) (pa_cons (pe_ix (ix_z hu) (pv 3) pe_int (fun _ _ => rfl)) (pa_cons (pe_slice sl_z (pe_op op_zMulU (pe_ix (ix_z hu) (pv 3) pe_int (fun _ _ => rfl)) pe_int) po_none (po_some (pe_op op_zAdd pe_int (pe_ix (ix_z hu) (pv 1) pe_int (fun _ _ => rfl))))) pa_nil)))) pa_nil)))) (pss_one (ps_if (pt_cmpR (op_zEq hu) (pe_ix (ix_z hu) (pv 3) pe_int (fun _ _ => rfl)) pe_str (nomark _)) (pss_one (ps_expr (pe_bm PySem.F.plainAttrs_list PySem.F.slot_list_append PySem.F.type_list_append mt_append (pv 2) (pa_cons (pe_op op_zAdd (pe_op op_zAdd (pe_slice sl_z (pv 3) po_none (po_some pe_int)) (pe_tup (pa_cons (pe_op op_zAdd pe_int (pe_ix (ix_z hu) (pv 1) pe_int (fun _ _ => rfl))) pa_nil))) (pe_slice sl_z (pv 3) (po_some pe_int) po_none)) pa_nil)))) (pss_one (ps_expr (pe_bm PySem.F.plainAttrs_list PySem.F.slot_list_append PySem.F.type_list_append mt_append (pv 2) (pa_cons (pv 3) pa_nil)))))))))
  (pss_one (ps_ret (pe_lst (pa_cons (pe_ix (ix_z hu) (pv 0) pe_int (fun _ _ => rfl)) (pa_cons (pe_callB (call_zMax2 rfl) (by rfl) T.f_max bt_max (pa_cons (pe_ix (ix_z hu) (pv 0) pe_int (fun _ _ => rfl)) (pa_cons (pe_ix (ix_z hu) (pv 1) pe_int (fun _ _ => rfl)) pa_nil))) (pa_cons (pv 2) pa_nil))))))))
def t_are_letters (w : World) (K : PySem.W.Frag) (W : WX) : TS :=
  (tSeq (tAsg (tLc (iStr (tVar 0)) (gName 2) tYes (tBM K "str" rFindT (tC (.str (tx [97, 98, 99, 100, 101, 102, 103, 104, 105, 106, 107, 108, 109, 110, 111, 112, 113, 114, 115, 116, 117, 118, 119, 120, 121, 122]))) (tCons (tVar 2) tNil)) [2]) (gName 1))
  (tRet (tAndV (tChain zLe zLe (tC (.int 1)) (tCB (zLen K) (tCons (tVar 0) tNil)) (tC (.int 3))) (tAndV (tOp (zIn K true) (tUn (rU fun i => .int (-i)) (tC (.int 1))) (tVar 1)) (tOp (zEq K) (tVar 1) (tCB (rSortedSet w) (tCons (tCB (rSetL1 K w) (tCons (tVar 1) tNil)) tNil)))))))
theorem ps_are_letters (T : Tx w K mg)  {f : Addr} {cdv : Value} {A : Around} {outer : List Env} {s : Shared} {H : Hp} {E : XK} (hr : Room 0 (A.deeper (envOfC "are_letters" (defScope s_are_letters) s.heap.objs.size f cdv))) :
    PSs (cxOf (L2.CX P w) P w K mg base N_are_letters "are_letters" (defScope s_are_letters) f cdv A outer s H E) (defBody s_are_letters) (t_are_letters w K (fun cls d _ H' => E cls d H')) := by
  have nd := sc_are_letters.nd
  have hu := hr.units
  have tk : Takes (cxOf (L2.CX P w) P w K mg base N_are_letters "are_letters" (defScope s_are_letters) f cdv A outer s H E) (fun cls d _ H' => E cls d H') := takes_of rfl rfl rfl rfl
  exact (pss_cons (ps_setLc (i := 1) (own := [(PySem.Str.ofString "letter", 2)]) (by rfl) nd rfl rfl (sw_true rfl rfl rfl (by decide +kernel)) (pi_str (pv 0)) (blkOk_by (own := [(PySem.Str.ofString "letter", 2)]) (N := N_are_letters) (by show blkC N_are_letters (defScope s_are_letters) _ [(PySem.Str.ofString "letter", 2)] = true; decide +kernel)) (fun _ _ _ _ _ => (pg_name (i := 2) nd rfl (Or.inl rfl))) (fun _ _ _ _ _ => pts_nil) (fun _ _ _ _ _ => (pe_bm PySem.F.plainAttrs_str PySem.F.slot_str_find PySem.F.type_str_find mt_zFindT (pe_glob (by rfl) T.k_ALPHABET.choose_spec ⟨_, rfl⟩) (pa_cons (pv 2) pa_nil))))
  (pss_one (ps_ret (pe_and (pe_chain op_zLe op_zLe pe_int (pe_callB call_zLen (by rfl) T.f_len bt_len (pa_cons (pv 0) pa_nil)) pe_int) (pe_and (pe_cmpR (op_zNotIn hu) (pe_un un_neg pe_int) (pv 1) (by rfl)) (pe_one (pe_cmpR (op_zEq hu) (pv 1) (pe_callB (cr_sortedSet rfl) (by rfl) T.f_sorted bt_sorted (pa_cons (pe_callTy (cr_setL1 rfl) (by rfl) T.f_set bt_set (pa_cons (pv 1) pa_nil)) pa_nil)) (nomark _))))))))
def t_read_head (w : World) (K : PySem.W.Frag) (W : WX) : TS :=
  (tSeq (tAsg (tBM K "str" rSplitT (tVar 0) (tCons (tC (.str (tx [32]))) tNil)) (gName 1))
  (tSeq (tIfS (tOr (tTest (tOp (zNe K) (tCB (zLen K) (tCons (tVar 1) tNil)) (tC (.int 3)))) (tOr (tTest (tOp (zNe K) (tOp (zIx K) (tVar 1) (tC (.int 0))) (tC (.str (tx [112, 114, 111, 103, 114, 97, 109]))))) (tNot (tB (tCallS (spz K (F_are_letters K)) (WE W) (tCons (tOp (zIx K) (tVar 1) (tC (.int 1))) tNil)))))) (tRet (tC .non)) tNext)
  (tSeq (tIfS (tTest (tOp (zIn K true) (tOp (zIx K) (tVar 1) (tC (.int 2))) (tTup (tCons (tC (.str (tx [48]))) (tCons (tC (.str (tx [49]))) (tCons (tC (.str (tx [50]))) (tCons (tC (.str (tx [51]))) (tCons (tC (.str (tx [52]))) (tCons (tC (.str (tx [53]))) tNil))))))))) (tRet (tC .non)) tNext)
  (tRet (tTup (tCons (tOp (zIx K) (tVar 1) (tC (.int 1))) (tCons (tCB zIntT (tCons (tOp (zIx K) (tVar 1) (tC (.int 2))) tNil)) tNil)))))))
theorem ps_read_head (T : Tx w K mg) (D_are_letters : Df P w K mg base "are_letters" ["letters"] 1 (spz K (F_are_letters K))) {f : Addr} {cdv : Value} {A : Around} {outer : List Env} {s : Shared} {H : Hp} {E : XK} (hr : Room 1 (A.deeper (envOfC "read_head" (defScope s_read_head) s.heap.objs.size f cdv))) :
    PSs (cxOf (L2.CX P w) P w K mg base N_read_head "read_head" (defScope s_read_head) f cdv A outer s H E) (defBody s_read_head) (t_read_head w K (fun cls d _ H' => E cls d H')) := by
  have nd := sc_read_head.nd
  have hu := hr.units
  have tk : Takes (cxOf (L2.CX P w) P w K mg base N_read_head "read_head" (defScope s_read_head) f cdv A outer s H E) (fun cls d _ H' => E cls d H') := takes_of rfl rfl rfl rfl
  exact (pss_cons (ps_set (i := 1) nd rfl (Or.inl rfl) (pe_bm PySem.F.plainAttrs_str PySem.F.slot_str_split PySem.F.type_str_split mt_zSplitT (pv 0) (pa_cons pe_str pa_nil)))
  (pss_cons (ps_if (PW.pt (pw_or (pt_cmpR (op_zNe hu) (pe_callB call_zLen (by rfl) T.f_len bt_len (pa_cons (pv 1) pa_nil)) pe_int (nomark _)) (pw_or (pt_cmpR (op_zNe hu) (pe_ix (ix_z hu) (pv 1) pe_int (fun _ _ => rfl)) pe_str (nomark _)) (pw_or1 (pt_not (pt_val (pe_callZ D_are_letters (hr.mono (by omega)) tk (pa_cons (pe_ix (ix_z hu) (pv 1) pe_int (fun _ _ => rfl)) pa_nil)))))))) (pss_one (ps_ret pe_non)) pss_nil)
  (pss_cons (ps_if (pt_cmpR (op_zNotIn hu) (pe_ix (ix_z hu) (pv 1) pe_int (fun _ _ => rfl)) (pe_tup (pa_cons pe_str (pa_cons pe_str (pa_cons pe_str (pa_cons pe_str (pa_cons pe_str (pa_cons pe_str pa_nil))))))) (by rfl)) (pss_one (ps_ret pe_non)) pss_nil)
  (pss_one (ps_ret (pe_tup (pa_cons (pe_ix (ix_z hu) (pv 1) pe_int (fun _ _ => rfl)) (pa_cons (pe_callTy call_zIntT (by rfl) T.f_int bt_int (pa_cons (pe_ix (ix_z hu) (pv 1) pe_int (fun _ _ => rfl)) pa_nil)) pa_nil))))))))
def t_check_letters (w : World) (K : PySem.W.Frag) (W : WX) : TS :=
  (tIfS (tNot (tB (tCallS (spz K (F_are_letters K)) (WE W) (tCons (tVar 0) tNil)))) (tRaise (He.ga K (PySem.Str.ofString "BadLetters")) (spX1 (He.ga K (PySem.Str.ofString "BadLetters")) (PySem.Str.ofString "letters")) (tCons (tVar 0) tNil) W) tNext)
theorem ps_check_letters (T : Tx w K mg) (D_BadLetters : Dx P w K mg base "BadLetters" (He.ga K "BadLetters") ["self", "letters"] (spX1 (He.ga K "BadLetters") "letters")) (D_are_letters : Df P w K mg base "are_letters" ["letters"] 1 (spz K (F_are_letters K))) {f : Addr} {cdv : Value} {A : Around} {outer : List Env} {s : Shared} {H : Hp} {E : XK} (hr : Room 2 (A.deeper (envOfC "check_letters" (defScope s_check_letters) s.heap.objs.size f cdv))) :
    PSs (cxOf (L2.CX P w) P w K mg base N_check_letters "check_letters" (defScope s_check_letters) f cdv A outer s H E) (defBody s_check_letters) (t_check_letters w K (fun cls d _ H' => E cls d H')) := by
  have nd := sc_check_letters.nd
  have hu := hr.units
  have tk : Takes (cxOf (L2.CX P w) P w K mg base N_check_letters "check_letters" (defScope s_check_letters) f cdv A outer s H E) (fun cls d _ H' => E cls d H') := takes_of rfl rfl rfl rfl
  exact (pss_one (ps_if (pt_not (pt_val (pe_callZ D_are_letters (hr.mono (by omega)) tk (pa_cons (pv 0) pa_nil)))) (pss_one (ps_raiseZ D_BadLetters (by rfl) (hr.mono (by omega)) tk (pa_cons (pv 0) pa_nil))) pss_nil))
def t_frozen (n : Nat) (w : World) (K : PySem.W.Frag) (W : WX) : TS :=
  (tSeq (tIfS (tB (tCB (zIsi2 K) (tCons (tVar 0) (tCons (tTup (tCons (tC (.ty "list")) (tCons (tC (.ty "tuple")) tNil))) tNil)))) (tRet (tCB (zTuple K) (tCons (tLc (iSeq K (tVar 0)) (gName 1) tYes (tCall (spz K (F_frozen n K)) [] E0 (tCons (tVar 1) tNil)) [1]) tNil))) tNext)
  (tRet (tVar 0)))
theorem ps_frozen (n : Nat) (T : Tx w K mg) (D_frozen : Df P w K mg base "frozen" ["value"] (1 + n) (spz K (F_frozen n K))) {f : Addr} {cdv : Value} {A : Around} {outer : List Env} {s : Shared} {H : Hp} {E : XK} (hr : Room (1 + n) (A.deeper (envOfC "frozen" (defScope s_frozen) s.heap.objs.size f cdv))) :
    PSs (cxOf (L2.CX P w) P w K mg base N_frozen "frozen" (defScope s_frozen) f cdv A outer s H E) (defBody s_frozen) (t_frozen n w K (fun cls d _ H' => E cls d H')) := by
  have nd := sc_frozen.nd
  have hu := hr.units
  have tk : Takes (cxOf (L2.CX P w) P w K mg base N_frozen "frozen" (defScope s_frozen) f cdv A outer s H E) (fun cls d _ H' => E cls d H') := takes_of rfl rfl rfl rfl
  exact (pss_cons (ps_if (pt_val (pe_callB call_zIsi2 (by rfl) T.f_isinstance bt_isinstance (pa_cons (pv 0) (pa_cons (pe_tup (pa_cons (pe_bltn (by rfl) T.f_list bt_list rfl) (pa_cons (pe_bltn (by rfl) T.f_tuple bt_tuple rfl) pa_nil))) pa_nil)))) (pss_one (ps_ret (pe_callTy call_zTuple (by rfl) T.f_tuple bt_tuple (pa_cons (pe_lc (own := [(PySem.Str.ofString "part", 1)]) (by rfl) nd (pi_seq (pv 0)) (blkOk_by (own := [(PySem.Str.ofString "part", 1)]) (N := N_frozen) (by show blkC N_frozen (defScope s_frozen) _ [(PySem.Str.ofString "part", 1)] = true; decide +kernel)) (fun _ _ _ _ _ => (pg_name (i := 1) nd rfl (Or.inl rfl))) (fun _ _ _ _ _ => pts_nil) (fun _ _ _ _ _ => (pe_callN D_frozen (hr.mono (by omega)) (pa_cons (pv 1) pa_nil)))) pa_nil)))) pss_nil)
  (pss_one (ps_ret (pv 0))))
def t_is_whole (w : World) (K : PySem.W.Frag) (W : WX) : TS :=
  (tRet (tAndV (tCB (zIsi K) (tCons (tVar 0) (tCons (tC (.ty "int")) tNil))) (tNotV (tCB (zIsi K) (tCons (tVar 0) (tCons (tC (.ty "bool")) tNil))))))
theorem ps_is_whole (T : Tx w K mg)  {f : Addr} {cdv : Value} {A : Around} {outer : List Env} {s : Shared} {H : Hp} {E : XK} (hr : Room 0 (A.deeper (envOfC "is_whole" (defScope s_is_whole) s.heap.objs.size f cdv))) :
    PSs (cxOf (L2.CX P w) P w K mg base N_is_whole "is_whole" (defScope s_is_whole) f cdv A outer s H E) (defBody s_is_whole) (t_is_whole w K (fun cls d _ H' => E cls d H')) := by
  have nd := sc_is_whole.nd
  have hu := hr.units
  have tk : Takes (cxOf (L2.CX P w) P w K mg base N_is_whole "is_whole" (defScope s_is_whole) f cdv A outer s H E) (fun cls d _ H' => E cls d H') := takes_of rfl rfl rfl rfl
  exact (pss_one (ps_ret (pe_and (pe_callB call_zIsi (by rfl) T.f_isinstance bt_isinstance (pa_cons (pv 0) (pa_cons (pe_bltn (by rfl) T.f_int bt_int rfl) pa_nil))) (pe_one (pe_not (pe_callB call_zIsi (by rfl) T.f_isinstance bt_isinstance (pa_cons (pv 0) (pa_cons (pe_bltn (by rfl) T.f_bool bt_bool rfl) pa_nil))))))))
def t_is_target (w : World) (K : PySem.W.Frag) (W : WX) : TS :=
  (tRet (tOrV (tOp zIsB (tVar 0) (tC (.bl true))) (tOrV (tOp zIsB (tVar 0) (tC (.bl false))) (tAndV (tCallS (spz K (F_is_whole K)) (WE W) (tCons (tVar 0) tNil)) (tChain zLe zLt (tC (.int 0)) (tVar 0) (tVar 1))))))
theorem ps_is_target (T : Tx w K mg) (D_is_whole : Df P w K mg base "is_whole" ["value"] 1 (spz K (F_is_whole K))) {f : Addr} {cdv : Value} {A : Around} {outer : List Env} {s : Shared} {H : Hp} {E : XK} (hr : Room 1 (A.deeper (envOfC "is_target" (defScope s_is_target) s.heap.objs.size f cdv))) :
    PSs (cxOf (L2.CX P w) P w K mg base N_is_target "is_target" (defScope s_is_target) f cdv A outer s H E) (defBody s_is_target) (t_is_target w K (fun cls d _ H' => E cls d H')) := by
  have nd := sc_is_target.nd
  have hu := hr.units
  have tk : Takes (cxOf (L2.CX P w) P w K mg base N_is_target "is_target" (defScope s_is_target) f cdv A outer s H E) (fun cls d _ H' => E cls d H') := takes_of rfl rfl rfl rfl
  exact (pss_one (ps_ret (pe_or (pe_cmpR op_zIsB (pv 0) pe_bl (nomark _)) (pe_or (pe_cmpR op_zIsB (pv 0) pe_bl (nomark _)) (pe_one (pe_and (pe_callZ D_is_whole (hr.mono (by omega)) tk (pa_cons (pv 0) pa_nil)) (pe_one (pe_chain op_zLe op_zLt pe_int (pv 0) (pv 1)))))))))
def t_is_item (w : World) (K : PySem.W.Frag) (W : WX) : TS :=
  (tSeq (tIfS (tTest (tOp (zEq K) (tVar 0) (tC (.str (tx [99]))))) (tRet (tAndV (tCB (zIsi K) (tCons (tVar 1) (tCons (tC (.ty "str")) tNil))) (tAndV (tOp (zEq K) (tCB (zLen K) (tCons (tVar 1) tNil)) (tC (.int 1))) (tOp (zIn K false) (tVar 1) (tVar 2))))) tNext)
  (tSeq (tIfS (tTest (tOp (zEq K) (tVar 0) (tC (.str (tx [110]))))) (tRet (tAndV (tCallS (spz K (F_is_whole K)) (WE W) (tCons (tVar 1) tNil)) (tChain zLe zLe (tC (.int 1)) (tVar 1) (tC (.int 6))))) tNext)
  (tSeq (tIfS (tTest (tOp (zEq K) (tVar 0) (tC (.str (tx [116]))))) (tRet (tCallS (spz K (F_is_target K)) (WE W) (tCons (tVar 1) (tCons (tVar 3) tNil)))) tNext)
  (tSeq (tIfS (tOr (tNot (tB (tCB (zIsi K) (tCons (tVar 1) (tCons (tC (.ty "tuple")) tNil))))) (tNot (tTest (tChain zLe zLe (tC (.int 1)) (tCB (zLen K) (tCons (tVar 1) tNil)) (tC (.int 6)))))) (tRet (tC (.bl false))) tNext)
  (tRet (tCB (zAll K) (tCons (tLc (iTup K (tVar 1)) (gName 4) tYes (tCall (spz K (F_is_target K)) [] E0 (tCons (tVar 4) (tCons (tVar 3) tNil))) [4]) tNil)))))))
theorem ps_is_item (T : Tx w K mg) (D_is_target : Df P w K mg base "is_target" ["value", "sweeps"] 2 (spz K (F_is_target K))) (D_is_whole : Df P w K mg base "is_whole" ["value"] 1 (spz K (F_is_whole K))) {f : Addr} {cdv : Value} {A : Around} {outer : List Env} {s : Shared} {H : Hp} {E : XK} (hr : Room 2 (A.deeper (envOfC "is_item" (defScope s_is_item) s.heap.objs.size f cdv))) :
    PSs (cxOf (L2.CX P w) P w K mg base N_is_item "is_item" (defScope s_is_item) f cdv A outer s H E) (defBody s_is_item) (t_is_item w K (fun cls d _ H' => E cls d H')) := by
  have nd := sc_is_item.nd
  have hu := hr.units
  have tk : Takes (cxOf (L2.CX P w) P w K mg base N_is_item "is_item" (defScope s_is_item) f cdv A outer s H E) (fun cls d _ H' => E cls d H') := takes_of rfl rfl rfl rfl
  exact (pss_cons (ps_if (pt_cmpR (op_zEq hu) (pv 0) pe_str (nomark _)) (pss_one (ps_ret (pe_and (pe_callB call_zIsi (by rfl) T.f_isinstance bt_isinstance (pa_cons (pv 1) (pa_cons (pe_bltn (by rfl) T.f_str bt_str rfl) pa_nil))) (pe_and (pe_cmpR (op_zEq hu) (pe_callB call_zLen (by rfl) T.f_len bt_len (pa_cons (pv 1) pa_nil)) pe_int (nomark _)) (pe_one (pe_cmpR (op_zIn hu) (pv 1) (pv 2) (by rfl))))))) pss_nil)
  (pss_cons (ps_if (pt_cmpR (op_zEq hu) (pv 0) pe_str (nomark _)) (pss_one (ps_ret (pe_and (pe_callZ D_is_whole (hr.mono (by omega)) tk (pa_cons (pv 1) pa_nil)) (pe_one (pe_chain op_zLe op_zLe pe_int (pv 1) (pe_glob (by rfl) T.k_MOST_STEP.choose_spec ⟨_, rfl⟩)))))) pss_nil)
  (pss_cons (ps_if (pt_cmpR (op_zEq hu) (pv 0) pe_str (nomark _)) (pss_one (ps_ret (pe_callZ D_is_target (hr.mono (by omega)) tk (pa_cons (pv 1) (pa_cons (pv 3) pa_nil))))) pss_nil)
  (pss_cons (ps_if (PW.pt (pw_or (pt_not (pt_val (pe_callB call_zIsi (by rfl) T.f_isinstance bt_isinstance (pa_cons (pv 1) (pa_cons (pe_bltn (by rfl) T.f_tuple bt_tuple rfl) pa_nil))))) (pw_or1 (pt_not (pt_chain op_zLe op_zLe pe_int (pe_callB call_zLen (by rfl) T.f_len bt_len (pa_cons (pv 1) pa_nil)) (pe_glob (by rfl) T.k_MOST_TARGETS.choose_spec ⟨_, rfl⟩)))))) (pss_one (ps_ret pe_bl)) pss_nil)
  (pss_one (ps_ret (pe_callB (call_zAll rfl) (by rfl) T.f_all bt_all (pa_cons (pe_lc (own := [(PySem.Str.ofString "target", 4)]) (by rfl) nd (pi_tup (pv 1)) (blkOk_by (own := [(PySem.Str.ofString "target", 4)]) (N := N_is_item) (by show blkC N_is_item (defScope s_is_item) _ [(PySem.Str.ofString "target", 4)] = true; decide +kernel)) (fun _ _ _ _ _ => (pg_name (i := 4) nd rfl (Or.inl rfl))) (fun _ _ _ _ _ => pts_nil) (fun _ _ _ _ _ => (pe_callN D_is_target (hr.mono (by omega)) (pa_cons (pv 4) (pa_cons (pv 3) pa_nil))))) pa_nil))))))))
def t_is_line (w : World) (K : PySem.W.Frag) (W : WX) : TS :=
  (tSeq (tIfS (tOr (tNot (tB (tCB (zIsi K) (tCons (tVar 0) (tCons (tC (.ty "tuple")) tNil))))) (tOr (tTest (tOp (zEq K) (tCB (zLen K) (tCons (tVar 0) tNil)) (tC (.int 0)))) (tTest (tOp (rKIn K (He.ga K (PySem.Str.ofString "SHAPES")) true) (tOp (zIx K) (tVar 0) (tC (.int 0))) (tC (.ref (He.ga K (PySem.Str.ofString "SHAPES")))))))) (tRet (tC (.bl false))) tNext)
  (tSeq (tAsg (tOp (rKIx K (He.ga K (PySem.Str.ofString "SHAPES"))) (tC (.ref (He.ga K (PySem.Str.ofString "SHAPES")))) (tOp (zIx K) (tVar 0) (tC (.int 0)))) (gName 3))
  (tSeq (tIfS (tTest (tOp (zNe K) (tCB (zLen K) (tCons (tVar 0) tNil)) (tOp (zAdd K) (tCB (zLen K) (tCons (tVar 3) tNil)) (tC (.int 1))))) (tRet (tC (.bl false))) tNext)
  (tRet (tCB (zAll K) (tCons (tLc (iEnumZ K (tCons (tVar 3) tNil)) (gTup K 2 (gCons (gName 4) (gCons (gName 5) gNil))) tYes (tCall (spz K (F_is_item K)) [] E0 (tCons (tVar 5) (tCons (tOp (zIx K) (tVar 0) (tOp (zAdd K) (tVar 4) (tC (.int 1)))) (tCons (tVar 1) (tCons (tVar 2) tNil))))) [4, 5]) tNil))))))
theorem ps_is_line (T : Tx w K mg) (D_is_item : Df P w K mg base "is_item" ["shape", "item", "characters", "lines"] 3 (spz K (F_is_item K))) {f : Addr} {cdv : Value} {A : Around} {outer : List Env} {s : Shared} {H : Hp} {E : XK} (hr : Room 3 (A.deeper (envOfC "is_line" (defScope s_is_line) s.heap.objs.size f cdv))) :
    PSs (cxOf (L2.CX P w) P w K mg base N_is_line "is_line" (defScope s_is_line) f cdv A outer s H E) (defBody s_is_line) (t_is_line w K (fun cls d _ H' => E cls d H')) := by
  have nd := sc_is_line.nd
  have hu := hr.units
  have tk : Takes (cxOf (L2.CX P w) P w K mg base N_is_line "is_line" (defScope s_is_line) f cdv A outer s H E) (fun cls d _ H' => E cls d H') := takes_of rfl rfl rfl rfl
  exact (pss_cons (ps_if (PW.pt (pw_or (pt_not (pt_val (pe_callB call_zIsi (by rfl) T.f_isinstance bt_isinstance (pa_cons (pv 0) (pa_cons (pe_bltn (by rfl) T.f_tuple bt_tuple rfl) pa_nil))))) (pw_or (pt_cmpR (op_zEq hu) (pe_callB call_zLen (by rfl) T.f_len bt_len (pa_cons (pv 0) pa_nil)) pe_int (nomark _)) (pw_or1 (pt_cmpR (op_KNotIn T.d_SHAPES) (pe_ix (ix_z hu) (pv 0) pe_int (fun _ _ => rfl)) (pe_glob (by rfl) T.g_SHAPES rfl) (by rfl)))))) (pss_one (ps_ret pe_bl)) pss_nil)
  (pss_cons (ps_set (i := 3) nd rfl (Or.inl rfl) (pe_ix (ix_K T.d_SHAPES) (pe_glob (by rfl) T.g_SHAPES rfl) (pe_ix (ix_z hu) (pv 0) pe_int (fun _ _ => rfl)) (fun _ _ => rfl)))
  (pss_cons (ps_if (pt_cmpR (op_zNe hu) (pe_callB call_zLen (by rfl) T.f_len bt_len (pa_cons (pv 0) pa_nil)) (pe_op op_zAdd (pe_callB call_zLen (by rfl) T.f_len bt_len (pa_cons (pv 3) pa_nil)) pe_int) (nomark _)) (pss_one (ps_ret pe_bl)) pss_nil)
  (pss_one (ps_ret (pe_callB (call_zAll rfl) (by rfl) T.f_all bt_all (pa_cons (pe_lc (own := [(PySem.Str.ofString "at", 4), (PySem.Str.ofString "shape", 5)]) (by rfl) nd (pi_enumZ (by rfl) T.f_enumerate (pa_cons (pv 3) pa_nil)) (blkOk_by (own := [(PySem.Str.ofString "at", 4), (PySem.Str.ofString "shape", 5)]) (N := N_is_line) (by show blkC N_is_line (defScope s_is_line) _ [(PySem.Str.ofString "at", 4), (PySem.Str.ofString "shape", 5)] = true; decide +kernel)) (fun _ _ _ _ _ => (pg_tup (by rfl) (pgs_cons (pg_name (i := 4) nd rfl (Or.inl rfl)) (pgs_cons (pg_name (i := 5) nd rfl (Or.inl rfl)) pgs_nil)))) (fun _ _ _ _ _ => pts_nil) (fun _ _ _ _ _ => (pe_callN D_is_item (hr.mono (by omega)) (pa_cons (pv 5) (pa_cons (pe_ix (ix_z hu) (pv 0) (pe_op op_zAdd (pv 4) pe_int) (fun _ _ => rfl)) (pa_cons (pv 1) (pa_cons (pv 2) pa_nil))))))) pa_nil)))))))
def t_characters_of (w : World) (K : PySem.W.Frag) (W : WX) : TS :=
  (tRet (tOp (zAdd K) (tVar 0) (tSl (zSl K) (tC (.str (tx [65, 66, 67, 68, 69]))) tNoPart (tPart (tVar 1)))))
theorem ps_characters_of (T : Tx w K mg)  {f : Addr} {cdv : Value} {A : Around} {outer : List Env} {s : Shared} {H : Hp} {E : XK} (hr : Room 0 (A.deeper (envOfC "characters_of" (defScope s_characters_of) s.heap.objs.size f cdv))) :
    PSs (cxOf (L2.CX P w) P w K mg base N_characters_of "characters_of" (defScope s_characters_of) f cdv A outer s H E) (defBody s_characters_of) (t_characters_of w K (fun cls d _ H' => E cls d H')) := by
  have nd := sc_characters_of.nd
  have hu := hr.units
  have tk : Takes (cxOf (L2.CX P w) P w K mg base N_characters_of "characters_of" (defScope s_characters_of) f cdv A outer s H E) (fun cls d _ H' => E cls d H') := takes_of rfl rfl rfl rfl
  exact (pss_one (ps_ret (pe_op op_zAdd (pv 0) (pe_slice sl_z (pe_glob (by rfl) T.k_MARKS.choose_spec ⟨_, rfl⟩) po_none (po_some (pv 1))))))
def t_Program (w : World) (K : PySem.W.Frag) (W : WX) : TS :=
  (tSeq (tDrop (tCallS (spz K (F_check_letters K)) (WE W) (tCons (tVar 1) tNil)))
  (tSeq (tAsg (tCallS (spz K (F_frozen 5 K)) (WE W) (tCons (tVar 3) tNil)) (gName 4))
  (tSeq (tIfS (tTest (tOp (zEq K) (tCB (zLen K) (tCons (tVar 4) tNil)) (tC (.int 0)))) (tRaise (He.ga K (PySem.Str.ofString "BadProgram")) (spX1 (He.ga K (PySem.Str.ofString "BadProgram")) (PySem.Str.ofString "index")) (tCons (tC (.int 0)) tNil) W) tNext)
  (tSeq (tFor (iEnumZ K (tCons (tVar 4) tNil)) (gTup K 2 (gCons (gName 5) (gCons (gName 6) gNil))) (tIfS (tNot (tB (tCallS (spz K (F_is_line K)) (WE W) (tCons (tVar 6) (tCons (tCallS (spz K (F_characters_of K)) (WE W) (tCons (tVar 1) (tCons (tVar 2) tNil))) (tCons (tCB (zLen K) (tCons (tVar 4) tNil)) tNil)))))) (tRaise (He.ga K (PySem.Str.ofString "BadProgram")) (spX1 (He.ga K (PySem.Str.ofString "BadProgram")) (PySem.Str.ofString "index")) (tCons (tVar 5) tNil) W) tNext))
  (tSeq (sFld K (tVar 0) (tVar 1) (PySem.Str.ofString "letters"))
  (tSeq (sFld K (tVar 0) (tVar 2) (PySem.Str.ofString "marks"))
  (sFld K (tVar 0) (tVar 4) (PySem.Str.ofString "lines"))))))))
theorem ps_Program (T : Tx w K mg) (D_BadProgram : Dx P w K mg base "BadProgram" (He.ga K "BadProgram") ["self", "index"] (spX1 (He.ga K "BadProgram") "index")) (D_characters_of : Df P w K mg base "characters_of" ["letters", "marks"] 1 (spz K (F_characters_of K))) (D_check_letters : Df P w K mg base "check_letters" ["letters"] 3 (spz K (F_check_letters K))) (D_frozen : Df P w K mg base "frozen" ["value"] 6 (spz K (F_frozen 5 K))) (D_is_line : Df P w K mg base "is_line" ["line", "characters", "lines"] 4 (spz K (F_is_line K))) {f : Addr} {cdv : Value} {A : Around} {outer : List Env} {s : Shared} {H : Hp} {E : XK} (hr : Room 6 (A.deeper (envOfC "Program.__init__" (defScope s_Program) s.heap.objs.size f cdv))) :
    PSs (cxOf (L2.CX P w) P w K mg base N_Program "Program.__init__" (defScope s_Program) f cdv A outer s H E) (defBody s_Program) (t_Program w K (fun cls d _ H' => E cls d H')) := by
  have nd := sc_Program.nd
  have hu := hr.units
  have tk : Takes (cxOf (L2.CX P w) P w K mg base N_Program "Program.__init__" (defScope s_Program) f cdv A outer s H E) (fun cls d _ H' => E cls d H') := takes_of rfl rfl rfl rfl
  exact (pss_cons (ps_expr (pe_callZ D_check_letters (hr.mono (by omega)) tk (pa_cons (pv 1) pa_nil)))
  (pss_cons (ps_set (i := 4) nd rfl (Or.inl rfl) (pe_callZ D_frozen (hr.mono (by omega)) tk (pa_cons (pv 3) pa_nil)))
  (pss_cons (ps_if (pt_cmpR (op_zEq hu) (pe_callB call_zLen (by rfl) T.f_len bt_len (pa_cons (pv 4) pa_nil)) pe_int (nomark _)) (pss_one (ps_raiseZ D_BadProgram (by rfl) (hr.mono (by omega)) tk (pa_cons pe_int pa_nil))) pss_nil)
  (pss_cons (ps_for (passes_of rfl) rfl (pi_enumZ (by rfl) T.f_enumerate (pa_cons (pv 4) pa_nil)) (pg_tup (by rfl) (pgs_cons (pg_name (i := 5) nd rfl (Or.inl rfl)) (pgs_cons (pg_name (i := 6) nd rfl (Or.inl rfl)) pgs_nil))) (pss_one (ps_if (pt_not (pt_val (pe_callZ D_is_line (hr.mono (by omega)) tk (pa_cons (pv 6) (pa_cons (pe_callZ D_characters_of (hr.mono (by omega)) tk (pa_cons (pv 1) (pa_cons (pv 2) pa_nil))) (pa_cons (pe_callB call_zLen (by rfl) T.f_len bt_len (pa_cons (pv 4) pa_nil)) pa_nil)))))) (pss_one (ps_raiseZ D_BadProgram (by rfl) (hr.mono (by omega)) tk (pa_cons (pv 5) pa_nil))) pss_nil)))
  (pss_cons (ps_fld (pv 0) (pv 1) rfl)
  (pss_cons (ps_fld (pv 0) (pv 2) rfl)
  (pss_one (ps_fld (pv 0) (pv 4) rfl))))))))
def t_plain_number (w : World) (K : PySem.W.Frag) (W : WX) : TS :=
  (tSeq (tIfS (tOr (tTest (tOp (zEq K) (tVar 0) (tC (.str (tx []))))) (tOr (tTest (tOp zGt (tCB (zLen K) (tCons (tVar 0) tNil)) (tVar 1))) (zTru K (tLc (iStr (tVar 0)) (gName 2) (tTest (tOp (zIn K true) (tVar 2) (tC (.str (tx [48, 49, 50, 51, 52, 53, 54, 55, 56, 57]))))) (tVar 2) [2])))) (tRet (tC .non)) tNext)
  (tSeq (tIfS (tAnd (tTest (tOp (zEq K) (tOp (zIx K) (tVar 0) (tC (.int 0))) (tC (.str (tx [48]))))) (tTest (tOp zGt (tCB (zLen K) (tCons (tVar 0) tNil)) (tC (.int 1))))) (tRet (tC .non)) tNext)
  (tRet (tCB zIntT (tCons (tVar 0) tNil)))))
theorem ps_plain_number (T : Tx w K mg)  {f : Addr} {cdv : Value} {A : Around} {outer : List Env} {s : Shared} {H : Hp} {E : XK} (hr : Room 0 (A.deeper (envOfC "plain_number" (defScope s_plain_number) s.heap.objs.size f cdv))) :
    PSs (cxOf (L2.CX P w) P w K mg base N_plain_number "plain_number" (defScope s_plain_number) f cdv A outer s H E) (defBody s_plain_number) (t_plain_number w K (fun cls d _ H' => E cls d H')) := by
  have nd := sc_plain_number.nd
  have hu := hr.units
  have tk : Takes (cxOf (L2.CX P w) P w K mg base N_plain_number "plain_number" (defScope s_plain_number) f cdv A outer s H E) (fun cls d _ H' => E cls d H') := takes_of rfl rfl rfl rfl
  exact (pss_cons (ps_if (PW.pt (pw_or (pt_cmpR (op_zEq hu) (pv 0) pe_str (nomark _)) (pw_or (pt_cmpR op_zGt (pe_callB call_zLen (by rfl) T.f_len bt_len (pa_cons (pv 0) pa_nil)) (pv 1) (nomark _)) (pw_or1 (pt_zTru (pe_lc (own := [(PySem.Str.ofString "sign", 2)]) (by rfl) nd (pi_str (pv 0)) (blkOk_by (own := [(PySem.Str.ofString "sign", 2)]) (N := N_plain_number) (by show blkC N_plain_number (defScope s_plain_number) _ [(PySem.Str.ofString "sign", 2)] = true; decide +kernel)) (fun _ _ _ _ _ => (pg_name (i := 2) nd rfl (Or.inl rfl))) (fun _ _ _ _ _ => (pts_one (pt_cmpR (op_zNotIn hu) (pv 2) pe_str (by rfl)))) (fun _ _ _ _ _ => (pv 2)))))))) (pss_one (ps_ret pe_non)) pss_nil)
  (pss_cons (ps_if (PW.pt (pw_and (pt_cmpR (op_zEq hu) (pe_ix (ix_z hu) (pv 0) pe_int (fun _ _ => rfl)) pe_str (nomark _)) (pw_and1 (pt_cmpR op_zGt (pe_callB call_zLen (by rfl) T.f_len bt_len (pa_cons (pv 0) pa_nil)) pe_int (nomark _))))) (pss_one (ps_ret pe_non)) pss_nil)
  (pss_one (ps_ret (pe_callTy call_zIntT (by rfl) T.f_int bt_int (pa_cons (pv 0) pa_nil))))))
def t_read_target (w : World) (K : PySem.W.Frag) (W : WX) : TS :=
  (tSeq (tIfS (tTest (tOp (zEq K) (tVar 0) (tC (.str (tx [121, 101, 115]))))) (tRet (tC (.bl true))) tNext)
  (tSeq (tIfS (tTest (tOp (zEq K) (tVar 0) (tC (.str (tx [110, 111]))))) (tRet (tC (.bl false))) tNext)
  (tSeq (tAsg (tCallS (spz K (F_plain_number K)) (WE W) (tCons (tVar 0) (tCons (tC (.int 2)) tNil))) (gName 2))
  (tSeq (tIfS (tOr (tTest (tOp zIsN (tVar 2) (tC .non))) (tTest (tOp zGe (tVar 2) (tVar 1)))) (tRet (tC .non)) tNext)
  (tRet (tVar 2))))))
theorem ps_read_target (T : Tx w K mg) (D_plain_number : Df P w K mg base "plain_number" ["word", "digits"] 1 (spz K (F_plain_number K))) {f : Addr} {cdv : Value} {A : Around} {outer : List Env} {s : Shared} {H : Hp} {E : XK} (hr : Room 1 (A.deeper (envOfC "read_target" (defScope s_read_target) s.heap.objs.size f cdv))) :
    PSs (cxOf (L2.CX P w) P w K mg base N_read_target "read_target" (defScope s_read_target) f cdv A outer s H E) (defBody s_read_target) (t_read_target w K (fun cls d _ H' => E cls d H')) := by
  have nd := sc_read_target.nd
  have hu := hr.units
  have tk : Takes (cxOf (L2.CX P w) P w K mg base N_read_target "read_target" (defScope s_read_target) f cdv A outer s H E) (fun cls d _ H' => E cls d H') := takes_of rfl rfl rfl rfl
  exact (pss_cons (ps_if (pt_cmpR (op_zEq hu) (pv 0) pe_str (nomark _)) (pss_one (ps_ret pe_bl)) pss_nil)
  (pss_cons (ps_if (pt_cmpR (op_zEq hu) (pv 0) pe_str (nomark _)) (pss_one (ps_ret pe_bl)) pss_nil)
  (pss_cons (ps_set (i := 2) nd rfl (Or.inl rfl) (pe_callZ D_plain_number (hr.mono (by omega)) tk (pa_cons (pv 0) (pa_cons pe_int pa_nil))))
  (pss_cons (ps_if (PW.pt (pw_or (pt_cmpR op_zIsN (pv 2) pe_non (nomark _)) (pw_or1 (pt_cmpR op_zGe (pv 2) (pv 1) (nomark _))))) (pss_one (ps_ret pe_non)) pss_nil)
  (pss_one (ps_ret (pv 2)))))))
def t_read_word (w : World) (K : PySem.W.Frag) (W : WX) : TS :=
  (tSeq (tIfS (tTest (tOp (zEq K) (tVar 0) (tC (.str (tx [99]))))) (tSeq (tIfS (tAnd (tTest (tOp (zEq K) (tCB (zLen K) (tCons (tVar 1) tNil)) (tC (.int 1)))) (tTest (tOp (zIn K false) (tVar 1) (tVar 2)))) (tRet (tVar 1)) tNext)
  (tRet (tC .non))) tNext)
  (tSeq (tIfS (tTest (tOp (zEq K) (tVar 0) (tC (.str (tx [116]))))) (tRet (tCallS (spz K (F_read_target K)) (WE W) (tCons (tVar 1) (tCons (tVar 3) tNil)))) tNext)
  (tSeq (tAsg (tCallS (spz K (F_plain_number K)) (WE W) (tCons (tVar 1) (tCons (tC (.int 2)) tNil))) (gName 4))
  (tSeq (tIfS (tOr (tTest (tOp zIsN (tVar 4) (tC .non))) (tNot (tTest (tChain zLe zLe (tC (.int 1)) (tVar 4) (tC (.int 6)))))) (tRet (tC .non)) tNext)
  (tRet (tVar 4))))))
theorem ps_read_word (T : Tx w K mg) (D_plain_number : Df P w K mg base "plain_number" ["word", "digits"] 1 (spz K (F_plain_number K))) (D_read_target : Df P w K mg base "read_target" ["word", "lines"] 2 (spz K (F_read_target K))) {f : Addr} {cdv : Value} {A : Around} {outer : List Env} {s : Shared} {H : Hp} {E : XK} (hr : Room 2 (A.deeper (envOfC "read_word" (defScope s_read_word) s.heap.objs.size f cdv))) :
    PSs (cxOf (L2.CX P w) P w K mg base N_read_word "read_word" (defScope s_read_word) f cdv A outer s H E) (defBody s_read_word) (t_read_word w K (fun cls d _ H' => E cls d H')) := by
  have nd := sc_read_word.nd
  have hu := hr.units
  have tk : Takes (cxOf (L2.CX P w) P w K mg base N_read_word "read_word" (defScope s_read_word) f cdv A outer s H E) (fun cls d _ H' => E cls d H') := takes_of rfl rfl rfl rfl
  exact (pss_cons (ps_if (pt_cmpR (op_zEq hu) (pv 0) pe_str (nomark _)) (pss_cons (ps_if (PW.pt (pw_and (pt_cmpR (op_zEq hu) (pe_callB call_zLen (by rfl) T.f_len bt_len (pa_cons (pv 1) pa_nil)) pe_int (nomark _)) (pw_and1 (pt_cmpR (op_zIn hu) (pv 1) (pv 2) (by rfl))))) (pss_one (ps_ret (pv 1))) pss_nil)
  (pss_one (ps_ret pe_non))) pss_nil)
  (pss_cons (ps_if (pt_cmpR (op_zEq hu) (pv 0) pe_str (nomark _)) (pss_one (ps_ret (pe_callZ D_read_target (hr.mono (by omega)) tk (pa_cons (pv 1) (pa_cons (pv 3) pa_nil))))) pss_nil)
  (pss_cons (ps_set (i := 4) nd rfl (Or.inl rfl) (pe_callZ D_plain_number (hr.mono (by omega)) tk (pa_cons (pv 1) (pa_cons pe_int pa_nil))))
  (pss_cons (ps_if (PW.pt (pw_or (pt_cmpR op_zIsN (pv 4) pe_non (nomark _)) (pw_or1 (pt_not (pt_chain op_zLe op_zLe pe_int (pv 4) (pe_glob (by rfl) T.k_MOST_STEP.choose_spec ⟨_, rfl⟩)))))) (pss_one (ps_ret pe_non)) pss_nil)
  (pss_one (ps_ret (pv 4)))))))
def t_read_line (w : World) (K : PySem.W.Frag) (W : WX) : TS :=
  (tSeq (tAsg (tBM K "str" rSplitT (tVar 0) (tCons (tC (.str (tx [32]))) tNil)) (gName 4))
  (tSeq (tIfS (tOr (tTest (tOp zLt (tCB (zLen K) (tCons (tVar 4) tNil)) (tC (.int 3)))) (tOr (tTest (tOp (zNe K) (tOp (zIx K) (tVar 4) (tC (.int 0))) (tCB zStr (tCons (tVar 1) tNil)))) (tTest (tOp (rKIn K (He.ga K (PySem.Str.ofString "SHAPES")) true) (tOp (zIx K) (tVar 4) (tC (.int 1))) (tC (.ref (He.ga K (PySem.Str.ofString "SHAPES")))))))) (tRet (tC .non)) tNext)
  (tSeq (tAsg (tOp (rKIx K (He.ga K (PySem.Str.ofString "SHAPES"))) (tC (.ref (He.ga K (PySem.Str.ofString "SHAPES")))) (tOp (zIx K) (tVar 4) (tC (.int 1)))) (gName 5))
  (tSeq (tIfS (tTest (tOp (zEq K) (tVar 5) (tC (.str (tx [99, 115]))))) (tAsg (tOp (zAdd K) (tC (.str (tx [99]))) (tOp zMul (tC (.str (tx [116]))) (tCB zMin2 (tCons (tCB zMax2 (tCons (tOp zSub (tCB (zLen K) (tCons (tVar 4) tNil)) (tC (.int 3))) (tCons (tC (.int 1)) tNil))) (tCons (tC (.int 6)) tNil))))) (gName 5)) tNext)
  (tSeq (tIfS (tTest (tOp (zNe K) (tCB (zLen K) (tCons (tVar 4) tNil)) (tOp (zAdd K) (tCB (zLen K) (tCons (tVar 5) tNil)) (tC (.int 2))))) (tRet (tC .non)) tNext)
  (tSeq (tAsg (tLc (iEnumZ K (tCons (tVar 5) tNil)) (gTup K 2 (gCons (gName 7) (gCons (gName 8) gNil))) tYes (tCall (spz K (F_read_word K)) [] E0 (tCons (tVar 8) (tCons (tOp (zIx K) (tVar 4) (tOp (zAdd K) (tVar 7) (tC (.int 2)))) (tCons (tVar 2) (tCons (tVar 3) tNil))))) [7, 8]) (gName 6))
  (tSeq (tIfS (tTest (tOp (zIn K false) (tC .non) (tVar 6))) (tRet (tC .non)) tNext)
  (tSeq (tIfS (tTest (tOp (zEq K) (tOp (zIx K) (tVar 4) (tC (.int 1))) (tC (.str (tx [99, 111, 117, 110, 116]))))) (tRet (tTup (tCons (tOp (zIx K) (tVar 4) (tC (.int 1))) (tCons (tOp (zIx K) (tVar 6) (tC (.int 0))) (tCons (tSl (zSl K) (tVar 6) (tPart (tC (.int 1))) tNoPart) tNil))))) tNext)
  (tRet (tCB (zTuple K) (tCons (tOp (zAdd K) (tLst (tCons (tOp (zIx K) (tVar 4) (tC (.int 1))) tNil)) (tVar 6)) tNil)))))))))))
theorem ps_read_line (T : Tx w K mg) (D_read_word : Df P w K mg base "read_word" ["shape", "word", "characters", "lines"] 3 (spz K (F_read_word K))) {f : Addr} {cdv : Value} {A : Around} {outer : List Env} {s : Shared} {H : Hp} {E : XK} (hr : Room 3 (A.deeper (envOfC "read_line" (defScope s_read_line) s.heap.objs.size f cdv))) :
    PSs (cxOf (L2.CX P w) P w K mg base N_read_line "read_line" (defScope s_read_line) f cdv A outer s H E) (defBody s_read_line) (t_read_line w K (fun cls d _ H' => E cls d H')) := by
  have nd := sc_read_line.nd
  have hu := hr.units
  have tk : Takes (cxOf (L2.CX P w) P w K mg base N_read_line "read_line" (defScope s_read_line) f cdv A outer s H E) (fun cls d _ H' => E cls d H') := takes_of rfl rfl rfl rfl
  exact (pss_cons (ps_set (i := 4) nd rfl (Or.inr rfl) (pe_bm PySem.F.plainAttrs_str PySem.F.slot_str_split PySem.F.type_str_split mt_zSplitT (pv 0) (pa_cons pe_str pa_nil)))
  (pss_cons (ps_if (PW.pt (pw_or (pt_cmpR op_zLt (pe_callB call_zLen (by rfl) T.f_len bt_len (pa_cons (pv 4) pa_nil)) pe_int (nomark _)) (pw_or (pt_cmpR (op_zNe hu) (pe_ix (ix_z hu) (pv 4) pe_int (fun _ _ => rfl)) (pe_callTy call_zStr (by rfl) T.f_str bt_str (pa_cons (pv 1) pa_nil)) (nomark _)) (pw_or1 (pt_cmpR (op_KNotIn T.d_SHAPES) (pe_ix (ix_z hu) (pv 4) pe_int (fun _ _ => rfl)) (pe_glob (by rfl) T.g_SHAPES rfl) (by rfl)))))) (pss_one (ps_ret pe_non)) pss_nil)
  (pss_cons (ps_set (i := 5) nd rfl (Or.inl rfl) (pe_ix (ix_K T.d_SHAPES) (pe_glob (by rfl) T.g_SHAPES rfl) (pe_ix (ix_z hu) (pv 4) pe_int (fun _ _ => rfl)) (fun _ _ => rfl)))
  (pss_cons (ps_if (pt_cmpR (op_zEq hu) (pv 5) pe_str (nomark _)) (pss_one (ps_set (i := 5) nd rfl (Or.inl rfl) (pe_op op_zAdd pe_str (pe_op op_zMul pe_str (pe_callB (call_zMin2 rfl) (by rfl) T.f_min bt_min (pa_cons (pe_callB (call_zMax2 rfl) (by rfl) T.f_max bt_max (pa_cons (pe_op op_zSub (pe_callB call_zLen (by rfl) T.f_len bt_len (pa_cons (pv 4) pa_nil)) pe_int) (pa_cons pe_int pa_nil))) (pa_cons (pe_glob (by rfl) T.k_MOST_TARGETS.choose_spec ⟨_, rfl⟩) pa_nil))))))) pss_nil)
  (pss_cons (ps_if (pt_cmpR (op_zNe hu) (pe_callB call_zLen (by rfl) T.f_len bt_len (pa_cons (pv 4) pa_nil)) (pe_op op_zAdd (pe_callB call_zLen (by rfl) T.f_len bt_len (pa_cons (pv 5) pa_nil)) pe_int) (nomark _)) (pss_one (ps_ret pe_non)) pss_nil)
  (pss_cons (ps_setLc (i := 6) (own := [(PySem.Str.ofString "place", 7), (PySem.Str.ofString "shape", 8)]) (by rfl) nd rfl rfl (sw_true rfl rfl rfl (by decide +kernel)) (pi_enumZ (by rfl) T.f_enumerate (pa_cons (pv 5) pa_nil)) (blkOk_by (own := [(PySem.Str.ofString "place", 7), (PySem.Str.ofString "shape", 8)]) (N := N_read_line) (by show blkC N_read_line (defScope s_read_line) _ [(PySem.Str.ofString "place", 7), (PySem.Str.ofString "shape", 8)] = true; decide +kernel)) (fun _ _ _ _ _ => (pg_tup (by rfl) (pgs_cons (pg_name (i := 7) nd rfl (Or.inl rfl)) (pgs_cons (pg_name (i := 8) nd rfl (Or.inl rfl)) pgs_nil)))) (fun _ _ _ _ _ => pts_nil) (fun _ _ _ _ _ => (pe_callN D_read_word (hr.mono (by omega)) (pa_cons (pv 8) (pa_cons (pe_ix (ix_z hu) (pv 4) (pe_op op_zAdd (pv 7) pe_int) (fun _ _ => rfl)) (pa_cons (pv 2) (pa_cons (pv 3) pa_nil)))))))
  (pss_cons (ps_if (pt_cmpR (op_zIn hu) pe_non (pv 6) (by rfl)) (pss_one (ps_ret pe_non)) pss_nil)
  (pss_cons (ps_if (pt_cmpR (op_zEq hu) (pe_ix (ix_z hu) (pv 4) pe_int (fun _ _ => rfl)) pe_str (nomark _)) (pss_one (ps_ret (pe_tup (pa_cons (pe_ix (ix_z hu) (pv 4) pe_int (fun _ _ => rfl)) (pa_cons (pe_ix (ix_z hu) (pv 6) pe_int (fun _ _ => rfl)) (pa_cons (pe_slice sl_z (pv 6) (po_some pe_int) po_none) pa_nil)))))) pss_nil)
  (pss_one (ps_ret (pe_callTy call_zTuple (by rfl) T.f_tuple bt_tuple (pa_cons (pe_op op_zAdd (pe_lst (pa_cons (pe_ix (ix_z hu) (pv 4) pe_int (fun _ _ => rfl)) pa_nil)) (pv 6)) pa_nil))))))))))))
def t_parse_program (w : World) (K : PySem.W.Frag) (W : WX) : TS :=
  (tSeq (tAsg (tBM K "str" rSplitT (tVar 0) (tCons (tC (.str (tx [10]))) tNil)) (gName 1))
  (tSeq (tAsg (tCallS (spz K (F_read_head K)) (WE W) (tCons (tOp (zIx K) (tVar 1) (tC (.int 0))) tNil)) (gName 2))
  (tSeq (tIfS (tTest (tOp zIsN (tVar 2) (tC .non))) (tRaise (He.ga K (PySem.Str.ofString "BadLine")) (spX1 (He.ga K (PySem.Str.ofString "BadLine")) (PySem.Str.ofString "line")) (tCons (tC (.int 1)) tNil) W) tNext)
  (tSeq (tIfS (tTest (tOp (zEq K) (tCB (zLen K) (tCons (tVar 1) tNil)) (tC (.int 1)))) (tRaise (He.ga K (PySem.Str.ofString "BadLine")) (spX1 (He.ga K (PySem.Str.ofString "BadLine")) (PySem.Str.ofString "line")) (tCons (tC (.int 2)) tNil) W) tNext)
  (tSeq (tAsg (tLst tNil) (gName 3))
  (tSeq (tFor (iEnumZ K (tCons (tSl (zSl K) (tVar 1) (tPart (tC (.int 1))) tNoPart) tNil)) (gTup K 2 (gCons (gName 4) (gCons (gName 5) gNil))) (tSeq (tAsg (tCallS (spz K (F_read_line K)) (WE W) (tCons (tVar 5) (tCons (tVar 4) (tCons (tCallS (spz K (F_characters_of K)) (WE W) (tCons (tOp (zIx K) (tVar 2) (tC (.int 0))) (tCons (tOp (zIx K) (tVar 2) (tC (.int 1))) tNil))) (tCons (tOp zSub (tCB (zLen K) (tCons (tVar 1) tNil)) (tC (.int 1))) tNil))))) (gName 6))
  (tSeq (tIfS (tTest (tOp zIsN (tVar 6) (tC .non))) (tRaise (He.ga K (PySem.Str.ofString "BadLine")) (spX1 (He.ga K (PySem.Str.ofString "BadLine")) (PySem.Str.ofString "line")) (tCons (tOp (zAdd K) (tVar 4) (tC (.int 2))) tNil) W) tNext)
  (tDrop (tBM K "list" rAppend (tVar 3) (tCons (tVar 6) tNil))))))
  (tRet (tMkZ (He.ga K (PySem.Str.ofString "Program")) (spI K (He.ga K "Program") (F_Program K)) (WE W) (tCons (tOp (zIx K) (tVar 2) (tC (.int 0))) (tCons (tOp (zIx K) (tVar 2) (tC (.int 1))) (tCons (tVar 3) tNil)))))))))))
theorem ps_parse_program (T : Tx w K mg) (C_Program : Dc P w K mg base "Program" (He.ga K "Program") ["self", "letters", "marks", "lines"] 7 (spI K (He.ga K "Program") (F_Program K))) (D_BadLine : Dx P w K mg base "BadLine" (He.ga K "BadLine") ["self", "line"] (spX1 (He.ga K "BadLine") "line")) (D_characters_of : Df P w K mg base "characters_of" ["letters", "marks"] 1 (spz K (F_characters_of K))) (D_read_head : Df P w K mg base "read_head" ["line"] 2 (spz K (F_read_head K))) (D_read_line : Df P w K mg base "read_line" ["line", "at", "characters", "lines"] 4 (spz K (F_read_line K))) {f : Addr} {cdv : Value} {A : Around} {outer : List Env} {s : Shared} {H : Hp} {E : XK} (hr : Room 8 (A.deeper (envOfC "parse_program" (defScope s_parse_program) s.heap.objs.size f cdv))) :
    PSs (cxOf (L2.CX P w) P w K mg base N_parse_program "parse_program" (defScope s_parse_program) f cdv A outer s H E) (defBody s_parse_program) (t_parse_program w K (fun cls d _ H' => E cls d H')) := by
  have nd := sc_parse_program.nd
  have hu := hr.units
  have tk : Takes (cxOf (L2.CX P w) P w K mg base N_parse_program "parse_program" (defScope s_parse_program) f cdv A outer s H E) (fun cls d _ H' => E cls d H') := takes_of rfl rfl rfl rfl
  exact (pss_cons (ps_set (i := 1) nd rfl (Or.inl rfl) (pe_bm PySem.F.plainAttrs_str PySem.F.slot_str_split PySem.F.type_str_split mt_zSplitT (pv 0) (pa_cons pe_str pa_nil)))
  (pss_cons (ps_set (i := 2) nd rfl (Or.inl rfl) (pe_callZ D_read_head (hr.mono (by omega)) tk (pa_cons (pe_ix (ix_z hu) (pv 1) pe_int (fun _ _ => rfl)) pa_nil)))
  (pss_cons (ps_if (pt_cmpR op_zIsN (pv 2) pe_non (nomark _)) (pss_one (ps_raiseZ D_BadLine (by rfl) (hr.mono (by omega)) tk (pa_cons pe_int pa_nil))) pss_nil)
  (pss_cons (ps_if (pt_cmpR (op_zEq hu) (pe_callB call_zLen (by rfl) T.f_len bt_len (pa_cons (pv 1) pa_nil)) pe_int (nomark _)) (pss_one (ps_raiseZ D_BadLine (by rfl) (hr.mono (by omega)) tk (pa_cons pe_int pa_nil))) pss_nil)
  (pss_cons (ps_set (i := 3) nd rfl (Or.inl rfl) (pe_lst pa_nil))
  (pss_cons (ps_for (passes_of rfl) rfl (pi_enumZ (by rfl) T.f_enumerate (pa_cons (pe_slice sl_z (pv 1) (po_some pe_int) po_none) pa_nil)) (pg_tup (by rfl) (pgs_cons (pg_name (i := 4) nd rfl (Or.inl rfl)) (pgs_cons (pg_name (i := 5) nd rfl (Or.inl rfl)) pgs_nil))) (pss_cons (ps_set (i := 6) nd rfl (Or.inl rfl) (pe_callZ D_read_line (hr.mono (by omega)) tk (pa_cons (pv 5) (pa_cons (pv 4) (pa_cons (pe_callZ D_characters_of (hr.mono (by omega)) tk (pa_cons (pe_ix (ix_z hu) (pv 2) pe_int (fun _ _ => rfl)) (pa_cons (pe_ix (ix_z hu) (pv 2) pe_int (fun _ _ => rfl)) pa_nil))) (pa_cons (pe_op op_zSub (pe_callB call_zLen (by rfl) T.f_len bt_len (pa_cons (pv 1) pa_nil)) pe_int) pa_nil))))))
  (pss_cons (ps_if (pt_cmpR op_zIsN (pv 6) pe_non (nomark _)) (pss_one (ps_raiseZ D_BadLine (by rfl) (hr.mono (by omega)) tk (pa_cons (pe_op op_zAdd (pv 4) pe_int) pa_nil))) pss_nil)
  (pss_one (ps_expr (pe_bm PySem.F.plainAttrs_list PySem.F.slot_list_append PySem.F.type_list_append mt_append (pv 3) (pa_cons (pv 6) pa_nil)))))))
  (pss_one (ps_ret (pe_mkZ C_Program (hr.mono (by omega)) tk (pa_cons (pe_ix (ix_z hu) (pv 2) pe_int (fun _ _ => rfl)) (pa_cons (pe_ix (ix_z hu) (pv 2) pe_int (fun _ _ => rfl)) (pa_cons (pv 3) pa_nil))))))))))))
def t__law_word (w : World) (K : PySem.W.Frag) (W : WX) : TS :=
  (tSeq (tIfS (tB (tCB (zIsi K) (tCons (tVar 0) (tCons (tC (.ty "bool")) tNil)))) (tRet (tOp (zIx K) (tLst (tCons (tC (.str (tx [110, 111]))) (tCons (tC (.str (tx [121, 101, 115]))) tNil))) (tCB zInt (tCons (tVar 0) tNil)))) tNext)
  (tRet (tCB zStr (tCons (tVar 0) tNil))))
theorem ps__law_word (T : Tx w K mg)  {f : Addr} {cdv : Value} {A : Around} {outer : List Env} {s : Shared} {H : Hp} {E : XK} (hr : Room 0 (A.deeper (envOfC "_law_word" (defScope s__law_word) s.heap.objs.size f cdv))) :
    PSs (cxOf (L2.CX P w) P w K mg base N__law_word "_law_word" (defScope s__law_word) f cdv A outer s H E) (defBody s__law_word) (t__law_word w K (fun cls d _ H' => E cls d H')) := by
  have nd := sc__law_word.nd
  have hu := hr.units
  have tk : Takes (cxOf (L2.CX P w) P w K mg base N__law_word "_law_word" (defScope s__law_word) f cdv A outer s H E) (fun cls d _ H' => E cls d H') := takes_of rfl rfl rfl rfl
  exact (pss_cons (ps_if (pt_val (pe_callB call_zIsi (by rfl) T.f_isinstance bt_isinstance (pa_cons (pv 0) (pa_cons (pe_bltn (by rfl) T.f_bool bt_bool rfl) pa_nil)))) (pss_one (ps_ret (pe_ix (ix_z hu) (pe_lst (pa_cons pe_str (pa_cons pe_str pa_nil))) (pe_callTy call_zInt (by rfl) T.f_int bt_int (pa_cons (pv 0) pa_nil)) (fun _ _ => rfl)))) pss_nil)
  (pss_one (ps_ret (pe_callTy call_zStr (by rfl) T.f_str bt_str (pa_cons (pv 0) pa_nil)))))
def t__law_note (w : World) (K : PySem.W.Frag) (W : WX) : TS :=
  (tSeq (tAsg (tLst (tCons (tCB zStr (tCons (tVar 0) tNil)) (tCons (tOp (zIx K) (tVar 1) (tC (.int 0))) tNil))) (gName 2))
  (tSeq (tFor (iTup K (tSl (zSl K) (tVar 1) (tPart (tC (.int 1))) tNoPart)) (gName 3) (tIfS (tB (tCB (zIsi K) (tCons (tVar 3) (tCons (tC (.ty "tuple")) tNil)))) (tAsg (tOp (zAdd K) (tVar 2) (tLc (iTup K (tVar 3)) (gName 4) tYes (tCall (spz K (F__law_word K)) [] E0 (tCons (tVar 4) tNil)) [4])) (gName 2)) (tIfS (tB (tCB (zIsi K) (tCons (tVar 3) (tCons (tC (.ty "str")) tNil)))) (tDrop (tBM K "list" rAppend (tVar 2) (tCons (tVar 3) tNil))) (tDrop (tBM K "list" rAppend (tVar 2) (tCons (tCallS (spz K (F__law_word K)) (WE W) (tCons (tVar 3) tNil)) tNil))))))
  (tRet (tBM K "str" (zJoin K) (tC (.str (tx [32]))) (tCons (tVar 2) tNil)))))
theorem ps__law_note (T : Tx w K mg) (D__law_word : Df P w K mg base "_law_word" ["target"] 1 (spz K (F__law_word K))) {f : Addr} {cdv : Value} {A : Around} {outer : List Env} {s : Shared} {H : Hp} {E : XK} (hr : Room 1 (A.deeper (envOfC "_law_note" (defScope s__law_note) s.heap.objs.size f cdv))) :
    PSs (cxOf (L2.CX P w) P w K mg base N__law_note "_law_note" (defScope s__law_note) f cdv A outer s H E) (defBody s__law_note) (t__law_note w K (fun cls d _ H' => E cls d H')) := by
  have nd := sc__law_note.nd
  have hu := hr.units
  have tk : Takes (cxOf (L2.CX P w) P w K mg base N__law_note "_law_note" (defScope s__law_note) f cdv A outer s H E) (fun cls d _ H' => E cls d H') := takes_of rfl rfl rfl rfl
  exact (pss_cons (ps_set (i := 2) nd rfl (Or.inl rfl) (pe_lst (pa_cons (pe_callTy call_zStr (by rfl) T.f_str bt_str (pa_cons (pv 0) pa_nil)) (pa_cons (pe_ix (ix_z hu) (pv 1) pe_int (fun _ _ => rfl)) pa_nil))))
  (pss_cons (ps_for (passes_of rfl) rfl (pi_tup (pe_slice sl_z (pv 1) (po_some pe_int) po_none)) (pg_name (i := 3) nd rfl (Or.inl rfl)) (pss_one (ps_if (pt_val (pe_callB call_zIsi (by rfl) T.f_isinstance bt_isinstance (pa_cons (pv 3) (pa_cons (pe_bltn (by rfl) T.f_tuple bt_tuple rfl) pa_nil)))) (pss_one (ps_set (i := 2) nd rfl (Or.inl rfl) (pe_op op_zAdd (pv 2) (pe_lc (own := [(PySem.Str.ofString "target", 4)]) (by rfl) nd (pi_tup (pv 3)) (blkOk_by (own := [(PySem.Str.ofString "target", 4)]) (N := N__law_note) (by show blkC N__law_note (defScope s__law_note) _ [(PySem.Str.ofString "target", 4)] = true; decide +kernel)) (fun _ _ _ _ _ => (pg_name (i := 4) nd rfl (Or.inl rfl))) (fun _ _ _ _ _ => pts_nil) (fun _ _ _ _ _ => (pe_callN D__law_word (hr.mono (by omega)) (pa_cons (pv 4) pa_nil))))))) (pss_one (ps_if (pt_val (pe_callB call_zIsi (by rfl) T.f_isinstance bt_isinstance (pa_cons (pv 3) (pa_cons (pe_bltn (by rfl) T.f_str bt_str rfl) pa_nil)))) (pss_one (ps_expr (pe_bm PySem.F.plainAttrs_list PySem.F.slot_list_append PySem.F.type_list_append mt_append (pv 2) (pa_cons (pv 3) pa_nil)))) (pss_one (ps_expr (pe_bm PySem.F.plainAttrs_list PySem.F.slot_list_append PySem.F.type_list_append mt_append (pv 2) (pa_cons (pe_callZ D__law_word (hr.mono (by omega)) tk (pa_cons (pv 3) pa_nil)) pa_nil)))))))))
  (pss_one (ps_ret (pe_bm PySem.F.plainAttrs_str PySem.F.slot_str_join PySem.F.type_str_join mt_zJoin pe_str (pa_cons (pv 2) pa_nil))))))
def t__law_spoilt (w : World) (K : PySem.W.Frag) (W : WX) : TS :=
  (tSeq (tAsg (tCallS (spz K (F__law_note K)) (WE W) (tCons (tVar 0) (tCons (tVar 1) tNil))) (gName 5))
  (tSeq (tAsg (tBM K "str" rSplitT (tVar 5) (tCons (tC (.str (tx [32]))) tNil)) (gName 6))
  (tSeq (tIfS (tTest (tOp zLt (tVar 4) (tC (.int 8)))) (tRet (tOp (zIx K) (tLst (tCons (tOp (zAdd K) (tVar 5) (tC (.str (tx [32])))) (tCons (tOp (zAdd K) (tC (.str (tx [32]))) (tVar 5)) (tCons (tC (.str (tx []))) (tCons (tOp (zAdd K) (tVar 5) (tC (.str (tx [32, 121, 101, 115, 32, 121, 101, 115, 32, 121, 101, 115, 32, 121, 101, 115, 32, 121, 101, 115, 32, 121, 101, 115, 32, 121, 101, 115])))) (tCons (tOp (zAdd K) (tOp (zAdd K) (tOp (zIx K) (tVar 6) (tC (.int 0))) (tC (.str (tx [32, 32])))) (tBM K "str" (zJoin K) (tC (.str (tx [32]))) (tCons (tSl (zSl K) (tVar 6) (tPart (tC (.int 1))) tNoPart) tNil))) (tCons (tOp (zAdd K) (tC (.str (tx [48]))) (tVar 5)) (tCons (tOp (zAdd K) (tCB zStr (tCons (tOp (zAdd K) (tVar 0) (tC (.int 1))) tNil)) (tSl (zSl K) (tVar 5) (tPart (tCB (zLen K) (tCons (tOp (zIx K) (tVar 6) (tC (.int 0))) tNil))) tNoPart)) (tCons (tBM K "str" (zJoin K) (tC (.str (tx [32]))) (tCons (tOp (zAdd K) (tSl (zSl K) (tVar 6) tNoPart (tPart (tOp zSub (tCB (zLen K) (tCons (tVar 6) tNil)) (tC (.int 1))))) (tLst (tCons (tC (.str (tx [89, 101, 115]))) tNil))) tNil)) tNil))))))))) (tVar 4))) tNext)
  (tSeq (tIfS (tTest (tOp (zEq K) (tVar 4) (tC (.int 8)))) (tRet (tBM K "str" (zJoin K) (tC (.str (tx [32]))) (tCons (tOp (zAdd K) (tSl (zSl K) (tVar 6) tNoPart (tPart (tOp zSub (tCB (zLen K) (tCons (tVar 6) tNil)) (tC (.int 1))))) (tLst (tCons (tCB zStr (tCons (tVar 2) tNil)) tNil))) tNil))) tNext)
  (tSeq (tIfS (tTest (tOp (zEq K) (tVar 4) (tC (.int 9)))) (tRet (tBM K "str" (zJoin K) (tC (.str (tx [32]))) (tCons (tOp (zAdd K) (tLst (tCons (tOp (zIx K) (tVar 6) (tC (.int 0))) (tCons (tOp (zAdd K) (tOp (zIx K) (tVar 6) (tC (.int 1))) (tC (.str (tx [115])))) tNil))) (tSl (zSl K) (tVar 6) (tPart (tC (.int 2))) tNoPart)) tNil))) tNext)
  (tSeq (tIfS (tTest (tOp (zEq K) (tVar 4) (tC (.int 10)))) (tRet (tBM K "str" (zJoin K) (tC (.str (tx [32]))) (tCons (tOp (zAdd K) (tOp (zAdd K) (tSl (zSl K) (tVar 6) tNoPart (tPart (tC (.int 2)))) (tLst (tCons (tOp (zIx K) (tC (.str (tx [65, 66, 67, 68, 69, 70]))) (tVar 3)) tNil))) (tSl (zSl K) (tVar 6) (tPart (tC (.int 3))) tNoPart)) tNil))) tNext)
  (tSeq (tIfS (tTest (tOp (zEq K) (tVar 4) (tC (.int 11)))) (tRet (tBM K "str" (zJoin K) (tC (.str (tx [32]))) (tCons (tOp (zAdd K) (tSl (zSl K) (tVar 6) tNoPart (tPart (tOp zSub (tCB (zLen K) (tCons (tVar 6) tNil)) (tC (.int 1))))) (tLst (tCons (tC (.str (tx [48, 48]))) tNil))) tNil))) tNext)
  (tSeq (tIfS (tTest (tOp (zEq K) (tVar 4) (tC (.int 12)))) (tRet (tBM K "str" (zJoin K) (tC (.str (tx [32]))) (tCons (tSl (zSl K) (tVar 6) tNoPart (tPart (tC (.int 2)))) tNil))) tNext)
  (tSeq (tIfS (tTest (tOp (zEq K) (tVar 4) (tC (.int 13)))) (tRet (tBM K "str" (zJoin K) (tC (.str (tx [32]))) (tCons (tOp (zAdd K) (tOp (zAdd K) (tSl (zSl K) (tVar 6) tNoPart (tPart (tC (.int 2)))) (tLst (tCons (tOp (zAdd K) (tOp (zIx K) (tVar 6) (tC (.int 2))) (tOp (zIx K) (tVar 6) (tC (.int 2)))) tNil))) (tSl (zSl K) (tVar 6) (tPart (tC (.int 3))) tNoPart)) tNil))) tNext)
  (tSeq (tIfS (tTest (tOp (zEq K) (tVar 4) (tC (.int 14)))) (tRet (tOp (zAdd K) (tOp (zAdd K) (tOp (zAdd K) (tOp (zAdd K) (tOp (zAdd K) (tOp (zAdd K) (tOp (zAdd K) (tOp (zIx K) (tVar 6) (tC (.int 0))) (tC (.str (tx [32, 101, 118, 101, 114, 121, 32])))) (tOp (zIx K) (tVar 6) (tC (.int 2)))) (tC (.str (tx [32])))) (tOp (zIx K) (tVar 6) (tC (.int 2)))) (tC (.str (tx [32])))) (tOp (zIx K) (tLst (tCons (tC (.str (tx [48]))) (tCons (tC (.str (tx [55]))) (tCons (tC (.str (tx [48, 49]))) (tCons (tC (.str (tx [45, 49]))) tNil))))) (tOp zMod (tVar 0) (tC (.int 4))))) (tC (.str (tx [32, 121, 101, 115, 32, 110, 111]))))) tNext)
  (tRet (tOp (zAdd K) (tOp (zAdd K) (tOp (zAdd K) (tOp (zIx K) (tVar 6) (tC (.int 0))) (tC (.str (tx [32, 99, 111, 117, 110, 116, 32])))) (tOp (zIx K) (tVar 6) (tC (.int 2)))) (tOp zMul (tC (.str (tx [32, 121, 101, 115]))) (tOp (zIx K) (tLst (tCons (tC (.int 0)) (tCons (tC (.int 7)) tNil))) (tOp zMod (tVar 0) (tC (.int 2)))))))))))))))))
theorem ps__law_spoilt (T : Tx w K mg) (D__law_note : Df P w K mg base "_law_note" ["at", "line"] 2 (spz K (F__law_note K))) {f : Addr} {cdv : Value} {A : Around} {outer : List Env} {s : Shared} {H : Hp} {E : XK} (hr : Room 2 (A.deeper (envOfC "_law_spoilt" (defScope s__law_spoilt) s.heap.objs.size f cdv))) :
    PSs (cxOf (L2.CX P w) P w K mg base N__law_spoilt "_law_spoilt" (defScope s__law_spoilt) f cdv A outer s H E) (defBody s__law_spoilt) (t__law_spoilt w K (fun cls d _ H' => E cls d H')) := by
  have nd := sc__law_spoilt.nd
  have hu := hr.units
  have tk : Takes (cxOf (L2.CX P w) P w K mg base N__law_spoilt "_law_spoilt" (defScope s__law_spoilt) f cdv A outer s H E) (fun cls d _ H' => E cls d H') := takes_of rfl rfl rfl rfl
  exact (pss_cons (ps_set (i := 5) nd rfl (Or.inl rfl) (pe_callZ D__law_note (hr.mono (by omega)) tk (pa_cons (pv 0) (pa_cons (pv 1) pa_nil))))
  (pss_cons (ps_set (i := 6) nd rfl (Or.inl rfl) (pe_bm PySem.F.plainAttrs_str PySem.F.slot_str_split PySem.F.type_str_split mt_zSplitT (pv 5) (pa_cons pe_str pa_nil)))
  (pss_cons (ps_if (pt_cmpR op_zLt (pv 4) pe_int (nomark _)) (pss_one (ps_ret (pe_ix (ix_z hu) (pe_lst (pa_cons (pe_op op_zAdd (pv 5) pe_str) (pa_cons (pe_op op_zAdd pe_str (pv 5)) (pa_cons pe_str (pa_cons (pe_op op_zAdd (pv 5) pe_str) (pa_cons (pe_op op_zAdd (pe_op op_zAdd (pe_ix (ix_z hu) (pv 6) pe_int (fun _ _ => rfl)) pe_str) (pe_bm PySem.F.plainAttrs_str PySem.F.slot_str_join PySem.F.type_str_join mt_zJoin pe_str (pa_cons (pe_slice sl_z (pv 6) (po_some pe_int) po_none) pa_nil))) (pa_cons (pe_op op_zAdd pe_str (pv 5)) (pa_cons (pe_op op_zAdd (pe_callTy call_zStr (by rfl) T.f_str bt_str (pa_cons (pe_op op_zAdd (pv 0) pe_int) pa_nil)) (pe_slice sl_z (pv 5) (po_some (pe_callB call_zLen (by rfl) T.f_len bt_len (pa_cons (pe_ix (ix_z hu) (pv 6) pe_int (fun _ _ => rfl)) pa_nil))) po_none)) (pa_cons (pe_bm PySem.F.plainAttrs_str PySem.F.slot_str_join PySem.F.type_str_join mt_zJoin pe_str (pa_cons (pe_op op_zAdd (pe_slice sl_z (pv 6) po_none (po_some (pe_op op_zSub (pe_callB call_zLen (by rfl) T.f_len bt_len (pa_cons (pv 6) pa_nil)) pe_int))) (pe_lst (pa_cons pe_str pa_nil))) pa_nil)) pa_nil))))))))) (pv 4) (fun _ _ => rfl)))) pss_nil)
  (pss_cons (ps_if (pt_cmpR (op_zEq hu) (pv 4) pe_int (nomark _)) (pss_one (ps_ret (pe_bm PySem.F.plainAttrs_str PySem.F.slot_str_join PySem.F.type_str_join mt_zJoin pe_str (pa_cons (pe_op op_zAdd (pe_slice sl_z (pv 6) po_none (po_some (pe_op op_zSub (pe_callB call_zLen (by rfl) T.f_len bt_len (pa_cons (pv 6) pa_nil)) pe_int))) (pe_lst (pa_cons (pe_callTy call_zStr (by rfl) T.f_str bt_str (pa_cons (pv 2) pa_nil)) pa_nil))) pa_nil)))) pss_nil)
  (pss_cons (ps_if (pt_cmpR (op_zEq hu) (pv 4) pe_int (nomark _)) (pss_one (ps_ret (pe_bm PySem.F.plainAttrs_str PySem.F.slot_str_join PySem.F.type_str_join mt_zJoin pe_str (pa_cons (pe_op op_zAdd (pe_lst (pa_cons (pe_ix (ix_z hu) (pv 6) pe_int (fun _ _ => rfl)) (pa_cons (pe_op op_zAdd (pe_ix (ix_z hu) (pv 6) pe_int (fun _ _ => rfl)) pe_str) pa_nil))) (pe_slice sl_z (pv 6) (po_some pe_int) po_none)) pa_nil)))) pss_nil)
  (pss_cons (ps_if (pt_cmpR (op_zEq hu) (pv 4) pe_int (nomark _)) (pss_one (ps_ret (pe_bm PySem.F.plainAttrs_str PySem.F.slot_str_join PySem.F.type_str_join mt_zJoin pe_str (pa_cons (pe_op op_zAdd (pe_op op_zAdd (pe_slice sl_z (pv 6) po_none (po_some pe_int)) (pe_lst (pa_cons (pe_ix (ix_z hu) pe_str (pv 3) (fun _ _ => rfl)) pa_nil))) (pe_slice sl_z (pv 6) (po_some pe_int) po_none)) pa_nil)))) pss_nil)
  (pss_cons (ps_if (pt_cmpR (op_zEq hu) (pv 4) pe_int (nomark _)) (pss_one (ps_ret (pe_bm PySem.F.plainAttrs_str PySem.F.slot_str_join PySem.F.type_str_join mt_zJoin pe_str (pa_cons (pe_op op_zAdd (pe_slice sl_z (pv 6) po_none (po_some (pe_op op_zSub (pe_callB call_zLen (by rfl) T.f_len bt_len (pa_cons (pv 6) pa_nil)) pe_int))) (pe_lst (pa_cons pe_str pa_nil))) pa_nil)))) pss_nil)
  (pss_cons (ps_if (pt_cmpR (op_zEq hu) (pv 4) pe_int (nomark _)) (pss_one (ps_ret (pe_bm PySem.F.plainAttrs_str PySem.F.slot_str_join PySem.F.type_str_join mt_zJoin pe_str (pa_cons (pe_slice sl_z (pv 6) po_none (po_some pe_int)) pa_nil)))) pss_nil)
  (pss_cons (ps_if (pt_cmpR (op_zEq hu) (pv 4) pe_int (nomark _)) (pss_one (ps_ret (pe_bm PySem.F.plainAttrs_str PySem.F.slot_str_join PySem.F.type_str_join mt_zJoin pe_str (pa_cons (pe_op op_zAdd (pe_op op_zAdd (pe_slice sl_z (pv 6) po_none (po_some pe_int)) (pe_lst (pa_cons (pe_op op_zAdd (pe_ix (ix_z hu) (pv 6) pe_int (fun _ _ => rfl)) (pe_ix (ix_z hu) (pv 6) pe_int (fun _ _ => rfl))) pa_nil))) (pe_slice sl_z (pv 6) (po_some pe_int) po_none)) pa_nil)))) pss_nil)
  (pss_cons (ps_if (pt_cmpR (op_zEq hu) (pv 4) pe_int (nomark _)) (pss_one (ps_ret (pe_op op_zAdd (pe_op op_zAdd (pe_op op_zAdd (pe_op op_zAdd (pe_op op_zAdd (pe_op op_zAdd (pe_op op_zAdd (pe_ix (ix_z hu) (pv 6) pe_int (fun _ _ => rfl)) pe_str) (pe_ix (ix_z hu) (pv 6) pe_int (fun _ _ => rfl))) pe_str) (pe_ix (ix_z hu) (pv 6) pe_int (fun _ _ => rfl))) pe_str) (pe_ix (ix_z hu) (pe_lst (pa_cons pe_str (pa_cons pe_str (pa_cons pe_str (pa_cons pe_str pa_nil))))) (pe_op op_zMod (pv 0) pe_int) (fun _ _ => rfl))) pe_str))) pss_nil)
  (pss_one (ps_ret (pe_op op_zAdd (pe_op op_zAdd (pe_op op_zAdd (pe_ix (ix_z hu) (pv 6) pe_int (fun _ _ => rfl)) pe_str) (pe_ix (ix_z hu) (pv 6) pe_int (fun _ _ => rfl))) (pe_op op_zMul pe_str (pe_ix (ix_z hu) (pe_lst (pa_cons pe_int (pa_cons pe_int pa_nil))) (pe_op op_zMod (pv 0) pe_int) (fun _ _ => rfl))))))))))))))))
def t__law_cell (w : World) (K : PySem.W.Frag) (W : WX) : TS :=
  (tSeq (tIfS (tTest (tOp zLt (tVar 1) (tCB (zLen K) (tCons (tVar 0) tNil)))) (tRet (tOp zMod (tCB zInt (tCons (tOp (zIx K) (tVar 0) (tVar 1)) tNil)) (tOp zMul (tOp zPow (tC (.int 10)) (tC (.int 60))) (tOp zPow (tC (.int 10)) (tC (.int 60)))))) tNext)
  (tSeq (tAsg (tC (.int 17)) (gName 2))
  (tSeq (tFor (iList K (tVar 0)) (gName 3) (tAsg (tOp zMod (tCB zInt (tCons (tOp (zAdd K) (tOp zMul (tVar 2) (tC (.int 31))) (tOp zMod (tCB zInt (tCons (tVar 3) tNil)) (tC (.int 1000003)))) tNil)) (tC (.int 1000003))) (gName 2)))
  (tRet (tOp zMod (tCB zInt (tCons (tOp zMul (tOp zMul (tOp (zAdd K) (tVar 2) (tC (.int 7))) (tOp (zAdd K) (tVar 1) (tC (.int 3)))) (tC (.int 69621))) tNil)) (tC (.int 2147483647)))))))
theorem ps__law_cell (T : Tx w K mg)  {f : Addr} {cdv : Value} {A : Around} {outer : List Env} {s : Shared} {H : Hp} {E : XK} (hr : Room 0 (A.deeper (envOfC "_law_cell" (defScope s__law_cell) s.heap.objs.size f cdv))) :
    PSs (cxOf (L2.CX P w) P w K mg base N__law_cell "_law_cell" (defScope s__law_cell) f cdv A outer s H E) (defBody s__law_cell) (t__law_cell w K (fun cls d _ H' => E cls d H')) := by
  have nd := sc__law_cell.nd
  have hu := hr.units
  have tk : Takes (cxOf (L2.CX P w) P w K mg base N__law_cell "_law_cell" (defScope s__law_cell) f cdv A outer s H E) (fun cls d _ H' => E cls d H') := takes_of rfl rfl rfl rfl
  exact (pss_cons (ps_if (pt_cmpR op_zLt (pv 1) (pe_callB call_zLen (by rfl) T.f_len bt_len (pa_cons (pv 0) pa_nil)) (nomark _)) (pss_one (ps_ret (pe_op op_zMod (pe_callTy call_zInt (by rfl) T.f_int bt_int (pa_cons (pe_ix (ix_z hu) (pv 0) (pv 1) (fun _ _ => rfl)) pa_nil)) (pe_op op_zMul (pe_op op_zPow pe_int pe_int) (pe_op op_zPow pe_int pe_int))))) pss_nil)
  (pss_cons (ps_set (i := 2) nd rfl (Or.inl rfl) pe_int)
  (pss_cons (ps_for (passes_of rfl) rfl (pi_list (pv 0)) (pg_name (i := 3) nd rfl (Or.inl rfl)) (pss_one (ps_set (i := 2) nd rfl (Or.inl rfl) (pe_op op_zMod (pe_callTy call_zInt (by rfl) T.f_int bt_int (pa_cons (pe_op op_zAdd (pe_op op_zMul (pv 2) pe_int) (pe_op op_zMod (pe_callTy call_zInt (by rfl) T.f_int bt_int (pa_cons (pv 3) pa_nil)) pe_int)) pa_nil)) pe_int))))
  (pss_one (ps_ret (pe_op op_zMod (pe_callTy call_zInt (by rfl) T.f_int bt_int (pa_cons (pe_op op_zMul (pe_op op_zMul (pe_op op_zAdd (pv 2) pe_int) (pe_op op_zAdd (pv 1) pe_int)) pe_int) pa_nil)) pe_int))))))
def t__law_letters (w : World) (K : PySem.W.Frag) (W : WX) : TS :=
  (tSeq (tAsg (tC (.str (tx [97, 98, 99, 100, 101, 102, 103, 104, 105, 106, 107, 108, 109, 110, 111, 112, 113, 114, 115, 116, 117, 118, 119, 120, 121, 122]))) (gName 1))
  (tSeq (tAsg (tOp (zAdd K) (tOp (zAdd K) (tOp (zIx K) (tVar 0) (tC (.int 1))) (tC (.int 1))) (tOp (zIx K) (tVar 0) (tC (.int 2)))) (gName 2))
  (tSeq (tAsg (tOp (zAdd K) (tOp (zAdd K) (tVar 2) (tC (.int 1))) (tOp (zIx K) (tVar 0) (tC (.int 3)))) (gName 3))
  (tSeq (tIfS (tTest (tOp (zEq K) (tOp (zIx K) (tVar 0) (tC (.int 0))) (tC (.int 0)))) (tRet (tOp (zIx K) (tVar 1) (tOp (zIx K) (tVar 0) (tC (.int 1))))) tNext)
  (tSeq (tIfS (tTest (tOp (zEq K) (tOp (zIx K) (tVar 0) (tC (.int 0))) (tC (.int 1)))) (tRet (tOp (zAdd K) (tOp (zAdd K) (tOp (zIx K) (tVar 1) (tOp (zIx K) (tVar 0) (tC (.int 1)))) (tOp (zIx K) (tVar 1) (tVar 2))) (tOp (zIx K) (tVar 1) (tVar 3)))) tNext)
  (tRet (tOp (zAdd K) (tOp (zIx K) (tVar 1) (tOp (zIx K) (tVar 0) (tC (.int 1)))) (tOp (zIx K) (tVar 1) (tVar 2)))))))))
theorem ps__law_letters (T : Tx w K mg)  {f : Addr} {cdv : Value} {A : Around} {outer : List Env} {s : Shared} {H : Hp} {E : XK} (hr : Room 0 (A.deeper (envOfC "_law_letters" (defScope s__law_letters) s.heap.objs.size f cdv))) :
    PSs (cxOf (L2.CX P w) P w K mg base N__law_letters "_law_letters" (defScope s__law_letters) f cdv A outer s H E) (defBody s__law_letters) (t__law_letters w K (fun cls d _ H' => E cls d H')) := by
  have nd := sc__law_letters.nd
  have hu := hr.units
  have tk : Takes (cxOf (L2.CX P w) P w K mg base N__law_letters "_law_letters" (defScope s__law_letters) f cdv A outer s H E) (fun cls d _ H' => E cls d H') := takes_of rfl rfl rfl rfl
  exact (pss_cons (ps_set (i := 1) nd rfl (Or.inl rfl) pe_str)
  (pss_cons (ps_set (i := 2) nd rfl (Or.inl rfl) (pe_op op_zAdd (pe_op op_zAdd (pe_ix (ix_z hu) (pv 0) pe_int (fun _ _ => rfl)) pe_int) (pe_ix (ix_z hu) (pv 0) pe_int (fun _ _ => rfl))))
  (pss_cons (ps_set (i := 3) nd rfl (Or.inl rfl) (pe_op op_zAdd (pe_op op_zAdd (pv 2) pe_int) (pe_ix (ix_z hu) (pv 0) pe_int (fun _ _ => rfl))))
  (pss_cons (ps_if (pt_cmpR (op_zEq hu) (pe_ix (ix_z hu) (pv 0) pe_int (fun _ _ => rfl)) pe_int (nomark _)) (pss_one (ps_ret (pe_ix (ix_z hu) (pv 1) (pe_ix (ix_z hu) (pv 0) pe_int (fun _ _ => rfl)) (fun _ _ => rfl)))) pss_nil)
  (pss_cons (ps_if (pt_cmpR (op_zEq hu) (pe_ix (ix_z hu) (pv 0) pe_int (fun _ _ => rfl)) pe_int (nomark _)) (pss_one (ps_ret (pe_op op_zAdd (pe_op op_zAdd (pe_ix (ix_z hu) (pv 1) (pe_ix (ix_z hu) (pv 0) pe_int (fun _ _ => rfl)) (fun _ _ => rfl)) (pe_ix (ix_z hu) (pv 1) (pv 2) (fun _ _ => rfl))) (pe_ix (ix_z hu) (pv 1) (pv 3) (fun _ _ => rfl))))) pss_nil)
  (pss_one (ps_ret (pe_op op_zAdd (pe_ix (ix_z hu) (pv 1) (pe_ix (ix_z hu) (pv 0) pe_int (fun _ _ => rfl)) (fun _ _ => rfl)) (pe_ix (ix_z hu) (pv 1) (pv 2) (fun _ _ => rfl))))))))))
def t__law_target (w : World) (K : PySem.W.Frag) (W : WX) : TS :=
  (tSeq (tAsg (tLst (tCons (tC (.bl true)) (tCons (tC (.bl false)) (tCons (tOp (zAdd K) (tVar 1) (tC (.int 1))) (tCons (tOp (zAdd K) (tVar 1) (tC (.int 1))) (tCons (tOp (zAdd K) (tVar 1) (tC (.int 2))) (tCons (tC (.bl true)) (tCons (tC (.bl false)) (tCons (tOp (zAdd K) (tVar 1) (tC (.int 1))) tNil))))))))) (gName 4))
  (tSeq (tIfS (tB (tVar 3)) (tAsg (tLst (tCons (tC (.bl true)) (tCons (tC (.bl false)) (tCons (tOp (zAdd K) (tVar 1) (tC (.int 1))) (tCons (tVar 1) (tCons (tC (.int 0)) (tCons (tOp zMod (tVar 0) (tVar 2)) (tCons (tOp (zAdd K) (tVar 1) (tC (.int 2))) (tCons (tOp (zAdd K) (tVar 1) (tC (.int 1))) tNil))))))))) (gName 4)) tNext)
  (tSeq (tAsg (tOp (zIx K) (tVar 4) (tOp zMod (tVar 0) (tC (.int 8)))) (gName 5))
  (tSeq (tIfS (tAnd (tNot (tB (tCB (zIsi K) (tCons (tVar 5) (tCons (tC (.ty "bool")) tNil))))) (tTest (tOp zGe (tVar 5) (tVar 2)))) (tRet (tOp (zEq K) (tOp zMod (tVar 0) (tC (.int 3))) (tC (.int 0)))) tNext)
  (tRet (tVar 5))))))
theorem ps__law_target (T : Tx w K mg)  {f : Addr} {cdv : Value} {A : Around} {outer : List Env} {s : Shared} {H : Hp} {E : XK} (hr : Room 0 (A.deeper (envOfC "_law_target" (defScope s__law_target) s.heap.objs.size f cdv))) :
    PSs (cxOf (L2.CX P w) P w K mg base N__law_target "_law_target" (defScope s__law_target) f cdv A outer s H E) (defBody s__law_target) (t__law_target w K (fun cls d _ H' => E cls d H')) := by
  have nd := sc__law_target.nd
  have hu := hr.units
  have tk : Takes (cxOf (L2.CX P w) P w K mg base N__law_target "_law_target" (defScope s__law_target) f cdv A outer s H E) (fun cls d _ H' => E cls d H') := takes_of rfl rfl rfl rfl
  exact (pss_cons (ps_set (i := 4) nd rfl (Or.inl rfl) (pe_lst (pa_cons pe_bl (pa_cons pe_bl (pa_cons (pe_op op_zAdd (pv 1) pe_int) (pa_cons (pe_op op_zAdd (pv 1) pe_int) (pa_cons (pe_op op_zAdd (pv 1) pe_int) (pa_cons pe_bl (pa_cons pe_bl (pa_cons (pe_op op_zAdd (pv 1) pe_int) pa_nil))))))))))
  (pss_cons (ps_if (pt_val (pv 3)) (pss_one (ps_set (i := 4) nd rfl (Or.inl rfl) (pe_lst (pa_cons pe_bl (pa_cons pe_bl (pa_cons (pe_op op_zAdd (pv 1) pe_int) (pa_cons (pv 1) (pa_cons pe_int (pa_cons (pe_op op_zMod (pv 0) (pv 2)) (pa_cons (pe_op op_zAdd (pv 1) pe_int) (pa_cons (pe_op op_zAdd (pv 1) pe_int) pa_nil))))))))))) pss_nil)
  (pss_cons (ps_set (i := 5) nd rfl (Or.inl rfl) (pe_ix (ix_z hu) (pv 4) (pe_op op_zMod (pv 0) pe_int) (fun _ _ => rfl)))
  (pss_cons (ps_if (PW.pt (pw_and (pt_not (pt_val (pe_callB call_zIsi (by rfl) T.f_isinstance bt_isinstance (pa_cons (pv 5) (pa_cons (pe_bltn (by rfl) T.f_bool bt_bool rfl) pa_nil))))) (pw_and1 (pt_cmpR op_zGe (pv 5) (pv 2) (nomark _))))) (pss_one (ps_ret (pe_cmpR (op_zEq hu) (pe_op op_zMod (pv 0) pe_int) pe_int (nomark _)))) pss_nil)
  (pss_one (ps_ret (pv 5)))))))
def t__law_line (w : World) (K : PySem.W.Frag) (W : WX) : TS :=
  (tSeq (tAsg (tOp (zIx K) (tLst (tCons (tC (.str (tx [99, 104, 97, 110, 103, 101]))) (tCons (tC (.str (tx [115, 119, 97, 112]))) (tCons (tC (.str (tx [102, 105, 114, 115, 116]))) (tCons (tC (.str (tx [101, 118, 101, 114, 121]))) (tCons (tC (.str (tx [99, 111, 117, 110, 116]))) (tCons (tC (.str (tx [108, 101, 97, 100, 115]))) tNil))))))) (tOp (zIx K) (tVar 0) (tC (.int 0)))) (gName 5))
  (tSeq (tAsg (tOp (zIx K) (tVar 3) (tOp zMod (tOp (zIx K) (tVar 0) (tC (.int 1))) (tCB (zLen K) (tCons (tVar 3) tNil)))) (gName 6))
  (tSeq (tAsg (tOp (zIx K) (tVar 3) (tOp zMod (tOp (zIx K) (tVar 0) (tC (.int 2))) (tCB (zLen K) (tCons (tVar 3) tNil)))) (gName 7))
  (tSeq (tAsg (tLc (iRng1 (tCons (tC (.int 3)) tNil)) (gName 9) tYes (tCall (spz K (F__law_target K)) [] E0 (tCons (tOp (zIx K) (tVar 0) (tOp (zAdd K) (tC (.int 3)) (tVar 9))) (tCons (tVar 1) (tCons (tVar 2) (tCons (tVar 4) tNil))))) [9]) (gName 8))
  (tSeq (tIfS (tOr (tTest (tOp (zEq K) (tVar 5) (tC (.str (tx [99, 104, 97, 110, 103, 101]))))) (tTest (tOp (zEq K) (tVar 5) (tC (.str (tx [115, 119, 97, 112])))))) (tRet (tTup (tCons (tVar 5) (tCons (tVar 6) (tCons (tVar 7) (tCons (tOp (zIx K) (tVar 8) (tC (.int 0))) tNil)))))) tNext)
  (tSeq (tIfS (tTest (tOp (zEq K) (tVar 5) (tC (.str (tx [102, 105, 114, 115, 116]))))) (tRet (tTup (tCons (tVar 5) (tCons (tVar 6) (tCons (tVar 7) (tCons (tOp (zIx K) (tVar 8) (tC (.int 0))) (tCons (tOp (zIx K) (tVar 8) (tC (.int 1))) tNil))))))) tNext)
  (tSeq (tIfS (tTest (tOp (zEq K) (tVar 5) (tC (.str (tx [101, 118, 101, 114, 121]))))) (tRet (tTup (tCons (tVar 5) (tCons (tVar 6) (tCons (tVar 7) (tCons (tOp (zAdd K) (tC (.int 1)) (tOp (zIx K) (tVar 0) (tC (.int 6)))) (tCons (tOp (zIx K) (tVar 8) (tC (.int 0))) (tCons (tOp (zIx K) (tVar 8) (tC (.int 1))) tNil)))))))) tNext)
  (tSeq (tIfS (tTest (tOp (zEq K) (tVar 5) (tC (.str (tx [99, 111, 117, 110, 116]))))) (tRet (tTup (tCons (tVar 5) (tCons (tVar 6) (tCons (tCB (zTuple K) (tCons (tSl (zSl K) (tVar 8) tNoPart (tPart (tOp (zAdd K) (tC (.int 1)) (tOp zMod (tOp (zIx K) (tVar 0) (tC (.int 6))) (tC (.int 3)))))) tNil)) tNil))))) tNext)
  (tRet (tTup (tCons (tVar 5) (tCons (tVar 6) (tCons (tOp (zIx K) (tVar 8) (tC (.int 0))) (tCons (tOp (zIx K) (tVar 8) (tC (.int 1))) tNil))))))))))))))
theorem ps__law_line (T : Tx w K mg) (D__law_target : Df P w K mg base "_law_target" ["digit", "at", "many", "loops"] 1 (spz K (F__law_target K))) {f : Addr} {cdv : Value} {A : Around} {outer : List Env} {s : Shared} {H : Hp} {E : XK} (hr : Room 1 (A.deeper (envOfC "_law_line" (defScope s__law_line) s.heap.objs.size f cdv))) :
    PSs (cxOf (L2.CX P w) P w K mg base N__law_line "_law_line" (defScope s__law_line) f cdv A outer s H E) (defBody s__law_line) (t__law_line w K (fun cls d _ H' => E cls d H')) := by
  have nd := sc__law_line.nd
  have hu := hr.units
  have tk : Takes (cxOf (L2.CX P w) P w K mg base N__law_line "_law_line" (defScope s__law_line) f cdv A outer s H E) (fun cls d _ H' => E cls d H') := takes_of rfl rfl rfl rfl
  exact (pss_cons (ps_set (i := 5) nd rfl (Or.inl rfl) (pe_ix (ix_z hu) (pe_lst (pa_cons pe_str (pa_cons pe_str (pa_cons pe_str (pa_cons pe_str (pa_cons pe_str (pa_cons pe_str pa_nil))))))) (pe_ix (ix_z hu) (pv 0) pe_int (fun _ _ => rfl)) (fun _ _ => rfl)))
  (pss_cons (ps_set (i := 6) nd rfl (Or.inl rfl) (pe_ix (ix_z hu) (pv 3) (pe_op op_zMod (pe_ix (ix_z hu) (pv 0) pe_int (fun _ _ => rfl)) (pe_callB call_zLen (by rfl) T.f_len bt_len (pa_cons (pv 3) pa_nil))) (fun _ _ => rfl)))
  (pss_cons (ps_set (i := 7) nd rfl (Or.inl rfl) (pe_ix (ix_z hu) (pv 3) (pe_op op_zMod (pe_ix (ix_z hu) (pv 0) pe_int (fun _ _ => rfl)) (pe_callB call_zLen (by rfl) T.f_len bt_len (pa_cons (pv 3) pa_nil))) (fun _ _ => rfl)))
  (pss_cons (ps_setLc (i := 8) (own := [(PySem.Str.ofString "k", 9)]) (by rfl) nd rfl rfl (sw_true rfl rfl rfl (by decide +kernel)) (pi_range1 (by rfl) T.f_range (pa_cons pe_int pa_nil)) (blkOk_by (own := [(PySem.Str.ofString "k", 9)]) (N := N__law_line) (by show blkC N__law_line (defScope s__law_line) _ [(PySem.Str.ofString "k", 9)] = true; decide +kernel)) (fun _ _ _ _ _ => (pg_name (i := 9) nd rfl (Or.inl rfl))) (fun _ _ _ _ _ => pts_nil) (fun _ _ _ _ _ => (pe_callN D__law_target (hr.mono (by omega)) (pa_cons (pe_ix (ix_z hu) (pv 0) (pe_op op_zAdd pe_int (pv 9)) (fun _ _ => rfl)) (pa_cons (pv 1) (pa_cons (pv 2) (pa_cons (pv 4) pa_nil)))))))
  (pss_cons (ps_if (PW.pt (pw_or (pt_cmpR (op_zEq hu) (pv 5) pe_str (nomark _)) (pw_or1 (pt_cmpR (op_zEq hu) (pv 5) pe_str (nomark _))))) (pss_one (ps_ret (pe_tup (pa_cons (pv 5) (pa_cons (pv 6) (pa_cons (pv 7) (pa_cons (pe_ix (ix_z hu) (pv 8) pe_int (fun _ _ => rfl)) pa_nil))))))) pss_nil)
  (pss_cons (ps_if (pt_cmpR (op_zEq hu) (pv 5) pe_str (nomark _)) (pss_one (ps_ret (pe_tup (pa_cons (pv 5) (pa_cons (pv 6) (pa_cons (pv 7) (pa_cons (pe_ix (ix_z hu) (pv 8) pe_int (fun _ _ => rfl)) (pa_cons (pe_ix (ix_z hu) (pv 8) pe_int (fun _ _ => rfl)) pa_nil)))))))) pss_nil)
  (pss_cons (ps_if (pt_cmpR (op_zEq hu) (pv 5) pe_str (nomark _)) (pss_one (ps_ret (pe_tup (pa_cons (pv 5) (pa_cons (pv 6) (pa_cons (pv 7) (pa_cons (pe_op op_zAdd pe_int (pe_ix (ix_z hu) (pv 0) pe_int (fun _ _ => rfl))) (pa_cons (pe_ix (ix_z hu) (pv 8) pe_int (fun _ _ => rfl)) (pa_cons (pe_ix (ix_z hu) (pv 8) pe_int (fun _ _ => rfl)) pa_nil))))))))) pss_nil)
  (pss_cons (ps_if (pt_cmpR (op_zEq hu) (pv 5) pe_str (nomark _)) (pss_one (ps_ret (pe_tup (pa_cons (pv 5) (pa_cons (pv 6) (pa_cons (pe_callTy call_zTuple (by rfl) T.f_tuple bt_tuple (pa_cons (pe_slice sl_z (pv 8) po_none (po_some (pe_op op_zAdd pe_int (pe_op op_zMod (pe_ix (ix_z hu) (pv 0) pe_int (fun _ _ => rfl)) pe_int)))) pa_nil)) pa_nil)))))) pss_nil)
  (pss_one (ps_ret (pe_tup (pa_cons (pv 5) (pa_cons (pv 6) (pa_cons (pe_ix (ix_z hu) (pv 8) pe_int (fun _ _ => rfl)) (pa_cons (pe_ix (ix_z hu) (pv 8) pe_int (fun _ _ => rfl)) pa_nil)))))))))))))))
def t__law_program (w : World) (K : PySem.W.Frag) (W : WX) : TS :=
  (tSeq (tAsg (tCallS (spz K (F__law_letters K)) (WE W) (tCons (tCallS (spz K (F__law_digits K)) (WE W) (tCons (tCallS (spz K (F__law_cell K)) (WE W) (tCons (tVar 0) (tCons (tVar 1) tNil))) (tCons (tLst (tCons (tC (.int 8)) (tCons (tC (.int 8)) (tCons (tC (.int 8)) (tCons (tC (.int 8)) tNil))))) tNil))) tNil)) (gName 4))
  (tSeq (tAsg (tCallS (spz K (F__law_digits K)) (WE W) (tCons (tCallS (spz K (F__law_cell K)) (WE W) (tCons (tVar 0) (tCons (tOp (zAdd K) (tVar 1) (tC (.int 1))) tNil))) (tCons (tLst (tCons (tC (.int 3)) (tCons (tVar 2) tNil))) tNil))) (gName 5))
  (tSeq (tAsg (tOp (zAdd K) (tVar 4) (tSl (zSl K) (tC (.str (tx [65, 66, 67, 68, 69]))) tNoPart (tPart (tOp (zIx K) (tVar 5) (tC (.int 0)))))) (gName 6))
  (tSeq (tAsg (tOp (zAdd K) (tC (.int 1)) (tOp (zIx K) (tVar 5) (tC (.int 1)))) (gName 7))
  (tSeq (tAsg (tLst tNil) (gName 8))
  (tSeq (tFor (iRng1 (tCons (tVar 7) tNil)) (gName 9) (tSeq (tAsg (tCallS (spz K (F__law_digits K)) (WE W) (tCons (tCallS (spz K (F__law_cell K)) (WE W) (tCons (tVar 0) (tCons (tOp (zAdd K) (tOp (zAdd K) (tVar 1) (tC (.int 2))) (tVar 9)) tNil))) (tCons (tLst (tCons (tC (.int 6)) (tCons (tC (.int 12)) (tCons (tC (.int 12)) (tCons (tC (.int 24)) (tCons (tC (.int 24)) (tCons (tC (.int 24)) (tCons (tC (.int 4)) tNil)))))))) tNil))) (gName 10))
  (tDrop (tBM K "list" rAppend (tVar 8) (tCons (tCallS (spz K (F__law_line K)) (WE W) (tCons (tVar 10) (tCons (tVar 9) (tCons (tVar 7) (tCons (tVar 6) (tCons (tVar 3) tNil)))))) tNil)))))
  (tRet (tLst (tCons (tVar 4) (tCons (tOp (zIx K) (tVar 5) (tC (.int 0))) (tCons (tVar 8) tNil)))))))))))
theorem ps__law_program (T : Tx w K mg) (D__law_cell : Df P w K mg base "_law_cell" ["script", "k"] 1 (spz K (F__law_cell K))) (D__law_digits : Df P w K mg base "_law_digits" ["cell", "sizes"] 1 (spz K (F__law_digits K))) (D__law_letters : Df P w K mg base "_law_letters" ["row"] 1 (spz K (F__law_letters K))) (D__law_line : Df P w K mg base "_law_line" ["row", "at", "many", "characters", "loops"] 2 (spz K (F__law_line K))) {f : Addr} {cdv : Value} {A : Around} {outer : List Env} {s : Shared} {H : Hp} {E : XK} (hr : Room 2 (A.deeper (envOfC "_law_program" (defScope s__law_program) s.heap.objs.size f cdv))) :
    PSs (cxOf (L2.CX P w) P w K mg base N__law_program "_law_program" (defScope s__law_program) f cdv A outer s H E) (defBody s__law_program) (t__law_program w K (fun cls d _ H' => E cls d H')) := by
  have nd := sc__law_program.nd
  have hu := hr.units
  have tk : Takes (cxOf (L2.CX P w) P w K mg base N__law_program "_law_program" (defScope s__law_program) f cdv A outer s H E) (fun cls d _ H' => E cls d H') := takes_of rfl rfl rfl rfl
  exact (pss_cons (ps_set (i := 4) nd rfl (Or.inl rfl) (pe_callZ D__law_letters (hr.mono (by omega)) tk (pa_cons (pe_callZ D__law_digits (hr.mono (by omega)) tk (pa_cons (pe_callZ D__law_cell (hr.mono (by omega)) tk (pa_cons (pv 0) (pa_cons (pv 1) pa_nil))) (pa_cons (pe_lst (pa_cons pe_int (pa_cons pe_int (pa_cons pe_int (pa_cons pe_int pa_nil))))) pa_nil))) pa_nil)))
  (pss_cons (ps_set (i := 5) nd rfl (Or.inl rfl) (pe_callZ D__law_digits (hr.mono (by omega)) tk (pa_cons (pe_callZ D__law_cell (hr.mono (by omega)) tk (pa_cons (pv 0) (pa_cons (pe_op op_zAdd (pv 1) pe_int) pa_nil))) (pa_cons (pe_lst (pa_cons pe_int (pa_cons (pv 2) pa_nil))) pa_nil))))
  (pss_cons (ps_set (i := 6) nd rfl (Or.inl rfl) (pe_op op_zAdd (pv 4) (pe_slice sl_z pe_str po_none (po_some (pe_ix (ix_z hu) (pv 5) pe_int (fun _ _ => rfl))))))
  (pss_cons (ps_set (i := 7) nd rfl (Or.inl rfl) (pe_op op_zAdd pe_int (pe_ix (ix_z hu) (pv 5) pe_int (fun _ _ => rfl))))
  (pss_cons (ps_set (i := 8) nd rfl (Or.inl rfl) (pe_lst pa_nil))
  (pss_cons (ps_for (passes_of rfl) rfl (pi_range1 (by rfl) T.f_range (pa_cons (pv 7) pa_nil)) (pg_name (i := 9) nd rfl (Or.inl rfl)) (pss_cons (ps_set (i := 10) nd rfl (Or.inl rfl) (pe_callZ D__law_digits (hr.mono (by omega)) tk (pa_cons (pe_callZ D__law_cell (hr.mono (by omega)) tk (pa_cons (pv 0) (pa_cons (pe_op op_zAdd (pe_op op_zAdd (pv 1) pe_int) (pv 9)) pa_nil))) (pa_cons (pe_lst (pa_cons pe_int (pa_cons pe_int (pa_cons pe_int (pa_cons pe_int (pa_cons pe_int (pa_cons pe_int (pa_cons pe_int pa_nil)))))))) pa_nil))))
  (pss_one (ps_expr (pe_bm PySem.F.plainAttrs_list PySem.F.slot_list_append PySem.F.type_list_append mt_append (pv 8) (pa_cons (pe_callZ D__law_line (hr.mono (by omega)) tk (pa_cons (pv 10) (pa_cons (pv 9) (pa_cons (pv 7) (pa_cons (pv 6) (pa_cons (pv 3) pa_nil)))))) pa_nil))))))
  (pss_one (ps_ret (pe_lst (pa_cons (pv 4) (pa_cons (pe_ix (ix_z hu) (pv 5) pe_int (fun _ _ => rfl)) (pa_cons (pv 8) pa_nil))))))))))))
def t_target_note (w : World) (K : PySem.W.Frag) (W : WX) : TS :=
  (tSeq (tIfS (tTest (tOp zIsB (tVar 0) (tC (.bl true)))) (tRet (tC (.str (tx [121, 101, 115])))) tNext)
  (tSeq (tIfS (tTest (tOp zIsB (tVar 0) (tC (.bl false)))) (tRet (tC (.str (tx [110, 111])))) tNext)
  (tRet (tCB zStr (tCons (tVar 0) tNil)))))
theorem ps_target_note (T : Tx w K mg)  {f : Addr} {cdv : Value} {A : Around} {outer : List Env} {s : Shared} {H : Hp} {E : XK} (hr : Room 0 (A.deeper (envOfC "target_note" (defScope s_target_note) s.heap.objs.size f cdv))) :
    PSs (cxOf (L2.CX P w) P w K mg base N_target_note "target_note" (defScope s_target_note) f cdv A outer s H E) (defBody s_target_note) (t_target_note w K (fun cls d _ H' => E cls d H')) := by
  have nd := sc_target_note.nd
  have hu := hr.units
  have tk : Takes (cxOf (L2.CX P w) P w K mg base N_target_note "target_note" (defScope s_target_note) f cdv A outer s H E) (fun cls d _ H' => E cls d H') := takes_of rfl rfl rfl rfl
  exact (pss_cons (ps_if (pt_cmpR op_zIsB (pv 0) pe_bl (nomark _)) (pss_one (ps_ret pe_str)) pss_nil)
  (pss_cons (ps_if (pt_cmpR op_zIsB (pv 0) pe_bl (nomark _)) (pss_one (ps_ret pe_str)) pss_nil)
  (pss_one (ps_ret (pe_callTy call_zStr (by rfl) T.f_str bt_str (pa_cons (pv 0) pa_nil))))))
def t_item_note (w : World) (K : PySem.W.Frag) (W : WX) : TS :=
  (tSeq (tIfS (tTest (tOp (zEq K) (tVar 0) (tC (.str (tx [99]))))) (tRet (tVar 1)) tNext)
  (tSeq (tIfS (tTest (tOp (zEq K) (tVar 0) (tC (.str (tx [115]))))) (tRet (tBM K "str" (zJoin K) (tC (.str (tx [32]))) (tCons (tLc (iTup K (tVar 1)) (gName 2) tYes (tCall (spz K (F_target_note K)) [] E0 (tCons (tVar 2) tNil)) [2]) tNil))) tNext)
  (tRet (tCallS (spz K (F_target_note K)) (WE W) (tCons (tVar 1) tNil)))))
theorem ps_item_note (T : Tx w K mg) (D_target_note : Df P w K mg base "target_note" ["target"] 1 (spz K (F_target_note K))) {f : Addr} {cdv : Value} {A : Around} {outer : List Env} {s : Shared} {H : Hp} {E : XK} (hr : Room 1 (A.deeper (envOfC "item_note" (defScope s_item_note) s.heap.objs.size f cdv))) :
    PSs (cxOf (L2.CX P w) P w K mg base N_item_note "item_note" (defScope s_item_note) f cdv A outer s H E) (defBody s_item_note) (t_item_note w K (fun cls d _ H' => E cls d H')) := by
  have nd := sc_item_note.nd
  have hu := hr.units
  have tk : Takes (cxOf (L2.CX P w) P w K mg base N_item_note "item_note" (defScope s_item_note) f cdv A outer s H E) (fun cls d _ H' => E cls d H') := takes_of rfl rfl rfl rfl
  exact (pss_cons (ps_if (pt_cmpR (op_zEq hu) (pv 0) pe_str (nomark _)) (pss_one (ps_ret (pv 1))) pss_nil)
  (pss_cons (ps_if (pt_cmpR (op_zEq hu) (pv 0) pe_str (nomark _)) (pss_one (ps_ret (pe_bm PySem.F.plainAttrs_str PySem.F.slot_str_join PySem.F.type_str_join mt_zJoin pe_str (pa_cons (pe_lc (own := [(PySem.Str.ofString "target", 2)]) (by rfl) nd (pi_tup (pv 1)) (blkOk_by (own := [(PySem.Str.ofString "target", 2)]) (N := N_item_note) (by show blkC N_item_note (defScope s_item_note) _ [(PySem.Str.ofString "target", 2)] = true; decide +kernel)) (fun _ _ _ _ _ => (pg_name (i := 2) nd rfl (Or.inl rfl))) (fun _ _ _ _ _ => pts_nil) (fun _ _ _ _ _ => (pe_callN D_target_note (hr.mono (by omega)) (pa_cons (pv 2) pa_nil)))) pa_nil)))) pss_nil)
  (pss_one (ps_ret (pe_callZ D_target_note (hr.mono (by omega)) tk (pa_cons (pv 1) pa_nil))))))
def t_format_program (w : World) (K : PySem.W.Frag) (W : WX) : TS :=
  (tSeq (tAsg (tLst (tCons (tJoined [(tC (.str (tx [112, 114, 111, 103, 114, 97, 109, 32]))), (tFmt (tFld K (tVar 0) (PySem.Str.ofString "letters"))), (tC (.str (tx [32]))), (tFmt (tFld K (tVar 0) (PySem.Str.ofString "marks")))]) tNil)) (gName 1))
  (tSeq (tFor (iEnumZ K (tCons (tFld K (tVar 0) (PySem.Str.ofString "lines")) tNil)) (gTup K 2 (gCons (gName 2) (gCons (gName 3) gNil))) (tSeq (tAsg (tLst (tCons (tCB zStr (tCons (tVar 2) tNil)) (tCons (tOp (zIx K) (tVar 3) (tC (.int 0))) tNil))) (gName 4))
  (tSeq (tFor (iEnumZ K (tCons (tOp (rKIx K (He.ga K (PySem.Str.ofString "SHAPES"))) (tC (.ref (He.ga K (PySem.Str.ofString "SHAPES")))) (tOp (zIx K) (tVar 3) (tC (.int 0)))) tNil)) (gTup K 2 (gCons (gName 5) (gCons (gName 6) gNil))) (tDrop (tBM K "list" rAppend (tVar 4) (tCons (tCallS (spz K (F_item_note K)) (WE W) (tCons (tVar 6) (tCons (tOp (zIx K) (tVar 3) (tOp (zAdd K) (tVar 5) (tC (.int 1)))) tNil))) tNil))))
  (tDrop (tBM K "list" rAppend (tVar 1) (tCons (tBM K "str" (zJoin K) (tC (.str (tx [32]))) (tCons (tVar 4) tNil)) tNil))))))
  (tRet (tBM K "str" (zJoin K) (tC (.str (tx [10]))) (tCons (tVar 1) tNil)))))
theorem ps_format_program (T : Tx w K mg) (D_item_note : Df P w K mg base "item_note" ["shape", "item"] 2 (spz K (F_item_note K))) {f : Addr} {cdv : Value} {A : Around} {outer : List Env} {s : Shared} {H : Hp} {E : XK} (hr : Room 2 (A.deeper (envOfC "format_program" (defScope s_format_program) s.heap.objs.size f cdv))) :
    PSs (cxOf (L2.CX P w) P w K mg base N_format_program "format_program" (defScope s_format_program) f cdv A outer s H E) (defBody s_format_program) (t_format_program w K (fun cls d _ H' => E cls d H')) := by
  have nd := sc_format_program.nd
  have hu := hr.units
  have tk : Takes (cxOf (L2.CX P w) P w K mg base N_format_program "format_program" (defScope s_format_program) f cdv A outer s H E) (fun cls d _ H' => E cls d H') := takes_of rfl rfl rfl rfl
  exact (pss_cons (ps_set (i := 1) nd rfl (Or.inl rfl) (pe_lst (pa_cons (pe_joinedZ (PJ.cons pe_str (PJ.cons (pe_fmt (pe_fld (pv 0) rfl)) (PJ.cons pe_str (PJ.cons (pe_fmt (pe_fld (pv 0) rfl)) PJ.nil))))) pa_nil)))
  (pss_cons (ps_for (passes_of rfl) rfl (pi_enumZ (by rfl) T.f_enumerate (pa_cons (pe_fld (pv 0) rfl) pa_nil)) (pg_tup (by rfl) (pgs_cons (pg_name (i := 2) nd rfl (Or.inl rfl)) (pgs_cons (pg_name (i := 3) nd rfl (Or.inl rfl)) pgs_nil))) (pss_cons (ps_set (i := 4) nd rfl (Or.inl rfl) (pe_lst (pa_cons (pe_callTy call_zStr (by rfl) T.f_str bt_str (pa_cons (pv 2) pa_nil)) (pa_cons (pe_ix (ix_z hu) (pv 3) pe_int (fun _ _ => rfl)) pa_nil))))
  (pss_cons (ps_for (passes_of rfl) rfl (pi_enumZ (by rfl) T.f_enumerate (pa_cons (pe_ix (ix_K T.d_SHAPES) (pe_glob (by rfl) T.g_SHAPES rfl) (pe_ix (ix_z hu) (pv 3) pe_int (fun _ _ => rfl)) (fun _ _ => rfl)) pa_nil)) (pg_tup (by rfl) (pgs_cons (pg_name (i := 5) nd rfl (Or.inl rfl)) (pgs_cons (pg_name (i := 6) nd rfl (Or.inl rfl)) pgs_nil))) (pss_one (ps_expr (pe_bm PySem.F.plainAttrs_list PySem.F.slot_list_append PySem.F.type_list_append mt_append (pv 4) (pa_cons (pe_callZ D_item_note (hr.mono (by omega)) tk (pa_cons (pv 6) (pa_cons (pe_ix (ix_z hu) (pv 3) (pe_op op_zAdd (pv 5) pe_int) (fun _ _ => rfl)) pa_nil))) pa_nil)))))
  (pss_one (ps_expr (pe_bm PySem.F.plainAttrs_list PySem.F.slot_list_append PySem.F.type_list_append mt_append (pv 1) (pa_cons (pe_bm PySem.F.plainAttrs_str PySem.F.slot_str_join PySem.F.type_str_join mt_zJoin pe_str (pa_cons (pv 4) pa_nil)) pa_nil)))))))
  (pss_one (ps_ret (pe_bm PySem.F.plainAttrs_str PySem.F.slot_str_join PySem.F.type_str_join mt_zJoin pe_str (pa_cons (pv 1) pa_nil))))))
def t__law_whole (w : World) (K : PySem.W.Frag) (W : WX) : TS :=
  (tRet (tAndV (tCB (zIsi K) (tCons (tVar 0) (tCons (tC (.ty "int")) tNil))) (tNotV (tCB (zIsi K) (tCons (tVar 0) (tCons (tC (.ty "bool")) tNil))))))
theorem ps__law_whole (T : Tx w K mg)  {f : Addr} {cdv : Value} {A : Around} {outer : List Env} {s : Shared} {H : Hp} {E : XK} (hr : Room 0 (A.deeper (envOfC "_law_whole" (defScope s__law_whole) s.heap.objs.size f cdv))) :
    PSs (cxOf (L2.CX P w) P w K mg base N__law_whole "_law_whole" (defScope s__law_whole) f cdv A outer s H E) (defBody s__law_whole) (t__law_whole w K (fun cls d _ H' => E cls d H')) := by
  have nd := sc__law_whole.nd
  have hu := hr.units
  have tk : Takes (cxOf (L2.CX P w) P w K mg base N__law_whole "_law_whole" (defScope s__law_whole) f cdv A outer s H E) (fun cls d _ H' => E cls d H') := takes_of rfl rfl rfl rfl
  exact (pss_one (ps_ret (pe_and (pe_callB call_zIsi (by rfl) T.f_isinstance bt_isinstance (pa_cons (pv 0) (pa_cons (pe_bltn (by rfl) T.f_int bt_int rfl) pa_nil))) (pe_one (pe_not (pe_callB call_zIsi (by rfl) T.f_isinstance bt_isinstance (pa_cons (pv 0) (pa_cons (pe_bltn (by rfl) T.f_bool bt_bool rfl) pa_nil))))))))
theorem psH__law_whole (T : Tx w K mg) {p : Addr × Obj} {f : Addr} {cdv : Value} {A : Around} {outer : List Env} {s : Shared} {H : Hp} {E : XK} (hr : L2H.RoomH 0 (A.deeper (envOfC "_law_whole" (defScope s__law_whole) s.heap.objs.size f cdv))) :
    PSs (L2H.cxH (L2.CX P w) P w K mg base N__law_whole "_law_whole" (defScope s__law_whole) f cdv A outer s H E p) (defBody s__law_whole) (t__law_whole w K (fun cls d _ H' => E cls d H')) := by
  have nd := sc__law_whole.nd
  have hu : (A.deeper (envOfC "_law_whole" (defScope s__law_whole) s.heap.objs.size f cdv)).units + 64 < cLine := by have := hr.un; omega
  exact (pss_one (ps_ret (pe_and (pe_callB call_zIsi (by rfl) T.f_isinstance bt_isinstance (pa_cons (pv 0) (pa_cons (pe_bltn (by rfl) T.f_int bt_int rfl) pa_nil))) (pe_one (pe_not (pe_callB call_zIsi (by rfl) T.f_isinstance bt_isinstance (pa_cons (pv 0) (pa_cons (pe_bltn (by rfl) T.f_bool bt_bool rfl) pa_nil))))))))
def t__law_is_refused (w : World) (K : PySem.W.Frag) (W : WX) : TS :=
  (tSeq (tTryAs K (.ref (He.ga K (PySem.Str.ofString "BadLine"))) 2 (fun a cls d => (tRet (tAndV (tCB (rIsG K a cls d) (tCons (tVar 2) (tCons (tC (.ref (He.ga K (PySem.Str.ofString "ClockError")))) tNil))) (tAndV (tCallS (spz K (F__law_whole K)) (fun _ => E0) (tCons (tXg K a cls d (PySem.Str.ofString "line") (tVar 2)) tNil)) (tOp (zEq K) (tXg K a cls d (PySem.Str.ofString "line") (tVar 2)) (tVar 1)))))) W (fun W1 => (tDrop (tCallS (spz K (F_parse_program K)) (WE W1) (tCons (tVar 0) tNil)))))
  (tRet (tC (.bl false))))
theorem ps__law_is_refused (T : Tx w K mg) (S__law_whole : Ds P w K mg base "_law_whole" ["value"] 1 (spz K (F__law_whole K))) (D_parse_program : Df P w K mg base "parse_program" ["string"] 9 (spz K (F_parse_program K))) {f : Addr} {cdv : Value} {A : Around} {outer : List Env} {s : Shared} {H : Hp} {E : XK} (hr : Room 9 (A.deeper (envOfC "_law_is_refused" (defScope s__law_is_refused) s.heap.objs.size f cdv))) :
    PSs (cxOf (L2.CX P w) P w K mg base N__law_is_refused "_law_is_refused" (defScope s__law_is_refused) f cdv A outer s H E) (defBody s__law_is_refused) (t__law_is_refused w K (fun cls d _ H' => E cls d H')) := by
  have nd := sc__law_is_refused.nd
  have hu := hr.units
  have tk : Takes (cxOf (L2.CX P w) P w K mg base N__law_is_refused "_law_is_refused" (defScope s__law_is_refused) f cdv A outer s H E) (fun cls d _ H' => E cls d H') := takes_of rfl rfl rfl rfl
  exact (pss_cons (ps_try_as (i := 2) (tb := fun W1 => (tDrop (tCallS (spz K (F_parse_program K)) (WE W1) (tCons (tVar 0) tNil)))) (ts := fun a cls d => (tRet (tAndV (tCB (rIsG K a cls d) (tCons (tVar 2) (tCons (tC (.ref (He.ga K (PySem.Str.ofString "ClockError")))) tNil))) (tAndV (tCallS (spz K (F__law_whole K)) (fun _ => E0) (tCons (tXg K a cls d (PySem.Str.ofString "line") (tVar 2)) tNil)) (tOp (zEq K) (tXg K a cls d (PySem.Str.ofString "line") (tVar 2)) (tVar 1)))))) rfl rfl nd rfl rfl ⟨by rfl, by decide, .inl T.g_BadLine⟩ tk (fun W1 pn xe tk1 po1 => (pss_one (ps_expr (pe_callZ D_parse_program (hr.mono (by omega)) tk1 (pa_cons (pv 0) pa_nil))))) (fun a oe cls d pn hz hf => (pss_one (ps_ret (pe_and (pe_callB (call_isG hz hf) (by rfl) T.f_isinstance bt_isinstance (pa_cons (pv 2) (pa_cons (pe_glob (by rfl) T.g_ClockError rfl) pa_nil))) (pe_and (pe_callZS S__law_whole (hr.mono (by omega)) (pa_cons (pe_xg hz hf (pv 2)) pa_nil)) (pe_one (pe_cmpR (op_zEq hu) (pe_xg hz hf (pv 2)) (pv 1) (nomark _)))))))))
  (pss_one (ps_ret pe_bl)))
def t_law (w : World) (K : PySem.W.Frag) (W : WX) : TS :=
  (tSeq (tAsg (tCallS (spz K (F__law_digits K)) (WE W) (tCons (tCallS (spz K (F__law_cell K)) (WE W) (tCons (tVar 0) (tCons (tC (.int 12)) tNil))) (tCons (tLst (tCons (tC (.int 2)) (tCons (tC (.int 6)) (tCons (tC (.int 6)) (tCons (tC (.int 16)) (tCons (tC (.int 60)) (tCons (tC (.int 8)) (tCons (tC (.int 2)) tNil)))))))) tNil))) (gName 1))
  (tSeq (tAsg (tCallS (spz K (F__law_wider K)) (WE W) (tCons (tCallS (spz K (F__law_program K)) (WE W) (tCons (tVar 0) (tCons (tC (.int 0)) (tCons (tC (.int 8)) (tCons (tOp (zEq K) (tOp (zIx K) (tVar 1) (tC (.int 6))) (tC (.int 0))) tNil))))) (tCons (tVar 1) tNil))) (gName 2))
  (tSeq (tAsg (tOp (zIx K) (tVar 2) (tC (.int 0))) (gName 3))
  (tSeq (tAsg (tOp (zAdd K) (tOp (zAdd K) (tOp (zAdd K) (tC (.str (tx [112, 114, 111, 103, 114, 97, 109, 32]))) (tVar 3)) (tC (.str (tx [32])))) (tCB zStr (tCons (tOp (zIx K) (tVar 2) (tC (.int 1))) tNil))) (gName 4))
  (tSeq (tAsg (tLc (iRng1 (tCons (tCB (zLen K) (tCons (tOp (zIx K) (tVar 2) (tC (.int 2))) tNil)) tNil)) (gName 11) tYes (tCall (spz K (F__law_note K)) [] E0 (tCons (tVar 11) (tCons (tOp (zIx K) (tOp (zIx K) (tVar 2) (tC (.int 2))) (tVar 11)) tNil))) [11]) (gName 5))
  (tSeq (tAsg (tBM K "str" (zJoin K) (tC (.str (tx [10]))) (tCons (tOp (zAdd K) (tLst (tCons (tVar 4) tNil)) (tVar 5)) tNil)) (gName 6))
  (tSeq (tIfS (tTest (tOp (zNe K) (tCallS (spz K (F_format_program K)) (WE W) (tCons (tMkZ (He.ga K (PySem.Str.ofString "Program")) (spI K (He.ga K "Program") (F_Program K)) (WE W) (tCons (tVar 3) (tCons (tOp (zIx K) (tVar 2) (tC (.int 1))) (tCons (tOp (zIx K) (tVar 2) (tC (.int 2))) tNil)))) tNil)) (tVar 6))) (tRet (tC (.bl false))) tNext)
  (tSeq (tAsg (tCallS (spz K (F_parse_program K)) (WE W) (tCons (tVar 6) tNil)) (gName 7))
  (tSeq (tIfS (tOr (tNot (tB (tCB (zIsi K) (tCons (tVar 7) (tCons (tC (.ref (He.ga K (PySem.Str.ofString "Program")))) tNil))))) (tOr (tTest (tOp (zNe K) (tFld K (tVar 7) (PySem.Str.ofString "letters")) (tVar 3))) (tOr (tTest (tOp (zNe K) (tFld K (tVar 7) (PySem.Str.ofString "marks")) (tOp (zIx K) (tVar 2) (tC (.int 1))))) (tTest (tOp (zNe K) (tFld K (tVar 7) (PySem.Str.ofString "lines")) (tCB (zTuple K) (tCons (tOp (zIx K) (tVar 2) (tC (.int 2))) tNil))))))) (tRet (tC (.bl false))) tNext)
  (tSeq (tIfS (tTest (tOp (zNe K) (tCallS (spz K (F_format_program K)) (WE W) (tCons (tVar 7) tNil)) (tVar 6))) (tRet (tC (.bl false))) tNext)
  (tSeq (tAsg (tOp zMod (tOp (zIx K) (tVar 1) (tC (.int 4))) (tCB (zLen K) (tCons (tVar 5) tNil))) (gName 8))
  (tSeq (tAsg (tCallS (spz K (F__law_spoilt K)) (WE W) (tCons (tVar 8) (tCons (tOp (zIx K) (tOp (zIx K) (tVar 2) (tC (.int 2))) (tVar 8)) (tCons (tCB (zLen K) (tCons (tVar 5) tNil)) (tCons (tOp (zIx K) (tVar 2) (tC (.int 1))) (tCons (tOp (zIx K) (tVar 1) (tC (.int 3))) tNil)))))) (gName 9))
  (tSeq (tIfS (tNot (tB (tCallS (spz K (F__law_is_refused K)) (WE W) (tCons (tBM K "str" (zJoin K) (tC (.str (tx [10]))) (tCons (tOp (zAdd K) (tOp (zAdd K) (tOp (zAdd K) (tLst (tCons (tVar 4) tNil)) (tSl (zSl K) (tVar 5) tNoPart (tPart (tVar 8)))) (tLst (tCons (tVar 9) tNil))) (tSl (zSl K) (tVar 5) (tPart (tOp (zAdd K) (tVar 8) (tC (.int 1)))) tNoPart)) tNil)) (tCons (tOp (zAdd K) (tVar 8) (tC (.int 2))) tNil))))) (tRet (tC (.bl false))) tNext)
  (tSeq (tAsg (tLst (tCons (tOp (zAdd K) (tOp (zAdd K) (tC (.str (tx [112, 114, 111, 103, 114, 97, 109, 32]))) (tVar 3)) (tC (.str (tx [32, 54])))) (tCons (tOp (zAdd K) (tC (.str (tx [112, 114, 111, 103, 114, 97, 109, 32]))) (tVar 3)) (tCons (tOp (zAdd K) (tOp (zAdd K) (tC (.str (tx [112, 114, 111, 103, 114, 97, 109, 32, 32]))) (tVar 3)) (tC (.str (tx [32, 48])))) (tCons (tOp (zAdd K) (tOp (zAdd K) (tC (.str (tx [80, 114, 111, 103, 114, 97, 109, 32]))) (tVar 3)) (tC (.str (tx [32, 48])))) (tCons (tOp (zAdd K) (tOp (zAdd K) (tC (.str (tx [112, 114, 111, 103, 114, 97, 109, 32]))) (tUn (zRev K) (tVar 3))) (tC (.str (tx [97, 32, 48])))) (tCons (tOp (zAdd K) (tOp (zAdd K) (tC (.str (tx [112, 114, 111, 103, 114, 97, 109, 32]))) (tVar 3)) (tC (.str (tx [32, 48, 48])))) (tCons (tC (.str (tx []))) (tCons (tOp (zAdd K) (tOp (zAdd K) (tC (.str (tx [112, 114, 111, 103, 114, 97, 109, 32]))) (tVar 3)) (tC (.str (tx [32, 49, 32])))) tNil))))))))) (gName 10))
  (tSeq (tIfS (tNot (tB (tCallS (spz K (F__law_is_refused K)) (WE W) (tCons (tBM K "str" (zJoin K) (tC (.str (tx [10]))) (tCons (tOp (zAdd K) (tLst (tCons (tOp (zIx K) (tVar 10) (tOp (zIx K) (tVar 1) (tC (.int 5)))) tNil)) (tVar 5)) tNil)) (tCons (tC (.int 1)) tNil))))) (tRet (tC (.bl false))) tNext)
  (tRet (tAndV (tCallS (spz K (F__law_is_refused K)) (WE W) (tCons (tVar 4) (tCons (tC (.int 2)) tNil))) (tCallS (spz K (F__law_is_refused K)) (WE W) (tCons (tOp (zAdd K) (tVar 6) (tC (.str (tx [10])))) (tCons (tOp (zAdd K) (tCB (zLen K) (tCons (tVar 5) tNil)) (tC (.int 2))) tNil))))))))))))))))))))
theorem ps_law (T : Tx w K mg) (C_Program : Dc P w K mg base "Program" (He.ga K "Program") ["self", "letters", "marks", "lines"] 7 (spI K (He.ga K "Program") (F_Program K))) (D__law_cell : Df P w K mg base "_law_cell" ["script", "k"] 1 (spz K (F__law_cell K))) (D__law_digits : Df P w K mg base "_law_digits" ["cell", "sizes"] 1 (spz K (F__law_digits K))) (D__law_is_refused : Df P w K mg base "_law_is_refused" ["string", "due"] 10 (spz K (F__law_is_refused K))) (D__law_note : Df P w K mg base "_law_note" ["at", "line"] 2 (spz K (F__law_note K))) (D__law_program : Df P w K mg base "_law_program" ["script", "at", "longest", "loops"] 3 (spz K (F__law_program K))) (D__law_spoilt : Df P w K mg base "_law_spoilt" ["at", "line", "many", "marks", "kind"] 3 (spz K (F__law_spoilt K))) (D__law_wider : Df P w K mg base "_law_wider" ["told", "row"] 1 (spz K (F__law_wider K))) (D_format_program : Df P w K mg base "format_program" ["program"] 3 (spz K (F_format_program K))) (D_parse_program : Df P w K mg base "parse_program" ["string"] 9 (spz K (F_parse_program K))) {f : Addr} {cdv : Value} {A : Around} {outer : List Env} {s : Shared} {H : Hp} {E : XK} (hr : Room 10 (A.deeper (envOfC "law" (defScope s_law) s.heap.objs.size f cdv))) :
    PSs (cxOf (L2.CX P w) P w K mg base N_law "law" (defScope s_law) f cdv A outer s H E) (defBody s_law) (t_law w K (fun cls d _ H' => E cls d H')) := by
  have nd := sc_law.nd
  have hu := hr.units
  have tk : Takes (cxOf (L2.CX P w) P w K mg base N_law "law" (defScope s_law) f cdv A outer s H E) (fun cls d _ H' => E cls d H') := takes_of rfl rfl rfl rfl
  exact (pss_cons (ps_set (i := 1) nd rfl (Or.inl rfl) (pe_callZ D__law_digits (hr.mono (by omega)) tk (pa_cons (pe_callZ D__law_cell (hr.mono (by omega)) tk (pa_cons (pv 0) (pa_cons pe_int pa_nil))) (pa_cons (pe_lst (pa_cons pe_int (pa_cons pe_int (pa_cons pe_int (pa_cons pe_int (pa_cons pe_int (pa_cons pe_int (pa_cons pe_int pa_nil)))))))) pa_nil))))
  (pss_cons (ps_set (i := 2) nd rfl (Or.inr rfl) (pe_callZ D__law_wider (hr.mono (by omega)) tk (pa_cons (pe_callZ D__law_program (hr.mono (by omega)) tk (pa_cons (pv 0) (pa_cons pe_int (pa_cons pe_int (pa_cons (pe_cmpR (op_zEq hu) (pe_ix (ix_z hu) (pv 1) pe_int (fun _ _ => rfl)) pe_int (nomark _)) pa_nil))))) (pa_cons (pv 1) pa_nil))))
  (pss_cons (ps_set (i := 3) nd rfl (Or.inl rfl) (pe_ix (ix_z hu) (pv 2) pe_int (fun _ _ => rfl)))
  (pss_cons (ps_set (i := 4) nd rfl (Or.inl rfl) (pe_op op_zAdd (pe_op op_zAdd (pe_op op_zAdd pe_str (pv 3)) pe_str) (pe_callTy call_zStr (by rfl) T.f_str bt_str (pa_cons (pe_ix (ix_z hu) (pv 2) pe_int (fun _ _ => rfl)) pa_nil))))
  (pss_cons (ps_setLc (i := 5) (own := [(PySem.Str.ofString "k", 11)]) (by rfl) nd rfl rfl (sw_true rfl rfl rfl (by decide +kernel)) (pi_range1 (by rfl) T.f_range (pa_cons (pe_callB call_zLen (by rfl) T.f_len bt_len (pa_cons (pe_ix (ix_z hu) (pv 2) pe_int (fun _ _ => rfl)) pa_nil)) pa_nil)) (blkOk_by (own := [(PySem.Str.ofString "k", 11)]) (N := N_law) (by show blkC N_law (defScope s_law) _ [(PySem.Str.ofString "k", 11)] = true; decide +kernel)) (fun _ _ _ _ _ => (pg_name (i := 11) nd rfl (Or.inl rfl))) (fun _ _ _ _ _ => pts_nil) (fun _ _ _ _ _ => (pe_callN D__law_note (hr.mono (by omega)) (pa_cons (pv 11) (pa_cons (pe_ix (ix_z hu) (pe_ix (ix_z hu) (pv 2) pe_int (fun _ _ => rfl)) (pv 11) (fun _ _ => rfl)) pa_nil)))))
  (pss_cons (ps_set (i := 6) nd rfl (Or.inl rfl) (pe_bm PySem.F.plainAttrs_str PySem.F.slot_str_join PySem.F.type_str_join mt_zJoin pe_str (pa_cons (pe_op op_zAdd (pe_lst (pa_cons (pv 4) pa_nil)) (pv 5)) pa_nil)))
  (pss_cons (ps_if (pt_cmpR (op_zNe hu) (pe_callZ D_format_program (hr.mono (by omega)) tk (pa_cons (pe_mkZ C_Program (hr.mono (by omega)) tk (pa_cons (pv 3) (pa_cons (pe_ix (ix_z hu) (pv 2) pe_int (fun _ _ => rfl)) (pa_cons (pe_ix (ix_z hu) (pv 2) pe_int (fun _ _ => rfl)) pa_nil)))) pa_nil)) (pv 6) (nomark _)) (pss_one (ps_ret pe_bl)) pss_nil)
  (pss_cons (ps_set (i := 7) nd rfl (Or.inl rfl) (pe_callZ D_parse_program (hr.mono (by omega)) tk (pa_cons (pv 6) pa_nil)))
  (pss_cons (ps_if (PW.pt (pw_or (pt_not (pt_val (pe_callB call_zIsi (by rfl) T.f_isinstance bt_isinstance (pa_cons (pv 7) (pa_cons (pe_glob (by rfl) T.g_Program rfl) pa_nil))))) (pw_or (pt_cmpR (op_zNe hu) (pe_fld (pv 7) rfl) (pv 3) (nomark _)) (pw_or (pt_cmpR (op_zNe hu) (pe_fld (pv 7) rfl) (pe_ix (ix_z hu) (pv 2) pe_int (fun _ _ => rfl)) (nomark _)) (pw_or1 (pt_cmpR (op_zNe hu) (pe_fld (pv 7) rfl) (pe_callTy call_zTuple (by rfl) T.f_tuple bt_tuple (pa_cons (pe_ix (ix_z hu) (pv 2) pe_int (fun _ _ => rfl)) pa_nil)) (nomark _))))))) (pss_one (ps_ret pe_bl)) pss_nil)
  (pss_cons (ps_if (pt_cmpR (op_zNe hu) (pe_callZ D_format_program (hr.mono (by omega)) tk (pa_cons (pv 7) pa_nil)) (pv 6) (nomark _)) (pss_one (ps_ret pe_bl)) pss_nil)
  (pss_cons (ps_set (i := 8) nd rfl (Or.inl rfl) (pe_op op_zMod (pe_ix (ix_z hu) (pv 1) pe_int (fun _ _ => rfl)) (pe_callB call_zLen (by rfl) T.f_len bt_len (pa_cons (pv 5) pa_nil))))
  (pss_cons (ps_set (i := 9) nd rfl (Or.inl rfl) (pe_callZ D__law_spoilt (hr.mono (by omega)) tk (pa_cons (pv 8) (pa_cons (pe_ix (ix_z hu) (pe_ix (ix_z hu) (pv 2) pe_int (fun _ _ => rfl)) (pv 8) (fun _ _ => rfl)) (pa_cons (pe_callB call_zLen (by rfl) T.f_len bt_len (pa_cons (pv 5) pa_nil)) (pa_cons (pe_ix (ix_z hu) (pv 2) pe_int (fun _ _ => rfl)) (pa_cons (pe_ix (ix_z hu) (pv 1) pe_int (fun _ _ => rfl)) pa_nil)))))))
  (pss_cons (ps_if (pt_not (pt_val (pe_callZ D__law_is_refused (hr.mono (by omega)) tk (pa_cons (pe_bm PySem.F.plainAttrs_str PySem.F.slot_str_join PySem.F.type_str_join mt_zJoin pe_str (pa_cons (pe_op op_zAdd (pe_op op_zAdd (pe_op op_zAdd (pe_lst (pa_cons (pv 4) pa_nil)) (pe_slice sl_z (pv 5) po_none (po_some (pv 8)))) (pe_lst (pa_cons (pv 9) pa_nil))) (pe_slice sl_z (pv 5) (po_some (pe_op op_zAdd (pv 8) pe_int)) po_none)) pa_nil)) (pa_cons (pe_op op_zAdd (pv 8) pe_int) pa_nil))))) (pss_one (ps_ret pe_bl)) pss_nil)
  (pss_cons (ps_set (i := 10) nd rfl (Or.inl rfl) (pe_lst (pa_cons (pe_op op_zAdd (pe_op op_zAdd pe_str (pv 3)) pe_str) (pa_cons (pe_op op_zAdd pe_str (pv 3)) (pa_cons (pe_op op_zAdd (pe_op op_zAdd pe_str (pv 3)) pe_str) (pa_cons (pe_op op_zAdd (pe_op op_zAdd pe_str (pv 3)) pe_str) (pa_cons (pe_op op_zAdd (pe_op op_zAdd pe_str (pe_rev (pv 3))) pe_str) (pa_cons (pe_op op_zAdd (pe_op op_zAdd pe_str (pv 3)) pe_str) (pa_cons pe_str (pa_cons (pe_op op_zAdd (pe_op op_zAdd pe_str (pv 3)) pe_str) pa_nil))))))))))
  (pss_cons (ps_if (pt_not (pt_val (pe_callZ D__law_is_refused (hr.mono (by omega)) tk (pa_cons (pe_bm PySem.F.plainAttrs_str PySem.F.slot_str_join PySem.F.type_str_join mt_zJoin pe_str (pa_cons (pe_op op_zAdd (pe_lst (pa_cons (pe_ix (ix_z hu) (pv 10) (pe_ix (ix_z hu) (pv 1) pe_int (fun _ _ => rfl)) (fun _ _ => rfl)) pa_nil)) (pv 5)) pa_nil)) (pa_cons pe_int pa_nil))))) (pss_one (ps_ret pe_bl)) pss_nil)
  (pss_one (ps_ret (pe_and (pe_callZ D__law_is_refused (hr.mono (by omega)) tk (pa_cons (pv 4) (pa_cons pe_int pa_nil))) (pe_one (pe_callZ D__law_is_refused (hr.mono (by omega)) tk (pa_cons (pe_op op_zAdd (pv 6) pe_str) (pa_cons (pe_op op_zAdd (pe_callB call_zLen (by rfl) T.f_len bt_len (pa_cons (pv 5) pa_nil)) pe_int) pa_nil))))))))))))))))))))))
end
section
variable {mg : Str → Option Value}
theorem pure__law_digits {mg : Str → Option Value} {w : World} (B : Bx) (T : Tx w B.K mg) (W : WX) (ds : List D) (R : Sl → Prop) (X : Xc → Prop) (h : F__law_digits B.K ds R X) : Sv B W (t__law_digits w B.K W) (ini N__law_digits ds) { nx := fun _ => R (.dat .non), rt := R, xc := fun x _ => X x } :=
  pure_digits B W ds R X h
theorem pure__law_cell {mg : Str → Option Value} {w : World} (B : Bx) (T : Tx w B.K mg) (W : WX) (ds : List D) (R : Sl → Prop) (X : Xc → Prop) (h : F__law_cell B.K ds R X) : Sv B W (t__law_cell w B.K W) (ini N__law_cell ds) { nx := fun _ => R (.dat .non), rt := R, xc := fun x _ => X x } :=
  pure_cell B W ds R X h
end
end L

namespace L
open PySem PySem.Spec PyProof.Rows L2 Z
local macro_rules | `(tactic| walk_at "at") => `(tactic| first | with_reducible exact SetAt.zero | ((with_reducible apply SetAt.succ); walk_at "at"))
local macro_rules | `(tactic| walk_at "sd") => `(tactic| first | (with_reducible assumption) | omega | (simp only [rep_length, List.length_append, List.length_cons, List.length_nil, List.length_map, List.length_replicate, List.length_range, List.length_take, List.length_reverse] <;> omega) | decide | exact Nat.le_of_ble_eq_true rfl)
local macro_rules | `(tactic| walk_at "cm") => `(tactic| first | (with_reducible assumption) | (refine cmul_s ?_ ?_ ?_ ?_ <;> first | omega | decide))
local macro_rules | `(tactic| walk_at "rv") => `(tactic| first
  | with_reducible exact rv_add | ((with_reducible apply rv_addT); walk_at "sd") | ((with_reducible apply rv_addL); walk_at "sd") | ((with_reducible apply rv_addU); walk_at "sd")
  | with_reducible exact rv_sub | ((with_reducible apply rv_mul); walk_at "cm") | ((with_reducible apply rv_mulT) <;> walk_at "sd")
  | ((with_reducible apply rv_div); first | assumption | exact cdiv_s (by walk_at "sd") (by walk_at "sd")) | ((with_reducible apply rv_mod); walk_at "sd") | ((with_reducible apply rv_pow); exact ⟨by decide, by decide, by decide⟩)
  | with_reducible exact rv_lt | with_reducible exact rv_le | with_reducible exact rv_gt | with_reducible exact rv_ge
  | with_reducible exact rv_eqI | with_reducible exact rv_eqT | with_reducible exact rv_eqB | with_reducible exact rv_neI | with_reducible exact rv_neT | with_reducible exact rv_neB
  | ((with_reducible apply rv_ixL); first | with_reducible assumption | exact rfl) | ((with_reducible apply rv_ixU); first | with_reducible assumption | exact rfl) | ((with_reducible apply rv_ixT); (focus (first | with_reducible assumption | exact rfl)); walk_at "sd")
  | with_reducible exact rv_isN | with_reducible exact rv_isN' | with_reducible exact rv_notN'
  | with_reducible exact rv_inT | with_reducible exact rv_ninT | with_reducible exact rv_inTs | with_reducible exact rv_ninTs | with_reducible assumption)
local macro_rules | `(tactic| walk_at "rc") => `(tactic| first | with_reducible exact rc_int | with_reducible exact rc_intB | with_reducible exact rc_lenL | with_reducible exact rc_lenU | ((with_reducible apply rc_lenT); walk_at "sd") | with_reducible exact rc_min | with_reducible exact rc_tupleL | with_reducible exact rc_tupleU | with_reducible exact rc_listL | with_reducible exact rc_listU | with_reducible exact rc_max | ((with_reducible apply rc_isi); (focus (exact rfl)); first | with_reducible exact kitT | with_reducible exact kit_NoneType_int | with_reducible exact kit_NoneType_bool | with_reducible exact kit_NoneType_str | with_reducible exact kit_NoneType_list | with_reducible exact kit_NoneType_tuple | with_reducible exact kit_bool_int | with_reducible exact kit_bool_bool | with_reducible exact kit_bool_str | with_reducible exact kit_bool_list | with_reducible exact kit_bool_tuple | with_reducible exact kit_int_int | with_reducible exact kit_int_bool | with_reducible exact kit_int_str | with_reducible exact kit_int_list | with_reducible exact kit_int_tuple | with_reducible exact kit_str_int | with_reducible exact kit_str_bool | with_reducible exact kit_str_str | with_reducible exact kit_str_list | with_reducible exact kit_str_tuple | with_reducible exact kit_list_int | with_reducible exact kit_list_bool | with_reducible exact kit_list_str | with_reducible exact kit_list_list | with_reducible exact kit_list_tuple | with_reducible exact kit_tuple_int | with_reducible exact kit_tuple_bool | with_reducible exact kit_tuple_str | with_reducible exact kit_tuple_list | with_reducible exact kit_tuple_tuple | assumption | rfl) | with_reducible assumption)
local macro_rules | `(tactic| walk_at "rs") => `(tactic| first | with_reducible exact rs_slL | with_reducible exact rs_slU | ((with_reducible apply rs_slT); walk_at "sd"))
local macro_rules | `(tactic| walk_at "ru") => `(tactic| first | ((with_reducible apply ru_rev); walk_at "sd") | with_reducible exact ru_neg)
local macro_rules | `(tactic| walk_at "rm") => `(tactic| first | with_reducible exact rm_count | with_reducible assumption)
local macro_rules | `(tactic| walk_at "eo") => `(tactic| first
  | ((with_reducible apply evo_lstX); (focus (walk_at "ev")); exact Nat.le_of_ble_eq_true rfl)
  | ((with_reducible apply evo_callS); (focus (walk_at "ev")); (focus (walk_at "fn")))
  | ((with_reducible apply evo_addL rfl); (focus (walk_at "ev")); (focus (walk_at "ev")); walk_at "sd")
  | ((with_reducible apply evo_listL rfl); walk_at "ev") | ((with_reducible apply evo_listU rfl); walk_at "ev")
  | with_reducible assumption)
local macro_rules | `(tactic| walk_at "ev") => `(tactic| first
  | (with_reducible assumption)
  | ((with_reducible apply ev_var); exact rfl)
  | with_reducible exact ev_int | with_reducible exact ev_str | with_reducible exact ev_bl | with_reducible exact ev_non | with_reducible exact ev_ty | with_reducible exact ev_ref
  | with_reducible exact eva_nil
  | ((with_reducible apply eva_cons); (focus (walk_at "ev")); (focus (walk_at "ev")))
  | ((with_reducible apply ev_op); (focus (walk_at "ev")); (focus (walk_at "ev")); (focus (walk_at "rv")))
  | ((with_reducible apply ev_cb); (focus (walk_at "ev")); (focus (walk_at "rc")))
  | ((with_reducible apply evt_test); (focus (walk_at "ev")))
  | ((with_reducible apply evt_b); (focus (walk_at "ev")))
  | ((with_reducible apply evt_not); (focus (walk_at "ev")))
  | ((with_reducible apply evt_and); (focus (walk_at "ev")); (focus (intro _; walk_at "ev")))
  | ((with_reducible apply evt_or); (focus (walk_at "ev")); (focus (intro _; walk_at "ev")))
  | with_reducible exact evt_yes
  | ((with_reducible apply ev_and); (focus (walk_at "ev")); (focus (intro _; walk_at "ev")))
  | ((with_reducible apply ev_or); (focus (walk_at "ev")); (focus (intro _; walk_at "ev")))
  | ((with_reducible apply ev_not); (focus (walk_at "ev")))
  | ((with_reducible apply ev_callS); (focus (walk_at "ev")); (focus (walk_at "fn")))
  | ((with_reducible apply ev_call); (focus (walk_at "ev")); (focus (walk_at "fn")))
  | ((with_reducible apply ev_tupX); (focus (walk_at "ev")); exact Nat.le_of_ble_eq_true rfl)
  | with_reducible exact evp_none
  | ((with_reducible apply evp_some); (focus (walk_at "ev")))
  | ((with_reducible apply ev_sl); (focus (walk_at "ev")); (focus (walk_at "ev")); (focus (walk_at "ev")); (focus (walk_at "rs")))
  | ((with_reducible apply ev_un); (focus (walk_at "ev")); (focus (walk_at "ru")))
  | ((with_reducible apply ev_bmT); (focus (walk_at "ev")); (focus (walk_at "ev")); (focus (walk_at "rm")))
  | ((with_reducible apply ev_bmT0); (focus (walk_at "ev")); (focus (walk_at "rm")))
  | ((with_reducible apply evi_list); (focus (walk_at "ev")))
  | ((with_reducible apply evi_tup); (focus (walk_at "ev")))
  | ((with_reducible apply evi_str); (focus (walk_at "ev")))
  | ((with_reducible apply evi_rng1); (focus (walk_at "ev")); (focus (constructor <;> walk_at "sd")))
  | ((with_reducible apply evi_rng2); (focus (walk_at "ev")); (focus (constructor <;> walk_at "sd")); (focus (constructor <;> walk_at "sd")))
  | ((with_reducible apply Ev.of_own); walk_at "eo")
  | with_reducible assumption)
local macro_rules | `(tactic| walk_at "st") => `(tactic| repeat (first
  | (with_reducible apply sv_seq)
  | ((with_reducible apply sv_set); (focus (walk_at "ev")); (focus (walk_at "at")))
  | ((with_reducible apply sv_drop); (focus (walk_at "ev")))
  | (with_reducible apply sv_next)))
local macro_rules | `(tactic| walk_at "eq") => `(tactic| (with_reducible apply ev_eq); (focus (walk_at "ev")); rfl)
theorem list7 {α : Type} {r : List α} (h : r.length = 7) : ∃ a b c d e f g, r = [a, b, c, d, e, f, g] := by
  rcases r with _ | ⟨a, _ | ⟨b, _ | ⟨c, _ | ⟨d, _ | ⟨e, _ | ⟨f, _ | ⟨g, _ | ⟨x, r⟩⟩⟩⟩⟩⟩⟩⟩ <;> simp at h
  exact ⟨a, b, c, d, e, f, g, rfl⟩
theorem list4 {α : Type} {r : List α} (h : r.length = 4) : ∃ a b c d, r = [a, b, c, d] := by
  rcases r with _ | ⟨a, _ | ⟨b, _ | ⟨c, _ | ⟨d, _ | ⟨x, r⟩⟩⟩⟩⟩ <;> simp at h
  exact ⟨a, b, c, d, rfl⟩
theorem list2 {α : Type} {r : List α} (h : r.length = 2) : ∃ a b, r = [a, b] := by
  rcases r with _ | ⟨a, _ | ⟨b, _ | ⟨x, r⟩⟩⟩ <;> simp at h
  exact ⟨a, b, rfl⟩
theorem sv_retD {B : Bx} {W : WX} {te : TE} {Γ : List Sl} {P : Po} {d e : D} (h : Ev B te Γ d) (k : P.rt (.dat e)) (q : d = e := by rfl) : Sv B W (tRet te) Γ P := sv_ret h (q ▸ k)
theorem pure__law_letters {mg : Str → Option Value} {w : World} (B : Bx) (T : Tx w B.K mg) (W : WX) (ds : List D) (R : Sl → Prop) (X : Xc → Prop) (h : F__law_letters B.K ds R X) : Sv B W (t__law_letters w B.K W) (ini N__law_letters ds) { nx := fun _ => R (.dat .non), rt := R, xc := fun x _ => X x } := by
  obtain ⟨r0, r1, r2, r3, rfl, h1, h2, h3, hR⟩ := h
  show Sv B W (t__law_letters w B.K W) [.dat (.lst [.int r0, .int r1, .int r2, .int r3]), .un, .un, .un] _
  unfold t__law_letters
  have a1 := alpha_at (i := r1) h1.1 (by omega)
  have a2 := alpha_at (i := r1 + 1 + r2) (by omega) (by omega)
  have a3 := alpha_at (i := r1 + 1 + r2 + 1 + r3) (by omega) (by omega)
  refine sv_seq (sv_set (by walk_at "ev") (by walk_at "at") ?_)
  refine sv_seq (sv_set (by walk_at "ev") (by walk_at "at") ?_)
  refine sv_seq (sv_set (by walk_at "ev") (by walk_at "at") ?_)
  unfold lettersOf at hR
  refine sv_seq (sv_if (by walk_at "ev") (fun h => ?_) (fun h => ?_))
  · rw [if_pos (of_decide_eq_true h)] at hR
    exact sv_retD (by walk_at "ev") hR
  · rw [if_neg (of_decide_eq_false h)] at hR
    refine sv_next (sv_seq (sv_if (by walk_at "ev") (fun h => ?_) (fun h => ?_)))
    · rw [if_pos (of_decide_eq_true h)] at hR
      exact sv_retD (by walk_at "ev") hR
    · rw [if_neg (of_decide_eq_false h)] at hR
      exact sv_next (sv_retD (by walk_at "ev") hR)
theorem tgCh_len (d a m : Int) (lp : Bool) : (tgCh d a m lp).length = 8 := by unfold tgCh; cases lp <;> rfl
theorem tgCh_d (d a m : Int) (lp : Bool) (ha : 0 ≤ a) (hm : 0 < m) : (tgCh d a m lp).map Tg.d = if lp then [.bl true, .bl false, .int (a + 1), .int a, .int 0, .int (d % m), .int (a + 2), .int (a + 1)] else [.bl true, .bl false, .int (a + 1), .int (a + 1), .int (a + 2), .bl true, .bl false, .int (a + 1)] := by
  have e1 : (((a + 1).toNat : Nat) : Int) = a + 1 := by omega
  have e2 : (((a + 2).toNat : Nat) : Int) = a + 2 := by omega
  have e3 : ((a.toNat : Nat) : Int) = a := by omega
  have e4 : (((d % m).toNat : Nat) : Int) = d % m := by have := Int.emod_nonneg d (show m ≠ 0 by omega); omega
  unfold tgCh
  cases lp
  · simp only [Bool.false_eq_true, if_false, List.map_cons, List.map_nil, Tg.d, e1, e2]
  · simp only [if_true, List.map_cons, List.map_nil, Tg.d, e1, e2, e3, e4]
    rfl
theorem tgCut_to (d m : Int) (n : Nat) : tgCut d m (.to n) = if m ≤ n then .wd (decide (d % 3 = 0)) else .to n := rfl
theorem pure__law_target {mg : Str → Option Value} {w : World} (B : Bx) (T : Tx w B.K mg) (W : WX) (ds : List D) (R : Sl → Prop) (X : Xc → Prop) (h : F__law_target B.K ds R X) : Sv B W (t__law_target w B.K W) (ini N__law_target ds) { nx := fun _ => R (.dat .non), rt := R, xc := fun x _ => X x } := by
  obtain ⟨d, a, m, lp, rfl, ha, hm, hR⟩ := h
  show Sv B W (t__law_target w B.K W) [.dat (.int d), .dat (.int a), .dat (.int m), .dat (.bl lp), .un, .un] _
  unfold t__law_target
  have h8 : 0 ≤ d % 8 ∧ d % 8 < 8 := ⟨Int.emod_nonneg _ (by decide), Int.emod_lt_of_pos _ (by decide)⟩
  have hix := atI_map (l := tgCh d a m lp) (f := Tg.d) (i := d % 8) (.wd true) h8.1 (by rw [tgCh_len]; exact h8.2)
  rw [tgCh_d d a m lp ha hm] at hix
  unfold tgOf at hR
  generalize (tgCh d a m lp).getD (d % 8).toNat (.wd true) = t at hix hR
  have hrest : ∀ L : List D, atI L (d % 8) = some t.d → Sv B W (tSeq (tAsg (tOp (zIx B.K) (tVar 4) (tOp zMod (tVar 0) (tC (.int 8)))) (gName 5))
    (tSeq (tIfS (tAnd (tNot (tB (tCB (zIsi B.K) (tCons (tVar 5) (tCons (tC (.ty "bool")) tNil))))) (tTest (tOp zGe (tVar 5) (tVar 2)))) (tRet (tOp (zEq B.K) (tOp zMod (tVar 0) (tC (.int 3))) (tC (.int 0)))) tNext)
    (tRet (tVar 5)))) [.dat (.int d), .dat (.int a), .dat (.int m), .dat (.bl lp), .dat (.lst L), .un] { nx := fun _ => R (.dat .non), rt := R, xc := fun x _ => X x } := fun L hL => by
    cases t with
    | wd b =>
      have hL : atI L (d % 8) = some (.bl b) := hL
      refine sv_seq (sv_set (by walk_at "ev") (by walk_at "at") ?_)
      refine sv_seq (sv_if (p := false) (evt_eq (evt_and (q := false) (evt_not (p := true) (evt_b (by walk_at "ev"))) (fun h => nomatch h)) rfl) (fun h => nomatch h) fun _ => sv_next (sv_ret (by walk_at "ev") hR))
    | to n =>
      have hL : atI L (d % 8) = some (.int n) := hL
      refine sv_seq (sv_set (by walk_at "ev") (by walk_at "at") ?_)
      refine sv_seq (sv_if (p := decide (m ≤ n)) (evt_eq (evt_and (p := true) (evt_not (p := false) (evt_b (by walk_at "ev"))) (fun _ => by walk_at "ev")) (by simp)) (fun h => ?_) fun h => ?_)
      · refine sv_ret (by walk_at "ev") ?_
        rw [tgCut_to, if_pos (of_decide_eq_true h)] at hR
        exact hR
      · refine sv_next (sv_ret (by walk_at "ev") ?_)
        rw [tgCut_to, if_neg (of_decide_eq_false h)] at hR
        exact hR
  refine sv_seq (sv_set (by walk_at "ev") (by walk_at "at") ?_)
  cases lp with
  | false => exact sv_seq (sv_if (p := false) (by walk_at "ev") (fun h => nomatch h) fun _ => sv_next (hrest _ (by simpa using hix)))
  | true =>
    refine sv_seq (sv_if (p := true) (by walk_at "ev") (fun _ => ?_) (fun h => nomatch h))
    exact sv_set (by walk_at "ev") (by walk_at "at") (hrest _ (by simpa using hix))
theorem pure__law_line {mg : Str → Option Value} {w : World} (B : Bx) (T : Tx w B.K mg) (W : WX) (ds : List D) (R : Sl → Prop) (X : Xc → Prop) (h : F__law_line B.K ds R X) : Sv B W (t__law_line w B.K W) (ini N__law_line ds) { nx := fun _ => R (.dat .non), rt := R, xc := fun x _ => X x } := by
  obtain ⟨r, a, m, cs, lp, rfl, h7, h0, h6, ha, hm, hc, hc2, hR⟩ := h
  obtain ⟨g0, g1, g2, g3, g4, g5, g6, rfl⟩ := list7 h7
  show Sv B W (t__law_line w B.K W) [.dat (.lst [.int g0, .int g1, .int g2, .int g3, .int g4, .int g5, .int g6]), .dat (.int a), .dat (.int m), .dat (.str (tx cs)), .dat (.bl lp), .un, .un, .un, .un, .un] _
  unfold t__law_line
  have h0 : 0 ≤ g0 ∧ g0 < 6 := h0
  have h6 : 0 ≤ g6 ∧ g6 < 4 := h6
  have c1 := (chOf_mem (cs := cs) (r := g1) hc).2
  have c2 := (chOf_mem (cs := cs) (r := g2) hc).2
  have hp1 : (0 : Int) < (cs.length : Nat) := by omega
  let t0 := tgOf g3 a m lp
  let t1 := tgOf g4 a m lp
  let t2 := tgOf g5 a m lp
  obtain ⟨kd, hkd, hcase⟩ : ∃ kd, atI [D.str (tx [99, 104, 97, 110, 103, 101]), .str (tx [115, 119, 97, 112]), .str (tx [102, 105, 114, 115, 116]), .str (tx [101, 118, 101, 114, 121]), .str (tx [99, 111, 117, 110, 116]), .str (tx [108, 101, 97, 100, 115])] g0 = some (.str (tx kd)) ∧
      ((g0 = 0 ∧ kd = kChange) ∨ (g0 = 1 ∧ kd = kSwap) ∨ (g0 = 2 ∧ kd = kFirst) ∨ (g0 = 3 ∧ kd = kEvery) ∨ (g0 = 4 ∧ kd = kCount) ∨ (g0 = 5 ∧ kd = kLeads)) := by
    have : g0 = 0 ∨ g0 = 1 ∨ g0 = 2 ∨ g0 = 3 ∨ g0 = 4 ∨ g0 = 5 := by omega
    rcases this with rfl | rfl | rfl | rfl | rfl | rfl
    · exact ⟨kChange, rfl, by simp⟩
    · exact ⟨kSwap, rfl, by simp⟩
    · exact ⟨kFirst, rfl, by simp⟩
    · exact ⟨kEvery, rfl, by simp⟩
    · exact ⟨kCount, rfl, by simp⟩
    · exact ⟨kLeads, rfl, by simp⟩
  refine sv_seq (sv_set (d := .str (tx kd)) (ev_op (by walk_at "ev") (by walk_at "ev") (rv_ixL hkd)) (by walk_at "at") ?_)
  refine sv_seq (sv_set (by walk_at "ev") (by walk_at "at") ?_)
  refine sv_seq (sv_set (by walk_at "ev") (by walk_at "at") ?_)
  refine sv_seq (sv_set (Ev.of_own (evo_map1 (fun k : Nat => D.int k) (List.range 3) (fun k => (tgOf ([g3, g4, g5].getD k 0) a m lp).d) (evi_rng1 (n := 3) (by walk_at "ev") (by decide)) (Nat.le_of_ble_eq_true rfl) (by decide) fun k hk => ?_)) (by walk_at "at") ?_)
  · have hk := List.mem_range.mp hk
    have hix : atI [D.int g0, .int g1, .int g2, .int g3, .int g4, .int g5, .int g6] (3 + (k : Nat)) = some (.int ([g3, g4, g5].getD k 0)) := by
      have : k = 0 ∨ k = 1 ∨ k = 2 := by omega
      rcases this with rfl | rfl | rfl <;> rfl
    exact ev_call (by walk_at "ev") ⟨_, a, m, lp, rfl, ha, hm, rfl⟩
  show Sv B W _ [.dat (.lst [.int g0, .int g1, .int g2, .int g3, .int g4, .int g5, .int g6]), .dat (.int a), .dat (.int m), .dat (.str (tx cs)), .dat (.bl lp), .dat (.str (tx kd)), .dat (.str (tx [chOf cs g1])), .dat (.str (tx [chOf cs g2])), .dat (.lst [t0.d, t1.d, t2.d]), .un] _
  have e6 : ((1 + g6).toNat : Int) = 1 + g6 := by omega
  clear hkd
  refine sv_seq (sv_if (p := decide (kd = kChange) || decide (kd = kSwap)) (by walk_at "ev") (fun h => ?_) (fun h => ?_))
  · rcases hcase with ⟨rfl, rfl⟩ | ⟨rfl, rfl⟩ | ⟨rfl, rfl⟩ | ⟨rfl, rfl⟩ | ⟨rfl, rfl⟩ | ⟨rfl, rfl⟩
    · exact sv_retD (by walk_at "ev") hR
    · exact sv_retD (by walk_at "ev") hR
    · exact absurd h (by decide)
    · exact absurd h (by decide)
    · exact absurd h (by decide)
    · exact absurd h (by decide)
  have hcase : (g0 = 2 ∧ kd = kFirst) ∨ (g0 = 3 ∧ kd = kEvery) ∨ (g0 = 4 ∧ kd = kCount) ∨ (g0 = 5 ∧ kd = kLeads) := by
    rcases hcase with ⟨rfl, rfl⟩ | ⟨rfl, rfl⟩ | q
    · exact absurd h (by decide)
    · exact absurd h (by decide)
    · exact q
  refine sv_next (sv_seq (sv_if (p := decide (kd = kFirst)) (by walk_at "ev") (fun h => ?_) (fun h => ?_)))
  · rcases hcase with ⟨rfl, rfl⟩ | ⟨rfl, rfl⟩ | ⟨rfl, rfl⟩ | ⟨rfl, rfl⟩
    · exact sv_retD (by walk_at "ev") hR
    · exact absurd h (by decide)
    · exact absurd h (by decide)
    · exact absurd h (by decide)
  have hcase : (g0 = 3 ∧ kd = kEvery) ∨ (g0 = 4 ∧ kd = kCount) ∨ (g0 = 5 ∧ kd = kLeads) := by
    rcases hcase with ⟨rfl, rfl⟩ | q
    · exact absurd h (by decide)
    · exact q
  refine sv_next (sv_seq (sv_if (p := decide (kd = kEvery)) (by walk_at "ev") (fun h => ?_) (fun h => ?_)))
  · rcases hcase with ⟨rfl, rfl⟩ | ⟨rfl, rfl⟩ | ⟨rfl, rfl⟩
    · refine sv_ret (by walk_at "ev") ?_
      have hR : R (.dat (.tup [.str (tx kEvery), .str (tx [chOf cs g1]), .str (tx [chOf cs g2]), .int ((1 + g6).toNat : Nat), t0.d, t1.d])) := hR
      rw [e6] at hR
      exact hR
    · exact absurd h (by decide)
    · exact absurd h (by decide)
  have hcase : (g0 = 4 ∧ kd = kCount) ∨ (g0 = 5 ∧ kd = kLeads) := by
    rcases hcase with ⟨rfl, rfl⟩ | q
    · exact absurd h (by decide)
    · exact q
  refine sv_next (sv_seq (sv_if (p := decide (kd = kCount)) (by walk_at "ev") (fun h => ?_) (fun h => ?_)))
  · rcases hcase with ⟨rfl, rfl⟩ | ⟨rfl, rfl⟩
    · refine sv_ret (by walk_at "ev") ?_
      have hR : R (.dat (.tup [.str (tx kCount), .str (tx [chOf cs g1]), .tup (([t0, t1, t2].take (1 + g6 % 3).toNat).map Tg.d)])) := hR
      have e : cut [t0.d, t1.d, t2.d] none (some (1 + g6 % 3)) = ([t0, t1, t2].take (1 + g6 % 3).toNat).map Tg.d := by
        have : g6 = 0 ∨ g6 = 1 ∨ g6 = 2 ∨ g6 = 3 := by omega
        rcases this with rfl | rfl | rfl | rfl <;> rfl
      show R (.dat (.tup [.str (tx kCount), .str (tx [chOf cs g1]), .tup (cut [t0.d, t1.d, t2.d] none (some (1 + g6 % 3)))]))
      rw [e]
      exact hR
    · exact absurd h (by decide)
  rcases hcase with ⟨rfl, rfl⟩ | ⟨rfl, rfl⟩
  · exact absurd h (by decide)
  · exact sv_next (sv_retD (by walk_at "ev") hR)
theorem pure__law_program {mg : Str → Option Value} {w : World} (B : Bx) (T : Tx w B.K mg) (W : WX) (ds : List D) (R : Sl → Prop) (X : Xc → Prop) (h : F__law_program B.K ds R X) : Sv B W (t__law_program w B.K W) (ini N__law_program ds) { nx := fun _ => R (.dat .non), rt := R, xc := fun x _ => X x } := by
  obtain ⟨ns, lp, rfl, hR⟩ := h
  show Sv B W (t__law_program w B.K W) [.dat (.lst (ns.map .int)), .dat (.int 0), .dat (.int 8), .dat (.bl lp), .un, .un, .un, .un, .un, .un, .un] _
  unfold t__law_program
  have hcell : ∀ k : Int, 0 ≤ k → k < 100 → Fcell [.lst (ns.map .int), .int k] (fun s => s.toD = some (.int (cellZ ns k))) (fun _ => False) := fun k h1 h2 => ⟨ns, k, rfl, h1, by omega, rfl⟩
  -- the letters
  have hl := digits_len (cellZ ns 0) [8, 8, 8, 8]
  obtain ⟨x0, x1, x2, x3, hx⟩ := list4 hl
  have bx : ∀ (i : Nat) (s x : Int), [8, 8, 8, (8 : Int)][i]? = some s → 0 < s → [x0, x1, x2, x3][i]? = some x → 0 ≤ x ∧ x < s := fun i s x h1 h2 h3 => by
    obtain ⟨d, e, b⟩ := digits_lt (cellZ ns 0) [8, 8, 8, 8] i s h1 h2
    rw [hx, h3] at e
    cases e
    exact b
  have hl2 := digits_len (cellZ ns (0 + 1)) [3, 8]
  obtain ⟨y0, y1, hy⟩ := list2 hl2
  have by_ : ∀ (i : Nat) (s x : Int), [3, (8 : Int)][i]? = some s → 0 < s → [y0, y1][i]? = some x → 0 ≤ x ∧ x < s := fun i s x h1 h2 h3 => by
    obtain ⟨d, e, b⟩ := digits_lt (cellZ ns (0 + 1)) [3, 8] i s h1 h2
    rw [hy, h3] at e
    cases e
    exact b
  have b1 := bx 1 8 x1 rfl (by decide) rfl
  have b2 := bx 2 8 x2 rfl (by decide) rfl
  have b3 := bx 3 8 x3 rfl (by decide) rfl
  have c0 := by_ 0 3 y0 rfl (by decide) rfl
  have c1 := by_ 1 8 y1 rfl (by decide) rfl
  have e1 : progLs ns 0 = lettersOf x0 x1 x2 x3 := by unfold progLs; rw [hx]; rfl
  have e2 : progMk ns 0 8 = y0 := by unfold progMk; rw [hy]; rfl
  have e3 : progN ns 0 8 = 1 + y1 := by unfold progN; rw [hy]; rfl
  have right := lettersOf_right (r0 := x0) b1 b2 b3
  have hdx : Fdigits [.int (cellZ ns 0), .lst [.int 8, .int 8, .int 8, .int 8]] (fun s => s.toD = some (.lst [.int x0, .int x1, .int x2, .int x3])) (fun _ => False) :=
    ⟨cellZ ns 0, [8, 8, 8, 8], rfl, by decide, by decide, by rw [hx]; rfl⟩
  have hdy : Fdigits [.int (cellZ ns (0 + 1)), .lst [.int 3, .int 8]] (fun s => s.toD = some (.lst [.int y0, .int y1])) (fun _ => False) :=
    ⟨cellZ ns (0 + 1), [3, 8], rfl, by decide, by decide, by rw [hy]; rfl⟩
  refine sv_seq (sv_set (ev_callS (eva_cons (ev_callS (eva_cons (ev_callS (by walk_at "ev") (hcell 0 (by decide) (by decide))) (by walk_at "ev")) hdx) eva_nil) ⟨x0, x1, x2, x3, rfl, b1, b2, b3, rfl⟩) (by walk_at "at") ?_)
  refine sv_seq (sv_set (ev_callS (eva_cons (ev_callS (by walk_at "ev") (hcell (0 + 1) (by decide) (by decide))) (by walk_at "ev")) hdy) (by walk_at "at") ?_)
  have ec : cut [65, 66, 67, 68, 69] none (some y0) = [65, 66, 67, 68, 69].take y0.toNat := by
    have : y0 = 0 ∨ y0 = 1 ∨ y0 = 2 := by omega
    rcases this with rfl | rfl | rfl <;> rfl
  let cs := lettersOf x0 x1 x2 x3 ++ [65, 66, 67, 68, 69].take y0.toNat
  have hcs : 0 < cs.length ∧ cs.length ≤ 8 := by
    have := right.1
    have := right.2.1
    show 0 < (lettersOf x0 x1 x2 x3 ++ [65, 66, 67, 68, 69].take y0.toNat).length ∧ (lettersOf x0 x1 x2 x3 ++ [65, 66, 67, 68, 69].take y0.toNat).length ≤ 8
    simp only [List.length_append, List.length_take, List.length_cons, List.length_nil]
    omega
  refine sv_seq (sv_set (d := .str (tx cs)) (ev_eq (ev_op (by walk_at "ev") (by walk_at "ev") (rv_addT (by have := cut_len [65, 66, 67, 68, 69] none (some y0); have := right.2.1; simp only [List.length_cons, List.length_nil] at *; omega))) (by rw [ec])) (by walk_at "at") ?_)
  refine sv_seq (sv_set (by walk_at "ev") (by walk_at "at") ?_)
  refine sv_seq (sv_setO (by walk_at "eo") (by walk_at "at") ?_)
  let f : Nat → Ln := fun k => lnOf (digits (cellZ ns (0 + 2 + (k : Nat))) rowL) (k : Nat) (1 + y1) cs lp
  have hiR : EvI B (iRng1 (tCons (tVar 7) tNil)) [.dat (.lst (ns.map .int)), .dat (.int 0), .dat (.int 8), .dat (.bl lp), .dat (.str (tx (lettersOf x0 x1 x2 x3))), .dat (.lst [.int y0, .int y1]), .dat (.str (tx cs)), .dat (.int (1 + y1)), .own (.lst []), .un, .un] ((List.range (1 + y1).toNat).map fun k => .int (k : Nat)) := evi_rng1 (by walk_at "ev") (by omega)
  refine sv_seq (sv_forR (n := (1 + y1).toNat) hiR (fun k Γ' => ∃ c9 c10 : Sl, Γ' = [.dat (.lst (ns.map .int)), .dat (.int 0), .dat (.int 8), .dat (.bl lp), .dat (.str (tx (lettersOf x0 x1 x2 x3))), .dat (.lst [.int y0, .int y1]), .dat (.str (tx cs)), .dat (.int (1 + y1)), .own (.lst (((List.range k).map f).map Ln.d)), c9, c10]) ⟨_, _, rfl⟩ ?_ ?_)
  rotate_left
  · rintro k Γ' hk ⟨c9, c10, rfl⟩
    refine ⟨_, evg_name (by walk_at "at"), ?_⟩
    have hdr : Fdigits [.int (cellZ ns (0 + 2 + (k : Nat))), .lst [.int 6, .int 12, .int 12, .int 24, .int 24, .int 24, .int 4]] (fun s => s.toD = some (.lst ((digits (cellZ ns (0 + 2 + (k : Nat))) rowL).map .int))) (fun _ => False) :=
      ⟨cellZ ns (0 + 2 + (k : Nat)), rowL, rfl, by decide, by decide, rfl⟩
    refine sv_seq (sv_set (ev_callS (eva_cons (ev_callS (by walk_at "ev") (hcell (0 + 2 + (k : Nat)) (by omega) (by omega))) (by walk_at "ev")) hdr) (by walk_at "at") ?_)
    have hlen := digits_len (cellZ ns (0 + 2 + (k : Nat))) rowL
    have dg : ∀ (i : Nat) (s : Int), rowL[i]? = some s → 0 < s → 0 ≤ (digits (cellZ ns (0 + 2 + (k : Nat))) rowL).getD i 0 ∧ (digits (cellZ ns (0 + 2 + (k : Nat))) rowL).getD i 0 < s := fun i s h1 h2 => by
      obtain ⟨d, e, b⟩ := digits_lt (cellZ ns (0 + 2 + (k : Nat))) rowL i s h1 h2
      rw [List.getD_eq_getElem?_getD, e]
      exact b
    have hln : F__law_line B.K [.lst ((digits (cellZ ns (0 + 2 + (k : Nat))) rowL).map .int), .int (k : Nat), .int (1 + y1), .str (tx cs), .bl lp] (fun s => s.toD = some (f k).d) (fun _ => False) :=
      ⟨_, (k : Nat), 1 + y1, cs, lp, rfl, hlen, dg 0 6 rfl (by decide), dg 6 4 rfl (by decide), by omega, by omega, hcs.1, by omega, rfl⟩
    refine sv_app rfl (ev_callS (by walk_at "ev") hln) (by rw [List.length_map, List.length_map, List.length_range]; omega) (by walk_at "at") (by rw [List.range_succ, List.map_append, List.map_append]; exact ⟨_, _, rfl⟩)
  · rintro Γ' ⟨c9, c10, rfl⟩
    refine sv_freeze 8 rfl (by walk_at "at") ?_
    refine sv_ret (d := .lst [.str (tx (lettersOf x0 x1 x2 x3)), .int y0, .lst (((List.range (1 + y1).toNat).map f).map Ln.d)]) (by walk_at "ev") ?_
    have e4 : progLines ns 0 8 lp = (List.range (1 + y1).toNat).map f := by
      unfold progLines progCs
      rw [e3, e1, e2]
    rw [← e4, ← e1, ← e2]
    exact hR

end L

namespace L
open PySem PySem.Spec PyProof.Rows L2 Z
local macro_rules | `(tactic| walk_at "at") => `(tactic| first | with_reducible exact SetAt.zero | ((with_reducible apply SetAt.succ); walk_at "at"))
local macro_rules | `(tactic| walk_at "sd") => `(tactic| first | (with_reducible assumption) | omega | (simp only [rep_length, List.length_append, List.length_cons, List.length_nil, List.length_map, List.length_replicate, List.length_range, List.length_take, List.length_reverse] <;> omega) | decide | exact Nat.le_of_ble_eq_true rfl)
local macro_rules | `(tactic| walk_at "cm") => `(tactic| first | (with_reducible assumption) | (refine cmul_s ?_ ?_ ?_ ?_ <;> first | omega | decide))
local macro_rules | `(tactic| walk_at "rv") => `(tactic| first
  | with_reducible exact rv_add | ((with_reducible apply rv_addT); walk_at "sd") | ((with_reducible apply rv_addL); walk_at "sd") | ((with_reducible apply rv_addU); walk_at "sd")
  | with_reducible exact rv_sub | ((with_reducible apply rv_mul); walk_at "cm") | ((with_reducible apply rv_mulT) <;> walk_at "sd")
  | ((with_reducible apply rv_div); first | assumption | exact cdiv_s (by walk_at "sd") (by walk_at "sd")) | ((with_reducible apply rv_mod); walk_at "sd") | ((with_reducible apply rv_pow); exact ⟨by decide, by decide, by decide⟩)
  | with_reducible exact rv_lt | with_reducible exact rv_le | with_reducible exact rv_gt | with_reducible exact rv_ge
  | with_reducible exact rv_eqI | with_reducible exact rv_eqT | with_reducible exact rv_eqB | with_reducible exact rv_neI | with_reducible exact rv_neT | with_reducible exact rv_neB
  | ((with_reducible apply rv_ixL); first | with_reducible assumption | exact rfl) | ((with_reducible apply rv_ixU); first | with_reducible assumption | exact rfl) | ((with_reducible apply rv_ixT); (focus (first | with_reducible assumption | exact rfl)); walk_at "sd")
  | with_reducible exact rv_isN | with_reducible exact rv_isN' | with_reducible exact rv_notN'
  | with_reducible exact rv_inT | with_reducible exact rv_ninT | with_reducible exact rv_inTs | with_reducible exact rv_ninTs | with_reducible assumption)
local macro_rules | `(tactic| walk_at "rc") => `(tactic| first | with_reducible exact rc_int | with_reducible exact rc_intB | with_reducible exact rc_lenL | with_reducible exact rc_lenU | ((with_reducible apply rc_lenT); walk_at "sd") | with_reducible exact rc_min | with_reducible exact rc_tupleL | with_reducible exact rc_tupleU | with_reducible exact rc_listL | with_reducible exact rc_listU | with_reducible exact rc_max | ((with_reducible apply rc_isi); (focus (exact rfl)); first | with_reducible exact kitT | with_reducible exact kit_NoneType_int | with_reducible exact kit_NoneType_bool | with_reducible exact kit_NoneType_str | with_reducible exact kit_NoneType_list | with_reducible exact kit_NoneType_tuple | with_reducible exact kit_bool_int | with_reducible exact kit_bool_bool | with_reducible exact kit_bool_str | with_reducible exact kit_bool_list | with_reducible exact kit_bool_tuple | with_reducible exact kit_int_int | with_reducible exact kit_int_bool | with_reducible exact kit_int_str | with_reducible exact kit_int_list | with_reducible exact kit_int_tuple | with_reducible exact kit_str_int | with_reducible exact kit_str_bool | with_reducible exact kit_str_str | with_reducible exact kit_str_list | with_reducible exact kit_str_tuple | with_reducible exact kit_list_int | with_reducible exact kit_list_bool | with_reducible exact kit_list_str | with_reducible exact kit_list_list | with_reducible exact kit_list_tuple | with_reducible exact kit_tuple_int | with_reducible exact kit_tuple_bool | with_reducible exact kit_tuple_str | with_reducible exact kit_tuple_list | with_reducible exact kit_tuple_tuple | assumption | rfl) | with_reducible assumption)
local macro_rules | `(tactic| walk_at "rs") => `(tactic| first | with_reducible exact rs_slL | with_reducible exact rs_slU | ((with_reducible apply rs_slT); walk_at "sd"))
local macro_rules | `(tactic| walk_at "ru") => `(tactic| first | ((with_reducible apply ru_rev); walk_at "sd") | with_reducible exact ru_neg)
local macro_rules | `(tactic| walk_at "rm") => `(tactic| first | with_reducible exact rm_count | with_reducible assumption)
local macro_rules | `(tactic| walk_at "eo") => `(tactic| first
  | ((with_reducible apply evo_lstX); (focus (walk_at "ev")); exact Nat.le_of_ble_eq_true rfl)
  | ((with_reducible apply evo_callS); (focus (walk_at "ev")); (focus (walk_at "fn")))
  | ((with_reducible apply evo_addL rfl); (focus (walk_at "ev")); (focus (walk_at "ev")); walk_at "sd")
  | ((with_reducible apply evo_listL rfl); walk_at "ev") | ((with_reducible apply evo_listU rfl); walk_at "ev")
  | with_reducible assumption)
local macro_rules | `(tactic| walk_at "ev") => `(tactic| first
  | (with_reducible assumption)
  | ((with_reducible apply ev_var); exact rfl)
  | with_reducible exact ev_int | with_reducible exact ev_str | with_reducible exact ev_bl | with_reducible exact ev_non | with_reducible exact ev_ty | with_reducible exact ev_ref
  | with_reducible exact eva_nil
  | ((with_reducible apply eva_cons); (focus (walk_at "ev")); (focus (walk_at "ev")))
  | ((with_reducible apply ev_op); (focus (walk_at "ev")); (focus (walk_at "ev")); (focus (walk_at "rv")))
  | ((with_reducible apply ev_cb); (focus (walk_at "ev")); (focus (walk_at "rc")))
  | ((with_reducible apply evt_test); (focus (walk_at "ev")))
  | ((with_reducible apply evt_b); (focus (walk_at "ev")))
  | ((with_reducible apply evt_not); (focus (walk_at "ev")))
  | ((with_reducible apply evt_and); (focus (walk_at "ev")); (focus (intro _; walk_at "ev")))
  | ((with_reducible apply evt_or); (focus (walk_at "ev")); (focus (intro _; walk_at "ev")))
  | with_reducible exact evt_yes
  | ((with_reducible apply ev_and); (focus (walk_at "ev")); (focus (intro _; walk_at "ev")))
  | ((with_reducible apply ev_or); (focus (walk_at "ev")); (focus (intro _; walk_at "ev")))
  | ((with_reducible apply ev_not); (focus (walk_at "ev")))
  | ((with_reducible apply ev_callS); (focus (walk_at "ev")); (focus (walk_at "fn")))
  | ((with_reducible apply ev_call); (focus (walk_at "ev")); (focus (walk_at "fn")))
  | ((with_reducible apply ev_tupX); (focus (walk_at "ev")); exact Nat.le_of_ble_eq_true rfl)
  | with_reducible exact evp_none
  | ((with_reducible apply evp_some); (focus (walk_at "ev")))
  | ((with_reducible apply ev_sl); (focus (walk_at "ev")); (focus (walk_at "ev")); (focus (walk_at "ev")); (focus (walk_at "rs")))
  | ((with_reducible apply ev_un); (focus (walk_at "ev")); (focus (walk_at "ru")))
  | ((with_reducible apply ev_bmT); (focus (walk_at "ev")); (focus (walk_at "ev")); (focus (walk_at "rm")))
  | ((with_reducible apply ev_bmT0); (focus (walk_at "ev")); (focus (walk_at "rm")))
  | ((with_reducible apply evi_list); (focus (walk_at "ev")))
  | ((with_reducible apply evi_tup); (focus (walk_at "ev")))
  | ((with_reducible apply evi_str); (focus (walk_at "ev")))
  | ((with_reducible apply evi_rng1); (focus (walk_at "ev")); (focus (constructor <;> walk_at "sd")))
  | ((with_reducible apply evi_rng2); (focus (walk_at "ev")); (focus (constructor <;> walk_at "sd")); (focus (constructor <;> walk_at "sd")))
  | ((with_reducible apply Ev.of_own); walk_at "eo")
  | with_reducible assumption)
local macro_rules | `(tactic| walk_at "st") => `(tactic| repeat (first
  | (with_reducible apply sv_seq)
  | ((with_reducible apply sv_set); (focus (walk_at "ev")); (focus (walk_at "at")))
  | ((with_reducible apply sv_drop); (focus (walk_at "ev")))
  | (with_reducible apply sv_next)))
local macro_rules | `(tactic| walk_at "eq") => `(tactic| (with_reducible apply ev_eq); (focus (walk_at "ev")); rfl)
theorem sorted_same : ∀ {a b : List Int}, a.Pairwise (· < ·) → b.Pairwise (· < ·) → (∀ k, k ∈ a ↔ k ∈ b) → a = b
  | [], [], _, _, _ => rfl
  | [], y :: b, _, _, h => by have := (h y).mpr (by simp); simp at this
  | x :: a, [], _, _, h => by have := (h x).mp (by simp); simp at this
  | x :: a, y :: b, ha, hb, h => by
    obtain ⟨a1, a2⟩ := List.pairwise_cons.mp ha
    obtain ⟨b1, b2⟩ := List.pairwise_cons.mp hb
    have e : x = y := by
      rcases List.mem_cons.mp ((h x).mp (by simp)) with e | q
      · exact e
      · rcases List.mem_cons.mp ((h y).mpr (by simp)) with e | p
        · exact e.symm
        · have := b1 x q; have := a1 y p; omega
    subst e
    rw [sorted_same a2 b2 fun k => ⟨fun hk => ?_, fun hk => ?_⟩]
    · rcases List.mem_cons.mp ((h k).mp (by simp [hk])) with e | q
      · subst e; have := a1 k hk; omega
      · exact q
    · rcases List.mem_cons.mp ((h k).mpr (by simp [hk])) with e | q
      · subst e; have := b1 k hk; omega
      · exact q
theorem find_al {c : Nat} (h1 : 97 ≤ c) (h2 : c ≤ 122) : Txt.find (tx [97, 98, 99, 100, 101, 102, 103, 104, 105, 106, 107, 108, 109, 110, 111, 112, 113, 114, 115, 116, 117, 118, 119, 120, 121, 122]) (tx [c]) = (c : Int) - 97 := by
  have key : ∀ k : Fin 26, Txt.find (tx [97, 98, 99, 100, 101, 102, 103, 104, 105, 106, 107, 108, 109, 110, 111, 112, 113, 114, 115, 116, 117, 118, 119, 120, 121, 122]) (tx [97 + k.val]) = (k.val : Int) := by decide +kernel
  have := key ⟨c - 97, by omega⟩
  have e : 97 + (c - 97) = c := by omega
  simp only [e] at this
  rw [this]
  omega
theorem pure_are_letters {mg : Str → Option Value} {w : World} (B : Bx) (T : Tx w B.K mg) (W : WX) (ds : List D) (R : Sl → Prop) (X : Xc → Prop) (h : F_are_letters B.K ds R X) : Sv B W (t_are_letters w B.K W) (ini N_are_letters ds) { nx := fun _ => R (.dat .non), rt := R, xc := fun x _ => X x } := by
  obtain ⟨ls, b, rfl, hb, hR⟩ := h
  show Sv B W (t_are_letters w B.K W) [.dat (.str (tx ls)), .un, .un] _
  unfold t_are_letters
  let ns : List Int := ls.map fun c : Nat => (c : Int) - 97
  have r4 : ∀ c ∈ ls, 97 ≤ c ∧ c ≤ 122 := by
    rcases hb with ⟨_, h⟩ | ⟨_, q, rfl, _, _, h⟩
    · exact h.2.2.2
    · intro c hc
      rcases List.mem_append.mp hc with k | k
      · exact h c k
      · simp at k; omega
  have l4 : 1 ≤ ls.length ∧ ls.length ≤ 4 := by
    rcases hb with ⟨_, h⟩ | ⟨_, q, rfl, _, h, _⟩
    · exact ⟨h.1, by have := h.2.1; omega⟩
    · rw [List.length_append, List.length_singleton]; omega
  refine sv_seq (sv_set (d := .lst (ns.map .int)) ?_ (by walk_at "at") ?_)
  · have e : ns.map D.int = ls.map fun c : Nat => D.int ((c : Int) - 97) := by show (ls.map _).map _ = _; rw [List.map_map]; rfl
    rw [e]
    exact Ev.of_own (evo_map1 (fun c : Nat => D.str (tx [c])) ls (fun c : Nat => .int ((c : Int) - 97)) (by walk_at "ev") (Nat.le_of_ble_eq_true rfl) (by omega) fun c hc => ev_eq (ev_bmT (by walk_at "ev") (by walk_at "ev") rm_find) (by rw [find_al (r4 c hc).1 (r4 c hc).2]))
  have hno : (-1 : Int) ∉ ns := fun h => by
    obtain ⟨c, hc, e⟩ := List.mem_map.mp h
    have := (r4 c hc).1
    omega
  have hlen : ns.length < 60 := by show (ls.map _).length < 60; rw [List.length_map]; omega
  obtain ⟨ms, hp, hm⟩ := set_sorted ns
  by_cases h3 : ls.length ≤ 3
  · refine sv_retD (e := .bl b) (ev_and (ev_chain (by walk_at "ev") (by walk_at "ev") rv_le (fun _ => by walk_at "ev") fun _ => rv_le) fun _ => ev_and (ev_op (by walk_at "ev") (by walk_at "ev") rv_ninI) fun _ => ev_op (by walk_at "ev") (ev_sortset rfl (by walk_at "ev") hlen hp hm) rv_eqInts) hR ?_
    have h1 : decide ((1 : Int) ≤ ((ls.length : Nat) : Int)) = true := decide_eq_true (by omega)
    have h2 : decide (((ls.length : Nat) : Int) ≤ 3) = true := decide_eq_true (by omega)
    have h4 : decide (-1 ∈ ns) = false := decide_eq_false hno
    rw [h1, h2, h4]
    have h5 : decide (ns = ms) = b := by
      rcases hb with ⟨rfl, h⟩ | ⟨rfl, q, e, hq, _, hc⟩
      · refine decide_eq_true ?_
        have hns : ns.Pairwise (· < ·) := by
          show (ls.map _).Pairwise _
          rw [List.pairwise_map]
          exact h.2.2.1.imp fun h => by omega
        exact sorted_same hns hp fun k => (hm k).symm
      · refine decide_eq_false fun h => ?_
        have hp2 : ns.Pairwise (· < ·) := by rw [h]; exact hp
        cases q with
        | nil => exact hq rfl
        | cons x q =>
          have e2 : ns = ((x : Int) - 97) :: ((q ++ [97]).map fun c : Nat => (c : Int) - 97) := by show ls.map _ = _; rw [e]; rfl
          rw [e2] at hp2
          have h0 : (0 : Int) ∈ (q ++ [97]).map fun c : Nat => (c : Int) - 97 := List.mem_map.mpr ⟨97, by simp, rfl⟩
          have := (List.pairwise_cons.mp hp2).1 _ h0
          have := (hc x (by simp)).1
          omega
    rw [h5]
    cases b <;> rfl
  · refine sv_retD (e := .bl b) (ev_and (q := true) (p := false) (ev_eq (ev_chain (by walk_at "ev") (by walk_at "ev") rv_le (fun _ => by walk_at "ev") fun _ => rv_le) ?_) fun h => nomatch h) hR ?_
    · rw [decide_eq_true (show (1 : Int) ≤ ((ls.length : Nat) : Int) by omega), decide_eq_false (show ¬ ((ls.length : Nat) : Int) ≤ 3 by omega)]; rfl
    · rcases hb with ⟨rfl, h⟩ | ⟨rfl, _⟩
      · exact absurd h.2.1 h3
      · rfl
theorem pure_check_letters {mg : Str → Option Value} {w : World} (B : Bx) (T : Tx w B.K mg) (W : WX) (ds : List D) (R : Sl → Prop) (X : Xc → Prop) (h : F_check_letters B.K ds R X) : Sv B W (t_check_letters w B.K W) (ini N_check_letters ds) { nx := fun _ => R (.dat .non), rt := R, xc := fun x _ => X x } := by
  obtain ⟨ls, rfl, hr, hR⟩ := h
  show Sv B W (t_check_letters w B.K W) [.dat (.str (tx ls))] _
  unfold t_check_letters
  exact sv_if (p := false) (evt_eq (evt_not (p := true) (evt_b (ev_callS (by walk_at "ev") ⟨ls, true, rfl, .inl ⟨rfl, hr⟩, rfl⟩))) rfl) (fun h => nomatch h) fun _ => sv_next hR
theorem kitAny2 {K : PySem.W.Frag} (s t : String) (u : Value) (p : Bool) (h1 : PySem.W.kitOne K u (.type s) = some false) (h2 : PySem.W.kitOne K u (.type t) = some p) : PySem.W.kitAny K u [.type s, .type t] = some p := by
  unfold PySem.W.kitAny
  rw [h1]
  simp [PySem.W.kitAny, h2]
  cases p <;> simp
theorem pure_frozen {mg : Str → Option Value} {w : World} (n : Nat) (B : Bx) (T : Tx w B.K mg) (W : WX) (ds : List D) (R : Sl → Prop) (X : Xc → Prop) (h : F_frozen (n + 1) B.K ds R X) : Sv B W (t_frozen n w B.K W) (ini N_frozen ds) { nx := fun _ => R (.dat .non), rt := R, xc := fun x _ => X x } := by
  obtain ⟨d, rfl, hd, hR⟩ := h
  show Sv B W (t_frozen n w B.K W) [.dat d, .un] _
  unfold t_frozen
  have flat : ∀ (t : Value), d.tyv = some t → PySem.W.kitAny B.K t [.type "list", .type "tuple"] = some false → frzD (n + 1) d = d → Sv B W (tSeq (tIfS (tB (tCB (zIsi2 B.K) (tCons (tVar 0) (tCons (tTup (tCons (tC (.ty "list")) (tCons (tC (.ty "tuple")) tNil))) tNil)))) (tRet (tCB (zTuple B.K) (tCons (tLc (iSeq B.K (tVar 0)) (gName 1) tYes (tCall (spz B.K (F_frozen n B.K)) [] E0 (tCons (tVar 1) tNil)) [1]) tNil))) tNext)
      (tRet (tVar 0))) [.dat d, .un] { nx := fun _ => R (.dat .non), rt := R, xc := fun x _ => X x } := fun t ht hk e => by
    refine sv_seq (sv_if (p := false) (evt_b (ev_isiT (tu := tVar 0) (by walk_at "ev") ht hk)) (fun h => nomatch h) fun _ => sv_next (sv_ret (by walk_at "ev") ?_))
    rw [e] at hR
    exact hR
  have item : ∀ l : List D, l.all (okD n) = true → ∀ x ∈ l, F_frozen n B.K [x] (fun s => s.toD = some (frzD n x)) (fun _ => False) := fun l h x hx => by
    have hx2 := List.all_eq_true.mp h x hx
    cases n with
    | zero => cases hx2
    | succ n => exact ⟨x, rfl, hx2, rfl⟩
  cases d with
  | non => exact flat _ rfl (by rfl) rfl
  | bl b => exact flat _ rfl (by rfl) rfl
  | int i => exact flat _ rfl (by rfl) rfl
  | str x => exact flat _ rfl (by rfl) rfl
  | lst l =>
    have hd : (decide (l.length < 16777216) && l.all (okD n)) = true := hd
    rw [Bool.and_eq_true] at hd
    refine sv_seq (sv_if (p := true) (evt_b (ev_isiT (tu := tVar 0) (by walk_at "ev") rfl (by rfl))) (fun _ => ?_) fun h => nomatch h)
    refine sv_retD (d := .tup (l.map (frzD n))) (ev_cb (eva_cons (Ev.of_own (evo_map1 id l (frzD n) (by rw [List.map_id]; exact evi_seqL (by walk_at "ev")) (Nat.le_of_ble_eq_true rfl) (of_decide_eq_true hd.1) fun x hx => ?_)) eva_nil) rc_tupleL) hR
    exact ev_call (by walk_at "ev") (item l hd.2 x hx)
  | tup l =>
    have hd : (decide (l.length < 16777216) && l.all (okD n)) = true := hd
    rw [Bool.and_eq_true] at hd
    refine sv_seq (sv_if (p := true) (evt_b (ev_isiT (tu := tVar 0) (by walk_at "ev") rfl (by rfl))) (fun _ => ?_) fun h => nomatch h)
    refine sv_retD (d := .tup (l.map (frzD n))) (ev_cb (eva_cons (Ev.of_own (evo_map1 id l (frzD n) (by rw [List.map_id]; exact evi_seqU (by walk_at "ev")) (Nat.le_of_ble_eq_true rfl) (of_decide_eq_true hd.1) fun x hx => ?_)) eva_nil) rc_tupleL) hR
    exact ev_call (by walk_at "ev") (item l hd.2 x hx)
  | obj => cases hd
  | ty => cases hd
  | ref => cases hd
  | xc => cases hd
  | dk => cases hd
theorem pure_is_whole {mg : Str → Option Value} {w : World} (B : Bx) (T : Tx w B.K mg) (W : WX) (ds : List D) (R : Sl → Prop) (X : Xc → Prop) (h : F_is_whole B.K ds R X) : Sv B W (t_is_whole w B.K W) (ini N_is_whole ds) { nx := fun _ => R (.dat .non), rt := R, xc := fun x _ => X x } := by
  obtain ⟨d, p, rfl, hd, hR⟩ := h
  show Sv B W (t_is_whole w B.K W) [.dat d] _
  unfold t_is_whole
  rcases hd with ⟨rfl, i, rfl⟩ | ⟨rfl, ⟨b, rfl⟩ | ⟨x, rfl⟩⟩
  · exact sv_retD (ev_and (p := true) (q := true) (by walk_at "ev") fun _ => ev_not (p := false) (by walk_at "ev")) hR
  · exact sv_retD (ev_and (p := true) (q := false) (by walk_at "ev") fun _ => ev_not (p := true) (by walk_at "ev")) hR
  · exact sv_retD (ev_and (p := false) (q := true) (by walk_at "ev") fun h => nomatch h) hR
theorem pure__law_whole {mg : Str → Option Value} {w : World} (B : Bx) (T : Tx w B.K mg) (W : WX) (ds : List D) (R : Sl → Prop) (X : Xc → Prop) (h : F__law_whole B.K ds R X) : Sv B W (t__law_whole w B.K W) (ini N__law_whole ds) { nx := fun _ => R (.dat .non), rt := R, xc := fun x _ => X x } := by
  obtain ⟨d, p, rfl, hd, hR⟩ := h
  show Sv B W (t__law_whole w B.K W) [.dat d] _
  unfold t__law_whole
  rcases hd with ⟨rfl, i, rfl⟩ | ⟨rfl, ⟨b, rfl⟩ | ⟨x, rfl⟩⟩
  · exact sv_retD (ev_and (p := true) (q := true) (by walk_at "ev") fun _ => ev_not (p := false) (by walk_at "ev")) hR
  · exact sv_retD (ev_and (p := true) (q := false) (by walk_at "ev") fun _ => ev_not (p := true) (by walk_at "ev")) hR
  · exact sv_retD (ev_and (p := false) (q := true) (by walk_at "ev") fun h => nomatch h) hR
theorem pure_is_target {mg : Str → Option Value} {w : World} (B : Bx) (T : Tx w B.K mg) (W : WX) (ds : List D) (R : Sl → Prop) (X : Xc → Prop) (h : F_is_target B.K ds R X) : Sv B W (t_is_target w B.K W) (ini N_is_target ds) { nx := fun _ => R (.dat .non), rt := R, xc := fun x _ => X x } := by
  obtain ⟨t, n, rfl, ht, hR⟩ := h
  show Sv B W (t_is_target w B.K W) [.dat t.d, .dat (.int n)] _
  unfold t_is_target
  cases t with
  | wd b =>
    cases b with
    | true => exact sv_retD (ev_or (p := true) (q := true) (ev_op (b := .bl true) (by walk_at "ev") (by walk_at "ev") rv_isB) fun h => nomatch h) hR
    | false => exact sv_retD (ev_or (p := false) (q := true) (ev_op (b := .bl true) (by walk_at "ev") (by walk_at "ev") rv_isB) fun _ => ev_or (p := true) (q := true) (ev_op (b := .bl false) (by walk_at "ev") (by walk_at "ev") rv_isB) fun h => nomatch h) hR
  | to k =>
    have hk := ht k rfl
    refine sv_retD (e := .bl true) (ev_or (p := false) (ev_op (b := .bl true) (by walk_at "ev") (by walk_at "ev") rv_isB) fun _ => ev_or (p := false) (ev_op (b := .bl false) (by walk_at "ev") (by walk_at "ev") rv_isB) fun _ => ev_and (p := true) (ev_callS (by walk_at "ev") ⟨.int k, true, rfl, .inl ⟨rfl, _, rfl⟩, rfl⟩) fun _ => ev_chain (by walk_at "ev") (by walk_at "ev") rv_le (fun _ => by walk_at "ev") fun _ => rv_lt) hR ?_
    rw [decide_eq_true (show (0 : Int) ≤ (k : Nat) by omega), decide_eq_true (show ((k : Nat) : Int) < (n : Nat) by omega)]
    rfl
theorem all_true {B : Bx} {α : Type} (xs : List α) : RC B (zAll B.K) [.lst (xs.map fun _ => D.bl true)] (.bl true) := by
  have h := rc_all (B := B) (bs := xs.map fun _ => true)
  rw [List.map_map] at h
  have e : (xs.map fun _ => true).all id = true := by
    rw [List.all_map]
    exact List.all_eq_true.mpr fun _ _ => rfl
  rw [e] at h
  exact h
theorem pure_is_item {mg : Str → Option Value} {w : World} (B : Bx) (T : Tx w B.K mg) (W : WX) (ds : List D) (R : Sl → Prop) (X : Xc → Prop) (h : F_is_item B.K ds R X) : Sv B W (t_is_item w B.K W) (ini N_is_item ds) { nx := fun _ => R (.dat .non), rt := R, xc := fun x _ => X x } := by
  obtain ⟨s, it, cs, n, rfl, hi, hR⟩ := h
  show Sv B W (t_is_item w B.K W) [.dat (.str (tx [s])), .dat it, .dat (.str (tx cs)), .dat (.int n), .un] _
  unfold t_is_item
  have hc : ∀ k : Nat, s ≠ k → decide ([s] = [k]) = false := fun k h => decide_eq_false fun e => h (by injection e)
  rcases hi with ⟨rfl, a, ha, rfl⟩ | ⟨rfl, i, rfl, h1, h2⟩ | ⟨rfl, t, rfl, ht⟩ | ⟨rfl, ts, rfl, h1, h2, ht⟩
  · refine sv_seq (sv_if (p := true) (evt_eq (by walk_at "ev") (by decide)) (fun _ => ?_) fun h => nomatch h)
    have h1 : Ev B (tOp (zEq B.K) (tCB (zLen B.K) (tCons (tVar 1) tNil)) (tC (.int 1))) [.dat (.str (tx [99])), .dat (.str (tx [a])), .dat (.str (tx cs)), .dat (.int n), .un] (.bl (decide ((([a].length : Nat) : Int) = 1))) := by walk_at "ev"
    refine sv_retD (e := .bl true) (ev_and (p := true) (by walk_at "ev") fun _ => ev_and h1 fun _ => ev_op (by walk_at "ev") (by walk_at "ev") rv_inT) hR ?_
    rw [decide_eq_true ha]; rfl
  · refine sv_seq (sv_if (p := false) (evt_eq (by walk_at "ev") (by decide)) (fun h => nomatch h) fun _ => sv_next ?_)
    refine sv_seq (sv_if (p := true) (evt_eq (by walk_at "ev") (by decide)) (fun _ => ?_) fun h => nomatch h)
    refine sv_retD (e := .bl true) (ev_and (p := true) (ev_callS (by walk_at "ev") ⟨.int i, true, rfl, .inl ⟨rfl, _, rfl⟩, rfl⟩) fun _ => ev_chain (by walk_at "ev") (by walk_at "ev") rv_le (fun _ => by walk_at "ev") fun _ => rv_le) hR ?_
    rw [decide_eq_true h1, decide_eq_true h2]; rfl
  · refine sv_seq (sv_if (p := false) (evt_eq (by walk_at "ev") (by decide)) (fun h => nomatch h) fun _ => sv_next ?_)
    refine sv_seq (sv_if (p := false) (evt_eq (by walk_at "ev") (by decide)) (fun h => nomatch h) fun _ => sv_next ?_)
    refine sv_seq (sv_if (p := true) (evt_eq (by walk_at "ev") (by decide)) (fun _ => ?_) fun h => nomatch h)
    exact sv_ret (ev_callS (by walk_at "ev") ⟨t, n, rfl, ht, rfl⟩) hR
  · refine sv_seq (sv_if (p := false) (evt_eq (by walk_at "ev") (by decide)) (fun h => nomatch h) fun _ => sv_next ?_)
    refine sv_seq (sv_if (p := false) (evt_eq (by walk_at "ev") (by decide)) (fun h => nomatch h) fun _ => sv_next ?_)
    refine sv_seq (sv_if (p := false) (evt_eq (by walk_at "ev") (by decide)) (fun h => nomatch h) fun _ => sv_next ?_)
    refine sv_seq (sv_if (p := false) (evt_eq (evt_or (p := false) (evt_eq (evt_not (p := true) (evt_b (by walk_at "ev"))) rfl) fun _ => evt_not (evt_test (ev_chain (by walk_at "ev") (by walk_at "ev") rv_le (fun _ => by walk_at "ev") fun _ => rv_le))) ?_) (fun h => nomatch h) fun _ => sv_next ?_)
    · rw [List.length_map, decide_eq_true (show (1 : Int) ≤ (ts.length : Nat) by omega), decide_eq_true (show ((ts.length : Nat) : Int) ≤ 6 by omega)]; rfl
    · refine sv_ret (ev_cb (eva_cons (Ev.of_own (evo_map1 Tg.d ts (fun _ => .bl true) (evi_tup (by walk_at "ev")) (Nat.le_of_ble_eq_true rfl) (by omega) fun t hx => ?_)) eva_nil) (all_true ts)) hR
      exact ev_call (by walk_at "ev") ⟨t, n, rfl, ht t hx, rfl⟩
def shapeOf : Ln → List Nat
  | .one _ _ _ _ => [99, 99, 116]
  | .first _ _ _ _ => [99, 99, 116, 116]
  | .every _ _ _ _ _ => [99, 99, 110, 116, 116]
  | .count _ _ => [99, 115]
  | .leads _ _ _ => [99, 116, 116]
theorem kval {w : World} {K : PySem.W.Frag} {mg : Str → Option Value} (T : Tx w K mg) (l : Ln) : KVal K (He.ga K "SHAPES") (tx l.kind) (.str (tx (shapeOf l))) := by
  cases l with
  | one s a b t => cases s with
    | true => exact T.v_SHAPES_swap
    | false => exact T.v_SHAPES_change
  | first => exact T.v_SHAPES_first
  | every => exact T.v_SHAPES_every
  | count => exact T.v_SHAPES_count
  | leads => exact T.v_SHAPES_leads
theorem shape_len (l : Ln) : l.items.length = (shapeOf l).length := by cases l <;> rfl
theorem items_ok {cs : List Nat} {n : Nat} {l : Ln} (h : l.ok cs n) : ∀ p ∈ (shapeOf l).zipIdx, ∃ it, l.items[p.2]? = some it ∧ ItOk p.1 it cs n := by
  intro p hp
  cases l with
  | one s a b t =>
    obtain ⟨h1, h2, h3⟩ := h
    simp [shapeOf, List.zipIdx] at hp
    rcases hp with rfl | rfl | rfl
    · exact ⟨_, rfl, .inl ⟨rfl, a, h1, rfl⟩⟩
    · exact ⟨_, rfl, .inl ⟨rfl, b, h2, rfl⟩⟩
    · exact ⟨_, rfl, .inr (.inr (.inl ⟨rfl, t, rfl, h3⟩))⟩
  | first a b t u =>
    obtain ⟨h1, h2, h3⟩ := h
    simp [shapeOf, List.zipIdx] at hp
    rcases hp with rfl | rfl | rfl | rfl
    · exact ⟨_, rfl, .inl ⟨rfl, a, h1, rfl⟩⟩
    · exact ⟨_, rfl, .inl ⟨rfl, b, h2, rfl⟩⟩
    · exact ⟨_, rfl, .inr (.inr (.inl ⟨rfl, t, rfl, fun k e => h3 k (.inl e)⟩))⟩
    · exact ⟨_, rfl, .inr (.inr (.inl ⟨rfl, u, rfl, fun k e => h3 k (.inr e)⟩))⟩
  | every a b s t u =>
    obtain ⟨h1, h2, h4, h5, h3⟩ := h
    simp [shapeOf, List.zipIdx] at hp
    rcases hp with rfl | rfl | rfl | rfl | rfl
    · exact ⟨_, rfl, .inl ⟨rfl, a, h1, rfl⟩⟩
    · exact ⟨_, rfl, .inl ⟨rfl, b, h2, rfl⟩⟩
    · exact ⟨_, rfl, .inr (.inl ⟨rfl, s, rfl, by omega, by omega⟩)⟩
    · exact ⟨_, rfl, .inr (.inr (.inl ⟨rfl, t, rfl, fun k e => h3 k (.inl e)⟩))⟩
    · exact ⟨_, rfl, .inr (.inr (.inl ⟨rfl, u, rfl, fun k e => h3 k (.inr e)⟩))⟩
  | count a ts =>
    obtain ⟨h1, h2, h4, h3⟩ := h
    simp [shapeOf, List.zipIdx] at hp
    rcases hp with rfl | rfl
    · exact ⟨_, rfl, .inl ⟨rfl, a, h1, rfl⟩⟩
    · exact ⟨_, rfl, .inr (.inr (.inr ⟨rfl, ts, rfl, h2, h4, h3⟩))⟩
  | leads a t u =>
    obtain ⟨h1, h3⟩ := h
    simp [shapeOf, List.zipIdx] at hp
    rcases hp with rfl | rfl | rfl
    · exact ⟨_, rfl, .inl ⟨rfl, a, h1, rfl⟩⟩
    · exact ⟨_, rfl, .inr (.inr (.inl ⟨rfl, t, rfl, fun k e => h3 k (.inl e)⟩))⟩
    · exact ⟨_, rfl, .inr (.inr (.inl ⟨rfl, u, rfl, fun k e => h3 k (.inr e)⟩))⟩
theorem shapeOf_le (l : Ln) : (shapeOf l).length ≤ 5 := by cases l <;> simp [shapeOf]
theorem pure_is_line {mg : Str → Option Value} {w : World} (B : Bx) (T : Tx w B.K mg) (W : WX) (ds : List D) (R : Sl → Prop) (X : Xc → Prop) (h : F_is_line B.K ds R X) : Sv B W (t_is_line w B.K W) (ini N_is_line ds) { nx := fun _ => R (.dat .non), rt := R, xc := fun x _ => X x } := by
  obtain ⟨l, cs, n, rfl, hl, hR⟩ := h
  show Sv B W (t_is_line w B.K W) [.dat (.tup (.str (tx l.kind) :: l.items)), .dat (.str (tx cs)), .dat (.int n), .un, .un, .un] _
  unfold t_is_line
  have h0 : atI (D.str (tx l.kind) :: l.items) 0 = some (.str (tx l.kind)) := atI_ofNat (n := 0) rfl
  have sl := shape_len l
  have s5 := shapeOf_le l
  refine sv_seq (sv_if (p := false) (evt_eq (evt_or (p := false) (evt_eq (evt_not (p := true) (evt_b (by walk_at "ev"))) rfl) fun _ => evt_or (p := false) (evt_eq (by walk_at "ev") ?_) fun _ => evt_test (ev_op (ev_op (by walk_at "ev") (by walk_at "ev") (rv_ixU h0)) (by walk_at "ev") (rv_KNotInY (kval T l)))) rfl) (fun h => nomatch h) fun _ => sv_next ?_)
  · exact decide_eq_false (by rw [List.length_cons]; omega)
  refine sv_seq (sv_set (ev_op (by walk_at "ev") (ev_op (by walk_at "ev") (by walk_at "ev") (rv_ixU h0)) (rv_KIx (kval T l) fun G => .str _)) (by walk_at "at") ?_)
  refine sv_seq (sv_if (p := false) (evt_eq (by walk_at "ev") ?_) (fun h => nomatch h) fun _ => sv_next ?_)
  · rw [List.length_cons, decide_eq_true (show (((l.items.length + 1 : Nat)) : Int) = ((shapeOf l).length : Nat) + 1 by omega)]; rfl
  refine sv_ret (ev_cb (eva_cons (Ev.of_own (evo_map2 (fun p : Nat × Nat => .int (p.2 : Nat)) (fun p : Nat × Nat => .str (tx [p.1])) (shapeOf l).zipIdx (fun _ => .bl true) (by decide) (evi_enumS (by walk_at "ev")) (Nat.le_of_ble_eq_true rfl) (Nat.le_of_ble_eq_true rfl) (by rw [List.length_zipIdx]; omega) fun p hp => ?_)) eva_nil) (all_true _)) hR
  obtain ⟨it, hit, ho⟩ := items_ok hl p hp
  have hix : atI (D.str (tx l.kind) :: l.items) ((p.2 : Nat) + 1) = some it := atI_ofNat (n := p.2 + 1) (by simpa using hit)
  exact ev_call (by walk_at "ev") ⟨p.1, it, cs, n, rfl, ho, rfl⟩
theorem pure_characters_of {mg : Str → Option Value} {w : World} (B : Bx) (T : Tx w B.K mg) (W : WX) (ds : List D) (R : Sl → Prop) (X : Xc → Prop) (h : F_characters_of B.K ds R X) : Sv B W (t_characters_of w B.K W) (ini N_characters_of ds) { nx := fun _ => R (.dat .non), rt := R, xc := fun x _ => X x } := by
  obtain ⟨ls, mk, rfl, hm, hl, hR⟩ := h
  show Sv B W (t_characters_of w B.K W) [.dat (.str (tx ls)), .dat (.int mk)] _
  unfold t_characters_of
  have e : cut [65, 66, 67, 68, 69] none (some mk) = [65, 66, 67, 68, 69].take mk.toNat := by
    have := cut_take [65, 66, 67, 68, 69] mk.toNat
    rwa [Int.toNat_of_nonneg hm] at this
  have hc := cut_len [65, 66, 67, 68, 69] none (some mk)
  refine sv_retD (ev_op (by walk_at "ev") (by walk_at "ev") (rv_addT (by simp only [List.length_cons, List.length_nil] at hc; omega))) hR ?_
  rw [e]
theorem frz_lines (ls : List Ln) : frzD 5 (.lst (ls.map Ln.d)) = .tup (ls.map Ln.d) := by
  show D.tup ((ls.map Ln.d).map (frzD 4)) = _
  rw [List.map_map]
  congr 1
  refine List.map_congr_left fun l _ => ?_
  have ht : ∀ (n : Nat) (t : Tg), frzD n t.d = t.d := fun n t => by cases n <;> cases t <;> rfl
  cases l with
  | one s a b t => show D.tup [_, _, _, frzD 3 t.d] = _; rw [ht]; rfl
  | first a b t u => show D.tup [_, _, _, frzD 3 t.d, frzD 3 u.d] = _; rw [ht, ht]; rfl
  | every a b s t u => show D.tup [_, _, _, _, frzD 3 t.d, frzD 3 u.d] = _; rw [ht, ht]; rfl
  | count a ts =>
    show D.tup [_, _, .tup ((ts.map Tg.d).map (frzD 2))] = _
    have : (ts.map Tg.d).map (frzD 2) = ts.map Tg.d := by rw [List.map_map]; exact List.map_congr_left fun t _ => ht 2 t
    rw [this]; rfl
  | leads a t u => show D.tup [_, _, frzD 3 t.d, frzD 3 u.d] = _; rw [ht, ht]; rfl
theorem ok_lines {cs : List Nat} {n : Nat} {ls : List Ln} (h : ls.length ≤ 60) (ho : ∀ l ∈ ls, l.ok cs n) : okD 5 (.lst (ls.map Ln.d)) = true := by
  show (decide ((ls.map Ln.d).length < 16777216) && (ls.map Ln.d).all (okD 4)) = true
  rw [List.length_map, decide_eq_true (by omega), Bool.true_and, List.all_map, List.all_eq_true]
  intro l hl
  have ht : ∀ (n : Nat) (t : Tg), okD (n + 1) t.d = true := fun n t => by cases t <;> rfl
  have := ho l hl
  show okD 4 l.d = true
  cases l with
  | one s a b t => show (_ && ([_, _, _, t.d] : List D).all (okD 3)) = true; simp [ht, okD, List.all, Ln.items]
  | first a b t u => show (_ && ([_, _, _, t.d, u.d] : List D).all (okD 3)) = true; simp [ht, okD, List.all, Ln.items]
  | every a b s t u => show (_ && ([_, _, _, _, t.d, u.d] : List D).all (okD 3)) = true; simp [ht, okD, List.all, Ln.items]
  | count a ts =>
    have h6 : ts.length ≤ 6 := this.2.2.1
    have e : okD 3 (.tup (ts.map Tg.d)) = true := by
      show (decide ((ts.map Tg.d).length < 16777216) && (ts.map Tg.d).all (okD 2)) = true
      rw [List.length_map, decide_eq_true (by omega), Bool.true_and, List.all_map, List.all_eq_true]
      exact fun t _ => ht 1 t
    show (_ && ([_, _, .tup (ts.map Tg.d)] : List D).all (okD 3)) = true
    simp only [List.all_cons, e]
    rfl
  | leads a t u => show (_ && ([_, _, t.d, u.d] : List D).all (okD 3)) = true; simp [ht, okD, List.all, Ln.items]
theorem pure_Program {mg : Str → Option Value} {w : World} {K : PySem.W.Frag} (T : Tx w K mg) (G H0 : Hp) (a : Addr) (W : WX) (ds : List D) (R : Sl → Prop) (X : Xc → Prop) (h : F_Program K ds R X) : Sv ⟨K, G, H0, NoF⟩ W (t_Program w K W) (iniI N_Program (He.ga K "Program") a ds) { nx := fun Γ => ∃ fs, Γ[0]? = some (.own (.ins (He.ga K "Program") fs (some a))) ∧ R (.own (.ins (He.ga K "Program") fs none)), rt := fun _ => False, xc := fun x _ => X x } := by
  obtain ⟨lt, mk, ls, es, rfl, hr, hm, ⟨p1, p2, p3⟩, he, hok, hfrz, hR⟩ := h
  show Sv ⟨K, G, H0, NoF⟩ W (t_Program w K W) [.own (.ins (He.ga K "Program") [] (some a)), .dat (.str (tx lt)), .dat (.int mk), .dat (.lst es), .un, .un, .un] _
  unfold t_Program
  refine sv_seq (sv_drop (ev_callS (by walk_at "ev") ⟨lt, rfl, hr, rfl⟩) ?_)
  refine sv_seq (sv_set (d := .tup (ls.map Ln.d)) (ev_callS (by walk_at "ev") ⟨_, rfl, hok, by rw [hfrz]; rfl⟩) (by walk_at "at") ?_)
  refine sv_seq (sv_if (p := false) (evt_eq (by walk_at "ev") (decide_eq_false (by rw [List.length_map]; omega))) (fun h => nomatch h) fun _ => sv_next ?_)
  refine sv_seq (sv_for (fun p : D × Nat => .tup [.int (p.2 : Nat), p.1]) (ls.map Ln.d).zipIdx (evi_enumU (by walk_at "ev")) (fun r Γ' => ∃ c5 c6 : Sl, Γ' = [.own (.ins (He.ga K "Program") [] (some a)), .dat (.str (tx lt)), .dat (.int mk), .dat (.lst es), .dat (.tup (ls.map Ln.d)), c5, c6]) ⟨_, _, rfl⟩ ?_ ?_)
  · rintro Γ' ⟨c5, c6, rfl⟩
    refine sv_seq (sv_fld rfl T.cl_Program T.na_Program_letters (by walk_at "ev") (by decide) (by walk_at "at") ?_)
    refine sv_seq (sv_fld rfl T.cl_Program T.na_Program_marks (by walk_at "ev") (Nat.le_of_ble_eq_true rfl) (by walk_at "at") ?_)
    exact sv_fld rfl T.cl_Program T.na_Program_lines (by walk_at "ev") (Nat.le_of_ble_eq_true rfl) (by walk_at "at") ⟨_, rfl, hR⟩
  · rintro p r Γ' ⟨pre, hp⟩ ⟨c5, c6, rfl⟩
    refine ⟨_, evg_tup (evgs_cons (evg_name (by walk_at "at")) (evgs_cons (evg_name (by walk_at "at")) evgs_nil)) rfl, ?_⟩
    have hm2 : p.1 ∈ ls.map Ln.d := by
      have : p ∈ (ls.map Ln.d).zipIdx := by rw [hp]; simp
      exact (List.mem_zipIdx' this).2 ▸ List.getElem_mem _
    obtain ⟨l, hl, e⟩ := List.mem_map.mp hm2
    rw [← e]
    have hc : F_characters_of K [.str (tx lt), .int mk] (fun s => s.toD = some (.str (tx (lt ++ [65, 66, 67, 68, 69].take mk.toNat)))) (fun _ => False) := ⟨lt, mk, rfl, hm, by have := hr.2.1; omega, rfl⟩
    exact sv_if (p := false) (evt_eq (evt_not (p := true) (evt_b (ev_callS (eva_cons (by walk_at "ev") (eva_cons (ev_callS (by walk_at "ev") hc) (by walk_at "ev"))) ⟨l, _, ls.length, by rw [List.length_map], p3 l hl, rfl⟩))) rfl) (fun h => nomatch h) fun _ => sv_next ⟨_, _, rfl⟩

end L

namespace L
open PySem PySem.Spec PyProof.Rows L2 Z
local macro_rules | `(tactic| walk_at "at") => `(tactic| first | with_reducible exact SetAt.zero | ((with_reducible apply SetAt.succ); walk_at "at"))
local macro_rules | `(tactic| walk_at "sd") => `(tactic| first | (with_reducible assumption) | omega | (simp only [rep_length, List.length_append, List.length_cons, List.length_nil, List.length_map, List.length_replicate, List.length_range, List.length_take, List.length_reverse] <;> omega) | decide | exact Nat.le_of_ble_eq_true rfl)
local macro_rules | `(tactic| walk_at "cm") => `(tactic| first | (with_reducible assumption) | (refine cmul_s ?_ ?_ ?_ ?_ <;> first | omega | decide))
local macro_rules | `(tactic| walk_at "rv") => `(tactic| first
  | with_reducible exact rv_add | ((with_reducible apply rv_addT); walk_at "sd") | ((with_reducible apply rv_addL); walk_at "sd") | ((with_reducible apply rv_addU); walk_at "sd")
  | with_reducible exact rv_sub | ((with_reducible apply rv_mul); walk_at "cm") | ((with_reducible apply rv_mulT) <;> walk_at "sd")
  | ((with_reducible apply rv_div); first | assumption | exact cdiv_s (by walk_at "sd") (by walk_at "sd")) | ((with_reducible apply rv_mod); walk_at "sd") | ((with_reducible apply rv_pow); exact ⟨by decide, by decide, by decide⟩)
  | with_reducible exact rv_lt | with_reducible exact rv_le | with_reducible exact rv_gt | with_reducible exact rv_ge
  | with_reducible exact rv_eqI | with_reducible exact rv_eqT | with_reducible exact rv_eqB | with_reducible exact rv_neI | with_reducible exact rv_neT | with_reducible exact rv_neB
  | ((with_reducible apply rv_ixL); first | with_reducible assumption | exact rfl) | ((with_reducible apply rv_ixU); first | with_reducible assumption | exact rfl) | ((with_reducible apply rv_ixT); (focus (first | with_reducible assumption | exact rfl)); walk_at "sd")
  | with_reducible exact rv_isN | with_reducible exact rv_isN' | with_reducible exact rv_notN'
  | with_reducible exact rv_inT | with_reducible exact rv_ninT | with_reducible exact rv_inTs | with_reducible exact rv_ninTs | with_reducible assumption)
local macro_rules | `(tactic| walk_at "rc") => `(tactic| first | with_reducible exact rc_int | with_reducible exact rc_intB | with_reducible exact rc_lenL | with_reducible exact rc_lenU | ((with_reducible apply rc_lenT); walk_at "sd") | with_reducible exact rc_min | with_reducible exact rc_tupleL | with_reducible exact rc_tupleU | with_reducible exact rc_listL | with_reducible exact rc_listU | with_reducible exact rc_max | ((with_reducible apply rc_isi); (focus (exact rfl)); first | with_reducible exact kitT | with_reducible exact kit_NoneType_int | with_reducible exact kit_NoneType_bool | with_reducible exact kit_NoneType_str | with_reducible exact kit_NoneType_list | with_reducible exact kit_NoneType_tuple | with_reducible exact kit_bool_int | with_reducible exact kit_bool_bool | with_reducible exact kit_bool_str | with_reducible exact kit_bool_list | with_reducible exact kit_bool_tuple | with_reducible exact kit_int_int | with_reducible exact kit_int_bool | with_reducible exact kit_int_str | with_reducible exact kit_int_list | with_reducible exact kit_int_tuple | with_reducible exact kit_str_int | with_reducible exact kit_str_bool | with_reducible exact kit_str_str | with_reducible exact kit_str_list | with_reducible exact kit_str_tuple | with_reducible exact kit_list_int | with_reducible exact kit_list_bool | with_reducible exact kit_list_str | with_reducible exact kit_list_list | with_reducible exact kit_list_tuple | with_reducible exact kit_tuple_int | with_reducible exact kit_tuple_bool | with_reducible exact kit_tuple_str | with_reducible exact kit_tuple_list | with_reducible exact kit_tuple_tuple | assumption | rfl) | with_reducible assumption)
local macro_rules | `(tactic| walk_at "rs") => `(tactic| first | with_reducible exact rs_slL | with_reducible exact rs_slU | ((with_reducible apply rs_slT); walk_at "sd"))
local macro_rules | `(tactic| walk_at "ru") => `(tactic| first | ((with_reducible apply ru_rev); walk_at "sd") | with_reducible exact ru_neg)
local macro_rules | `(tactic| walk_at "rm") => `(tactic| first | with_reducible exact rm_count | with_reducible assumption)
local macro_rules | `(tactic| walk_at "eo") => `(tactic| first
  | ((with_reducible apply evo_lstX); (focus (walk_at "ev")); exact Nat.le_of_ble_eq_true rfl)
  | ((with_reducible apply evo_callS); (focus (walk_at "ev")); (focus (walk_at "fn")))
  | ((with_reducible apply evo_addL rfl); (focus (walk_at "ev")); (focus (walk_at "ev")); walk_at "sd")
  | ((with_reducible apply evo_listL rfl); walk_at "ev") | ((with_reducible apply evo_listU rfl); walk_at "ev")
  | with_reducible assumption)
local macro_rules | `(tactic| walk_at "ev") => `(tactic| first
  | (with_reducible assumption)
  | ((with_reducible apply ev_var); exact rfl)
  | with_reducible exact ev_int | with_reducible exact ev_str | with_reducible exact ev_bl | with_reducible exact ev_non | with_reducible exact ev_ty | with_reducible exact ev_ref
  | with_reducible exact eva_nil
  | ((with_reducible apply eva_cons); (focus (walk_at "ev")); (focus (walk_at "ev")))
  | ((with_reducible apply ev_op); (focus (walk_at "ev")); (focus (walk_at "ev")); (focus (walk_at "rv")))
  | ((with_reducible apply ev_cb); (focus (walk_at "ev")); (focus (walk_at "rc")))
  | ((with_reducible apply evt_test); (focus (walk_at "ev")))
  | ((with_reducible apply evt_b); (focus (walk_at "ev")))
  | ((with_reducible apply evt_not); (focus (walk_at "ev")))
  | ((with_reducible apply evt_and); (focus (walk_at "ev")); (focus (intro _; walk_at "ev")))
  | ((with_reducible apply evt_or); (focus (walk_at "ev")); (focus (intro _; walk_at "ev")))
  | with_reducible exact evt_yes
  | ((with_reducible apply ev_and); (focus (walk_at "ev")); (focus (intro _; walk_at "ev")))
  | ((with_reducible apply ev_or); (focus (walk_at "ev")); (focus (intro _; walk_at "ev")))
  | ((with_reducible apply ev_not); (focus (walk_at "ev")))
  | ((with_reducible apply ev_callS); (focus (walk_at "ev")); (focus (walk_at "fn")))
  | ((with_reducible apply ev_call); (focus (walk_at "ev")); (focus (walk_at "fn")))
  | ((with_reducible apply ev_tupX); (focus (walk_at "ev")); exact Nat.le_of_ble_eq_true rfl)
  | with_reducible exact evp_none
  | ((with_reducible apply evp_some); (focus (walk_at "ev")))
  | ((with_reducible apply ev_sl); (focus (walk_at "ev")); (focus (walk_at "ev")); (focus (walk_at "ev")); (focus (walk_at "rs")))
  | ((with_reducible apply ev_un); (focus (walk_at "ev")); (focus (walk_at "ru")))
  | ((with_reducible apply ev_bmT); (focus (walk_at "ev")); (focus (walk_at "ev")); (focus (walk_at "rm")))
  | ((with_reducible apply ev_bmT0); (focus (walk_at "ev")); (focus (walk_at "rm")))
  | ((with_reducible apply evi_list); (focus (walk_at "ev")))
  | ((with_reducible apply evi_tup); (focus (walk_at "ev")))
  | ((with_reducible apply evi_str); (focus (walk_at "ev")))
  | ((with_reducible apply evi_rng1); (focus (walk_at "ev")); (focus (constructor <;> walk_at "sd")))
  | ((with_reducible apply evi_rng2); (focus (walk_at "ev")); (focus (constructor <;> walk_at "sd")); (focus (constructor <;> walk_at "sd")))
  | ((with_reducible apply Ev.of_own); walk_at "eo")
  | with_reducible assumption)
local macro_rules | `(tactic| walk_at "st") => `(tactic| repeat (first
  | (with_reducible apply sv_seq)
  | ((with_reducible apply sv_set); (focus (walk_at "ev")); (focus (walk_at "at")))
  | ((with_reducible apply sv_drop); (focus (walk_at "ev")))
  | (with_reducible apply sv_next)))
local macro_rules | `(tactic| walk_at "eq") => `(tactic| (with_reducible apply ev_eq); (focus (walk_at "ev")); rfl)
theorem dig_mem (c : Nat) : decide (c ∈ ([48, 49, 50, 51, 52, 53, 54, 55, 56, 57] : List Nat)) = dig c := by
  unfold dig
  rw [Bool.eq_iff_iff]
  simp
  omega
theorem digs_none {x : List Nat} (h : (x.filter fun c => !dig c).isEmpty = false) : ∃ c ∈ x, dig c = false := by
  cases e : x.filter fun c => !dig c with
  | nil => rw [e] at h; cases h
  | cons c r =>
    have : c ∈ x.filter fun c => !dig c := by rw [e]; simp
    rw [List.mem_filter] at this
    exact ⟨c, this.1, by simpa using this.2⟩
theorem digs_all {x : List Nat} (h : (x.filter fun c => !dig c).isEmpty = true) : ∀ c ∈ x, dig c = true := by
  intro c hc
  cases q : dig c with
  | true => rfl
  | false =>
    have : c ∈ x.filter fun c => !dig c := by rw [List.mem_filter]; exact ⟨hc, by simp [q]⟩
    cases e : x.filter fun c => !dig c with
    | nil => rw [e] at this; simp at this
    | cons a r => rw [e] at h; cases h
theorem plain_non {x : List Nat} (h : (decide (x = []) || (decide (((2 : Int)) < ((x.length : Nat) : Int)) || !(x.filter fun c => !dig c).isEmpty)) = true) : plainN x = none := by
  rw [Bool.or_eq_true, Bool.or_eq_true] at h
  rcases x with _ | ⟨a, _ | ⟨b, _ | ⟨c, r⟩⟩⟩
  · rfl
  · rcases h with h | h | h
    · simp at h
    · have := of_decide_eq_true h; simp at this
    · obtain ⟨c, hc, hd⟩ := digs_none (by rw [Bool.not_eq_true'] at h; exact h)
      simp at hc
      subst hc
      simp [plainN, hd]
  · rcases h with h | h | h
    · simp at h
    · have := of_decide_eq_true h; simp at this
    · obtain ⟨c, hc, hd⟩ := digs_none (by rw [Bool.not_eq_true'] at h; exact h)
      simp at hc
      rcases hc with rfl | rfl <;> simp [plainN, hd]
  · rfl
theorem plain_two {x : List Nat} (h : (decide (x = []) || (decide (((2 : Int)) < ((x.length : Nat) : Int)) || !(x.filter fun c => !dig c).isEmpty)) = false) : (∃ a, x = [48 + a] ∧ a < 10) ∨ ∃ a b, x = [48 + a, 48 + b] ∧ a < 10 ∧ b < 10 := by
  rw [Bool.or_eq_false_iff, Bool.or_eq_false_iff] at h
  obtain ⟨h1, h2, h3⟩ := h
  have h4 := digs_all (x := x) (by simpa using h3)
  have h5 := of_decide_eq_false h2
  have hd : ∀ c ∈ x, 48 ≤ c ∧ c ≤ 57 := fun c hc => by
    have := h4 c hc
    unfold dig at this
    rw [Bool.and_eq_true] at this
    exact ⟨of_decide_eq_true this.1, of_decide_eq_true this.2⟩
  rcases x with _ | ⟨a, _ | ⟨b, _ | ⟨c, r⟩⟩⟩
  · simp at h1
  · have := hd a (by simp)
    exact .inl ⟨a - 48, by congr 1; omega, by omega⟩
  · have := hd a (by simp)
    have := hd b (by simp)
    refine .inr ⟨a - 48, b - 48, ?_, by omega, by omega⟩
    rw [show 48 + (a - 48) = a by omega, show 48 + (b - 48) = b by omega]
  · simp at h5; omega
theorem int1 {a : Nat} (h : a < 10) : PySem.intText? (tx [48 + a]) = some (a : Int) := by
  have : ∀ k : Fin 10, PySem.intText? (tx [48 + k.val]) = some (k.val : Int) := by decide +kernel
  exact this ⟨a, h⟩
theorem int2 {a b : Nat} (ha : a < 10) (hb : b < 10) : PySem.intText? (tx [48 + a, 48 + b]) = some ((a * 10 + b : Nat) : Int) := by
  have : ∀ k j : Fin 10, PySem.intText? (tx [48 + k.val, 48 + j.val]) = some ((k.val * 10 + j.val : Nat) : Int) := by decide +kernel
  exact this ⟨a, ha⟩ ⟨b, hb⟩
theorem dig_lt {a : Nat} (h : a < 10) : dig (48 + a) = true := by unfold dig; rw [decide_eq_true (by omega), decide_eq_true (by omega)]; rfl
theorem pure_plain_number {mg : Str → Option Value} {w : World} (B : Bx) (T : Tx w B.K mg) (W : WX) (ds : List D) (R : Sl → Prop) (X : Xc → Prop) (h : F_plain_number B.K ds R X) : Sv B W (t_plain_number w B.K W) (ini N_plain_number ds) { nx := fun _ => R (.dat .non), rt := R, xc := fun x _ => X x } := by
  obtain ⟨x, rfl, hl, hR⟩ := h
  show Sv B W (t_plain_number w B.K W) [.dat (.str (tx x)), .dat (.int 2), .un] _
  unfold t_plain_number
  have hx : Ev B (tVar 0) [.dat (.str (tx x)), .dat (.int 2), .un] (.str (tx x)) := by walk_at "ev"
  refine sv_seq (sv_if (evt_or (by walk_at "ev") fun _ => evt_or (by walk_at "ev") fun _ => evt_eq (evt_truL (Ev.of_own (evo_lc1 (fun c : Nat => D.str (tx [c])) x (fun c => !dig c) (fun c : Nat => D.str (tx [c])) (by walk_at "ev") (Nat.le_of_ble_eq_true rfl) (by omega) fun c hc => ⟨evt_eq (by walk_at "ev") (by rw [dig_mem]), fun _ => by walk_at "ev"⟩))) (by rw [List.isEmpty_map])) (fun h => ?_) fun h => sv_next ?_)
  · rw [plain_non h] at hR
    exact sv_retD (by walk_at "ev") hR
  · rcases plain_two h with ⟨a, rfl, ha⟩ | ⟨a, b, rfl, ha, hb⟩
    · refine sv_seq (sv_if (p := false) (evt_eq (evt_and (by walk_at "ev") fun _ => by walk_at "ev") ?_) (fun h => nomatch h) fun _ => sv_next ?_)
      · simp
      · have e : plainN [48 + a] = some a := plain_dig ha
        rw [e] at hR
        exact sv_retD (ev_cb (by walk_at "ev") (rc_intT (int1 ha) (by simp))) hR
    · by_cases h0 : a = 0
      · subst h0
        refine sv_seq (sv_if (p := true) (evt_eq (evt_and (by walk_at "ev") fun _ => by walk_at "ev") ?_) (fun _ => ?_) fun h => nomatch h)
        · simp
        · have e : plainN [48 + 0, 48 + b] = none := by simp [plainN]
          rw [e] at hR
          exact sv_retD (by walk_at "ev") hR
      · refine sv_seq (sv_if (p := false) (evt_eq (evt_and (by walk_at "ev") fun _ => by walk_at "ev") ?_) (fun h => nomatch h) fun _ => sv_next ?_)
        · simp; omega
        · have e : plainN [48 + a, 48 + b] = some (a * 10 + b) := by
            simp [plainN, dig_lt ha, dig_lt hb]
            exact h0
          rw [e] at hR
          exact sv_retD (ev_cb (by walk_at "ev") (rc_intT (int2 ha hb) (by simp))) hR
theorem pure_read_target {mg : Str → Option Value} {w : World} (B : Bx) (T : Tx w B.K mg) (W : WX) (ds : List D) (R : Sl → Prop) (X : Xc → Prop) (h : F_read_target B.K ds R X) : Sv B W (t_read_target w B.K W) (ini N_read_target ds) { nx := fun _ => R (.dat .non), rt := R, xc := fun x _ => X x } := by
  obtain ⟨x, n, rfl, hl, hR⟩ := h
  show Sv B W (t_read_target w B.K W) [.dat (.str (tx x)), .dat (.int n), .un] _
  unfold t_read_target
  unfold rdT rdTg at hR
  by_cases h1 : x = wYes
  · subst h1
    refine sv_seq (sv_if (p := true) (evt_eq (by walk_at "ev") (decide_eq_true rfl)) (fun _ => ?_) fun h => nomatch h)
    rw [if_pos rfl] at hR
    exact sv_retD (by walk_at "ev") hR
  refine sv_seq (sv_if (p := false) (evt_eq (by walk_at "ev") (decide_eq_false h1)) (fun h => nomatch h) fun _ => sv_next ?_)
  rw [if_neg h1] at hR
  by_cases h2 : x = wNo
  · subst h2
    refine sv_seq (sv_if (p := true) (evt_eq (by walk_at "ev") (decide_eq_true rfl)) (fun _ => ?_) fun h => nomatch h)
    rw [if_pos rfl] at hR
    exact sv_retD (by walk_at "ev") hR
  refine sv_seq (sv_if (p := false) (evt_eq (by walk_at "ev") (decide_eq_false h2)) (fun h => nomatch h) fun _ => sv_next ?_)
  rw [if_neg h2] at hR
  cases e : plainN x with
  | none =>
    rw [e] at hR
    refine sv_seq (sv_set (d := .non) (ev_callS (by walk_at "ev") ⟨x, rfl, hl, by rw [e]; rfl⟩) (by walk_at "at") ?_)
    refine sv_seq (sv_if (p := true) (evt_or (p := true) (q := true) (evt_eq (by walk_at "ev") rfl) fun h => nomatch h) (fun _ => ?_) fun h => nomatch h)
    exact sv_retD (by walk_at "ev") hR
  | some k =>
    rw [e] at hR
    refine sv_seq (sv_set (d := .int k) (ev_callS (by walk_at "ev") ⟨x, rfl, hl, by rw [e]; rfl⟩) (by walk_at "at") ?_)
    by_cases hk : k < n
    · refine sv_seq (sv_if (p := false) (evt_eq (evt_or (p := false) (evt_eq (by walk_at "ev") (by rfl)) fun _ => evt_test (ev_op (a := .int k) (by walk_at "ev") (by walk_at "ev") rv_ge)) ?_) (fun h => nomatch h) fun _ => sv_next ?_)
      · rw [decide_eq_false (by omega)]; rfl
      · simp only [if_pos hk] at hR
        exact sv_retD (by walk_at "ev") hR
    · refine sv_seq (sv_if (p := true) (evt_eq (evt_or (p := false) (evt_eq (by walk_at "ev") (by rfl)) fun _ => evt_test (ev_op (a := .int k) (by walk_at "ev") (by walk_at "ev") rv_ge)) ?_) (fun _ => ?_) fun h => nomatch h)
      · rw [decide_eq_true (by omega)]; rfl
      · simp only [if_neg hk] at hR
        exact sv_retD (by walk_at "ev") hR
theorem pure_read_word {mg : Str → Option Value} {w : World} (B : Bx) (T : Tx w B.K mg) (W : WX) (ds : List D) (R : Sl → Prop) (X : Xc → Prop) (h : F_read_word B.K ds R X) : Sv B W (t_read_word w B.K W) (ini N_read_word ds) { nx := fun _ => R (.dat .non), rt := R, xc := fun x _ => X x } := by
  obtain ⟨s, x, cs, n, rfl, hl, hR⟩ := h
  show Sv B W (t_read_word w B.K W) [.dat (.str (tx [s])), .dat (.str (tx x)), .dat (.str (tx cs)), .dat (.int n), .un] _
  unfold t_read_word
  unfold rdW at hR
  by_cases h1 : s = 99
  · subst h1
    rw [if_pos rfl] at hR
    refine sv_seq (sv_if (p := true) (evt_eq (by walk_at "ev") (by decide)) (fun _ => ?_) fun h => nomatch h)
    have hn : ∀ P : Po, P.rt = R → x.length ≠ 1 → Sv B W (tSeq (tIfS (tAnd (tTest (tOp (zEq B.K) (tCB (zLen B.K) (tCons (tVar 1) tNil)) (tC (.int 1)))) (tTest (tOp (zIn B.K false) (tVar 1) (tVar 2)))) (tRet (tVar 1)) tNext) (tRet (tC .non))) [.dat (.str (tx [99])), .dat (.str (tx x)), .dat (.str (tx cs)), .dat (.int n), .un] P := fun P hP h => by
      subst hP
      have e : rdC x cs = .non := by
        unfold rdC
        split
        · exact absurd rfl h
        · rfl
      rw [e] at hR
      refine sv_seq (sv_if (p := false) (evt_eq (evt_and (p := false) (q := false) (evt_eq (by walk_at "ev") (decide_eq_false (by omega))) fun h => nomatch h) rfl) (fun h => nomatch h) fun _ => sv_next ?_)
      exact sv_retD (by walk_at "ev") hR
    rcases x with _ | ⟨a, _ | ⟨b, r⟩⟩
    · exact hn _ rfl (by simp)
    · by_cases ha : a ∈ cs
      · rw [rdC_in ha] at hR
        refine sv_seq (sv_if (p := true) (evt_eq (evt_and (by walk_at "ev") fun _ => by walk_at "ev") ?_) (fun _ => ?_) fun h => nomatch h)
        · rw [decide_eq_true ha]; rfl
        · exact sv_retD (by walk_at "ev") hR
      · have e : rdC [a] cs = .non := if_neg ha
        rw [e] at hR
        refine sv_seq (sv_if (p := false) (evt_eq (evt_and (by walk_at "ev") fun _ => by walk_at "ev") ?_) (fun h => nomatch h) fun _ => sv_next ?_)
        · rw [decide_eq_false ha]; rfl
        · exact sv_retD (by walk_at "ev") hR
    · exact hn _ rfl (by simp)
  have hc : ∀ k : Nat, s ≠ k → decide ([s] = [k]) = false := fun k h => decide_eq_false fun e => h (by injection e)
  refine sv_seq (sv_if (p := false) (evt_eq (by walk_at "ev") (hc _ h1)) (fun h => nomatch h) fun _ => sv_next ?_)
  rw [if_neg h1] at hR
  by_cases h2 : s = 116
  · subst h2
    rw [if_pos rfl] at hR
    refine sv_seq (sv_if (p := true) (evt_eq (by walk_at "ev") (by decide)) (fun _ => ?_) fun h => nomatch h)
    exact sv_retD (ev_callS (by walk_at "ev") ⟨x, n, rfl, hl, rfl⟩) hR
  refine sv_seq (sv_if (p := false) (evt_eq (by walk_at "ev") (hc _ h2)) (fun h => nomatch h) fun _ => sv_next ?_)
  rw [if_neg h2] at hR
  unfold rdN at hR
  cases e : plainN x with
  | none =>
    rw [e] at hR
    refine sv_seq (sv_set (d := .non) (ev_callS (by walk_at "ev") ⟨x, rfl, hl, by rw [e]; rfl⟩) (by walk_at "at") ?_)
    refine sv_seq (sv_if (p := true) (evt_or (p := true) (q := true) (evt_eq (by walk_at "ev") rfl) fun h => nomatch h) (fun _ => ?_) fun h => nomatch h)
    exact sv_retD (by walk_at "ev") hR
  | some k =>
    rw [e] at hR
    refine sv_seq (sv_set (d := .int k) (ev_callS (by walk_at "ev") ⟨x, rfl, hl, by rw [e]; rfl⟩) (by walk_at "at") ?_)
    by_cases hk : 1 ≤ k ∧ k ≤ 6
    · refine sv_seq (sv_if (p := false) (evt_eq (evt_or (p := false) (evt_eq (by walk_at "ev") (by rfl)) fun _ => evt_not (evt_test (ev_chain (b := .int k) (by walk_at "ev") (by walk_at "ev") rv_le (fun _ => by walk_at "ev") fun _ => rv_le))) ?_) (fun h => nomatch h) fun _ => sv_next ?_)
      · rw [decide_eq_true (show (1 : Int) ≤ (k : Nat) by omega), decide_eq_true (show ((k : Nat) : Int) ≤ 6 by omega)]; rfl
      · simp only [if_pos hk] at hR
        exact sv_retD (by walk_at "ev") hR
    · refine sv_seq (sv_if (p := true) (evt_eq (evt_or (p := false) (evt_eq (by walk_at "ev") (by rfl)) fun _ => evt_not (evt_test (ev_chain (b := .int k) (by walk_at "ev") (by walk_at "ev") rv_le (fun _ => by walk_at "ev") fun _ => rv_le))) ?_) (fun _ => ?_) fun h => nomatch h)
      · by_cases q : 1 ≤ k
        · rw [decide_eq_true (show (1 : Int) ≤ (k : Nat) by omega), decide_eq_false (show ¬ ((k : Nat) : Int) ≤ 6 by omega)]; rfl
        · rw [decide_eq_false (show ¬ (1 : Int) ≤ (k : Nat) by omega)]; rfl
      · simp only [if_neg hk] at hR
        exact sv_retD (by walk_at "ev") hR

end L

namespace L
open PySem PySem.Spec PyProof.Rows L2 Z
local macro_rules | `(tactic| walk_at "at") => `(tactic| first | with_reducible exact SetAt.zero | ((with_reducible apply SetAt.succ); walk_at "at"))
local macro_rules | `(tactic| walk_at "sd") => `(tactic| first | (with_reducible assumption) | omega | (simp only [rep_length, List.length_append, List.length_cons, List.length_nil, List.length_map, List.length_replicate, List.length_range, List.length_take, List.length_reverse] <;> omega) | decide | exact Nat.le_of_ble_eq_true rfl)
local macro_rules | `(tactic| walk_at "cm") => `(tactic| first | (with_reducible assumption) | (refine cmul_s ?_ ?_ ?_ ?_ <;> first | omega | decide))
local macro_rules | `(tactic| walk_at "rv") => `(tactic| first
  | with_reducible exact rv_add | ((with_reducible apply rv_addT); walk_at "sd") | ((with_reducible apply rv_addL); walk_at "sd") | ((with_reducible apply rv_addU); walk_at "sd")
  | with_reducible exact rv_sub | ((with_reducible apply rv_mul); walk_at "cm") | ((with_reducible apply rv_mulT) <;> walk_at "sd")
  | ((with_reducible apply rv_div); first | assumption | exact cdiv_s (by walk_at "sd") (by walk_at "sd")) | ((with_reducible apply rv_mod); walk_at "sd") | ((with_reducible apply rv_pow); exact ⟨by decide, by decide, by decide⟩)
  | with_reducible exact rv_lt | with_reducible exact rv_le | with_reducible exact rv_gt | with_reducible exact rv_ge
  | with_reducible exact rv_eqI | with_reducible exact rv_eqT | with_reducible exact rv_eqB | with_reducible exact rv_neI | with_reducible exact rv_neT | with_reducible exact rv_neB
  | ((with_reducible apply rv_ixL); first | with_reducible assumption | exact rfl) | ((with_reducible apply rv_ixU); first | with_reducible assumption | exact rfl) | ((with_reducible apply rv_ixT); (focus (first | with_reducible assumption | exact rfl)); walk_at "sd")
  | with_reducible exact rv_isN | with_reducible exact rv_isN' | with_reducible exact rv_notN'
  | with_reducible exact rv_inT | with_reducible exact rv_ninT | with_reducible exact rv_inTs | with_reducible exact rv_ninTs | with_reducible assumption)
local macro_rules | `(tactic| walk_at "rc") => `(tactic| first | with_reducible exact rc_int | with_reducible exact rc_intB | with_reducible exact rc_lenL | with_reducible exact rc_lenU | ((with_reducible apply rc_lenT); walk_at "sd") | with_reducible exact rc_min | with_reducible exact rc_tupleL | with_reducible exact rc_tupleU | with_reducible exact rc_listL | with_reducible exact rc_listU | with_reducible exact rc_max | ((with_reducible apply rc_isi); (focus (exact rfl)); first | with_reducible exact kitT | with_reducible exact kit_NoneType_int | with_reducible exact kit_NoneType_bool | with_reducible exact kit_NoneType_str | with_reducible exact kit_NoneType_list | with_reducible exact kit_NoneType_tuple | with_reducible exact kit_bool_int | with_reducible exact kit_bool_bool | with_reducible exact kit_bool_str | with_reducible exact kit_bool_list | with_reducible exact kit_bool_tuple | with_reducible exact kit_int_int | with_reducible exact kit_int_bool | with_reducible exact kit_int_str | with_reducible exact kit_int_list | with_reducible exact kit_int_tuple | with_reducible exact kit_str_int | with_reducible exact kit_str_bool | with_reducible exact kit_str_str | with_reducible exact kit_str_list | with_reducible exact kit_str_tuple | with_reducible exact kit_list_int | with_reducible exact kit_list_bool | with_reducible exact kit_list_str | with_reducible exact kit_list_list | with_reducible exact kit_list_tuple | with_reducible exact kit_tuple_int | with_reducible exact kit_tuple_bool | with_reducible exact kit_tuple_str | with_reducible exact kit_tuple_list | with_reducible exact kit_tuple_tuple | assumption | rfl) | with_reducible assumption)
local macro_rules | `(tactic| walk_at "rs") => `(tactic| first | with_reducible exact rs_slL | with_reducible exact rs_slU | ((with_reducible apply rs_slT); walk_at "sd"))
local macro_rules | `(tactic| walk_at "ru") => `(tactic| first | ((with_reducible apply ru_rev); walk_at "sd") | with_reducible exact ru_neg)
local macro_rules | `(tactic| walk_at "rm") => `(tactic| first | with_reducible exact rm_count | with_reducible assumption)
local macro_rules | `(tactic| walk_at "eo") => `(tactic| first
  | ((with_reducible apply evo_lstX); (focus (walk_at "ev")); exact Nat.le_of_ble_eq_true rfl)
  | ((with_reducible apply evo_callS); (focus (walk_at "ev")); (focus (walk_at "fn")))
  | ((with_reducible apply evo_addL rfl); (focus (walk_at "ev")); (focus (walk_at "ev")); walk_at "sd")
  | ((with_reducible apply evo_listL rfl); walk_at "ev") | ((with_reducible apply evo_listU rfl); walk_at "ev")
  | with_reducible assumption)
local macro_rules | `(tactic| walk_at "ev") => `(tactic| first
  | (with_reducible assumption)
  | ((with_reducible apply ev_var); exact rfl)
  | with_reducible exact ev_int | with_reducible exact ev_str | with_reducible exact ev_bl | with_reducible exact ev_non | with_reducible exact ev_ty | with_reducible exact ev_ref
  | with_reducible exact eva_nil
  | ((with_reducible apply eva_cons); (focus (walk_at "ev")); (focus (walk_at "ev")))
  | ((with_reducible apply ev_op); (focus (walk_at "ev")); (focus (walk_at "ev")); (focus (walk_at "rv")))
  | ((with_reducible apply ev_cb); (focus (walk_at "ev")); (focus (walk_at "rc")))
  | ((with_reducible apply evt_test); (focus (walk_at "ev")))
  | ((with_reducible apply evt_b); (focus (walk_at "ev")))
  | ((with_reducible apply evt_not); (focus (walk_at "ev")))
  | ((with_reducible apply evt_and); (focus (walk_at "ev")); (focus (intro _; walk_at "ev")))
  | ((with_reducible apply evt_or); (focus (walk_at "ev")); (focus (intro _; walk_at "ev")))
  | with_reducible exact evt_yes
  | ((with_reducible apply ev_and); (focus (walk_at "ev")); (focus (intro _; walk_at "ev")))
  | ((with_reducible apply ev_or); (focus (walk_at "ev")); (focus (intro _; walk_at "ev")))
  | ((with_reducible apply ev_not); (focus (walk_at "ev")))
  | ((with_reducible apply ev_callS); (focus (walk_at "ev")); (focus (walk_at "fn")))
  | ((with_reducible apply ev_call); (focus (walk_at "ev")); (focus (walk_at "fn")))
  | ((with_reducible apply ev_tupX); (focus (walk_at "ev")); exact Nat.le_of_ble_eq_true rfl)
  | with_reducible exact evp_none
  | ((with_reducible apply evp_some); (focus (walk_at "ev")))
  | ((with_reducible apply ev_sl); (focus (walk_at "ev")); (focus (walk_at "ev")); (focus (walk_at "ev")); (focus (walk_at "rs")))
  | ((with_reducible apply ev_un); (focus (walk_at "ev")); (focus (walk_at "ru")))
  | ((with_reducible apply ev_bmT); (focus (walk_at "ev")); (focus (walk_at "ev")); (focus (walk_at "rm")))
  | ((with_reducible apply ev_bmT0); (focus (walk_at "ev")); (focus (walk_at "rm")))
  | ((with_reducible apply evi_list); (focus (walk_at "ev")))
  | ((with_reducible apply evi_tup); (focus (walk_at "ev")))
  | ((with_reducible apply evi_str); (focus (walk_at "ev")))
  | ((with_reducible apply evi_rng1); (focus (walk_at "ev")); (focus (constructor <;> walk_at "sd")))
  | ((with_reducible apply evi_rng2); (focus (walk_at "ev")); (focus (constructor <;> walk_at "sd")); (focus (constructor <;> walk_at "sd")))
  | ((with_reducible apply Ev.of_own); walk_at "eo")
  | with_reducible assumption)
local macro_rules | `(tactic| walk_at "st") => `(tactic| repeat (first
  | (with_reducible apply sv_seq)
  | ((with_reducible apply sv_set); (focus (walk_at "ev")); (focus (walk_at "at")))
  | ((with_reducible apply sv_drop); (focus (walk_at "ev")))
  | (with_reducible apply sv_next)))
local macro_rules | `(tactic| walk_at "eq") => `(tactic| (with_reducible apply ev_eq); (focus (walk_at "ev")); rfl)
theorem log_small {i : Int} (h0 : 0 ≤ i) (h : i < 100000) : i.natAbs.log2 < 1920 := by
  by_cases e : i.natAbs = 0
  · rw [e]; decide
  · rw [Nat.log2_lt e]
    calc i.natAbs < 2 ^ 17 := by omega
      _ ≤ 2 ^ 1920 := Nat.pow_le_pow_right (by decide) (by decide)
theorem ats0 {a : List Nat} {r : List (List Nat)} : atI ((a :: r).map fun x => D.str (tx x)) 0 = some (.str (tx a)) := atI_ofNat (n := 0) rfl
theorem ats1 {a b : List Nat} {r : List (List Nat)} : atI ((a :: b :: r).map fun x => D.str (tx x)) 1 = some (.str (tx b)) := atI_ofNat (n := 1) rfl
theorem ats2 {a b c : List Nat} {r : List (List Nat)} : atI ((a :: b :: c :: r).map fun x => D.str (tx x)) 2 = some (.str (tx c)) := atI_ofNat (n := 2) rfl
theorem pure_read_head {mg : Str → Option Value} {w : World} (B : Bx) (T : Tx w B.K mg) (W : WX) (ds : List D) (R : Sl → Prop) (X : Xc → Prop) (h : F_read_head B.K ds R X) : Sv B W (t_read_head w B.K W) (ini N_read_head ds) { nx := fun _ => R (.dat .non), rt := R, xc := fun x _ => X x } := by
  obtain ⟨s, d, rfl, hl, hd, hR⟩ := h
  show Sv B W (t_read_head w B.K W) [.dat (.str (tx s)), .un] _
  unfold t_read_head
  refine sv_seq (sv_set (Ev.of_own (evo_split (c := 32) rfl (by decide) (by walk_at "ev") (by walk_at "ev") (by omega))) (by walk_at "at") ?_)
  have hpl : ∀ w ∈ splt 32 s, w.length ≤ 100000 := fun w hw => Nat.le_trans (splt_len hw) hl
  have htup : ∀ Γ, Ev B (tTup (tCons (tC (.str (tx [48]))) (tCons (tC (.str (tx [49]))) (tCons (tC (.str (tx [50]))) (tCons (tC (.str (tx [51]))) (tCons (tC (.str (tx [52]))) (tCons (tC (.str (tx [53]))) tNil))))))) Γ (.tup (([[48], [49], [50], [51], [52], [53]] : List (List Nat)).map fun a => .str (tx a))) := fun Γ => ev_eq (by walk_at "ev") (by rfl)
  cases hd with
  | len h =>
    refine sv_seq (sv_if (p := true) (evt_eq (evt_or (p := true) (q := true) (evt_eq (by walk_at "ev") ?_) fun h => nomatch h) (by rfl)) (fun _ => sv_retD (by walk_at "ev") hR) fun h => nomatch h)
    rw [List.length_map, decide_eq_false (by omega)]; rfl
  | @name p l m h hp =>
    rw [h]
    refine sv_seq (sv_if (p := true) (evt_eq (evt_or (by walk_at "ev") fun _ => evt_or (p := true) (q := true) (evt_eq (evt_test (ev_op (ev_op (by walk_at "ev") (by walk_at "ev") (rv_ixL ats0)) (by walk_at "ev") rv_neT)) ?_) fun h => nomatch h) (by rfl)) (fun _ => sv_retD (by walk_at "ev") hR) fun h => nomatch h)
    rw [decide_eq_false hp]; rfl
  | @lets l m h hn =>
    rw [h]
    refine sv_seq (sv_if (p := true) (evt_eq (evt_or (by walk_at "ev") fun _ => evt_or (by walk_at "ev") fun _ => evt_not (p := false) (evt_b (ev_callS (by walk_at "ev") ⟨l, false, rfl, .inr ⟨rfl, hn⟩, rfl⟩))) (by rfl)) (fun _ => sv_retD (by walk_at "ev") hR) fun h => nomatch h)
  | @mk l m h hn hm =>
    rw [h]
    refine sv_seq (sv_if (p := false) (evt_eq (evt_or (by walk_at "ev") fun _ => evt_or (by walk_at "ev") fun _ => evt_not (p := true) (evt_b (ev_callS (by walk_at "ev") ⟨l, true, rfl, .inl ⟨rfl, hn⟩, rfl⟩))) (by rfl)) (fun h => nomatch h) fun _ => sv_next ?_)
    refine sv_seq (sv_if (p := true) (evt_eq (evt_test (ev_op (ev_op (by walk_at "ev") (by walk_at "ev") (rv_ixL ats2)) (htup _) rv_ninTs)) ?_) (fun _ => sv_retD (by walk_at "ev") hR) fun h => nomatch h)
    rw [decide_eq_false hm]; rfl
  | @ok l k h hn hk =>
    rw [h]
    refine sv_seq (sv_if (p := false) (evt_eq (evt_or (by walk_at "ev") fun _ => evt_or (by walk_at "ev") fun _ => evt_not (p := true) (evt_b (ev_callS (by walk_at "ev") ⟨l, true, rfl, .inl ⟨rfl, hn⟩, rfl⟩))) (by rfl)) (fun h => nomatch h) fun _ => sv_next ?_)
    refine sv_seq (sv_if (p := false) (evt_eq (evt_test (ev_op (ev_op (by walk_at "ev") (by walk_at "ev") (rv_ixL ats2)) (htup _) rv_ninTs)) ?_) (fun h => nomatch h) fun _ => sv_next ?_)
    · rw [decide_eq_true (show [48 + k] ∈ ([[48], [49], [50], [51], [52], [53]] : List (List Nat)) by simp; omega)]; rfl
    · refine sv_retD (ev_tupX (eva_cons (by walk_at "ev") (eva_cons (ev_cb (by walk_at "ev") (rc_intT (int1 (a := k) (by omega)) (by simp))) eva_nil)) (Nat.le_of_ble_eq_true rfl)) hR
theorem kvalK {w : World} {K : PySem.W.Frag} {mg : Str → Option Value} (T : Tx w K mg) (kd : Kd) : KVal K (He.ga K "SHAPES") (tx kd.name) (.str (tx kd.shape)) := by
  cases kd with
  | change => exact T.v_SHAPES_change
  | swap => exact T.v_SHAPES_swap
  | first => exact T.v_SHAPES_first
  | every => exact T.v_SHAPES_every
  | count => exact T.v_SHAPES_count
  | leads => exact T.v_SHAPES_leads
theorem kabs {w : World} {K : PySem.W.Frag} {mg : Str → Option Value} (T : Tx w K mg) {k : List Nat} (h : k ∈ kBad) : PySem.W.nsIn K (He.ga K "SHAPES") (tx k) = some none := by
  simp only [List.mem_cons, List.not_mem_nil, or_false] at h
  rcases h with rfl | rfl | rfl | rfl | rfl | rfl | rfl
  · exact T.a_SHAPES_
  · exact T.a_SHAPES_changes
  · exact T.a_SHAPES_swaps
  · exact T.a_SHAPES_firsts
  · exact T.a_SHAPES_everys
  · exact T.a_SHAPES_counts
  · exact T.a_SHAPES_leadss
theorem zipIdx_zip {α β : Type} (f : Nat → α → β) (e : α) : ∀ (sh : List Nat) (rest : List α) (k : Nat), sh.length = rest.length → ((sh.zipIdx k).map fun p => f p.1 (rest.getD (p.2 - k) e)) = (sh.zip rest).map fun p => f p.1 p.2
  | [], _, _, _ => rfl
  | s :: sh, [], _, h => by simp at h
  | s :: sh, x :: rest, k, h => by
    rw [List.zipIdx_cons, List.map_cons, List.zip_cons_cons, List.map_cons, Nat.sub_self]
    congr 1
    rw [← zipIdx_zip f e sh rest (k + 1) (by simpa using h)]
    refine List.map_congr_left fun p hp => ?_
    have := (List.mem_zipIdx hp).1
    rw [show p.2 - k = p.2 - (k + 1) + 1 by omega]
    rfl
theorem rdW_fl (s : Nat) (w cs : List Nat) (n : Nat) : flD (rdW s w cs n) = true := by
  unfold rdW
  split
  · unfold rdC
    split
    · split <;> rfl
    · rfl
  · split
    · unfold rdT
      split
      · rename_i t _; cases t <;> rfl
      · rfl
    · unfold rdN
      split
      · split <;> rfl
      · rfl
theorem inV_non : ∀ {ds : List D}, ds.all flD = true → inV .non (ds.map toV) = ds.any isNon
  | [], _ => rfl
  | d :: r, h => by
    rw [List.all_cons, Bool.and_eq_true] at h
    have ih := inV_non h.2
    unfold inV at ih ⊢
    rw [List.map_cons, List.any_cons, List.any_cons, ih]
    congr 1
    have := h.1
    cases d <;> first | rfl | cases this

end L

namespace L
open PySem PySem.Spec PyProof.Rows L2 Z
local macro_rules | `(tactic| walk_at "at") => `(tactic| first | with_reducible exact SetAt.zero | ((with_reducible apply SetAt.succ); walk_at "at"))
local macro_rules | `(tactic| walk_at "sd") => `(tactic| first | (with_reducible assumption) | omega | (simp only [rep_length, List.length_append, List.length_cons, List.length_nil, List.length_map, List.length_replicate, List.length_range, List.length_take, List.length_reverse] <;> omega) | decide | exact Nat.le_of_ble_eq_true rfl)
local macro_rules | `(tactic| walk_at "cm") => `(tactic| first | (with_reducible assumption) | (refine cmul_s ?_ ?_ ?_ ?_ <;> first | omega | decide))
local macro_rules | `(tactic| walk_at "rv") => `(tactic| first
  | with_reducible exact rv_add | ((with_reducible apply rv_addT); walk_at "sd") | ((with_reducible apply rv_addL); walk_at "sd") | ((with_reducible apply rv_addU); walk_at "sd")
  | with_reducible exact rv_sub | ((with_reducible apply rv_mul); walk_at "cm") | ((with_reducible apply rv_mulT) <;> walk_at "sd")
  | ((with_reducible apply rv_div); first | assumption | exact cdiv_s (by walk_at "sd") (by walk_at "sd")) | ((with_reducible apply rv_mod); walk_at "sd") | ((with_reducible apply rv_pow); exact ⟨by decide, by decide, by decide⟩)
  | with_reducible exact rv_lt | with_reducible exact rv_le | with_reducible exact rv_gt | with_reducible exact rv_ge
  | with_reducible exact rv_eqI | with_reducible exact rv_eqT | with_reducible exact rv_eqB | with_reducible exact rv_neI | with_reducible exact rv_neT | with_reducible exact rv_neB
  | ((with_reducible apply rv_ixL); first | with_reducible assumption | exact rfl) | ((with_reducible apply rv_ixU); first | with_reducible assumption | exact rfl) | ((with_reducible apply rv_ixT); (focus (first | with_reducible assumption | exact rfl)); walk_at "sd")
  | with_reducible exact rv_isN | with_reducible exact rv_isN' | with_reducible exact rv_notN'
  | with_reducible exact rv_inT | with_reducible exact rv_ninT | with_reducible exact rv_inTs | with_reducible exact rv_ninTs | with_reducible assumption)
local macro_rules | `(tactic| walk_at "rc") => `(tactic| first | with_reducible exact rc_int | with_reducible exact rc_intB | with_reducible exact rc_lenL | with_reducible exact rc_lenU | ((with_reducible apply rc_lenT); walk_at "sd") | with_reducible exact rc_min | with_reducible exact rc_tupleL | with_reducible exact rc_tupleU | with_reducible exact rc_listL | with_reducible exact rc_listU | with_reducible exact rc_max | ((with_reducible apply rc_isi); (focus (exact rfl)); first | with_reducible exact kitT | with_reducible exact kit_NoneType_int | with_reducible exact kit_NoneType_bool | with_reducible exact kit_NoneType_str | with_reducible exact kit_NoneType_list | with_reducible exact kit_NoneType_tuple | with_reducible exact kit_bool_int | with_reducible exact kit_bool_bool | with_reducible exact kit_bool_str | with_reducible exact kit_bool_list | with_reducible exact kit_bool_tuple | with_reducible exact kit_int_int | with_reducible exact kit_int_bool | with_reducible exact kit_int_str | with_reducible exact kit_int_list | with_reducible exact kit_int_tuple | with_reducible exact kit_str_int | with_reducible exact kit_str_bool | with_reducible exact kit_str_str | with_reducible exact kit_str_list | with_reducible exact kit_str_tuple | with_reducible exact kit_list_int | with_reducible exact kit_list_bool | with_reducible exact kit_list_str | with_reducible exact kit_list_list | with_reducible exact kit_list_tuple | with_reducible exact kit_tuple_int | with_reducible exact kit_tuple_bool | with_reducible exact kit_tuple_str | with_reducible exact kit_tuple_list | with_reducible exact kit_tuple_tuple | assumption | rfl) | with_reducible assumption)
local macro_rules | `(tactic| walk_at "rs") => `(tactic| first | with_reducible exact rs_slL | with_reducible exact rs_slU | ((with_reducible apply rs_slT); walk_at "sd"))
local macro_rules | `(tactic| walk_at "ru") => `(tactic| first | ((with_reducible apply ru_rev); walk_at "sd") | with_reducible exact ru_neg)
local macro_rules | `(tactic| walk_at "rm") => `(tactic| first | with_reducible exact rm_count | with_reducible assumption)
local macro_rules | `(tactic| walk_at "eo") => `(tactic| first
  | ((with_reducible apply evo_lstX); (focus (walk_at "ev")); exact Nat.le_of_ble_eq_true rfl)
  | ((with_reducible apply evo_callS); (focus (walk_at "ev")); (focus (walk_at "fn")))
  | ((with_reducible apply evo_addL rfl); (focus (walk_at "ev")); (focus (walk_at "ev")); walk_at "sd")
  | ((with_reducible apply evo_listL rfl); walk_at "ev") | ((with_reducible apply evo_listU rfl); walk_at "ev")
  | with_reducible assumption)
local macro_rules | `(tactic| walk_at "ev") => `(tactic| first
  | (with_reducible assumption)
  | ((with_reducible apply ev_var); exact rfl)
  | with_reducible exact ev_int | with_reducible exact ev_str | with_reducible exact ev_bl | with_reducible exact ev_non | with_reducible exact ev_ty | with_reducible exact ev_ref
  | with_reducible exact eva_nil
  | ((with_reducible apply eva_cons); (focus (walk_at "ev")); (focus (walk_at "ev")))
  | ((with_reducible apply ev_op); (focus (walk_at "ev")); (focus (walk_at "ev")); (focus (walk_at "rv")))
  | ((with_reducible apply ev_cb); (focus (walk_at "ev")); (focus (walk_at "rc")))
  | ((with_reducible apply evt_test); (focus (walk_at "ev")))
  | ((with_reducible apply evt_b); (focus (walk_at "ev")))
  | ((with_reducible apply evt_not); (focus (walk_at "ev")))
  | ((with_reducible apply evt_and); (focus (walk_at "ev")); (focus (intro _; walk_at "ev")))
  | ((with_reducible apply evt_or); (focus (walk_at "ev")); (focus (intro _; walk_at "ev")))
  | with_reducible exact evt_yes
  | ((with_reducible apply ev_and); (focus (walk_at "ev")); (focus (intro _; walk_at "ev")))
  | ((with_reducible apply ev_or); (focus (walk_at "ev")); (focus (intro _; walk_at "ev")))
  | ((with_reducible apply ev_not); (focus (walk_at "ev")))
  | ((with_reducible apply ev_callS); (focus (walk_at "ev")); (focus (walk_at "fn")))
  | ((with_reducible apply ev_call); (focus (walk_at "ev")); (focus (walk_at "fn")))
  | ((with_reducible apply ev_tupX); (focus (walk_at "ev")); exact Nat.le_of_ble_eq_true rfl)
  | with_reducible exact evp_none
  | ((with_reducible apply evp_some); (focus (walk_at "ev")))
  | ((with_reducible apply ev_sl); (focus (walk_at "ev")); (focus (walk_at "ev")); (focus (walk_at "ev")); (focus (walk_at "rs")))
  | ((with_reducible apply ev_un); (focus (walk_at "ev")); (focus (walk_at "ru")))
  | ((with_reducible apply ev_bmT); (focus (walk_at "ev")); (focus (walk_at "ev")); (focus (walk_at "rm")))
  | ((with_reducible apply ev_bmT0); (focus (walk_at "ev")); (focus (walk_at "rm")))
  | ((with_reducible apply evi_list); (focus (walk_at "ev")))
  | ((with_reducible apply evi_tup); (focus (walk_at "ev")))
  | ((with_reducible apply evi_str); (focus (walk_at "ev")))
  | ((with_reducible apply evi_rng1); (focus (walk_at "ev")); (focus (constructor <;> walk_at "sd")))
  | ((with_reducible apply evi_rng2); (focus (walk_at "ev")); (focus (constructor <;> walk_at "sd")); (focus (constructor <;> walk_at "sd")))
  | ((with_reducible apply Ev.of_own); walk_at "eo")
  | with_reducible assumption)
local macro_rules | `(tactic| walk_at "st") => `(tactic| repeat (first
  | (with_reducible apply sv_seq)
  | ((with_reducible apply sv_set); (focus (walk_at "ev")); (focus (walk_at "at")))
  | ((with_reducible apply sv_drop); (focus (walk_at "ev")))
  | (with_reducible apply sv_next)))
local macro_rules | `(tactic| walk_at "eq") => `(tactic| (with_reducible apply ev_eq); (focus (walk_at "ev")); rfl)
theorem sh_shape {kd : Kd} (h : kd ≠ .count) (m : Nat) : kd.sh m = kd.shape := by unfold Kd.sh; rw [if_neg h]
theorem shape_cs (kd : Kd) : decide (kd.shape = [99, 115]) = decide (kd = .count) := by cases kd <;> decide
theorem name_count (kd : Kd) : decide (kd.name = kCount) = decide (kd = .count) := by cases kd <;> decide
theorem sh_mark {kd : Kd} {m : Nat} : ∀ s ∈ kd.sh m, s = 99 ∨ s = 110 ∨ s = 116 := by
  cases kd with
  | count =>
    intro s hs
    unfold Kd.sh at hs
    rw [if_pos rfl] at hs
    rcases List.mem_cons.mp hs with rfl | hs
    · exact .inl rfl
    · exact .inr (.inr (List.eq_of_mem_replicate hs))
  | _ => intro s hs; simp [Kd.sh, Kd.shape] at hs; omega
theorem rep_one (k : Nat) : rep k [116] = List.replicate k 116 := by
  induction k with
  | zero => rfl
  | succ k ih => simp [rep, List.replicate_succ] at ih ⊢
theorem getD_len {l : List (List Nat)} {b : Nat} (h : ∀ w ∈ l, w.length ≤ b) (k : Nat) : (l.getD k []).length ≤ b := by
  rw [List.getD_eq_getElem?_getD]
  cases e : l[k]? with
  | none => simp
  | some x => exact h x (List.mem_of_getElem? e)
theorem pure_read_line {mg : Str → Option Value} {w : World} (B : Bx) (T : Tx w B.K mg) (W : WX) (ds : List D) (R : Sl → Prop) (X : Xc → Prop) (h : F_read_line B.K ds R X) : Sv B W (t_read_line w B.K W) (ini N_read_line ds) { nx := fun _ => R (.dat .non), rt := R, xc := fun x _ => X x } := by
  obtain ⟨line, cs, i, n, d, rfl, hl, hi, hd, hR⟩ := h
  show Sv B W (t_read_line w B.K W) [.dat (.str (tx line)), .dat (.int i), .dat (.str (tx cs)), .dat (.int n), .un, .un, .un, .un, .un] _
  unfold t_read_line
  refine sv_seq (sv_set (Ev.of_own (evo_split (c := 32) rfl (by decide) (by walk_at "ev") (by walk_at "ev") (by omega))) (by walk_at "at") ?_)
  have hpl : ∀ w ∈ splt 32 line, w.length ≤ 100000 := fun w hw => Nat.le_trans (splt_len hw) hl
  have hnum : ∀ Γ : List Sl, Γ[1]? = some (.dat (.int i)) → Ev B (tCB zStr (tCons (tVar 1) tNil)) Γ (.str (tx (itxt i))) := fun Γ hΓ => ev_cb (eva_cons (ev_var hΓ) eva_nil) (rc_str (log_small (by omega) (by omega)))
  have h3 : ∀ k : Nat, decide (((((k + 1 + 1 + 1) : Nat) : Int)) < 3) = false := fun k => decide_eq_false (by omega)
  cases hd with
  | short h =>
    refine sv_seq (sv_if (p := true) (evt_eq (evt_or (p := true) (q := true) (evt_eq (by walk_at "ev") ?_) fun h => nomatch h) (by rfl)) (fun _ => sv_retD (by walk_at "ev") hR) fun h => nomatch h)
    rw [List.length_map, decide_eq_true (by omega)]
  | @num u v x r h hw =>
    rw [h]
    refine sv_seq (sv_if (p := true) (evt_eq (evt_or (by walk_at "ev") fun _ => evt_or (p := true) (q := true) (evt_eq (evt_test (ev_op (ev_op (by walk_at "ev") (by walk_at "ev") (rv_ixL ats0)) (hnum _ rfl) rv_neT)) ?_) fun h => nomatch h) (by simp)) (fun _ => sv_retD (by walk_at "ev") hR) fun h => nomatch h)
    rw [decide_eq_false hw]; rfl
  | @key k v r h hk =>
    rw [h]
    refine sv_seq (sv_if (p := true) (evt_eq (evt_or (by walk_at "ev") fun _ => evt_or (evt_test (ev_op (ev_op (by walk_at "ev") (by walk_at "ev") (rv_ixL ats0)) (hnum _ rfl) rv_neT)) fun _ => evt_test (p := true) (ev_op (ev_op (by walk_at "ev") (by walk_at "ev") (rv_ixL ats1)) (by walk_at "ev") (rv_KNotInN (kabs T hk)))) (by simp)) (fun _ => sv_retD (by walk_at "ev") hR) fun h => nomatch h)
  | @rest kd v r h =>
    have hpl2 : ∀ w ∈ v :: r, w.length ≤ 100000 := fun w hw => hpl w (by rw [h]; exact List.mem_cons_of_mem _ (List.mem_cons_of_mem _ hw))
    rw [h]
    refine sv_seq (sv_if (p := false) (evt_eq (evt_or (by walk_at "ev") fun _ => evt_or (evt_test (ev_op (ev_op (by walk_at "ev") (by walk_at "ev") (rv_ixL ats0)) (hnum _ rfl) rv_neT)) fun _ => evt_test (p := false) (ev_op (ev_op (by walk_at "ev") (by walk_at "ev") (rv_ixL ats1)) (by walk_at "ev") (rv_KNotInY (kvalK T kd)))) ?_) (fun h => nomatch h) fun _ => sv_next ?_)
    · simp only [List.map_cons, List.length_cons, h3, decide_true]; rfl
    refine sv_seq (sv_set (ev_op (by walk_at "ev") (ev_op (by walk_at "ev") (by walk_at "ev") (rv_ixL ats1)) (rv_KIx (kvalK T kd) fun G => .str _)) (by walk_at "at") ?_)
    have hif : ∀ P : Po, P.nx [.dat (.str (tx line)), .dat (.int i), .dat (.str (tx cs)), .dat (.int n), .dat (.lst ((itxt i :: kd.name :: v :: r).map fun x => .str (tx x))), .dat (.str (tx (kd.sh (v :: r).length))), .un, .un, .un] → Sv B W (tIfS (tTest (tOp (zEq B.K) (tVar 5) (tC (.str (tx [99, 115]))))) (tAsg (tOp (zAdd B.K) (tC (.str (tx [99]))) (tOp zMul (tC (.str (tx [116]))) (tCB zMin2 (tCons (tCB zMax2 (tCons (tOp zSub (tCB (zLen B.K) (tCons (tVar 4) tNil)) (tC (.int 3))) (tCons (tC (.int 1)) tNil))) (tCons (tC (.int 6)) tNil))))) (gName 5)) tNext)
        [.dat (.str (tx line)), .dat (.int i), .dat (.str (tx cs)), .dat (.int n), .dat (.lst ((itxt i :: kd.name :: v :: r).map fun x => .str (tx x))), .dat (.str (tx kd.shape)), .un, .un, .un] P := fun P hP => by
      by_cases hk : kd = .count
      · refine sv_if (p := true) (evt_eq (by walk_at "ev") (by rw [shape_cs, decide_eq_true hk])) (fun _ => ?_) fun h => nomatch h
        have hlen : Ev B (tCB zMin2 (tCons (tCB zMax2 (tCons (tOp zSub (tCB (zLen B.K) (tCons (tVar 4) tNil)) (tC (.int 3))) (tCons (tC (.int 1)) tNil))) (tCons (tC (.int 6)) tNil))) [.dat (.str (tx line)), .dat (.int i), .dat (.str (tx cs)), .dat (.int n), .dat (.lst ((itxt i :: kd.name :: v :: r).map fun x => .str (tx x))), .dat (.str (tx kd.shape)), .un, .un, .un] (.int ((min (max ((v :: r).length - 1) 1) 6 : Nat) : Int)) := ev_eq (by walk_at "ev") (by
          congr 1
          simp only [List.map_cons, List.length_cons, List.length_map]
          split <;> split <;> omega)
        refine sv_set (d := .str (tx (kd.sh (v :: r).length))) (ev_eq (ev_op (by walk_at "ev") (ev_op (by walk_at "ev") hlen (rv_mulT (by omega) (by omega) (by simp; omega))) (rv_addT (by rw [rep_one]; simp; omega))) ?_) (by walk_at "at") hP
        rw [rep_one, Int.toNat_natCast]
        unfold Kd.sh
        rw [if_pos hk]
        rfl
      · refine sv_if (p := false) (evt_eq (by walk_at "ev") (by rw [shape_cs, decide_eq_false hk])) (fun h => nomatch h) fun _ => sv_next ?_
        rw [sh_shape hk] at hP
        exact hP
    refine sv_seq (hif _ ?_)
    have hsl := sh_len kd (v :: r).length
    by_cases hlen : (v :: r).length = (kd.sh (v :: r).length).length
    · refine sv_seq (sv_if (p := false) (evt_eq (by walk_at "ev") ?_) (fun h => nomatch h) fun _ => sv_next ?_)
      · rw [List.length_map, decide_eq_true (by simp only [List.length_cons] at hlen ⊢; omega)]; rfl
      refine sv_seq (sv_set (d := .lst (itsOf kd (v :: r) cs n)) ?_ (by walk_at "at") ?_)
      · have hz := zipIdx_zip (fun (s : Nat) (x : List Nat) => rdW s x cs n) [] (kd.sh (v :: r).length) (v :: r) 0 hlen.symm
        have e := evo_map2 (B := B) (wi := iEnumZ B.K (tCons (tVar 5) tNil)) (Γ := [.dat (.str (tx line)), .dat (.int i), .dat (.str (tx cs)), .dat (.int n), .dat (.lst ((itxt i :: kd.name :: v :: r).map fun x => .str (tx x))), .dat (.str (tx (kd.sh (v :: r).length))), .un, .un, .un])
          (te := tCall (spz B.K (F_read_word B.K)) [] E0 (tCons (tVar 8) (tCons (tOp (zIx B.K) (tVar 4) (tOp (zAdd B.K) (tVar 7) (tC (.int 2)))) (tCons (tVar 2) (tCons (tVar 3) tNil))))) (i := 7) (j := 8) (fun p : Nat × Nat => .int (p.2 : Nat)) (fun p : Nat × Nat => .str (tx [p.1])) (kd.sh (v :: r).length).zipIdx (fun p => rdW p.1 ((v :: r).getD (p.2 - 0) []) cs n) (by decide) (evi_enumS (by walk_at "ev")) (Nat.le_of_ble_eq_true rfl) (Nat.le_of_ble_eq_true rfl) (by rw [List.length_zipIdx]; omega) fun p hp => by
            have hp2 := List.mem_zipIdx' hp
            have hlt : p.2 < (v :: r).length := by rw [hlen]; exact hp2.1
            have hix : atI ((itxt i :: kd.name :: v :: r).map fun x => D.str (tx x)) ((p.2 : Int) + 2) = some (.str (tx ((v :: r).getD (p.2 - 0) []))) := atI_ofNat (n := p.2 + 2) (by
              rw [List.getElem?_map]
              show Option.map _ ((v :: r)[p.2]?) = _
              rw [List.getD_eq_getElem?_getD, Nat.sub_zero, List.getElem?_eq_getElem hlt]
              rfl)
            exact ev_call (eva_cons (by walk_at "ev") (eva_cons (ev_op (by walk_at "ev") (by walk_at "ev") (rv_ixL hix)) (by walk_at "ev"))) ⟨p.1, _, cs, n, rfl, getD_len hpl2 _, rfl⟩
        rw [hz] at e
        exact Ev.of_own e
      have hfl : (itsOf kd (v :: r) cs n).all flD = true := by
        unfold itsOf
        rw [List.all_map, List.all_eq_true]
        exact fun p _ => rdW_fl _ _ _ _
      have hil : (itsOf kd (v :: r) cs n).length = (v :: r).length := by
        unfold itsOf
        rw [List.length_map, List.length_zip, ← hlen, Nat.min_self]
      cases hb : (itsOf kd (v :: r) cs n).any isNon with
      | true =>
        rw [rdRest_non (.inl hb)] at hR
        refine sv_seq (sv_if (p := true) (evt_eq (evt_test (ev_op (by walk_at "ev") (by walk_at "ev") (rv_inFL rfl hfl))) (by rw [show toV .non = V.non from rfl, inV_non hfl, hb])) (fun _ => sv_retD (by walk_at "ev") hR) fun h => nomatch h)
      | false =>
        refine sv_seq (sv_if (p := false) (evt_eq (evt_test (ev_op (by walk_at "ev") (by walk_at "ev") (rv_inFL rfl hfl))) (by rw [show toV .non = V.non from rfl, inV_non hfl, hb])) (fun h => nomatch h) fun _ => sv_next ?_)
        unfold rdRest at hR
        rw [if_neg (by rw [← hlen]; simp), hb, if_neg Bool.false_ne_true] at hR
        by_cases hk : kd = .count
        · refine sv_seq (sv_if (p := true) (evt_eq (evt_test (ev_op (ev_op (by walk_at "ev") (by walk_at "ev") (rv_ixL ats1)) (by walk_at "ev") rv_eqT)) (by rw [name_count, decide_eq_true hk])) (fun _ => ?_) fun h => nomatch h)
          rw [if_pos hk] at hR
          cases ei : itsOf kd (v :: r) cs n with
          | nil => rw [ei] at hil; simp at hil
          | cons x q =>
            rw [ei] at hR
            refine sv_retD (ev_tupX (eva_cons (ev_op (by walk_at "ev") (by walk_at "ev") (rv_ixL ats1)) (eva_cons (ev_op (by walk_at "ev") (by walk_at "ev") (rv_ixL (show atI (x :: q) (0 : Int) = some x from atI_ofNat (n := 0) rfl))) (eva_cons (ev_sl (by walk_at "ev") (by walk_at "ev") (by walk_at "ev") rs_slL) eva_nil))) (Nat.le_of_ble_eq_true rfl)) hR ?_
            have := cut_drop (x :: q) 1
            rw [show ((1 : Nat) : Int) = 1 from rfl] at this
            rw [this]
            rfl
        · refine sv_seq (sv_if (p := false) (evt_eq (evt_test (ev_op (ev_op (by walk_at "ev") (by walk_at "ev") (rv_ixL ats1)) (by walk_at "ev") rv_eqT)) (by rw [name_count, decide_eq_false hk])) (fun h => nomatch h) fun _ => sv_next ?_)
          rw [if_neg hk] at hR
          refine sv_retD (ev_cb (eva_cons (Ev.of_own (evo_addL (as := [.str (tx kd.name)]) rfl (Ev.of_own (evo_lstX (eva_cons (ev_op (by walk_at "ev") (by walk_at "ev") (rv_ixL ats1)) eva_nil) (Nat.le_of_ble_eq_true rfl))) (by walk_at "ev") (by have h7 := hsl; rw [← hlen] at h7; rw [hil, List.length_singleton]; omega))) eva_nil) rc_tupleL) hR
    · rw [rdRest_non (.inr hlen)] at hR
      refine sv_seq (sv_if (p := true) (evt_eq (by walk_at "ev") ?_) (fun _ => sv_retD (by walk_at "ev") hR) fun h => nomatch h)
      rw [List.length_map, decide_eq_false (by simp only [List.length_cons] at hlen ⊢; omega)]; rfl

end L

namespace L
open PySem PySem.Spec PyProof.Rows L2 Z
local macro_rules | `(tactic| walk_at "at") => `(tactic| first | with_reducible exact SetAt.zero | ((with_reducible apply SetAt.succ); walk_at "at"))
local macro_rules | `(tactic| walk_at "sd") => `(tactic| first | (with_reducible assumption) | omega | (simp only [rep_length, List.length_append, List.length_cons, List.length_nil, List.length_map, List.length_replicate, List.length_range, List.length_take, List.length_reverse] <;> omega) | decide | exact Nat.le_of_ble_eq_true rfl)
local macro_rules | `(tactic| walk_at "cm") => `(tactic| first | (with_reducible assumption) | (refine cmul_s ?_ ?_ ?_ ?_ <;> first | omega | decide))
local macro_rules | `(tactic| walk_at "rv") => `(tactic| first
  | with_reducible exact rv_add | ((with_reducible apply rv_addT); walk_at "sd") | ((with_reducible apply rv_addL); walk_at "sd") | ((with_reducible apply rv_addU); walk_at "sd")
  | with_reducible exact rv_sub | ((with_reducible apply rv_mul); walk_at "cm") | ((with_reducible apply rv_mulT) <;> walk_at "sd")
  | ((with_reducible apply rv_div); first | assumption | exact cdiv_s (by walk_at "sd") (by walk_at "sd")) | ((with_reducible apply rv_mod); walk_at "sd") | ((with_reducible apply rv_pow); exact ⟨by decide, by decide, by decide⟩)
  | with_reducible exact rv_lt | with_reducible exact rv_le | with_reducible exact rv_gt | with_reducible exact rv_ge
  | with_reducible exact rv_eqI | with_reducible exact rv_eqT | with_reducible exact rv_eqB | with_reducible exact rv_neI | with_reducible exact rv_neT | with_reducible exact rv_neB
  | ((with_reducible apply rv_ixL); first | with_reducible assumption | exact rfl) | ((with_reducible apply rv_ixU); first | with_reducible assumption | exact rfl) | ((with_reducible apply rv_ixT); (focus (first | with_reducible assumption | exact rfl)); walk_at "sd")
  | with_reducible exact rv_isN | with_reducible exact rv_isN' | with_reducible exact rv_notN'
  | with_reducible exact rv_inT | with_reducible exact rv_ninT | with_reducible exact rv_inTs | with_reducible exact rv_ninTs | with_reducible assumption)
local macro_rules | `(tactic| walk_at "rc") => `(tactic| first | with_reducible exact rc_int | with_reducible exact rc_intB | with_reducible exact rc_lenL | with_reducible exact rc_lenU | ((with_reducible apply rc_lenT); walk_at "sd") | with_reducible exact rc_min | with_reducible exact rc_tupleL | with_reducible exact rc_tupleU | with_reducible exact rc_listL | with_reducible exact rc_listU | with_reducible exact rc_max | ((with_reducible apply rc_isi); (focus (exact rfl)); first | with_reducible exact kitT | with_reducible exact kit_NoneType_int | with_reducible exact kit_NoneType_bool | with_reducible exact kit_NoneType_str | with_reducible exact kit_NoneType_list | with_reducible exact kit_NoneType_tuple | with_reducible exact kit_bool_int | with_reducible exact kit_bool_bool | with_reducible exact kit_bool_str | with_reducible exact kit_bool_list | with_reducible exact kit_bool_tuple | with_reducible exact kit_int_int | with_reducible exact kit_int_bool | with_reducible exact kit_int_str | with_reducible exact kit_int_list | with_reducible exact kit_int_tuple | with_reducible exact kit_str_int | with_reducible exact kit_str_bool | with_reducible exact kit_str_str | with_reducible exact kit_str_list | with_reducible exact kit_str_tuple | with_reducible exact kit_list_int | with_reducible exact kit_list_bool | with_reducible exact kit_list_str | with_reducible exact kit_list_list | with_reducible exact kit_list_tuple | with_reducible exact kit_tuple_int | with_reducible exact kit_tuple_bool | with_reducible exact kit_tuple_str | with_reducible exact kit_tuple_list | with_reducible exact kit_tuple_tuple | assumption | rfl) | with_reducible assumption)
local macro_rules | `(tactic| walk_at "rs") => `(tactic| first | with_reducible exact rs_slL | with_reducible exact rs_slU | ((with_reducible apply rs_slT); walk_at "sd"))
local macro_rules | `(tactic| walk_at "ru") => `(tactic| first | ((with_reducible apply ru_rev); walk_at "sd") | with_reducible exact ru_neg)
local macro_rules | `(tactic| walk_at "rm") => `(tactic| first | with_reducible exact rm_count | with_reducible assumption)
local macro_rules | `(tactic| walk_at "eo") => `(tactic| first
  | ((with_reducible apply evo_lstX); (focus (walk_at "ev")); exact Nat.le_of_ble_eq_true rfl)
  | ((with_reducible apply evo_callS); (focus (walk_at "ev")); (focus (walk_at "fn")))
  | ((with_reducible apply evo_addL rfl); (focus (walk_at "ev")); (focus (walk_at "ev")); walk_at "sd")
  | ((with_reducible apply evo_listL rfl); walk_at "ev") | ((with_reducible apply evo_listU rfl); walk_at "ev")
  | with_reducible assumption)
local macro_rules | `(tactic| walk_at "ev") => `(tactic| first
  | (with_reducible assumption)
  | ((with_reducible apply ev_var); exact rfl)
  | with_reducible exact ev_int | with_reducible exact ev_str | with_reducible exact ev_bl | with_reducible exact ev_non | with_reducible exact ev_ty | with_reducible exact ev_ref
  | with_reducible exact eva_nil
  | ((with_reducible apply eva_cons); (focus (walk_at "ev")); (focus (walk_at "ev")))
  | ((with_reducible apply ev_op); (focus (walk_at "ev")); (focus (walk_at "ev")); (focus (walk_at "rv")))
  | ((with_reducible apply ev_cb); (focus (walk_at "ev")); (focus (walk_at "rc")))
  | ((with_reducible apply evt_test); (focus (walk_at "ev")))
  | ((with_reducible apply evt_b); (focus (walk_at "ev")))
  | ((with_reducible apply evt_not); (focus (walk_at "ev")))
  | ((with_reducible apply evt_and); (focus (walk_at "ev")); (focus (intro _; walk_at "ev")))
  | ((with_reducible apply evt_or); (focus (walk_at "ev")); (focus (intro _; walk_at "ev")))
  | with_reducible exact evt_yes
  | ((with_reducible apply ev_and); (focus (walk_at "ev")); (focus (intro _; walk_at "ev")))
  | ((with_reducible apply ev_or); (focus (walk_at "ev")); (focus (intro _; walk_at "ev")))
  | ((with_reducible apply ev_not); (focus (walk_at "ev")))
  | ((with_reducible apply ev_callS); (focus (walk_at "ev")); (focus (walk_at "fn")))
  | ((with_reducible apply ev_call); (focus (walk_at "ev")); (focus (walk_at "fn")))
  | ((with_reducible apply ev_tupX); (focus (walk_at "ev")); exact Nat.le_of_ble_eq_true rfl)
  | with_reducible exact evp_none
  | ((with_reducible apply evp_some); (focus (walk_at "ev")))
  | ((with_reducible apply ev_sl); (focus (walk_at "ev")); (focus (walk_at "ev")); (focus (walk_at "ev")); (focus (walk_at "rs")))
  | ((with_reducible apply ev_un); (focus (walk_at "ev")); (focus (walk_at "ru")))
  | ((with_reducible apply ev_bmT); (focus (walk_at "ev")); (focus (walk_at "ev")); (focus (walk_at "rm")))
  | ((with_reducible apply ev_bmT0); (focus (walk_at "ev")); (focus (walk_at "rm")))
  | ((with_reducible apply evi_list); (focus (walk_at "ev")))
  | ((with_reducible apply evi_tup); (focus (walk_at "ev")))
  | ((with_reducible apply evi_str); (focus (walk_at "ev")))
  | ((with_reducible apply evi_rng1); (focus (walk_at "ev")); (focus (constructor <;> walk_at "sd")))
  | ((with_reducible apply evi_rng2); (focus (walk_at "ev")); (focus (constructor <;> walk_at "sd")); (focus (constructor <;> walk_at "sd")))
  | ((with_reducible apply Ev.of_own); walk_at "eo")
  | with_reducible assumption)
local macro_rules | `(tactic| walk_at "st") => `(tactic| repeat (first
  | (with_reducible apply sv_seq)
  | ((with_reducible apply sv_set); (focus (walk_at "ev")); (focus (walk_at "at")))
  | ((with_reducible apply sv_drop); (focus (walk_at "ev")))
  | (with_reducible apply sv_next)))
local macro_rules | `(tactic| walk_at "eq") => `(tactic| (with_reducible apply ev_eq); (focus (walk_at "ev")); rfl)
theorem Tg.zs {B : Bx} {Γ : List Sl} {n : Nat} (hn : n < 10) (h : Γ[0]? = some (.dat (Tg.d (.to n)))) : Ev B (tCB zStr (tCons (tVar 0) tNil)) Γ (.str (tx (Tg.w (.to n)))) := ev_cb (eva_cons (ev_var (d := .int n) h) eva_nil) (rc_str (log_small (by omega) (by omega)))
theorem pure_target_note {mg : Str → Option Value} {w : World} (B : Bx) (T : Tx w B.K mg) (W : WX) (ds : List D) (R : Sl → Prop) (X : Xc → Prop) (h : F_target_note B.K ds R X) : Sv B W (t_target_note w B.K W) (ini N_target_note ds) { nx := fun _ => R (.dat .non), rt := R, xc := fun x _ => X x } := by
  obtain ⟨t, rfl, ht, hR⟩ := h
  show Sv B W (t_target_note w B.K W) [.dat t.d] _
  unfold t_target_note
  cases t with
  | wd b =>
    cases b with
    | true => exact sv_seq (sv_if (p := true) (evt_test (ev_op (b := .bl true) (by walk_at "ev") (by walk_at "ev") rv_isB)) (fun _ => sv_retD (by walk_at "ev") hR) fun h => nomatch h)
    | false => exact sv_seq (sv_if (p := false) (evt_test (ev_op (b := .bl true) (by walk_at "ev") (by walk_at "ev") rv_isB)) (fun h => nomatch h) fun _ => sv_next (sv_seq (sv_if (p := true) (evt_test (ev_op (b := .bl false) (by walk_at "ev") (by walk_at "ev") rv_isB)) (fun _ => sv_retD (by walk_at "ev") hR) fun h => nomatch h)))
  | to n =>
    exact sv_seq (sv_if (p := false) (evt_test (ev_op (b := .bl true) (by walk_at "ev") (by walk_at "ev") rv_isB)) (fun h => nomatch h) fun _ => sv_next (sv_seq (sv_if (p := false) (evt_test (ev_op (b := .bl false) (by walk_at "ev") (by walk_at "ev") rv_isB)) (fun h => nomatch h) fun _ => sv_next (sv_ret (Tg.zs (ht n rfl) rfl) hR))))
theorem pure__law_word {mg : Str → Option Value} {w : World} (B : Bx) (T : Tx w B.K mg) (W : WX) (ds : List D) (R : Sl → Prop) (X : Xc → Prop) (h : F__law_word B.K ds R X) : Sv B W (t__law_word w B.K W) (ini N__law_word ds) { nx := fun _ => R (.dat .non), rt := R, xc := fun x _ => X x } := by
  obtain ⟨t, rfl, ht, hR⟩ := h
  show Sv B W (t__law_word w B.K W) [.dat t.d] _
  unfold t__law_word
  cases t with
  | wd b =>
    refine sv_seq (sv_if (p := true) (evt_b (ev_cb (eva_cons (ev_var (d := .bl b) rfl) (by walk_at "ev")) (by walk_at "rc"))) (fun _ => ?_) fun h => nomatch h)
    cases b with
    | true => exact sv_retD (ev_op (by walk_at "ev") (ev_cb (eva_cons (ev_var (d := .bl true) rfl) eva_nil) rc_intB) (rv_ixL (show atI [D.str (tx wNo), D.str (tx wYes)] 1 = some _ from atI_ofNat (n := 1) rfl))) hR
    | false => exact sv_retD (ev_op (by walk_at "ev") (ev_cb (eva_cons (ev_var (d := .bl false) rfl) eva_nil) rc_intB) (rv_ixL (show atI [D.str (tx wNo), D.str (tx wYes)] 0 = some _ from atI_ofNat (n := 0) rfl))) hR
  | to n =>
    exact sv_seq (sv_if (p := false) (evt_b (ev_cb (eva_cons (ev_var (d := .int n) rfl) (by walk_at "ev")) (by walk_at "rc"))) (fun h => nomatch h) fun _ => sv_next (sv_ret (Tg.zs (ht n rfl) rfl) hR))
theorem pure_item_note {mg : Str → Option Value} {w : World} (B : Bx) (T : Tx w B.K mg) (W : WX) (ds : List D) (R : Sl → Prop) (X : Xc → Prop) (h : F_item_note B.K ds R X) : Sv B W (t_item_note w B.K W) (ini N_item_note ds) { nx := fun _ => R (.dat .non), rt := R, xc := fun x _ => X x } := by
  obtain ⟨s, it, x, rfl, hi, hR⟩ := h
  show Sv B W (t_item_note w B.K W) [.dat (.str (tx [s])), .dat it, .un] _
  unfold t_item_note
  have hc : ∀ k : Nat, s ≠ k → decide ([s] = [k]) = false := fun k h => decide_eq_false fun e => h (by injection e)
  cases hi with
  | c a => exact sv_seq (sv_if (p := true) (evt_eq (by walk_at "ev") (by decide)) (fun _ => sv_retD (by walk_at "ev") hR) fun h => nomatch h)
  | s ts h6 hk =>
    refine sv_seq (sv_if (p := false) (evt_eq (by walk_at "ev") (by decide)) (fun h => nomatch h) fun _ => sv_next ?_)
    refine sv_seq (sv_if (p := true) (evt_eq (by walk_at "ev") (by decide)) (fun _ => ?_) fun h => nomatch h)
    have hw : ∀ x ∈ ts.map Tg.w, x.length ≤ 3 := fun x hx => by
      obtain ⟨t, ht, rfl⟩ := List.mem_map.mp hx
      exact w_len (n := 10) (Nat.le_refl _) (hk t ht)
    have hsum : ∀ l : List (List Nat), (∀ x ∈ l, x.length ≤ 3) → (l.map (·.length)).sum ≤ 3 * l.length := by
      intro l
      induction l with
      | nil => intro _; simp
      | cons x r ih => intro h; have := h x (by simp); have := ih fun y hy => h y (by simp [hy]); simp; omega
    refine sv_ret (ev_bmT (by walk_at "ev") (eva_cons (Ev.of_own (evo_map1 Tg.d ts (fun t => D.str (tx t.w)) (evi_tup (by walk_at "ev")) (Nat.le_of_ble_eq_true rfl) (by omega) fun t ht => ev_call (by walk_at "ev") ⟨t, rfl, hk t ht, rfl⟩)) eva_nil) ?_) hR
    have e : ts.map (fun t => D.str (tx t.w)) = (ts.map Tg.w).map fun x => D.str (tx x) := by rw [List.map_map]; rfl
    rw [e]
    refine rm_join ?_
    have := hsum _ hw
    rw [List.length_map] at this ⊢
    simp only [List.length_singleton]
    omega
  | t _ h1 h2 t ht =>
    refine sv_seq (sv_if (p := false) (evt_eq (by walk_at "ev") (hc _ h1)) (fun h => nomatch h) fun _ => sv_next ?_)
    refine sv_seq (sv_if (p := false) (evt_eq (by walk_at "ev") (hc _ h2)) (fun h => nomatch h) fun _ => sv_next ?_)
    exact sv_ret (ev_callS (by walk_at "ev") ⟨t, rfl, ht, rfl⟩) hR
/-- an item of a line and its words -/
inductive ItN : D → List (List Nat) → Prop
  | c (a : Nat) : ItN (.str (tx [a])) [[a]]
  | s (ts : List Tg) (h : ts.length ≤ 6) (k : ∀ t ∈ ts, ∀ k, t.num = some k → k < 10) : ItN (.tup (ts.map Tg.d)) (ts.map Tg.w)
  | t (t : Tg) (k : ∀ k, t.num = some k → k < 10) : ItN t.d [t.w]
theorem its_n {l : Ln} {cs : List Nat} {n : Nat} (hn : n ≤ 10) (h : l.ok cs n) : ∃ ps : List (D × List (List Nat)), l.items = ps.map (·.1) ∧ l.ws = (ps.map (·.2)).flatten ∧ (∀ p ∈ ps, ItN p.1 p.2) ∧ ps.length ≤ 5 := by
  have ht : ∀ {t : Tg}, (∀ k, t.num = some k → k < n) → ∀ k, t.num = some k → k < 10 := fun h k e => by have := h k e; omega
  cases l with
  | one s a b t => exact ⟨[(_, _), (_, _), (_, _)], rfl, rfl, by
      intro p hp
      simp only [List.mem_cons, List.not_mem_nil, or_false] at hp
      rcases hp with rfl | rfl | rfl
      · exact .c a
      · exact .c b
      · exact .t t (ht h.2.2), by simp⟩
  | first a b t u => exact ⟨[(_, _), (_, _), (_, _), (_, _)], rfl, rfl, by
      intro p hp
      simp only [List.mem_cons, List.not_mem_nil, or_false] at hp
      rcases hp with rfl | rfl | rfl | rfl
      · exact .c a
      · exact .c b
      · exact .t t (ht fun k e => h.2.2 k (.inl e))
      · exact .t u (ht fun k e => h.2.2 k (.inr e)), by simp⟩
  | every a b s t u => exact ⟨[(_, _), (_, _), (_, _), (_, _), (_, _)], rfl, rfl, by
      intro p hp
      simp only [List.mem_cons, List.not_mem_nil, or_false] at hp
      rcases hp with rfl | rfl | rfl | rfl | rfl
      · exact .c a
      · exact .c b
      · exact .t (.to s) (fun k e => by cases e; have := h.2.2.2.1; omega)
      · exact .t t (ht fun k e => h.2.2.2.2 k (.inl e))
      · exact .t u (ht fun k e => h.2.2.2.2 k (.inr e)), by simp⟩
  | leads a t u => exact ⟨[(_, _), (_, _), (_, _)], rfl, rfl, by
      intro p hp
      simp only [List.mem_cons, List.not_mem_nil, or_false] at hp
      rcases hp with rfl | rfl | rfl
      · exact .c a
      · exact .t t (ht fun k e => h.2 k (.inl e))
      · exact .t u (ht fun k e => h.2 k (.inr e)), by simp⟩
  | count a ts => exact ⟨[(_, [[a]]), (_, ts.map Tg.w)], rfl, by simp [Ln.ws], by
      intro p hp
      simp only [List.mem_cons, List.not_mem_nil, or_false] at hp
      rcases hp with rfl | rfl
      · exact .c a
      · exact .s ts h.2.2.1 fun t hm => ht (h.2.2.2 t hm), by simp⟩
theorem sum_le {b : Nat} : ∀ (l : List (List Nat)), (∀ x ∈ l, x.length ≤ b) → (l.map (·.length)).sum ≤ b * l.length
  | [], _ => by simp
  | x :: r, h => by
    have := h x (by simp)
    have := sum_le r fun y hy => h y (by simp [hy])
    rw [List.map_cons, List.sum_cons, List.length_cons, Nat.mul_succ]
    omega
theorem pure__law_note {mg : Str → Option Value} {w : World} (B : Bx) (T : Tx w B.K mg) (W : WX) (ds : List D) (R : Sl → Prop) (X : Xc → Prop) (h : F__law_note B.K ds R X) : Sv B W (t__law_note w B.K W) (ini N__law_note ds) { nx := fun _ => R (.dat .non), rt := R, xc := fun x _ => X x } := by
  obtain ⟨i, l, cs, n, rfl, hi, hn, hl, hR⟩ := h
  show Sv B W (t__law_note w B.K W) [.dat (.int i), .dat (.tup (.str (tx l.kind) :: l.items)), .un, .un, .un] _
  unfold t__law_note
  obtain ⟨ps, e1, e2, hp, h5⟩ := its_n hn hl
  have h0 : atI (D.str (tx l.kind) :: l.items) 0 = some (.str (tx l.kind)) := atI_ofNat (n := 0) rfl
  have hnum : ∀ Γ : List Sl, Γ[0]? = some (.dat (.int i)) → Ev B (tCB zStr (tCons (tVar 0) tNil)) Γ (.str (tx (itxt i))) := fun Γ hΓ => ev_cb (eva_cons (ev_var hΓ) eva_nil) (rc_str (log_small (by omega) (by omega)))
  obtain ⟨w1, w2⟩ := words_len hi hn hl
  have hcut : cut (D.str (tx l.kind) :: l.items) (some 1) none = ps.map (·.1) := by
    have := cut_drop (D.str (tx l.kind) :: l.items) 1
    rw [show ((1 : Nat) : Int) = 1 from rfl] at this
    rw [this, ← e1]; rfl
  refine sv_seq (sv_setO (w := .lst (([itxt i, l.kind] : List (List Nat)).map strD)) (evo_lstX (eva_cons (hnum _ rfl) (eva_cons (ev_op (by walk_at "ev") (by walk_at "ev") (rv_ixU h0)) eva_nil)) (Nat.le_of_ble_eq_true rfl)) (by walk_at "at") ?_)
  refine sv_seq (sv_for (fun p : D × List (List Nat) => p.1) ps (by rw [← hcut]; exact evi_tup (ev_sl (by walk_at "ev") (by walk_at "ev") (by walk_at "ev") rs_slU)) (fun r Γ' => ∃ (ws : List (List Nat)) (c3 : Sl), Γ' = [.dat (.int i), .dat (.tup (.str (tx l.kind) :: l.items)), .own (.lst (ws.map strD)), c3, .un] ∧ ws ++ (r.map (·.2)).flatten = wordsOf i l) ⟨_, _, rfl, by rw [← e2]; rfl⟩ ?_ ?_)
  · rintro Γ' ⟨ws, c3, rfl, ew⟩
    rw [List.map_nil, List.flatten_nil, List.append_nil] at ew
    subst ew
    refine sv_freeze 2 rfl (by walk_at "at") ?_
    refine sv_ret (ev_bmT (by walk_at "ev") (by walk_at "ev") (rm_join (xs := wordsOf i l) ?_)) hR
    have := sum_le _ w2
    simp only [List.length_singleton]
    omega
  · rintro p r Γ' ⟨pre, hpre⟩ ⟨ws, c3, rfl, ew⟩
    refine ⟨_, evg_name (by walk_at "at"), ?_⟩
    have hm : p ∈ ps := by rw [hpre]; simp
    have hlen : ws.length ≤ 9 := by
      rw [← ew] at w1
      rw [List.length_append] at w1
      omega
    rw [List.map_cons, List.flatten_cons, ← List.append_assoc] at ew
    obtain ⟨d, x⟩ := p
    cases hp _ hm with
    | c a =>
      refine sv_if (p := false) (by walk_at "ev") (fun h => nomatch h) fun _ => sv_if (p := true) (by walk_at "ev") (fun _ => ?_) fun h => nomatch h
      exact sv_app rfl (ev_var rfl) (by rw [List.length_map]; omega) (by walk_at "at") ⟨ws ++ [[a]], _, by rw [List.map_append]; rfl, ew⟩
    | s ts h6 hk =>
      refine sv_if (p := true) (by walk_at "ev") (fun _ => ?_) fun h => nomatch h
      refine sv_freeze 2 rfl (by walk_at "at") ?_
      refine sv_setO (evo_addL rfl (by walk_at "ev") (Ev.of_own (evo_map1 Tg.d ts (fun t => D.str (tx t.w)) (evi_tup (by walk_at "ev")) (Nat.le_of_ble_eq_true rfl) (by omega) fun t ht => ev_call (by walk_at "ev") ⟨t, rfl, hk t ht, rfl⟩)) (by rw [List.length_map, List.length_map]; omega)) (by walk_at "at") ⟨ws ++ ts.map Tg.w, _, by rw [List.map_append, List.map_map]; rfl, ew⟩
    | t t ht =>
      refine sv_if (p := false) ?_ (fun h => nomatch h) fun _ => sv_if (p := false) ?_ (fun h => nomatch h) fun _ => ?_
      · cases t <;> exact evt_b (ev_cb (eva_cons (ev_var rfl) (by walk_at "ev")) (by walk_at "rc"))
      · cases t <;> exact evt_b (ev_cb (eva_cons (ev_var rfl) (by walk_at "ev")) (by walk_at "rc"))
      exact sv_app rfl (ev_callS (by walk_at "ev") ⟨t, rfl, ht, rfl⟩) (by rw [List.length_map]; omega) (by walk_at "at") ⟨ws ++ [t.w], _, by rw [List.map_append]; rfl, ew⟩

end L

namespace L
open PySem PySem.Spec PyProof.Rows L2 Z
local macro_rules | `(tactic| walk_at "at") => `(tactic| first | with_reducible exact SetAt.zero | ((with_reducible apply SetAt.succ); walk_at "at"))
local macro_rules | `(tactic| walk_at "sd") => `(tactic| first | (with_reducible assumption) | omega | (simp only [rep_length, List.length_append, List.length_cons, List.length_nil, List.length_map, List.length_replicate, List.length_range, List.length_take, List.length_reverse] <;> omega) | decide | exact Nat.le_of_ble_eq_true rfl)
local macro_rules | `(tactic| walk_at "cm") => `(tactic| first | (with_reducible assumption) | (refine cmul_s ?_ ?_ ?_ ?_ <;> first | omega | decide))
local macro_rules | `(tactic| walk_at "rv") => `(tactic| first
  | with_reducible exact rv_add | ((with_reducible apply rv_addT); walk_at "sd") | ((with_reducible apply rv_addL); walk_at "sd") | ((with_reducible apply rv_addU); walk_at "sd")
  | with_reducible exact rv_sub | ((with_reducible apply rv_mul); walk_at "cm") | ((with_reducible apply rv_mulT) <;> walk_at "sd")
  | ((with_reducible apply rv_div); first | assumption | exact cdiv_s (by walk_at "sd") (by walk_at "sd")) | ((with_reducible apply rv_mod); walk_at "sd") | ((with_reducible apply rv_pow); exact ⟨by decide, by decide, by decide⟩)
  | with_reducible exact rv_lt | with_reducible exact rv_le | with_reducible exact rv_gt | with_reducible exact rv_ge
  | with_reducible exact rv_eqI | with_reducible exact rv_eqT | with_reducible exact rv_eqB | with_reducible exact rv_neI | with_reducible exact rv_neT | with_reducible exact rv_neB
  | ((with_reducible apply rv_ixL); first | with_reducible assumption | exact rfl) | ((with_reducible apply rv_ixU); first | with_reducible assumption | exact rfl) | ((with_reducible apply rv_ixT); (focus (first | with_reducible assumption | exact rfl)); walk_at "sd")
  | with_reducible exact rv_isN | with_reducible exact rv_isN' | with_reducible exact rv_notN'
  | with_reducible exact rv_inT | with_reducible exact rv_ninT | with_reducible exact rv_inTs | with_reducible exact rv_ninTs | with_reducible assumption)
local macro_rules | `(tactic| walk_at "rc") => `(tactic| first | with_reducible exact rc_int | with_reducible exact rc_intB | with_reducible exact rc_lenL | with_reducible exact rc_lenU | ((with_reducible apply rc_lenT); walk_at "sd") | with_reducible exact rc_min | with_reducible exact rc_tupleL | with_reducible exact rc_tupleU | with_reducible exact rc_listL | with_reducible exact rc_listU | with_reducible exact rc_max | ((with_reducible apply rc_isi); (focus (exact rfl)); first | with_reducible exact kitT | with_reducible exact kit_NoneType_int | with_reducible exact kit_NoneType_bool | with_reducible exact kit_NoneType_str | with_reducible exact kit_NoneType_list | with_reducible exact kit_NoneType_tuple | with_reducible exact kit_bool_int | with_reducible exact kit_bool_bool | with_reducible exact kit_bool_str | with_reducible exact kit_bool_list | with_reducible exact kit_bool_tuple | with_reducible exact kit_int_int | with_reducible exact kit_int_bool | with_reducible exact kit_int_str | with_reducible exact kit_int_list | with_reducible exact kit_int_tuple | with_reducible exact kit_str_int | with_reducible exact kit_str_bool | with_reducible exact kit_str_str | with_reducible exact kit_str_list | with_reducible exact kit_str_tuple | with_reducible exact kit_list_int | with_reducible exact kit_list_bool | with_reducible exact kit_list_str | with_reducible exact kit_list_list | with_reducible exact kit_list_tuple | with_reducible exact kit_tuple_int | with_reducible exact kit_tuple_bool | with_reducible exact kit_tuple_str | with_reducible exact kit_tuple_list | with_reducible exact kit_tuple_tuple | assumption | rfl) | with_reducible assumption)
local macro_rules | `(tactic| walk_at "rs") => `(tactic| first | with_reducible exact rs_slL | with_reducible exact rs_slU | ((with_reducible apply rs_slT); walk_at "sd"))
local macro_rules | `(tactic| walk_at "ru") => `(tactic| first | ((with_reducible apply ru_rev); walk_at "sd") | with_reducible exact ru_neg)
local macro_rules | `(tactic| walk_at "rm") => `(tactic| first | with_reducible exact rm_count | with_reducible assumption)
local macro_rules | `(tactic| walk_at "eo") => `(tactic| first
  | ((with_reducible apply evo_lstX); (focus (walk_at "ev")); exact Nat.le_of_ble_eq_true rfl)
  | ((with_reducible apply evo_callS); (focus (walk_at "ev")); (focus (walk_at "fn")))
  | ((with_reducible apply evo_addL rfl); (focus (walk_at "ev")); (focus (walk_at "ev")); walk_at "sd")
  | ((with_reducible apply evo_listL rfl); walk_at "ev") | ((with_reducible apply evo_listU rfl); walk_at "ev")
  | with_reducible assumption)
local macro_rules | `(tactic| walk_at "ev") => `(tactic| first
  | (with_reducible assumption)
  | ((with_reducible apply ev_var); exact rfl)
  | with_reducible exact ev_int | with_reducible exact ev_str | with_reducible exact ev_bl | with_reducible exact ev_non | with_reducible exact ev_ty | with_reducible exact ev_ref
  | with_reducible exact eva_nil
  | ((with_reducible apply eva_cons); (focus (walk_at "ev")); (focus (walk_at "ev")))
  | ((with_reducible apply ev_op); (focus (walk_at "ev")); (focus (walk_at "ev")); (focus (walk_at "rv")))
  | ((with_reducible apply ev_cb); (focus (walk_at "ev")); (focus (walk_at "rc")))
  | ((with_reducible apply evt_test); (focus (walk_at "ev")))
  | ((with_reducible apply evt_b); (focus (walk_at "ev")))
  | ((with_reducible apply evt_not); (focus (walk_at "ev")))
  | ((with_reducible apply evt_and); (focus (walk_at "ev")); (focus (intro _; walk_at "ev")))
  | ((with_reducible apply evt_or); (focus (walk_at "ev")); (focus (intro _; walk_at "ev")))
  | with_reducible exact evt_yes
  | ((with_reducible apply ev_and); (focus (walk_at "ev")); (focus (intro _; walk_at "ev")))
  | ((with_reducible apply ev_or); (focus (walk_at "ev")); (focus (intro _; walk_at "ev")))
  | ((with_reducible apply ev_not); (focus (walk_at "ev")))
  | ((with_reducible apply ev_callS); (focus (walk_at "ev")); (focus (walk_at "fn")))
  | ((with_reducible apply ev_call); (focus (walk_at "ev")); (focus (walk_at "fn")))
  | ((with_reducible apply ev_tupX); (focus (walk_at "ev")); exact Nat.le_of_ble_eq_true rfl)
  | with_reducible exact evp_none
  | ((with_reducible apply evp_some); (focus (walk_at "ev")))
  | ((with_reducible apply ev_sl); (focus (walk_at "ev")); (focus (walk_at "ev")); (focus (walk_at "ev")); (focus (walk_at "rs")))
  | ((with_reducible apply ev_un); (focus (walk_at "ev")); (focus (walk_at "ru")))
  | ((with_reducible apply ev_bmT); (focus (walk_at "ev")); (focus (walk_at "ev")); (focus (walk_at "rm")))
  | ((with_reducible apply ev_bmT0); (focus (walk_at "ev")); (focus (walk_at "rm")))
  | ((with_reducible apply evi_list); (focus (walk_at "ev")))
  | ((with_reducible apply evi_tup); (focus (walk_at "ev")))
  | ((with_reducible apply evi_str); (focus (walk_at "ev")))
  | ((with_reducible apply evi_rng1); (focus (walk_at "ev")); (focus (constructor <;> walk_at "sd")))
  | ((with_reducible apply evi_rng2); (focus (walk_at "ev")); (focus (constructor <;> walk_at "sd")); (focus (constructor <;> walk_at "sd")))
  | ((with_reducible apply Ev.of_own); walk_at "eo")
  | with_reducible assumption)
local macro_rules | `(tactic| walk_at "st") => `(tactic| repeat (first
  | (with_reducible apply sv_seq)
  | ((with_reducible apply sv_set); (focus (walk_at "ev")); (focus (walk_at "at")))
  | ((with_reducible apply sv_drop); (focus (walk_at "ev")))
  | (with_reducible apply sv_next)))
local macro_rules | `(tactic| walk_at "eq") => `(tactic| (with_reducible apply ev_eq); (focus (walk_at "ev")); rfl)
theorem enum_map {α : Type} (f : α → D) (l : List α) : enumD (l.map f) = l.zipIdx.map fun p => .tup [.int (p.2 : Nat), f p.1] := by
  unfold enumD
  rw [List.zipIdx_map, List.map_map]
  rfl
theorem notes_zip : ∀ (ls : List Ln) (k : Nat), notesFrom k ls = (ls.zipIdx k).map fun p => noteOf p.2 p.1
  | [], _ => rfl
  | l :: r, k => by
    show noteOf k l :: notesFrom (k + 1) r = _
    rw [notes_zip r (k + 1)]
    rfl
theorem its_q {l : Ln} {cs : List Nat} {n : Nat} (i : Nat) (hn : n ≤ 10) (h : l.ok cs n) : ∃ qs : List (Nat × D × List Nat), l.kd.shape = qs.map (·.1) ∧ l.items = qs.map (·.2.1) ∧ (∀ q ∈ qs, ItW q.1 q.2.1 q.2.2 ∧ q.2.2.length ≤ 30) ∧ qs.length ≤ 5 ∧ joinL [32] ([itxt i, l.kind] ++ qs.map (·.2.2)) = noteOf i l := by
  have ht : ∀ {t : Tg}, (∀ k, t.num = some k → k < n) → ∀ k, t.num = some k → k < 10 := fun h k e => by have := h k e; omega
  have hT : ∀ {t : Tg}, (∀ k, t.num = some k → k < n) → ItW 116 t.d t.w ∧ t.w.length ≤ 30 := fun h => ⟨.t 116 (by decide) (by decide) _ (ht h), by have := w_len hn h; omega⟩
  have hC : ∀ a : Nat, ItW 99 (.str (tx [a])) [a] ∧ [a].length ≤ 30 := fun a => ⟨.c a, by simp⟩
  cases l with
  | one s a b t =>
    refine ⟨[(99, _, [a]), (99, _, [b]), (116, _, t.w)], by cases s <;> rfl, rfl, ?_, by simp, rfl⟩
    intro p hp
    simp only [List.mem_cons, List.not_mem_nil, or_false] at hp
    rcases hp with rfl | rfl | rfl
    · exact hC a
    · exact hC b
    · exact hT h.2.2
  | first a b t u =>
    refine ⟨[(99, _, [a]), (99, _, [b]), (116, _, t.w), (116, _, u.w)], rfl, rfl, ?_, by simp, rfl⟩
    intro p hp
    simp only [List.mem_cons, List.not_mem_nil, or_false] at hp
    rcases hp with rfl | rfl | rfl | rfl
    · exact hC a
    · exact hC b
    · exact hT fun k e => h.2.2 k (.inl e)
    · exact hT fun k e => h.2.2 k (.inr e)
  | every a b s t u =>
    refine ⟨[(99, _, [a]), (99, _, [b]), (110, .int s, itxt s), (116, _, t.w), (116, _, u.w)], rfl, rfl, ?_, by simp, rfl⟩
    intro p hp
    simp only [List.mem_cons, List.not_mem_nil, or_false] at hp
    rcases hp with rfl | rfl | rfl | rfl | rfl
    · exact hC a
    · exact hC b
    · exact ⟨.t 110 (by decide) (by decide) (.to s) fun k e => by cases e; have := h.2.2.2.1; omega, by rw [itxt_dig (by have := h.2.2.2.1; omega)]; simp⟩
    · exact hT fun k e => h.2.2.2.2 k (.inl e)
    · exact hT fun k e => h.2.2.2.2 k (.inr e)
  | leads a t u =>
    refine ⟨[(99, _, [a]), (116, _, t.w), (116, _, u.w)], rfl, rfl, ?_, by simp, rfl⟩
    intro p hp
    simp only [List.mem_cons, List.not_mem_nil, or_false] at hp
    rcases hp with rfl | rfl | rfl
    · exact hC a
    · exact hT fun k e => h.2 k (.inl e)
    · exact hT fun k e => h.2 k (.inr e)
  | count a ts =>
    refine ⟨[(99, _, [a]), (115, _, joinL [32] (ts.map Tg.w))], rfl, rfl, ?_, by simp, ?_⟩
    · intro p hp
      simp only [List.mem_cons, List.not_mem_nil, or_false] at hp
      rcases hp with rfl | rfl
      · exact hC a
      · refine ⟨.s ts h.2.2.1 fun t hm => ht (h.2.2.2 t hm), ?_⟩
        have := joinL_len (c := 32) (b := 3) (ts.map Tg.w) fun w hw => by
          obtain ⟨t, ht, rfl⟩ := List.mem_map.mp hw
          exact w_len hn (h.2.2.2 t ht)
        have h6 := h.2.2.1
        rw [List.length_map] at this
        show (joinL [32] (ts.map Tg.w)).length ≤ 30
        omega
    · have hne : ts.map Tg.w ≠ [] := by intro e; have h5 := h.2.1; rw [List.map_eq_nil_iff] at e; rw [e] at h5; simp at h5
      exact joinL_nest [itxt i, Ln.kind (.count a ts), [a]] (ts.map Tg.w) hne
theorem pure_format_program {mg : Str → Option Value} {w : World} (B : Bx) (T : Tx w B.K mg) (W : WX) (ds : List D) (R : Sl → Prop) (X : Xc → Prop) (h : F_format_program B.K ds R X) : Sv B W (t_format_program w B.K W) (ini N_format_program ds) { nx := fun _ => R (.dat .non), rt := R, xc := fun x _ => X x } := by
  obtain ⟨cs, lt, mk, ls, rfl, ⟨p1, p2, p3⟩, hn, hm, hlt, hR⟩ := h
  show Sv B W (t_format_program w B.K W) [.dat (progD B.K lt mk ls), .un, .un, .un, .un, .un, .un] _
  unfold t_format_program
  have hf1 : ∀ Γ : List Sl, Γ[0]? = some (.dat (progD B.K lt mk ls)) → Ev B (tFld B.K (tVar 0) "letters") Γ (.str (tx lt)) := fun Γ hΓ => ev_fld (ev_var hΓ) T.cl_Program T.na_Program_letters rfl
  have hf2 : ∀ Γ : List Sl, Γ[0]? = some (.dat (progD B.K lt mk ls)) → Ev B (tFld B.K (tVar 0) "marks") Γ (.int mk) := fun Γ hΓ => ev_fld (ev_var hΓ) T.cl_Program T.na_Program_marks rfl
  have hf3 : ∀ Γ : List Sl, Γ[0]? = some (.dat (progD B.K lt mk ls)) → Ev B (tFld B.K (tVar 0) "lines") Γ (.tup (ls.map Ln.d)) := fun Γ hΓ => ev_fld (ev_var hΓ) T.cl_Program T.na_Program_lines rfl
  have hhl : (headOf lt mk).length ≤ 63 := by
    have := joinL_len (c := 32) (b := 7) [kProg, lt, itxt mk] fun w hw => by
      simp only [List.mem_cons, List.not_mem_nil, or_false] at hw
      rcases hw with rfl | rfl | rfl
      · simp
      · omega
      · rw [itxt_dig (by omega)]; simp
    unfold headOf
    simp at this
    omega
  have hhead : Ev B (tJoined [(tC (.str (tx [112, 114, 111, 103, 114, 97, 109, 32]))), (tFmt (tFld B.K (tVar 0) "letters")), (tC (.str (tx [32]))), (tFmt (tFld B.K (tVar 0) "marks"))]) [.dat (progD B.K lt mk ls), .un, .un, .un, .un, .un, .un] (.str (tx (headOf lt mk))) := by
    have e : [112, 114, 111, 103, 114, 97, 109, 32] ++ (lt ++ ([32] ++ (itxt (mk : Nat) ++ []))) = headOf lt mk := by simp [headOf, joinL]
    rw [← e]
    exact ev_joined (.cons ev_str (.cons (ev_fmtT (hf1 _ rfl) (by omega)) (.cons ev_str (.cons (ev_fmtI (hf2 _ rfl) (log_small (by omega) (by omega))) .nil)))) (by rw [e]; omega)
  have hin : ∀ l ∈ ls, l.ok cs ls.length := p3
  have hall : ∀ p ∈ ls.zipIdx, p.2 < 10 ∧ p.1.ok cs ls.length := fun p hp => by
    have := List.mem_zipIdx' hp
    exact ⟨by omega, p3 _ (this.2 ▸ List.getElem_mem _)⟩
  refine sv_seq (sv_setO (w := .lst (([headOf lt mk] : List (List Nat)).map strD)) (evo_lstX (eva_cons hhead eva_nil) (Nat.le_of_ble_eq_true rfl)) (by walk_at "at") ?_)
  refine sv_seq (sv_for (fun p : Ln × Nat => .tup [.int (p.2 : Nat), p.1.d]) ls.zipIdx (by rw [← enum_map]; exact evi_enumU (eva_cons (hf3 _ rfl) eva_nil)) (fun r Γ' => ∃ (ts : List (List Nat)) (c2 c3 c4 c5 c6 : Sl), Γ' = [.dat (progD B.K lt mk ls), .own (.lst (ts.map strD)), c2, c3, c4, c5, c6] ∧ ts ++ (r.map fun p => noteOf p.2 p.1) = headOf lt mk :: notesFrom 0 ls) ⟨_, _, _, _, _, _, rfl, by rw [notes_zip]; rfl⟩ ?_ ?_)
  · rintro Γ' ⟨ts, c2, c3, c4, c5, c6, rfl, et⟩
    rw [List.map_nil, List.append_nil] at et
    subst et
    refine sv_freeze 1 rfl (by walk_at "at") ?_
    refine sv_ret (ev_bmT (by walk_at "ev") (by walk_at "ev") (rm_join (xs := headOf lt mk :: notesFrom 0 ls) ?_)) hR
    have := sum_le (b := 63) (headOf lt mk :: notesFrom 0 ls) fun x hx => by
      rcases List.mem_cons.mp hx with rfl | hx
      · exact hhl
      · rw [notes_zip] at hx
        obtain ⟨p, hp, rfl⟩ := List.mem_map.mp hx
        have := hall p hp
        exact note_len this.1 (by omega) this.2
    rw [List.length_cons, notes_len] at this
    rw [List.length_cons, notes_len]
    simp only [List.length_singleton]
    omega
  · rintro ⟨l, i⟩ r Γ' ⟨pre, hpre⟩ ⟨ts, c2, c3, c4, c5, c6, rfl, et⟩
    refine ⟨_, evg_tup (evgs_cons (evg_name (by walk_at "at")) (evgs_cons (evg_name (by walk_at "at")) evgs_nil)) rfl, ?_⟩
    obtain ⟨hi, hl⟩ := hall (l, i) (by rw [hpre]; simp)
    have hi : i < 10 := hi
    obtain ⟨qs, e1, e2, hq, h5, ej⟩ := its_q i (by omega : ls.length ≤ 10) hl
    have h0 : atI (D.str (tx l.kind) :: l.items) 0 = some (.str (tx l.kind)) := atI_ofNat (n := 0) rfl
    have hnum : ∀ Γ : List Sl, Γ[2]? = some (.dat (.int i)) → Ev B (tCB zStr (tCons (tVar 2) tNil)) Γ (.str (tx (itxt i))) := fun Γ hΓ => ev_cb (eva_cons (ev_var hΓ) eva_nil) (rc_str (log_small (by omega) (by omega)))
    have hln : ts.length ≤ 11 := by
      have := congrArg List.length et
      rw [List.length_append, List.length_cons, notes_len] at this
      omega
    have hkv : KVal B.K (He.ga B.K "SHAPES") (tx l.kind) (.str (tx l.kd.shape)) := by rw [l.kind_kd]; exact kvalK T l.kd
    show Sv B W _ [.dat (progD B.K lt mk ls), .own (.lst (ts.map strD)), .dat (.int i), .dat (.tup (.str (tx l.kind) :: l.items)), c4, c5, c6] _
    refine sv_seq (sv_setO (w := .lst (([itxt i, l.kind] : List (List Nat)).map strD)) (evo_lstX (eva_cons (hnum _ rfl) (eva_cons (ev_op (by walk_at "ev") (by walk_at "ev") (rv_ixU h0)) eva_nil)) (Nat.le_of_ble_eq_true rfl)) (by walk_at "at") ?_)
    have hsh : (qs.zipIdx.map fun p => D.tup [.int (p.2 : Nat), .str (tx [p.1.1])]) = l.kd.shape.zipIdx.map fun p => .tup [.int (p.2 : Nat), .str (tx [p.1])] := by
      rw [e1, List.zipIdx_map, List.map_map]
      rfl
    refine sv_seq (sv_for (fun p : (Nat × D × List Nat) × Nat => .tup [.int (p.2 : Nat), .str (tx [p.1.1])]) qs.zipIdx (by rw [hsh]; exact evi_enumS (eva_cons (ev_op (by walk_at "ev") (ev_op (by walk_at "ev") (by walk_at "ev") (rv_ixU h0)) (rv_KIx hkv fun G => .str _)) eva_nil)) (fun r Γ' => ∃ (ws : List (List Nat)) (c5 c6 : Sl), Γ' = [.dat (progD B.K lt mk ls), .own (.lst (ts.map strD)), .dat (.int i), .dat (.tup (.str (tx l.kind) :: l.items)), .own (.lst (ws.map strD)), c5, c6] ∧ ws ++ (r.map fun p => p.1.2.2) = [itxt i, l.kind] ++ qs.map (·.2.2)) ⟨_, _, _, rfl, by rw [← List.zipIdx_map_fst 0 qs, List.map_map]; simp⟩ ?_ ?_)
    · rintro Γ' ⟨ws, c5, c6, rfl, ew⟩
      rw [List.map_nil, List.append_nil] at ew
      subst ew
      refine sv_freeze 4 rfl (by walk_at "at") ?_
      refine sv_app rfl (ev_bmT (by walk_at "ev") (by walk_at "ev") (rm_join (xs := [itxt i, l.kind] ++ qs.map (·.2.2)) ?_)) (by rw [List.length_map]; omega) (by walk_at "at") ⟨ts ++ [noteOf i l], _, _, _, _, _, by rw [ej, show (ts ++ [noteOf i l]).map strD = ts.map strD ++ [strD (noteOf i l)] from List.map_append]; rfl, by rw [List.append_assoc]; exact et⟩
      have := sum_le (b := 30) ([itxt i, l.kind] ++ qs.map (·.2.2)) fun x hx => by
        rcases List.mem_append.mp hx with hx | hx
        · simp only [List.mem_cons, List.not_mem_nil, or_false] at hx
          rcases hx with rfl | rfl
          · rw [itxt_dig (by omega)]; simp
          · have := kind_len l; omega
        · obtain ⟨q, hq2, rfl⟩ := List.mem_map.mp hx
          exact (hq q hq2).2
      rw [List.length_append, List.length_map] at this ⊢
      simp only [List.length_cons, List.length_nil] at this ⊢
      omega
    · rintro ⟨q, k⟩ r Γ' ⟨pre, hpre⟩ ⟨ws, c5, c6, rfl, ew⟩
      refine ⟨_, evg_tup (evgs_cons (evg_name (by walk_at "at")) (evgs_cons (evg_name (by walk_at "at")) evgs_nil)) rfl, ?_⟩
      have hm := List.mem_zipIdx' (show (q, k) ∈ qs.zipIdx by rw [hpre]; simp)
      have hqm : q ∈ qs := hm.2 ▸ List.getElem_mem _
      have hix : atI (D.str (tx l.kind) :: l.items) ((k : Int) + 1) = some q.2.1 := atI_ofNat (n := k + 1) (by
        rw [List.getElem?_cons_succ, e2, List.getElem?_map, List.getElem?_eq_getElem hm.1]
        rw [← hm.2]
        rfl)
      have hwl : ws.length ≤ 7 := by
        have := congrArg List.length ew
        rw [List.length_append, List.length_append, List.length_map, List.length_map] at this
        simp only [List.length_cons, List.length_nil] at this
        omega
      exact sv_app rfl (ev_callS (eva_cons (by walk_at "ev") (eva_cons (ev_op (by walk_at "ev") (by walk_at "ev") (rv_ixU hix)) eva_nil)) ⟨q.1, q.2.1, q.2.2, rfl, (hq q hqm).1, rfl⟩) (by rw [List.length_map]; omega) (by walk_at "at") ⟨ws ++ [q.2.2], _, _, by rw [List.map_append]; rfl, by rw [List.append_assoc]; exact ew⟩

end L

namespace L
open PySem PySem.Spec PyProof.Rows L2 Z
local macro_rules | `(tactic| walk_at "at") => `(tactic| first | with_reducible exact SetAt.zero | ((with_reducible apply SetAt.succ); walk_at "at"))
local macro_rules | `(tactic| walk_at "sd") => `(tactic| first | (with_reducible assumption) | omega | (simp only [rep_length, List.length_append, List.length_cons, List.length_nil, List.length_map, List.length_replicate, List.length_range, List.length_take, List.length_reverse] <;> omega) | decide | exact Nat.le_of_ble_eq_true rfl)
local macro_rules | `(tactic| walk_at "cm") => `(tactic| first | (with_reducible assumption) | (refine cmul_s ?_ ?_ ?_ ?_ <;> first | omega | decide))
local macro_rules | `(tactic| walk_at "rv") => `(tactic| first
  | with_reducible exact rv_add | ((with_reducible apply rv_addT); walk_at "sd") | ((with_reducible apply rv_addL); walk_at "sd") | ((with_reducible apply rv_addU); walk_at "sd")
  | with_reducible exact rv_sub | ((with_reducible apply rv_mul); walk_at "cm") | ((with_reducible apply rv_mulT) <;> walk_at "sd")
  | ((with_reducible apply rv_div); first | assumption | exact cdiv_s (by walk_at "sd") (by walk_at "sd")) | ((with_reducible apply rv_mod); walk_at "sd") | ((with_reducible apply rv_pow); exact ⟨by decide, by decide, by decide⟩)
  | with_reducible exact rv_lt | with_reducible exact rv_le | with_reducible exact rv_gt | with_reducible exact rv_ge
  | with_reducible exact rv_eqI | with_reducible exact rv_eqT | with_reducible exact rv_eqB | with_reducible exact rv_neI | with_reducible exact rv_neT | with_reducible exact rv_neB
  | ((with_reducible apply rv_ixL); first | with_reducible assumption | exact rfl) | ((with_reducible apply rv_ixU); first | with_reducible assumption | exact rfl) | ((with_reducible apply rv_ixT); (focus (first | with_reducible assumption | exact rfl)); walk_at "sd")
  | with_reducible exact rv_isN | with_reducible exact rv_isN' | with_reducible exact rv_notN'
  | with_reducible exact rv_inT | with_reducible exact rv_ninT | with_reducible exact rv_inTs | with_reducible exact rv_ninTs | with_reducible assumption)
local macro_rules | `(tactic| walk_at "rc") => `(tactic| first | with_reducible exact rc_int | with_reducible exact rc_intB | with_reducible exact rc_lenL | with_reducible exact rc_lenU | ((with_reducible apply rc_lenT); walk_at "sd") | with_reducible exact rc_min | with_reducible exact rc_tupleL | with_reducible exact rc_tupleU | with_reducible exact rc_listL | with_reducible exact rc_listU | with_reducible exact rc_max | ((with_reducible apply rc_isi); (focus (exact rfl)); first | with_reducible exact kitT | with_reducible exact kit_NoneType_int | with_reducible exact kit_NoneType_bool | with_reducible exact kit_NoneType_str | with_reducible exact kit_NoneType_list | with_reducible exact kit_NoneType_tuple | with_reducible exact kit_bool_int | with_reducible exact kit_bool_bool | with_reducible exact kit_bool_str | with_reducible exact kit_bool_list | with_reducible exact kit_bool_tuple | with_reducible exact kit_int_int | with_reducible exact kit_int_bool | with_reducible exact kit_int_str | with_reducible exact kit_int_list | with_reducible exact kit_int_tuple | with_reducible exact kit_str_int | with_reducible exact kit_str_bool | with_reducible exact kit_str_str | with_reducible exact kit_str_list | with_reducible exact kit_str_tuple | with_reducible exact kit_list_int | with_reducible exact kit_list_bool | with_reducible exact kit_list_str | with_reducible exact kit_list_list | with_reducible exact kit_list_tuple | with_reducible exact kit_tuple_int | with_reducible exact kit_tuple_bool | with_reducible exact kit_tuple_str | with_reducible exact kit_tuple_list | with_reducible exact kit_tuple_tuple | assumption | rfl) | with_reducible assumption)
local macro_rules | `(tactic| walk_at "rs") => `(tactic| first | with_reducible exact rs_slL | with_reducible exact rs_slU | ((with_reducible apply rs_slT); walk_at "sd"))
local macro_rules | `(tactic| walk_at "ru") => `(tactic| first | ((with_reducible apply ru_rev); walk_at "sd") | with_reducible exact ru_neg)
local macro_rules | `(tactic| walk_at "rm") => `(tactic| first | with_reducible exact rm_count | with_reducible assumption)
local macro_rules | `(tactic| walk_at "eo") => `(tactic| first
  | ((with_reducible apply evo_lstX); (focus (walk_at "ev")); exact Nat.le_of_ble_eq_true rfl)
  | ((with_reducible apply evo_callS); (focus (walk_at "ev")); (focus (walk_at "fn")))
  | ((with_reducible apply evo_addL rfl); (focus (walk_at "ev")); (focus (walk_at "ev")); walk_at "sd")
  | ((with_reducible apply evo_listL rfl); walk_at "ev") | ((with_reducible apply evo_listU rfl); walk_at "ev")
  | with_reducible assumption)
local macro_rules | `(tactic| walk_at "ev") => `(tactic| first
  | (with_reducible assumption)
  | ((with_reducible apply ev_var); exact rfl)
  | with_reducible exact ev_int | with_reducible exact ev_str | with_reducible exact ev_bl | with_reducible exact ev_non | with_reducible exact ev_ty | with_reducible exact ev_ref
  | with_reducible exact eva_nil
  | ((with_reducible apply eva_cons); (focus (walk_at "ev")); (focus (walk_at "ev")))
  | ((with_reducible apply ev_op); (focus (walk_at "ev")); (focus (walk_at "ev")); (focus (walk_at "rv")))
  | ((with_reducible apply ev_cb); (focus (walk_at "ev")); (focus (walk_at "rc")))
  | ((with_reducible apply evt_test); (focus (walk_at "ev")))
  | ((with_reducible apply evt_b); (focus (walk_at "ev")))
  | ((with_reducible apply evt_not); (focus (walk_at "ev")))
  | ((with_reducible apply evt_and); (focus (walk_at "ev")); (focus (intro _; walk_at "ev")))
  | ((with_reducible apply evt_or); (focus (walk_at "ev")); (focus (intro _; walk_at "ev")))
  | with_reducible exact evt_yes
  | ((with_reducible apply ev_and); (focus (walk_at "ev")); (focus (intro _; walk_at "ev")))
  | ((with_reducible apply ev_or); (focus (walk_at "ev")); (focus (intro _; walk_at "ev")))
  | ((with_reducible apply ev_not); (focus (walk_at "ev")))
  | ((with_reducible apply ev_callS); (focus (walk_at "ev")); (focus (walk_at "fn")))
  | ((with_reducible apply ev_call); (focus (walk_at "ev")); (focus (walk_at "fn")))
  | ((with_reducible apply ev_tupX); (focus (walk_at "ev")); exact Nat.le_of_ble_eq_true rfl)
  | with_reducible exact evp_none
  | ((with_reducible apply evp_some); (focus (walk_at "ev")))
  | ((with_reducible apply ev_sl); (focus (walk_at "ev")); (focus (walk_at "ev")); (focus (walk_at "ev")); (focus (walk_at "rs")))
  | ((with_reducible apply ev_un); (focus (walk_at "ev")); (focus (walk_at "ru")))
  | ((with_reducible apply ev_bmT); (focus (walk_at "ev")); (focus (walk_at "ev")); (focus (walk_at "rm")))
  | ((with_reducible apply ev_bmT0); (focus (walk_at "ev")); (focus (walk_at "rm")))
  | ((with_reducible apply evi_list); (focus (walk_at "ev")))
  | ((with_reducible apply evi_tup); (focus (walk_at "ev")))
  | ((with_reducible apply evi_str); (focus (walk_at "ev")))
  | ((with_reducible apply evi_rng1); (focus (walk_at "ev")); (focus (constructor <;> walk_at "sd")))
  | ((with_reducible apply evi_rng2); (focus (walk_at "ev")); (focus (constructor <;> walk_at "sd")); (focus (constructor <;> walk_at "sd")))
  | ((with_reducible apply Ev.of_own); walk_at "eo")
  | with_reducible assumption)
local macro_rules | `(tactic| walk_at "st") => `(tactic| repeat (first
  | (with_reducible apply sv_seq)
  | ((with_reducible apply sv_set); (focus (walk_at "ev")); (focus (walk_at "at")))
  | ((with_reducible apply sv_drop); (focus (walk_at "ev")))
  | (with_reducible apply sv_next)))
local macro_rules | `(tactic| walk_at "eq") => `(tactic| (with_reducible apply ev_eq); (focus (walk_at "ev")); rfl)
theorem rep2_map {α β : Type} (f : α → β) (n : Nat) (l : List α) : rep2 n (l.map f) = (rep2 n l).map f := by
  unfold rep2
  induction n with
  | zero => rfl
  | succ n ih => rw [List.replicate_succ, List.replicate_succ, List.flatten_cons, List.flatten_cons, List.map_append, ih]
theorem pure__law_wider {mg : Str → Option Value} {w : World} (B : Bx) (T : Tx w B.K mg) (W : WX) (ds : List D) (R : Sl → Prop) (X : Xc → Prop) (h : F__law_wider B.K ds R X) : Sv B W (t__law_wider w B.K W) (ini N__law_wider ds) { nx := fun _ => R (.dat .non), rt := R, xc := fun x _ => X x } := by
  obtain ⟨lt, mk, ls, row, cs, rfl, h7, ⟨b1, b2⟩, ⟨p1, p2, p3⟩, hR⟩ := h
  obtain ⟨r0, r1, r2, r3, r4, r5, r6, rfl⟩ := list7 h7
  have b1 : 0 ≤ r1 := b1
  have b2 : r1 < 6 := b2
  show Sv B W (t__law_wider w B.K W) [.dat (.lst [.str (tx lt), .int mk, .lst (ls.map Ln.d)]), .dat (.lst [.int r0, .int r1, .int r2, .int r3, .int r4, .int r5, .int r6]), .un, .un] _
  unfold t__law_wider
  refine sv_seq (sv_setO (w := .lst []) (by walk_at "eo") (by walk_at "at") ?_)
  refine sv_seq (sv_for Ln.d ls (evi_list (by walk_at "ev")) (fun r Γ' => ∃ (dn : List Ln) (c3 : Sl), Γ' = [.dat (.lst [.str (tx lt), .int mk, .lst (ls.map Ln.d)]), .dat (.lst [.int r0, .int r1, .int r2, .int r3, .int r4, .int r5, .int r6]), .own (.lst ((dn.map (wid r0 r1)).map Ln.d)), c3] ∧ dn ++ r = ls) ⟨[], _, rfl, rfl⟩ ?_ ?_)
  · rintro Γ' ⟨dn, c3, rfl, ed⟩
    rw [List.append_nil] at ed
    subst ed
    refine sv_freeze 2 rfl (by walk_at "at") ?_
    exact sv_retD (by walk_at "ev") hR
  · rintro l r Γ' ⟨pre, hpre⟩ ⟨dn, c3, rfl, ed⟩
    have hl := p3 l (by rw [hpre]; simp)
    have hln : dn.length ≤ 60 := by have := congrArg List.length ed; rw [List.length_append] at this; omega
    refine ⟨_, evg_name (by walk_at "at"), ?_⟩
    have h0 : atI (D.str (tx l.kind) :: l.items) 0 = some (.str (tx l.kind)) := atI_ofNat (n := 0) rfl
    have step : ∀ {te : TE} {Γ : List Sl} {P : Po}, Γ = [.dat (.lst [.str (tx lt), .int mk, .lst (ls.map Ln.d)]), .dat (.lst [.int r0, .int r1, .int r2, .int r3, .int r4, .int r5, .int r6]), .own (.lst ((dn.map (wid r0 r1)).map Ln.d)), .dat l.d] → Ev B te Γ (wid r0 r1 l).d → (P.nx = fun Γ' => ∃ (dn : List Ln) (c3 : Sl), Γ' = [.dat (.lst [.str (tx lt), .int mk, .lst (ls.map Ln.d)]), .dat (.lst [.int r0, .int r1, .int r2, .int r3, .int r4, .int r5, .int r6]), .own (.lst ((dn.map (wid r0 r1)).map Ln.d)), c3] ∧ dn ++ r = ls) → Sv B W (tDrop (tBM B.K "list" rAppend (tVar 2) (tCons te tNil))) Γ P := fun {te Γ P} e h hP => by
      subst e
      refine sv_app rfl h (by rw [List.length_map, List.length_map]; omega) (by walk_at "at") ?_
      rw [hP]
      exact ⟨dn ++ [l], _, by rw [List.map_append, List.map_append]; rfl, by rw [List.append_assoc]; exact ed⟩
    show Sv B W _ [.dat (.lst [.str (tx lt), .int mk, .lst (ls.map Ln.d)]), .dat (.lst [.int r0, .int r1, .int r2, .int r3, .int r4, .int r5, .int r6]), .own (.lst ((dn.map (wid r0 r1)).map Ln.d)), .dat (.tup (.str (tx l.kind) :: l.items))] _
    have hk : EvT B (tTest (tOp (zEq B.K) (tOp (zIx B.K) (tVar 3) (tC (.int 0))) (tC (.str (tx [99, 111, 117, 110, 116]))))) [.dat (.lst [.str (tx lt), .int mk, .lst (ls.map Ln.d)]), .dat (.lst [.int r0, .int r1, .int r2, .int r3, .int r4, .int r5, .int r6]), .own (.lst ((dn.map (wid r0 r1)).map Ln.d)), .dat (.tup (.str (tx l.kind) :: l.items))] (decide (l.kind = kCount)) := evt_test (ev_op (ev_op (by walk_at "ev") (by walk_at "ev") (rv_ixU h0)) (by walk_at "ev") rv_eqT)
    have hv : EvT B (tTest (tOp (zEq B.K) (tOp (zIx B.K) (tVar 3) (tC (.int 0))) (tC (.str (tx [101, 118, 101, 114, 121]))))) [.dat (.lst [.str (tx lt), .int mk, .lst (ls.map Ln.d)]), .dat (.lst [.int r0, .int r1, .int r2, .int r3, .int r4, .int r5, .int r6]), .own (.lst ((dn.map (wid r0 r1)).map Ln.d)), .dat (.tup (.str (tx l.kind) :: l.items))] (decide (l.kind = kEvery)) := evt_test (ev_op (ev_op (by walk_at "ev") (by walk_at "ev") (rv_ixU h0)) (by walk_at "ev") rv_eqT)
    cases l with
    | one s a b t =>
      refine sv_if (p := false) (evt_eq (evt_and (p := false) (q := false) (evt_eq hk (by cases s <;> rfl)) fun h => nomatch h) (by rfl)) (fun h => nomatch h) fun _ => ?_
      exact sv_if (p := false) (evt_eq hv (by cases s <;> rfl)) (fun h => nomatch h) fun _ => step rfl (ev_var rfl) rfl
    | first a b t u =>
      refine sv_if (p := false) (evt_eq (evt_and (p := false) (q := false) (evt_eq hk (by rfl)) fun h => nomatch h) (by rfl)) (fun h => nomatch h) fun _ => ?_
      exact sv_if (p := false) (evt_eq hv (by rfl)) (fun h => nomatch h) fun _ => step rfl (ev_var rfl) rfl
    | leads a t u =>
      refine sv_if (p := false) (evt_eq (evt_and (p := false) (q := false) (evt_eq hk (by rfl)) fun h => nomatch h) (by rfl)) (fun h => nomatch h) fun _ => ?_
      exact sv_if (p := false) (evt_eq hv (by rfl)) (fun h => nomatch h) fun _ => step rfl (ev_var rfl) rfl
    | every a b s t u =>
      refine sv_if (p := false) (evt_eq (evt_and (p := false) (q := false) (evt_eq hk (by rfl)) fun h => nomatch h) (by rfl)) (fun h => nomatch h) fun _ => ?_
      refine sv_if (p := true) (evt_eq hv (by rfl)) (fun _ => step rfl ?_ rfl) fun h => nomatch h
      have e1 : cut ([.str (tx kEvery), .str (tx [a]), .str (tx [b]), .int s, t.d, u.d] : List D) none (some 3) = [.str (tx kEvery), .str (tx [a]), .str (tx [b])] := cut_take _ 3
      have e2 : cut ([.str (tx kEvery), .str (tx [a]), .str (tx [b]), .int s, t.d, u.d] : List D) (some 4) none = [t.d, u.d] := cut_drop _ 4
      refine ev_eq (ev_op (ev_op (ev_sl (ev_var (d := .tup [.str (tx kEvery), .str (tx [a]), .str (tx [b]), .int s, t.d, u.d]) rfl) (by walk_at "ev") (by walk_at "ev") rs_slU) (by walk_at "ev") (rv_addU (by rw [e1]; simp))) (ev_sl (ev_var (d := .tup [.str (tx kEvery), .str (tx [a]), .str (tx [b]), .int s, t.d, u.d]) rfl) (by walk_at "ev") (by walk_at "ev") rs_slU) (rv_addU (by rw [e1, e2]; simp))) ?_
      rw [e1, e2]
      show D.tup [_, _, _, .int (1 + r1), _, _] = D.tup [_, _, _, .int ((1 + r1).toNat : Nat), _, _]
      rw [Int.toNat_of_nonneg (by omega)]
      rfl
    | count a ts =>
      by_cases h00 : r0 = 0
      · refine sv_if (p := true) (evt_eq (evt_and (p := true) (evt_eq hk (by rfl)) fun _ => by walk_at "ev") (by rw [h00]; rfl)) (fun _ => step rfl ?_ rfl) fun h => nomatch h
        have hne : ts.map Tg.d ≠ [] := by intro e; have h5 := hl.2.1; rw [List.map_eq_nil_iff] at e; rw [e] at h5; simp at h5
        have h6 : (ts.map Tg.d).length ≤ 6 := by rw [List.length_map]; exact hl.2.2.1
        have hv3 : ∀ (i : Nat) (d : D), ([.str (tx kCount), .str (tx [a]), .tup (ts.map Tg.d)] : List D)[i]? = some d → Ev B (tOp (zIx B.K) (tVar 3) (tC (.int i))) [.dat (.lst [.str (tx lt), .int mk, .lst (ls.map Ln.d)]), .dat (.lst [.int r0, .int r1, .int r2, .int r3, .int r4, .int r5, .int r6]), .own (.lst ((dn.map (wid r0 r1)).map Ln.d)), .dat (.tup [.str (tx kCount), .str (tx [a]), .tup (ts.map Tg.d)])] d := fun i d h => ev_op (ev_var rfl) ev_int (rv_ixU (atI_ofNat h))
        refine ev_eq (ev_tupX (eva_cons (hv3 0 _ rfl) (eva_cons (hv3 1 _ rfl) (eva_cons (ev_sl (ev_op (hv3 2 _ rfl) ev_int (rv_mulU hne (by decide) (by decide) (by omega))) (by walk_at "ev") (by walk_at "ev") rs_slU) eva_nil))) (Nat.le_of_ble_eq_true rfl)) ?_
        have ec := cut_take (rep2 6 (ts.map Tg.d)) (1 + r1).toNat
        rw [Int.toNat_of_nonneg (by omega)] at ec
        have ew : wid r0 r1 (.count a ts) = .count a ((rep2 6 ts).take (1 + r1).toNat) := if_pos h00
        rw [ew]
        show D.tup [_, _, .tup (cut (rep2 6 (ts.map Tg.d)) none (some (1 + r1)))] = D.tup [_, _, .tup (((rep2 6 ts).take (1 + r1).toNat).map Tg.d)]
        rw [ec, rep2_map, List.map_take]
        rfl
      · refine sv_if (p := false) (evt_eq (evt_and (p := true) (evt_eq hk (by rfl)) fun _ => by walk_at "ev") (by rw [decide_eq_false h00]; rfl)) (fun h => nomatch h) fun _ => ?_
        refine sv_if (p := false) (evt_eq hv (by rfl)) (fun h => nomatch h) fun _ => step rfl ?_ rfl
        have ew : wid r0 r1 (.count a ts) = .count a ts := if_neg h00
        rw [ew]
        exact ev_var rfl

end L

namespace L
open PySem PySem.Spec PyProof.Rows L2 Z
local macro_rules | `(tactic| walk_at "at") => `(tactic| first | with_reducible exact SetAt.zero | ((with_reducible apply SetAt.succ); walk_at "at"))
local macro_rules | `(tactic| walk_at "sd") => `(tactic| first | (with_reducible assumption) | omega | (simp only [rep_length, List.length_append, List.length_cons, List.length_nil, List.length_map, List.length_replicate, List.length_range, List.length_take, List.length_reverse] <;> omega) | decide | exact Nat.le_of_ble_eq_true rfl)
local macro_rules | `(tactic| walk_at "cm") => `(tactic| first | (with_reducible assumption) | (refine cmul_s ?_ ?_ ?_ ?_ <;> first | omega | decide))
local macro_rules | `(tactic| walk_at "rv") => `(tactic| first
  | with_reducible exact rv_add | ((with_reducible apply rv_addT); walk_at "sd") | ((with_reducible apply rv_addL); walk_at "sd") | ((with_reducible apply rv_addU); walk_at "sd")
  | with_reducible exact rv_sub | ((with_reducible apply rv_mul); walk_at "cm") | ((with_reducible apply rv_mulT) <;> walk_at "sd")
  | ((with_reducible apply rv_div); first | assumption | exact cdiv_s (by walk_at "sd") (by walk_at "sd")) | ((with_reducible apply rv_mod); walk_at "sd") | ((with_reducible apply rv_pow); exact ⟨by decide, by decide, by decide⟩)
  | with_reducible exact rv_lt | with_reducible exact rv_le | with_reducible exact rv_gt | with_reducible exact rv_ge
  | with_reducible exact rv_eqI | with_reducible exact rv_eqT | with_reducible exact rv_eqB | with_reducible exact rv_neI | with_reducible exact rv_neT | with_reducible exact rv_neB
  | ((with_reducible apply rv_ixL); first | with_reducible assumption | exact rfl) | ((with_reducible apply rv_ixU); first | with_reducible assumption | exact rfl) | ((with_reducible apply rv_ixT); (focus (first | with_reducible assumption | exact rfl)); walk_at "sd")
  | with_reducible exact rv_isN | with_reducible exact rv_isN' | with_reducible exact rv_notN'
  | with_reducible exact rv_inT | with_reducible exact rv_ninT | with_reducible exact rv_inTs | with_reducible exact rv_ninTs | with_reducible assumption)
local macro_rules | `(tactic| walk_at "rc") => `(tactic| first | with_reducible exact rc_int | with_reducible exact rc_intB | with_reducible exact rc_lenL | with_reducible exact rc_lenU | ((with_reducible apply rc_lenT); walk_at "sd") | with_reducible exact rc_min | with_reducible exact rc_tupleL | with_reducible exact rc_tupleU | with_reducible exact rc_listL | with_reducible exact rc_listU | with_reducible exact rc_max | ((with_reducible apply rc_isi); (focus (exact rfl)); first | with_reducible exact kitT | with_reducible exact kit_NoneType_int | with_reducible exact kit_NoneType_bool | with_reducible exact kit_NoneType_str | with_reducible exact kit_NoneType_list | with_reducible exact kit_NoneType_tuple | with_reducible exact kit_bool_int | with_reducible exact kit_bool_bool | with_reducible exact kit_bool_str | with_reducible exact kit_bool_list | with_reducible exact kit_bool_tuple | with_reducible exact kit_int_int | with_reducible exact kit_int_bool | with_reducible exact kit_int_str | with_reducible exact kit_int_list | with_reducible exact kit_int_tuple | with_reducible exact kit_str_int | with_reducible exact kit_str_bool | with_reducible exact kit_str_str | with_reducible exact kit_str_list | with_reducible exact kit_str_tuple | with_reducible exact kit_list_int | with_reducible exact kit_list_bool | with_reducible exact kit_list_str | with_reducible exact kit_list_list | with_reducible exact kit_list_tuple | with_reducible exact kit_tuple_int | with_reducible exact kit_tuple_bool | with_reducible exact kit_tuple_str | with_reducible exact kit_tuple_list | with_reducible exact kit_tuple_tuple | assumption | rfl) | with_reducible assumption)
local macro_rules | `(tactic| walk_at "rs") => `(tactic| first | with_reducible exact rs_slL | with_reducible exact rs_slU | ((with_reducible apply rs_slT); walk_at "sd"))
local macro_rules | `(tactic| walk_at "ru") => `(tactic| first | ((with_reducible apply ru_rev); walk_at "sd") | with_reducible exact ru_neg)
local macro_rules | `(tactic| walk_at "rm") => `(tactic| first | with_reducible exact rm_count | with_reducible assumption)
local macro_rules | `(tactic| walk_at "eo") => `(tactic| first
  | ((with_reducible apply evo_lstX); (focus (walk_at "ev")); exact Nat.le_of_ble_eq_true rfl)
  | ((with_reducible apply evo_callS); (focus (walk_at "ev")); (focus (walk_at "fn")))
  | ((with_reducible apply evo_addL rfl); (focus (walk_at "ev")); (focus (walk_at "ev")); walk_at "sd")
  | ((with_reducible apply evo_listL rfl); walk_at "ev") | ((with_reducible apply evo_listU rfl); walk_at "ev")
  | with_reducible assumption)
local macro_rules | `(tactic| walk_at "ev") => `(tactic| first
  | (with_reducible assumption)
  | ((with_reducible apply ev_var); exact rfl)
  | with_reducible exact ev_int | with_reducible exact ev_str | with_reducible exact ev_bl | with_reducible exact ev_non | with_reducible exact ev_ty | with_reducible exact ev_ref
  | with_reducible exact eva_nil
  | ((with_reducible apply eva_cons); (focus (walk_at "ev")); (focus (walk_at "ev")))
  | ((with_reducible apply ev_op); (focus (walk_at "ev")); (focus (walk_at "ev")); (focus (walk_at "rv")))
  | ((with_reducible apply ev_cb); (focus (walk_at "ev")); (focus (walk_at "rc")))
  | ((with_reducible apply evt_test); (focus (walk_at "ev")))
  | ((with_reducible apply evt_b); (focus (walk_at "ev")))
  | ((with_reducible apply evt_not); (focus (walk_at "ev")))
  | ((with_reducible apply evt_and); (focus (walk_at "ev")); (focus (intro _; walk_at "ev")))
  | ((with_reducible apply evt_or); (focus (walk_at "ev")); (focus (intro _; walk_at "ev")))
  | with_reducible exact evt_yes
  | ((with_reducible apply ev_and); (focus (walk_at "ev")); (focus (intro _; walk_at "ev")))
  | ((with_reducible apply ev_or); (focus (walk_at "ev")); (focus (intro _; walk_at "ev")))
  | ((with_reducible apply ev_not); (focus (walk_at "ev")))
  | ((with_reducible apply ev_callS); (focus (walk_at "ev")); (focus (walk_at "fn")))
  | ((with_reducible apply ev_call); (focus (walk_at "ev")); (focus (walk_at "fn")))
  | ((with_reducible apply ev_tupX); (focus (walk_at "ev")); exact Nat.le_of_ble_eq_true rfl)
  | with_reducible exact evp_none
  | ((with_reducible apply evp_some); (focus (walk_at "ev")))
  | ((with_reducible apply ev_sl); (focus (walk_at "ev")); (focus (walk_at "ev")); (focus (walk_at "ev")); (focus (walk_at "rs")))
  | ((with_reducible apply ev_un); (focus (walk_at "ev")); (focus (walk_at "ru")))
  | ((with_reducible apply ev_bmT); (focus (walk_at "ev")); (focus (walk_at "ev")); (focus (walk_at "rm")))
  | ((with_reducible apply ev_bmT0); (focus (walk_at "ev")); (focus (walk_at "rm")))
  | ((with_reducible apply evi_list); (focus (walk_at "ev")))
  | ((with_reducible apply evi_tup); (focus (walk_at "ev")))
  | ((with_reducible apply evi_str); (focus (walk_at "ev")))
  | ((with_reducible apply evi_rng1); (focus (walk_at "ev")); (focus (constructor <;> walk_at "sd")))
  | ((with_reducible apply evi_rng2); (focus (walk_at "ev")); (focus (constructor <;> walk_at "sd")); (focus (constructor <;> walk_at "sd")))
  | ((with_reducible apply Ev.of_own); walk_at "eo")
  | with_reducible assumption)
local macro_rules | `(tactic| walk_at "st") => `(tactic| repeat (first
  | (with_reducible apply sv_seq)
  | ((with_reducible apply sv_set); (focus (walk_at "ev")); (focus (walk_at "at")))
  | ((with_reducible apply sv_drop); (focus (walk_at "ev")))
  | (with_reducible apply sv_next)))
local macro_rules | `(tactic| walk_at "eq") => `(tactic| (with_reducible apply ev_eq); (focus (walk_at "ev")); rfl)
section
variable {B : Bx} {Γ : List Sl} {ta tb te to : TE} {xs ys : List (List Nat)} {a b : List Nat}
theorem ev_catS (h1 : Ev B ta Γ (.lst (xs.map strD))) (h2 : Ev B tb Γ (.lst (ys.map strD))) (hl : xs.length + ys.length ≤ 1000) : Ev B (tOp (zAdd B.K) ta tb) Γ (.lst ((xs ++ ys).map strD)) :=
  ev_eq (Ev.of_own (evo_addL rfl h1 h2 (by rw [List.length_map, List.length_map]; omega))) (by rw [List.map_append])
theorem ev_oneS (h : Ev B te Γ (.str (tx a))) : Ev B (tLst (tCons te tNil)) Γ (.lst (([a] : List (List Nat)).map strD)) := Ev.of_own (evo_lstX (eva_cons h eva_nil) (Nat.le_of_ble_eq_true rfl))
theorem ev_twoS (h : Ev B ta Γ (.str (tx a))) (k : Ev B tb Γ (.str (tx b))) : Ev B (tLst (tCons ta (tCons tb tNil))) Γ (.lst (([a, b] : List (List Nat)).map strD)) := Ev.of_own (evo_lstX (eva_cons h (eva_cons k eva_nil)) (Nat.le_of_ble_eq_true rfl))
theorem ev_addS (h1 : Ev B ta Γ (.str (tx a))) (h2 : Ev B tb Γ (.str (tx b))) (hl : a.length + b.length ≤ 100000) : Ev B (tOp (zAdd B.K) ta tb) Γ (.str (tx (a ++ b))) := ev_op h1 h2 (rv_addT (by omega))
theorem ev_joinS {c : Nat} (h : Ev B te Γ (.lst (xs.map strD))) (hl : (xs.map (·.length)).sum + xs.length ≤ 100000) : Ev B (tBM B.K "str" (zJoin B.K) (tC (.str (tx [c]))) (tCons te tNil)) Γ (.str (tx (joinL [c] xs))) :=
  ev_bmT ev_str (eva_cons h eva_nil) (rm_join (xs := xs) (by simp only [List.length_singleton]; omega))
theorem ev_dropS {i k : Nat} (h : Γ[i]? = some (.dat (.lst (xs.map strD)))) : Ev B (tSl (zSl B.K) (tVar i) (tPart (tC (.int k))) tNoPart) Γ (.lst ((xs.drop k).map strD)) :=
  ev_eq (ev_sl (ev_var h) (evp_some ev_int) evp_none rs_slL) (by rw [cut_drop, List.map_drop])
theorem ev_takeS {i k : Nat} (h : Γ[i]? = some (.dat (.lst (xs.map strD)))) : Ev B (tSl (zSl B.K) (tVar i) tNoPart (tPart (tC (.int k)))) Γ (.lst ((xs.take k).map strD)) :=
  ev_eq (ev_sl (ev_var h) evp_none (evp_some ev_int) rs_slL) (by rw [cut_take, List.map_take])
theorem ev_initS {i : Nat} (h : Γ[i]? = some (.dat (.lst (xs.map strD)))) (h1 : 1 ≤ xs.length) : Ev B (tSl (zSl B.K) (tVar i) tNoPart (tPart (tOp zSub (tCB (zLen B.K) (tCons (tVar i) tNil)) (tC (.int 1))))) Γ (.lst ((xs.take (xs.length - 1)).map strD)) :=
  ev_eq (ev_sl (ev_var h) evp_none (evp_some (ev_op (ev_cb (eva_cons (ev_var h) eva_nil) rc_lenL) ev_int rv_sub)) rs_slL) (by
    rw [List.length_map, show ((xs.length : Nat) : Int) - 1 = ((xs.length - 1 : Nat) : Int) by omega, cut_take, List.map_take])
theorem ev_atS {i k : Nat} {x : List Nat} (h : Γ[i]? = some (.dat (.lst (xs.map strD)))) (hx : xs[k]? = some x) : Ev B (tOp (zIx B.K) (tVar i) (tC (.int k))) Γ (.str (tx x)) := ev_op (ev_var h) ev_int (rv_ixL (atI_ofNat (by rw [List.getElem?_map, hx]; rfl)))
end
theorem sums_le {b c : Nat} {l : List (List Nat)} (h : ∀ x ∈ l, x.length ≤ b) (hc : l.length ≤ c) (h2 : b * c + c ≤ 100000) : (l.map (·.length)).sum + l.length ≤ 100000 := by
  have h1 := sum_le l h
  have h3 : b * l.length ≤ b * c := Nat.mul_le_mul_left b hc
  omega
theorem pure__law_spoilt {mg : Str → Option Value} {w : World} (B : Bx) (T : Tx w B.K mg) (W : WX) (ds : List D) (R : Sl → Prop) (X : Xc → Prop) (h : F__law_spoilt B.K ds R X) : Sv B W (t__law_spoilt w B.K W) (ini N__law_spoilt ds) { nx := fun _ => R (.dat .non), rt := R, xc := fun x _ => X x } := by
  obtain ⟨i, l, cs, n, mk, kind, rfl, hi, hn, hm, hk, hLet, hl, hR⟩ := h
  show Sv B W (t__law_spoilt w B.K W) [.dat (.int i), .dat l.d, .dat (.int n), .dat (.int mk), .dat (.int kind), .un, .un] _
  unfold t__law_spoilt
  have hi1 : itxt ((i : Nat) : Int) = [48 + i] := itxt_dig (by omega)
  have hi2 : itxt ((i : Int) + 1) = [48 + (i + 1)] := itxt_dig (k := i + 1) (by omega)
  have hn1 : itxt ((n : Nat) : Int) = [48 + n] := itxt_dig hn
  obtain ⟨a, q, z, ha, e⟩ := ws_parts hl
  obtain ⟨w1, w2⟩ := words_len (i := i) (by omega) (by omega : n ≤ 10) hl
  have nl := note_len (i := i) (by omega) (by omega : n ≤ 10) hl
  have hW : Z.wordsOf i l = itxt i :: l.kind :: [a] :: (q ++ [z]) := by unfold Z.wordsOf; rw [e]
  have hws : l.ws.headD [] = [a] := by rw [e]; rfl
  have htl : l.ws.tail = q ++ [z] := by rw [e]; rfl
  have hWl : (Z.wordsOf i l).length = l.ws.length + 2 := rfl
  refine sv_seq (sv_set (ev_callS (by walk_at "ev") ⟨i, l, cs, n, rfl, by omega, by omega, hl, rfl⟩) (by walk_at "at") ?_)
  refine sv_seq (sv_set (d := .lst ((Z.wordsOf i l).map strD)) (ev_eq (Ev.of_own (evo_split (c := 32) rfl (by decide) (by walk_at "ev") (by walk_at "ev") (by omega))) (by rw [note_splt (by omega) (by omega : n ≤ 10) hLet hl]; rfl)) (by walk_at "at") ?_)
  have tk : ∀ m, ∀ x ∈ (Z.wordsOf i l).take m, x.length ≤ 6 := fun m x hx => w2 x (List.mem_of_mem_take hx)
  have dp : ∀ m, ∀ x ∈ (Z.wordsOf i l).drop m, x.length ≤ 6 := fun m x hx => w2 x (List.mem_of_mem_drop hx)
  have kl := kind_len l
  let Γ0 : List Sl := [.dat (.int i), .dat l.d, .dat (.int n), .dat (.int mk), .dat (.int kind), .dat (.str (tx (noteOf i l))), .dat (.lst ((Z.wordsOf i l).map strD))]
  have h0 : Ev B (tOp (zIx B.K) (tVar 6) (tC (.int 0))) Γ0 (.str (tx (itxt i))) := ev_atS (k := 0) rfl rfl
  have h1 : Ev B (tOp (zIx B.K) (tVar 6) (tC (.int 1))) Γ0 (.str (tx l.kind)) := ev_atS (k := 1) rfl rfl
  have h2 : Ev B (tOp (zIx B.K) (tVar 6) (tC (.int 2))) Γ0 (.str (tx [a])) := ev_atS (k := 2) rfl (by rw [hW]; rfl)
  have hN : Ev B (tVar 5) Γ0 (.str (tx (noteOf i l))) := ev_var rfl
  have d1 : Ev B (tSl (zSl B.K) (tVar 6) (tPart (tC (.int 1))) tNoPart) Γ0 (.lst (((Z.wordsOf i l).drop 1).map strD)) := ev_dropS (k := 1) rfl
  have d2 : Ev B (tSl (zSl B.K) (tVar 6) (tPart (tC (.int 2))) tNoPart) Γ0 (.lst (l.ws.map strD)) := ev_eq (ev_dropS (xs := Z.wordsOf i l) (k := 2) rfl) rfl
  have d3 : Ev B (tSl (zSl B.K) (tVar 6) (tPart (tC (.int 3))) tNoPart) Γ0 (.lst ((l.ws.tail).map strD)) := ev_eq (ev_dropS (xs := Z.wordsOf i l) (k := 3) rfl) (by rw [hW, htl]; rfl)
  have t2 : Ev B (tSl (zSl B.K) (tVar 6) tNoPart (tPart (tC (.int 2)))) Γ0 (.lst (([itxt i, l.kind] : List (List Nat)).map strD)) := ev_takeS (xs := Z.wordsOf i l) (k := 2) rfl
  have tI : Ev B (tSl (zSl B.K) (tVar 6) tNoPart (tPart (tOp zSub (tCB (zLen B.K) (tCons (tVar 6) tNil)) (tC (.int 1))))) Γ0 (.lst (((Z.wordsOf i l).take ((Z.wordsOf i l).length - 1)).map strD)) := ev_initS rfl (by omega)
  have wsl : l.ws.length ≤ 7 := by omega
  have lenI : ((Z.wordsOf i l).take ((Z.wordsOf i l).length - 1)).length ≤ 9 := by rw [List.length_take]; omega
  have one : ∀ x : List Nat, x.length ≤ 6 → (((Z.wordsOf i l).take ((Z.wordsOf i l).length - 1) ++ [x]).map (·.length)).sum + ((Z.wordsOf i l).take ((Z.wordsOf i l).length - 1) ++ [x]).length ≤ 100000 := fun x hx => sums_le (b := 6) (c := 10) (fun y hy => by
    rcases List.mem_append.mp hy with hy | hy
    · exact tk _ y hy
    · rw [List.mem_singleton] at hy; rw [hy]; exact hx) (by rw [List.length_append, List.length_singleton]; omega) (by decide)
  have wsw : ∀ x ∈ l.ws, x.length ≤ 6 := fun x hx => w2 x (by unfold Z.wordsOf; exact List.mem_cons_of_mem _ (List.mem_cons_of_mem _ hx))
  have mid : ∀ x : List Nat, x.length ≤ 6 → (([itxt i, l.kind] ++ [x] ++ l.ws.tail).map (·.length)).sum + ([itxt i, l.kind] ++ [x] ++ l.ws.tail).length ≤ 100000 := fun x hx => sums_le (b := 6) (c := 10) (fun y hy => by
    rcases List.mem_append.mp hy with hy | hy
    · simp only [List.cons_append, List.nil_append, List.mem_cons, List.not_mem_nil, or_false] at hy
      rcases hy with rfl | rfl | rfl
      · rw [hi1]; simp
      · exact kl
      · exact hx
    · exact wsw y (List.mem_of_mem_tail hy)) (by simp; omega) (by decide)
  have hnum : Ev B (tCB zStr (tCons (tVar 2) tNil)) Γ0 (.str (tx (itxt n))) := ev_cb (eva_cons (ev_var rfl) eva_nil) (rc_str (log_small (by omega) (by omega)))
  have hat1 : Ev B (tCB zStr (tCons (tOp (zAdd B.K) (tVar 0) (tC (.int 1))) tNil)) Γ0 (.str (tx (itxt ((i : Int) + 1)))) := ev_cb (eva_cons (ev_op (ev_var rfl) ev_int rv_add) eva_nil) (rc_str (log_small (by omega) (by omega)))
  have neq : ∀ k : Nat, kind ≠ k → EvT B (tTest (tOp (zEq B.K) (tVar 4) (tC (.int k)))) Γ0 false := fun k h => evt_eq (evt_test (ev_op (ev_var (d := .int kind) rfl) ev_int rv_eqI)) (decide_eq_false (by omega))
  have yeq : EvT B (tTest (tOp (zEq B.K) (tVar 4) (tC (.int kind)))) Γ0 true := evt_eq (evt_test (ev_op (ev_var (d := .int kind) rfl) ev_int rv_eqI)) (decide_eq_true rfl)
  have nw : noteOf i l = itxt i ++ 32 :: joinL [32] (l.kind :: l.ws) := joinL_cons _ _ (by simp)
  have r1 : l.ws ≠ [] := by rw [e]; simp
  have jd : (joinL [32] ((Z.wordsOf i l).drop 1)).length ≤ 70 := by
    have := joinL_len (c := 32) _ (dp 1)
    rw [List.length_drop] at this
    omega
  by_cases h8 : kind < 8
  · refine sv_seq (sv_if (p := true) (evt_eq (evt_test (ev_op (ev_var (d := .int kind) rfl) ev_int rv_lt)) (decide_eq_true (by omega))) (fun _ => ?_) fun h => nomatch h)
    refine sv_ret (ev_op (Ev.of_own (evo_lstX (ds := ([noteOf i l ++ [32], [32] ++ noteOf i l, [], noteOf i l ++ [32, 121, 101, 115, 32, 121, 101, 115, 32, 121, 101, 115, 32, 121, 101, 115, 32, 121, 101, 115, 32, 121, 101, 115, 32, 121, 101, 115], (itxt i ++ [32, 32]) ++ joinL [32] ((Z.wordsOf i l).drop 1), [48] ++ noteOf i l, itxt ((i : Int) + 1) ++ (noteOf i l).drop (itxt i).length, joinL [32] ((Z.wordsOf i l).take ((Z.wordsOf i l).length - 1) ++ [wBigYes])] : List (List Nat)).map strD)
      (eva_cons (ev_addS hN ev_str (by simp; omega)) (eva_cons (ev_addS ev_str hN (by simp; omega)) (eva_cons ev_str (eva_cons (ev_addS hN ev_str (by simp; omega)) (eva_cons (ev_addS (ev_addS h0 ev_str (by rw [hi1]; simp)) (ev_joinS d1 (sums_le (b := 6) (c := 9) (dp 1) (by rw [List.length_drop]; omega) (by decide))) (by rw [hi1]; simp; simp at jd; omega)) (eva_cons (ev_addS ev_str hN (by simp; omega)) (eva_cons (ev_addS hat1 (ev_eq (ev_sl hN (evp_some (ev_cb (eva_cons h0 eva_nil) (rc_lenT (by rw [hi1]; simp)))) evp_none (rs_slT (by omega))) (by rw [cut_drop])) (by rw [hi2, List.length_drop]; simp; omega)) (eva_cons (ev_joinS (ev_catS tI (ev_oneS ev_str) (by simp; omega)) (one _ (by simp))) eva_nil)))))))) (Nat.le_of_ble_eq_true rfl))) (ev_var (d := .int kind) rfl) (rv_ixL (atI_ofNat (n := kind) (x := .str (tx (joinL [32] (spW i l n mk kind)))) ?_))) hR
    rw [List.getElem?_map]
    rcases (by omega : kind = 0 ∨ kind = 1 ∨ kind = 2 ∨ kind = 3 ∨ kind = 4 ∨ kind = 5 ∨ kind = 6 ∨ kind = 7) with rfl | rfl | rfl | rfl | rfl | rfl | rfl | rfl
    · show some (strD (noteOf i l ++ [32])) = some (strD (joinL [32] (Z.wordsOf i l ++ [[]])))
      rw [joinL_app _ _ (by simp [Z.wordsOf]) (by simp)]; rfl
    · show some (strD ([32] ++ noteOf i l)) = some (strD (joinL [32] ([] :: Z.wordsOf i l)))
      rw [joinL_cons _ _ (by simp [Z.wordsOf])]; rfl
    · rfl
    · show some (strD (noteOf i l ++ _)) = some (strD (joinL [32] (Z.wordsOf i l ++ List.replicate 7 wYes)))
      rw [joinL_app _ _ (by simp [Z.wordsOf]) (by simp)]; rfl
    · show some (strD (itxt i ++ [32, 32] ++ joinL [32] (l.kind :: l.ws))) = some (strD (joinL [32] (itxt i :: [] :: l.kind :: l.ws)))
      rw [joinL_cons (itxt i) ([] :: l.kind :: l.ws) (by simp), joinL_cons [] (l.kind :: l.ws) (by simp), List.append_assoc]; rfl
    · show some (strD ([48] ++ noteOf i l)) = some (strD (joinL [32] ((48 :: itxt i) :: l.kind :: l.ws)))
      rw [nw, joinL_cons (48 :: itxt i) (l.kind :: l.ws) (by simp)]; rfl
    · show some (strD (itxt ((i : Int) + 1) ++ (noteOf i l).drop (itxt i).length)) = some (strD (joinL [32] (itxt ((i : Int) + 1) :: l.kind :: l.ws)))
      rw [nw, List.drop_left, joinL_cons (itxt ((i : Int) + 1)) (l.kind :: l.ws) (by simp)]
    · rfl
  refine sv_seq (sv_if (p := false) (evt_eq (evt_test (ev_op (ev_var (d := .int kind) rfl) ev_int rv_lt)) (decide_eq_false (by omega))) (fun h => nomatch h) fun _ => sv_next ?_)
  by_cases k8 : kind = 8
  · subst k8
    exact sv_seq (sv_if yeq (fun _ => sv_ret (ev_joinS (ev_catS tI (ev_oneS hnum) (by simp; omega)) (one _ (by rw [hn1]; simp))) hR) fun h => nomatch h)
  refine sv_seq (sv_if (neq 8 k8) (fun h => nomatch h) fun _ => sv_next ?_)
  by_cases k9 : kind = 9
  · subst k9
    refine sv_seq (sv_if yeq (fun _ => sv_ret (ev_joinS (ev_catS (ev_twoS h0 (ev_addS h1 ev_str (by simp; omega))) d2 (by simp; omega)) ?_) hR) fun h => nomatch h)
    refine sums_le (b := 7) (c := 10) (fun y hy => ?_) (by simp; omega) (by decide)
    rcases List.mem_append.mp hy with hy | hy
    · simp only [List.mem_cons, List.not_mem_nil, or_false] at hy
      rcases hy with rfl | rfl
      · rw [hi1]; simp
      · rw [List.length_append]; simp; omega
    · have := wsw y hy; omega
  refine sv_seq (sv_if (neq 9 k9) (fun h => nomatch h) fun _ => sv_next ?_)
  by_cases k10 : kind = 10
  · subst k10
    have hc : Ev B (tOp (zIx B.K) (tC (.str (tx [65, 66, 67, 68, 69, 70]))) (tVar 3)) Γ0 (.str (tx [65 + mk])) := ev_op ev_str (ev_var (d := .int mk) rfl) (rv_ixT (atI_ofNat (by
      have : ∀ k : Fin 6, ([65, 66, 67, 68, 69, 70] : List Nat)[k.val]? = some (65 + k.val) := by decide
      exact this ⟨mk, by omega⟩)) (by simp))
    exact sv_seq (sv_if yeq (fun _ => sv_ret (ev_joinS (ev_catS (ev_catS t2 (ev_oneS hc) (by simp)) d3 (by simp; omega)) (mid _ (by simp))) hR) fun h => nomatch h)
  refine sv_seq (sv_if (neq 10 k10) (fun h => nomatch h) fun _ => sv_next ?_)
  by_cases k11 : kind = 11
  · subst k11
    exact sv_seq (sv_if yeq (fun _ => sv_ret (ev_joinS (ev_catS tI (ev_oneS ev_str) (by simp; omega)) (one _ (by simp))) hR) fun h => nomatch h)
  refine sv_seq (sv_if (neq 11 k11) (fun h => nomatch h) fun _ => sv_next ?_)
  by_cases k12 : kind = 12
  · subst k12
    exact sv_seq (sv_if yeq (fun _ => sv_ret (ev_joinS t2 (by rw [hi1]; simp; omega)) hR) fun h => nomatch h)
  refine sv_seq (sv_if (neq 12 k12) (fun h => nomatch h) fun _ => sv_next ?_)
  by_cases k13 : kind = 13
  · subst k13
    have hR2 : R (.dat (.str (tx (joinL [32] ([itxt i, l.kind] ++ [[a] ++ [a]] ++ l.ws.tail))))) := by
      have : spW i l n mk 13 = [itxt i, l.kind] ++ [l.ws.headD [] ++ l.ws.headD []] ++ l.ws.tail := rfl
      rw [this, hws] at hR
      exact hR
    exact sv_seq (sv_if yeq (fun _ => sv_ret (ev_joinS (ev_catS (ev_catS t2 (ev_oneS (ev_addS h2 h2 (by simp))) (by simp)) d3 (by simp; omega)) (mid _ (by simp))) hR2) fun h => nomatch h)
  refine sv_seq (sv_if (neq 13 k13) (fun h => nomatch h) fun _ => sv_next ?_)
  by_cases k14 : kind = 14
  · subst k14
    have hd : ∀ k : Fin 4, ∃ x, (([[48], [55], [48, 49], [45, 49]] : List (List Nat)))[k.val]? = some x ∧ x.length ≤ 2 := by
      intro k
      match k with
      | ⟨0, _⟩ => exact ⟨_, rfl, by simp⟩
      | ⟨1, _⟩ => exact ⟨_, rfl, by simp⟩
      | ⟨2, _⟩ => exact ⟨_, rfl, by simp⟩
      | ⟨3, _⟩ => exact ⟨_, rfl, by simp⟩
    obtain ⟨x, hx, hxl⟩ := hd ⟨i % 4, Nat.mod_lt _ (by decide)⟩
    have hx : (([[48], [55], [48, 49], [45, 49]] : List (List Nat)))[i % 4]? = some x := hx
    have hxe : Ev B (tOp (zIx B.K) (tLst (tCons (tC (.str (tx [48]))) (tCons (tC (.str (tx [55]))) (tCons (tC (.str (tx [48, 49]))) (tCons (tC (.str (tx [45, 49]))) tNil))))) (tOp zMod (tVar 0) (tC (.int 4)))) Γ0 (.str (tx x)) := ev_op (Ev.of_own (evo_lstX (ds := ([[48], [55], [48, 49], [45, 49]] : List (List Nat)).map strD) (eva_cons ev_str (eva_cons ev_str (eva_cons ev_str (eva_cons ev_str eva_nil)))) (Nat.le_of_ble_eq_true rfl))) (ev_op (ev_var (d := .int i) rfl) ev_int (rv_mod (by decide))) (rv_ixL (by
      rw [show ((i : Nat) : Int) % 4 = ((i % 4 : Nat) : Int) by omega]
      exact atI_ofNat (by rw [List.getElem?_map, hx]; rfl)))
    have hR2 : R (.dat (.str (tx (itxt i ++ [32, 101, 118, 101, 114, 121, 32] ++ [a] ++ [32] ++ [a] ++ [32] ++ x ++ [32, 121, 101, 115, 32, 110, 111])))) := by
      have e14 : spW i l n mk 14 = [itxt i, kEvery, l.ws.headD [], l.ws.headD [], [[48], [55], [48, 49], [45, 49]].getD (i % 4) [], wYes, wNo] := rfl
      rw [e14, hws, List.getD_eq_getElem?_getD, hx] at hR
      have e2 : joinL [32] [itxt i, kEvery, [a], [a], (some x).getD [], wYes, wNo] = itxt i ++ [32, 101, 118, 101, 114, 121, 32] ++ [a] ++ [32] ++ [a] ++ [32] ++ x ++ [32, 121, 101, 115, 32, 110, 111] := by simp [joinL]
      rw [e2] at hR
      exact hR
    refine sv_seq (sv_if yeq (fun _ => sv_ret (ev_addS (ev_addS (ev_addS (ev_addS (ev_addS (ev_addS (ev_addS h0 ev_str ?_) h2 ?_) ev_str ?_) h2 ?_) ev_str ?_) hxe ?_) ev_str ?_) hR2) fun h => nomatch h)
    all_goals (simp only [List.length_append, hi1, List.length_cons, List.length_nil]; omega)
  refine sv_seq (sv_if (neq 14 k14) (fun h => nomatch h) fun _ => sv_next ?_)
  obtain rfl : kind = 15 := by omega
  have hd : ∀ k : Fin 2, ∃ x : Nat, (([0, 7] : List Nat))[k.val]? = some x ∧ x ≤ 7 ∧ [32] ++ kCount ++ [32] ++ [a] ++ rep x [32, 121, 101, 115] = 32 :: joinL [32] ([kCount, [a]] ++ List.replicate x wYes) := by
    intro k
    match k with
    | ⟨0, _⟩ => exact ⟨0, rfl, by omega, rfl⟩
    | ⟨1, _⟩ => exact ⟨7, rfl, by omega, rfl⟩
  obtain ⟨x, hx, hxl, hj⟩ := hd ⟨i % 2, Nat.mod_lt _ (by decide)⟩
  have hx : (([0, 7] : List Nat))[i % 2]? = some x := hx
  have hxe : Ev B (tOp (zIx B.K) (tLst (tCons (tC (.int 0)) (tCons (tC (.int 7)) tNil))) (tOp zMod (tVar 0) (tC (.int 2)))) Γ0 (.int x) := ev_op (Ev.of_own (evo_lstX (ds := ([0, 7] : List Nat).map natD) (eva_cons ev_int (eva_cons ev_int eva_nil)) (Nat.le_of_ble_eq_true rfl))) (ev_op (ev_var (d := .int i) rfl) ev_int (rv_mod (by decide))) (rv_ixL (by
    rw [show ((i : Nat) : Int) % 2 = ((i % 2 : Nat) : Int) by omega]
    exact atI_ofNat (by rw [List.getElem?_map, hx]; rfl)))
  have hR2 : R (.dat (.str (tx (itxt i ++ [32, 99, 111, 117, 110, 116, 32] ++ [a] ++ rep x [32, 121, 101, 115])))) := by
    have e15 : spW i l n mk 15 = [itxt i, kCount, l.ws.headD []] ++ List.replicate ([0, 7].getD (i % 2) 0) wYes := rfl
    rw [e15, hws, List.getD_eq_getElem?_getD, hx] at hR
    have e2 : joinL [32] ([itxt i, kCount, [a]] ++ List.replicate ((some x).getD 0) wYes) = itxt i ++ [32, 99, 111, 117, 110, 116, 32] ++ [a] ++ rep x [32, 121, 101, 115] := by
      show joinL [32] (itxt i :: ([kCount, [a]] ++ List.replicate x wYes)) = _
      rw [joinL_cons _ _ (by simp), ← hj]
      simp
    rw [e2] at hR
    exact hR
  refine sv_ret (ev_addS (ev_addS (ev_addS h0 ev_str ?_) h2 ?_) (ev_eq (ev_op ev_str hxe (rv_mulT (by omega) (by omega) (by simp; omega))) (by rw [Int.toNat_natCast])) ?_) hR2
  · rw [hi1]; simp
  · rw [hi1]; simp
  · rw [hi1, rep_length]; simp; omega

end L

namespace L
open PySem PySem.Spec PyProof.Rows L2 Z
local macro_rules | `(tactic| walk_at "at") => `(tactic| first | with_reducible exact SetAt.zero | ((with_reducible apply SetAt.succ); walk_at "at"))
local macro_rules | `(tactic| walk_at "sd") => `(tactic| first | (with_reducible assumption) | omega | (simp only [rep_length, List.length_append, List.length_cons, List.length_nil, List.length_map, List.length_replicate, List.length_range, List.length_take, List.length_reverse] <;> omega) | decide | exact Nat.le_of_ble_eq_true rfl)
local macro_rules | `(tactic| walk_at "cm") => `(tactic| first | (with_reducible assumption) | (refine cmul_s ?_ ?_ ?_ ?_ <;> first | omega | decide))
local macro_rules | `(tactic| walk_at "rv") => `(tactic| first
  | with_reducible exact rv_add | ((with_reducible apply rv_addT); walk_at "sd") | ((with_reducible apply rv_addL); walk_at "sd") | ((with_reducible apply rv_addU); walk_at "sd")
  | with_reducible exact rv_sub | ((with_reducible apply rv_mul); walk_at "cm") | ((with_reducible apply rv_mulT) <;> walk_at "sd")
  | ((with_reducible apply rv_div); first | assumption | exact cdiv_s (by walk_at "sd") (by walk_at "sd")) | ((with_reducible apply rv_mod); walk_at "sd") | ((with_reducible apply rv_pow); exact ⟨by decide, by decide, by decide⟩)
  | with_reducible exact rv_lt | with_reducible exact rv_le | with_reducible exact rv_gt | with_reducible exact rv_ge
  | with_reducible exact rv_eqI | with_reducible exact rv_eqT | with_reducible exact rv_eqB | with_reducible exact rv_neI | with_reducible exact rv_neT | with_reducible exact rv_neB
  | ((with_reducible apply rv_ixL); first | with_reducible assumption | exact rfl) | ((with_reducible apply rv_ixU); first | with_reducible assumption | exact rfl) | ((with_reducible apply rv_ixT); (focus (first | with_reducible assumption | exact rfl)); walk_at "sd")
  | with_reducible exact rv_isN | with_reducible exact rv_isN' | with_reducible exact rv_notN'
  | with_reducible exact rv_inT | with_reducible exact rv_ninT | with_reducible exact rv_inTs | with_reducible exact rv_ninTs | with_reducible assumption)
local macro_rules | `(tactic| walk_at "rc") => `(tactic| first | with_reducible exact rc_int | with_reducible exact rc_intB | with_reducible exact rc_lenL | with_reducible exact rc_lenU | ((with_reducible apply rc_lenT); walk_at "sd") | with_reducible exact rc_min | with_reducible exact rc_tupleL | with_reducible exact rc_tupleU | with_reducible exact rc_listL | with_reducible exact rc_listU | with_reducible exact rc_max | ((with_reducible apply rc_isi); (focus (exact rfl)); first | with_reducible exact kitT | with_reducible exact kit_NoneType_int | with_reducible exact kit_NoneType_bool | with_reducible exact kit_NoneType_str | with_reducible exact kit_NoneType_list | with_reducible exact kit_NoneType_tuple | with_reducible exact kit_bool_int | with_reducible exact kit_bool_bool | with_reducible exact kit_bool_str | with_reducible exact kit_bool_list | with_reducible exact kit_bool_tuple | with_reducible exact kit_int_int | with_reducible exact kit_int_bool | with_reducible exact kit_int_str | with_reducible exact kit_int_list | with_reducible exact kit_int_tuple | with_reducible exact kit_str_int | with_reducible exact kit_str_bool | with_reducible exact kit_str_str | with_reducible exact kit_str_list | with_reducible exact kit_str_tuple | with_reducible exact kit_list_int | with_reducible exact kit_list_bool | with_reducible exact kit_list_str | with_reducible exact kit_list_list | with_reducible exact kit_list_tuple | with_reducible exact kit_tuple_int | with_reducible exact kit_tuple_bool | with_reducible exact kit_tuple_str | with_reducible exact kit_tuple_list | with_reducible exact kit_tuple_tuple | assumption | rfl) | with_reducible assumption)
local macro_rules | `(tactic| walk_at "rs") => `(tactic| first | with_reducible exact rs_slL | with_reducible exact rs_slU | ((with_reducible apply rs_slT); walk_at "sd"))
local macro_rules | `(tactic| walk_at "ru") => `(tactic| first | ((with_reducible apply ru_rev); walk_at "sd") | with_reducible exact ru_neg)
local macro_rules | `(tactic| walk_at "rm") => `(tactic| first | with_reducible exact rm_count | with_reducible assumption)
local macro_rules | `(tactic| walk_at "eo") => `(tactic| first
  | ((with_reducible apply evo_lstX); (focus (walk_at "ev")); exact Nat.le_of_ble_eq_true rfl)
  | ((with_reducible apply evo_callS); (focus (walk_at "ev")); (focus (walk_at "fn")))
  | ((with_reducible apply evo_addL rfl); (focus (walk_at "ev")); (focus (walk_at "ev")); walk_at "sd")
  | ((with_reducible apply evo_listL rfl); walk_at "ev") | ((with_reducible apply evo_listU rfl); walk_at "ev")
  | with_reducible assumption)
local macro_rules | `(tactic| walk_at "ev") => `(tactic| first
  | (with_reducible assumption)
  | ((with_reducible apply ev_var); exact rfl)
  | with_reducible exact ev_int | with_reducible exact ev_str | with_reducible exact ev_bl | with_reducible exact ev_non | with_reducible exact ev_ty | with_reducible exact ev_ref
  | with_reducible exact eva_nil
  | ((with_reducible apply eva_cons); (focus (walk_at "ev")); (focus (walk_at "ev")))
  | ((with_reducible apply ev_op); (focus (walk_at "ev")); (focus (walk_at "ev")); (focus (walk_at "rv")))
  | ((with_reducible apply ev_cb); (focus (walk_at "ev")); (focus (walk_at "rc")))
  | ((with_reducible apply evt_test); (focus (walk_at "ev")))
  | ((with_reducible apply evt_b); (focus (walk_at "ev")))
  | ((with_reducible apply evt_not); (focus (walk_at "ev")))
  | ((with_reducible apply evt_and); (focus (walk_at "ev")); (focus (intro _; walk_at "ev")))
  | ((with_reducible apply evt_or); (focus (walk_at "ev")); (focus (intro _; walk_at "ev")))
  | with_reducible exact evt_yes
  | ((with_reducible apply ev_and); (focus (walk_at "ev")); (focus (intro _; walk_at "ev")))
  | ((with_reducible apply ev_or); (focus (walk_at "ev")); (focus (intro _; walk_at "ev")))
  | ((with_reducible apply ev_not); (focus (walk_at "ev")))
  | ((with_reducible apply ev_callS); (focus (walk_at "ev")); (focus (walk_at "fn")))
  | ((with_reducible apply ev_call); (focus (walk_at "ev")); (focus (walk_at "fn")))
  | ((with_reducible apply ev_tupX); (focus (walk_at "ev")); exact Nat.le_of_ble_eq_true rfl)
  | with_reducible exact evp_none
  | ((with_reducible apply evp_some); (focus (walk_at "ev")))
  | ((with_reducible apply ev_sl); (focus (walk_at "ev")); (focus (walk_at "ev")); (focus (walk_at "ev")); (focus (walk_at "rs")))
  | ((with_reducible apply ev_un); (focus (walk_at "ev")); (focus (walk_at "ru")))
  | ((with_reducible apply ev_bmT); (focus (walk_at "ev")); (focus (walk_at "ev")); (focus (walk_at "rm")))
  | ((with_reducible apply ev_bmT0); (focus (walk_at "ev")); (focus (walk_at "rm")))
  | ((with_reducible apply evi_list); (focus (walk_at "ev")))
  | ((with_reducible apply evi_tup); (focus (walk_at "ev")))
  | ((with_reducible apply evi_str); (focus (walk_at "ev")))
  | ((with_reducible apply evi_rng1); (focus (walk_at "ev")); (focus (constructor <;> walk_at "sd")))
  | ((with_reducible apply evi_rng2); (focus (walk_at "ev")); (focus (constructor <;> walk_at "sd")); (focus (constructor <;> walk_at "sd")))
  | ((with_reducible apply Ev.of_own); walk_at "eo")
  | with_reducible assumption)
local macro_rules | `(tactic| walk_at "st") => `(tactic| repeat (first
  | (with_reducible apply sv_seq)
  | ((with_reducible apply sv_set); (focus (walk_at "ev")); (focus (walk_at "at")))
  | ((with_reducible apply sv_drop); (focus (walk_at "ev")))
  | (with_reducible apply sv_next)))
local macro_rules | `(tactic| walk_at "eq") => `(tactic| (with_reducible apply ev_eq); (focus (walk_at "ev")); rfl)
theorem tgd_frz (n : Nat) (t : Tg) : frzD n t.d = t.d := by cases n <;> cases t <;> rfl
theorem frz_es (ls : List Ln) : frzD 5 (.lst (ls.map Ln.e)) = .tup (ls.map Ln.d) := by
  show D.tup ((ls.map Ln.e).map (frzD 4)) = _
  rw [List.map_map]
  congr 1
  refine List.map_congr_left fun l _ => ?_
  cases l with
  | one s a b t => show D.tup [_, _, _, frzD 3 t.d] = _; rw [tgd_frz]; rfl
  | first a b t u => show D.tup [_, _, _, frzD 3 t.d, frzD 3 u.d] = _; rw [tgd_frz, tgd_frz]; rfl
  | every a b s t u => show D.tup [_, _, _, _, frzD 3 t.d, frzD 3 u.d] = _; rw [tgd_frz, tgd_frz]; rfl
  | count a ts =>
    show D.tup [_, _, .tup ((ts.map Tg.d).map (frzD 2))] = _
    have : (ts.map Tg.d).map (frzD 2) = ts.map Tg.d := by rw [List.map_map]; exact List.map_congr_left fun t _ => tgd_frz 2 t
    rw [this]; rfl
  | leads a t u => show D.tup [_, _, frzD 3 t.d, frzD 3 u.d] = _; rw [tgd_frz, tgd_frz]; rfl
theorem ok_es {cs : List Nat} {n : Nat} {ls : List Ln} (h : ls.length ≤ 60) (ho : ∀ l ∈ ls, l.ok cs n) : okD 5 (.lst (ls.map Ln.e)) = true := by
  show (decide ((ls.map Ln.e).length < 16777216) && (ls.map Ln.e).all (okD 4)) = true
  rw [List.length_map, decide_eq_true (by omega), Bool.true_and, List.all_map, List.all_eq_true]
  intro l hl
  have ht : ∀ (n : Nat) (t : Tg), okD (n + 1) t.d = true := fun n t => by cases t <;> rfl
  have := ho l hl
  show okD 4 l.e = true
  cases l with
  | one s a b t => show (_ && ([_, _, _, t.d] : List D).all (okD 3)) = true; simp [ht, okD, List.all, Ln.items]
  | first a b t u => show (_ && ([_, _, _, t.d, u.d] : List D).all (okD 3)) = true; simp [ht, okD, List.all, Ln.items]
  | every a b s t u => show (_ && ([_, _, _, _, t.d, u.d] : List D).all (okD 3)) = true; simp [ht, okD, List.all, Ln.items]
  | count a ts =>
    have h6 : ts.length ≤ 6 := this.2.2.1
    have e : okD 3 (.lst (ts.map Tg.d)) = true := by
      show (decide ((ts.map Tg.d).length < 16777216) && (ts.map Tg.d).all (okD 2)) = true
      rw [List.length_map, decide_eq_true (by omega), Bool.true_and, List.all_map, List.all_eq_true]
      exact fun t _ => ht 1 t
    show (_ && ([_, _, .lst (ts.map Tg.d)] : List D).all (okD 3)) = true
    simp only [List.all_cons, e]
    rfl
  | leads a t u => show (_ && ([_, _, t.d, u.d] : List D).all (okD 3)) = true; simp [ht, okD, List.all, Ln.items]
theorem e_non (l : Ln) : D.isNon l.e = false := by cases l <;> rfl
theorem pure_parse_program {mg : Str → Option Value} {w : World} (B : Bx) (T : Tx w B.K mg) (W : WX) (ds : List D) (R : Sl → Prop) (X : Xc → Prop) (h : F_parse_program B.K ds R X) : Sv B W (t_parse_program w B.K W) (ini N_parse_program ds) { nx := fun _ => R (.dat .non), rt := R, xc := fun x _ => X x } := by
  obtain ⟨s, rfl, hl, hcase⟩ := h
  show Sv B W (t_parse_program w B.K W) [.dat (.str (tx s)), .un, .un, .un, .un, .un, .un] _
  unfold t_parse_program
  have hpl : ∀ w ∈ splt 10 s, w.length ≤ 100000 := fun w hw => Nat.le_trans (splt_len hw) hl
  refine sv_seq (sv_set (d := .lst ((splt 10 s).map strD)) (Ev.of_own (evo_split (c := 10) rfl (by decide) (by walk_at "ev") (by walk_at "ev") (by omega))) (by walk_at "at") ?_)
  -- the walk behind the head, for a head that is right
  have main : ∀ (h lt : List Nat) (k : Nat) (t : List (List Nat)) (ls : List Ln), splt 10 s = h :: t → HeadR h (.tup [.str (tx lt), .int k]) → lt.length ≤ 3 → t.length ≤ 60 → t ≠ [] →
      (∀ (i : Nat) (l : Ln), ls[i]? = some l → ∃ y, t[i]? = some y ∧ LineR y i (csOf lt k) t.length l.e) →
      ((t.length = ls.length ∧ Right lt ∧ ProgOk (csOf lt k) ls ∧ R (.own (progI B.K lt k ls))) ∨ ∃ x, t[ls.length]? = some x ∧ LineR x ls.length (csOf lt k) t.length .non ∧ X (xBL B.K (ls.length + 2))) →
      Sv B W (tSeq (tAsg (tLst tNil) (gName 3))
  (tSeq (tFor (iEnumZ B.K (tCons (tSl (zSl B.K) (tVar 1) (tPart (tC (.int 1))) tNoPart) tNil)) (gTup B.K 2 (gCons (gName 4) (gCons (gName 5) gNil))) (tSeq (tAsg (tCallS (spz B.K (F_read_line B.K)) (WE W) (tCons (tVar 5) (tCons (tVar 4) (tCons (tCallS (spz B.K (F_characters_of B.K)) (WE W) (tCons (tOp (zIx B.K) (tVar 2) (tC (.int 0))) (tCons (tOp (zIx B.K) (tVar 2) (tC (.int 1))) tNil))) (tCons (tOp zSub (tCB (zLen B.K) (tCons (tVar 1) tNil)) (tC (.int 1))) tNil))))) (gName 6))
  (tSeq (tIfS (tTest (tOp zIsN (tVar 6) (tC .non))) (tRaise (He.ga B.K (PySem.Str.ofString "BadLine")) (spX1 (He.ga B.K (PySem.Str.ofString "BadLine")) (PySem.Str.ofString "line")) (tCons (tOp (zAdd B.K) (tVar 4) (tC (.int 2))) tNil) W) tNext)
  (tDrop (tBM B.K "list" rAppend (tVar 3) (tCons (tVar 6) tNil))))))
  (tRet (tMkZ (He.ga B.K (PySem.Str.ofString "Program")) (spI B.K (He.ga B.K "Program") (F_Program B.K)) (WE W) (tCons (tOp (zIx B.K) (tVar 2) (tC (.int 0))) (tCons (tOp (zIx B.K) (tVar 2) (tC (.int 1))) (tCons (tVar 3) tNil)))))))
      [.dat (.str (tx s)), .dat (.lst ((h :: t).map strD)), .dat (.tup [.str (tx lt), .int k]), .un, .un, .un, .un] { nx := fun _ => R (.dat .non), rt := R, xc := fun x _ => X x } := fun h lt k t ls e hh hlt ht hne hp hout => by
    have hls : ls.length ≤ t.length := by
      rcases Nat.lt_or_ge t.length ls.length with q | q
      · obtain ⟨y, hy, _⟩ := hp t.length ls[t.length] (List.getElem?_eq_getElem q)
        rw [List.getElem?_eq_none (Nat.le_refl _)] at hy
        cases hy
      · exact q
    refine sv_seq (sv_setO (w := .lst []) (by walk_at "eo") (by walk_at "at") ?_)
    have hcut : cut ((h :: t).map strD) (some 1) none = t.map strD := by
      have := cut_drop ((h :: t).map strD) 1
      rw [show ((1 : Nat) : Int) = 1 from rfl] at this
      rw [this]; rfl
    have hE : EvI B (iEnumZ B.K (tCons (tSl (zSl B.K) (tVar 1) (tPart (tC (.int 1))) tNoPart) tNil)) [.dat (.str (tx s)), .dat (.lst ((h :: t).map strD)), .dat (.tup [.str (tx lt), .int k]), .own (.lst []), .un, .un, .un] (t.zipIdx.map fun p => .tup [.int (p.2 : Nat), strD p.1]) := by
      rw [← enum_map, ← hcut]
      exact evi_enumL (by walk_at "ev")
    refine sv_seq (sv_forI (fun p : List Nat × Nat => .tup [.int (p.2 : Nat), strD p.1]) t.zipIdx hE (fun i Γ' => ∃ c4 c5 c6 : Sl, i ≤ ls.length ∧ Γ' = [.dat (.str (tx s)), .dat (.lst ((h :: t).map strD)), .dat (.tup [.str (tx lt), .int k]), .own (.lst ((ls.take i).map Ln.e)), c4, c5, c6]) ⟨_, _, _, Nat.zero_le _, rfl⟩ ?_ ?_)
    · rintro Γ' ⟨c4, c5, c6, hi, rfl⟩
      rw [List.length_zipIdx] at hi ⊢
      rcases hout with ⟨h1, h2, h3, h4⟩ | ⟨x, hx, _⟩
      · rw [List.take_of_length_le (by omega)]
        refine sv_freeze 3 rfl (by walk_at "at") ?_
        refine sv_retO (evo_mk (by walk_at "ev") ⟨lt, k, ls, ls.map Ln.e, rfl, h2, by omega, ?_, ?_, ok_es h3.2.1 h3.2.2, frz_es ls, rfl⟩) h4
        · rw [Int.toNat_natCast]; exact h3
        · rw [List.length_map]; exact h3.2.1
      · have : ls.length = t.length := by omega
        rw [this, List.getElem?_eq_none (Nat.le_refl _)] at hx
        cases hx
    · rintro i ⟨x, j⟩ Γ' hx ⟨c4, c5, c6, hi, rfl⟩
      rw [List.getElem?_zipIdx] at hx
      obtain ⟨x', hx', e2⟩ := Option.map_eq_some_iff.mp hx
      obtain ⟨rfl, rfl⟩ : x' = x ∧ j = i := by
        have := e2
        simp only [Nat.zero_add, Prod.mk.injEq] at this
        exact ⟨this.1, this.2.symm⟩
      have hlt2 := (List.getElem?_eq_some_iff.mp hx').1
      have hxl : x'.length ≤ 100000 := hpl x' (by rw [e]; exact List.mem_cons_of_mem _ (List.mem_of_getElem? hx'))
      refine ⟨_, evg_tup (evgs_cons (evg_name (by walk_at "at")) (evgs_cons (evg_name (by walk_at "at")) evgs_nil)) rfl, ?_⟩
      have hco : F_characters_of B.K [.str (tx lt), .int k] (fun s => s.toD = some (.str (tx (csOf lt k)))) (fun _ => False) := ⟨lt, k, rfl, by omega, by omega, by rw [Int.toNat_natCast]; rfl⟩
      have hn : Ev B (tOp zSub (tCB (zLen B.K) (tCons (tVar 1) tNil)) (tC (.int 1))) [.dat (.str (tx s)), .dat (.lst ((h :: t).map strD)), .dat (.tup [.str (tx lt), .int k]), .own (.lst ((ls.take j).map Ln.e)), .dat (.int j), .dat (strD x'), c6] (.int t.length) := ev_eq (by walk_at "ev") (by rw [List.length_map, List.length_cons]; congr 1; omega)
      have hargs : ∀ d, LineR x' j (csOf lt k) t.length d → Ev B (tCallS (spz B.K (F_read_line B.K)) (WE W) (tCons (tVar 5) (tCons (tVar 4) (tCons (tCallS (spz B.K (F_characters_of B.K)) (WE W) (tCons (tOp (zIx B.K) (tVar 2) (tC (.int 0))) (tCons (tOp (zIx B.K) (tVar 2) (tC (.int 1))) tNil))) (tCons (tOp zSub (tCB (zLen B.K) (tCons (tVar 1) tNil)) (tC (.int 1))) tNil))))) [.dat (.str (tx s)), .dat (.lst ((h :: t).map strD)), .dat (.tup [.str (tx lt), .int k]), .own (.lst ((ls.take j).map Ln.e)), .dat (.int j), .dat (strD x'), c6] d := fun d hd =>
        ev_callS (eva_cons (by walk_at "ev") (eva_cons (by walk_at "ev") (eva_cons (ev_callS (by walk_at "ev") hco) (eva_cons hn eva_nil)))) ⟨x', csOf lt k, j, t.length, d, rfl, hxl, by omega, hd, rfl⟩
      rcases Nat.lt_or_ge j ls.length with hj | hj
      · obtain ⟨y, hy, hL⟩ := hp j ls[j] (List.getElem?_eq_getElem hj)
        obtain rfl : y = x' := by rw [hx'] at hy; exact (Option.some.inj hy).symm
        refine sv_seq (sv_set (hargs _ hL) (by walk_at "at") ?_)
        refine sv_seq (sv_if (p := false) (evt_test (ev_op (ev_var rfl) ev_non (by rw [← e_non ls[j]]; exact rv_isN'))) (fun h => nomatch h) fun _ => sv_next ?_)
        exact sv_app rfl (ev_var rfl) (by rw [List.length_map, List.length_take]; omega) (by walk_at "at") ⟨_, _, _, hj, by rw [List.take_succ_eq_append_getElem hj, List.map_append]; rfl⟩
      · obtain rfl : j = ls.length := by omega
        rcases hout with ⟨h1, _⟩ | ⟨y, hy, hL, hX⟩
        · omega
        · obtain rfl : y = x' := by rw [hx'] at hy; exact (Option.some.inj hy).symm
          refine sv_seq (sv_set (hargs _ hL) (by walk_at "at") ?_)
          refine sv_seq (sv_if (p := true) (by walk_at "ev") (fun _ => ?_) fun h => nomatch h)
          exact sv_raise1 (eva_cons (ev_op (ev_var rfl) ev_int rv_add) eva_nil) hX
  have hd1 : ∀ (h : List Nat) (t : List (List Nat)) (d : D), splt 10 s = h :: t → HeadR h d → Ev B (tCallS (spz B.K (F_read_head B.K)) (WE W) (tCons (tOp (zIx B.K) (tVar 1) (tC (.int 0))) tNil)) [.dat (.str (tx s)), .dat (.lst ((h :: t).map strD)), .un, .un, .un, .un, .un] d := fun h t d e hh =>
    ev_callS (eva_cons (ev_atS (k := 0) rfl rfl) eva_nil) ⟨h, d, rfl, hpl h (by rw [e]; simp), hh, rfl⟩
  have one : ∀ (t : List (List Nat)), t ≠ [] → ∀ h : List Nat, decide ((((h :: t).map strD).length : Int) = 1) = false := fun t ht h => decide_eq_false (by
    rw [List.length_map, List.length_cons]
    have : 0 < t.length := List.length_pos_iff.mpr ht
    omega)
  rcases hcase with ⟨due, hr, hX⟩ | ⟨lt, h, k, ls, t, e, hh, hr, htl, hp, hpo, hR⟩
  · cases hr with
    | @head h t e hh =>
      rw [e]
      refine sv_seq (sv_set (hd1 h t _ e hh) (by walk_at "at") ?_)
      exact sv_seq (sv_if (p := true) (by walk_at "ev") (fun _ => sv_raise1 (eva_cons ev_int eva_nil) hX) fun h => nomatch h)
    | @none h lt k e hh =>
      rw [e]
      refine sv_seq (sv_set (hd1 h [] _ e hh) (by walk_at "at") ?_)
      refine sv_seq (sv_if (p := false) (evt_eq (by walk_at "ev") (by rfl)) (fun h => nomatch h) fun _ => sv_next ?_)
      exact sv_seq (sv_if (p := true) (evt_eq (by walk_at "ev") (by rfl)) (fun _ => sv_raise1 (eva_cons ev_int eva_nil) hX) fun h => nomatch h)
    | @line h lt x t k ls e hh hlt ht hp hx hb =>
      have hne : t ≠ [] := by intro q; subst q; simp at hx
      rw [e]
      refine sv_seq (sv_set (hd1 h t _ e hh) (by walk_at "at") ?_)
      refine sv_seq (sv_if (p := false) (evt_eq (by walk_at "ev") (by rfl)) (fun h => nomatch h) fun _ => sv_next ?_)
      refine sv_seq (sv_if (p := false) (evt_eq (by walk_at "ev") (one t hne h)) (fun h => nomatch h) fun _ => sv_next ?_)
      exact main h lt k t ls e hh hlt ht hne hp (.inr ⟨x, hx, hb, hX⟩)
  · have hne : t ≠ [] := by intro q; subst q; have := hpo.1; simp at htl; omega
    rw [e]
    refine sv_seq (sv_set (hd1 h t _ e hh) (by walk_at "at") ?_)
    refine sv_seq (sv_if (p := false) (evt_eq (by walk_at "ev") (by rfl)) (fun h => nomatch h) fun _ => sv_next ?_)
    refine sv_seq (sv_if (p := false) (evt_eq (by walk_at "ev") (one t hne h)) (fun h => nomatch h) fun _ => sv_next ?_)
    exact main h lt k t ls e hh hr.2.1 (by have := hpo.2.1; omega) hne hp (.inl ⟨htl, hr, hpo, hR⟩)
theorem pure__law_is_refused {mg : Str → Option Value} {w : World} (B : Bx) (T : Tx w B.K mg) (W : WX) (ds : List D) (R : Sl → Prop) (X : Xc → Prop) (h : F__law_is_refused B.K ds R X) : Sv B W (t__law_is_refused w B.K W) (ini N__law_is_refused ds) { nx := fun _ => R (.dat .non), rt := R, xc := fun x _ => X x } := by
  obtain ⟨s, due, rfl, hl, hr, hR⟩ := h
  show Sv B W (t__law_is_refused w B.K W) [.dat (.str (tx s)), .dat (.int due), .un] _
  unfold t__law_is_refused
  refine sv_seq (svt_as (i := 2) (Nat.le_of_ble_eq_true rfl) fun W' => ?_)
  refine svx_drop (evx_call (x := xBL B.K due) (by walk_at "ev") ⟨s, rfl, hl, .inl ⟨due, hr, rfl⟩⟩) ?_
  refine .inl ⟨T.m_BadLine_BadLine, rfl, fun a d => ?_, fun q => nomatch q⟩
  have he : Ev B (tXg B.K a (.ref (He.ga B.K "BadLine")) (some d) "line" (tVar 2)) [.dat (.str (tx s)), .dat (.int due), .dat (.xc a d [("line", .int due)])] (.int due) := ev_xg (by walk_at "ev") T.y_BadLine T.n_BadLine_line rfl
  have hi : Ev B (tCB (rIsG B.K a (.ref (He.ga B.K "BadLine")) (some d)) (tCons (tVar 2) (tCons (tC (.ref (He.ga B.K "ClockError"))) tNil))) [.dat (.str (tx s)), .dat (.int due), .dat (.xc a d [("line", .int due)])] (.bl true) := ev_isG (by walk_at "ev") T.c_BadLine T.k_BadLine_ClockError
  refine sv_ret (d := .bl true) ?_ hR
  exact ev_eq (ev_and hi fun _ => ev_and (ev_callS (eva_cons he eva_nil) ⟨_, true, rfl, .inl ⟨rfl, _, rfl⟩, rfl⟩) fun _ => ev_op he (by walk_at "ev") rv_eqI) (by simp)

end L

namespace L
open PySem PySem.Spec PyProof.Rows L2 Z
local macro_rules | `(tactic| walk_at "at") => `(tactic| first | with_reducible exact SetAt.zero | ((with_reducible apply SetAt.succ); walk_at "at"))
local macro_rules | `(tactic| walk_at "sd") => `(tactic| first | (with_reducible assumption) | omega | (simp only [rep_length, List.length_append, List.length_cons, List.length_nil, List.length_map, List.length_replicate, List.length_range, List.length_take, List.length_reverse] <;> omega) | decide | exact Nat.le_of_ble_eq_true rfl)
local macro_rules | `(tactic| walk_at "cm") => `(tactic| first | (with_reducible assumption) | (refine cmul_s ?_ ?_ ?_ ?_ <;> first | omega | decide))
local macro_rules | `(tactic| walk_at "rv") => `(tactic| first
  | with_reducible exact rv_add | ((with_reducible apply rv_addT); walk_at "sd") | ((with_reducible apply rv_addL); walk_at "sd") | ((with_reducible apply rv_addU); walk_at "sd")
  | with_reducible exact rv_sub | ((with_reducible apply rv_mul); walk_at "cm") | ((with_reducible apply rv_mulT) <;> walk_at "sd")
  | ((with_reducible apply rv_div); first | assumption | exact cdiv_s (by walk_at "sd") (by walk_at "sd")) | ((with_reducible apply rv_mod); walk_at "sd") | ((with_reducible apply rv_pow); exact ⟨by decide, by decide, by decide⟩)
  | with_reducible exact rv_lt | with_reducible exact rv_le | with_reducible exact rv_gt | with_reducible exact rv_ge
  | with_reducible exact rv_eqI | with_reducible exact rv_eqT | with_reducible exact rv_eqB | with_reducible exact rv_neI | with_reducible exact rv_neT | with_reducible exact rv_neB
  | ((with_reducible apply rv_ixL); first | with_reducible assumption | exact rfl) | ((with_reducible apply rv_ixU); first | with_reducible assumption | exact rfl) | ((with_reducible apply rv_ixT); (focus (first | with_reducible assumption | exact rfl)); walk_at "sd")
  | with_reducible exact rv_isN | with_reducible exact rv_isN' | with_reducible exact rv_notN'
  | with_reducible exact rv_inT | with_reducible exact rv_ninT | with_reducible exact rv_inTs | with_reducible exact rv_ninTs | with_reducible assumption)
local macro_rules | `(tactic| walk_at "rc") => `(tactic| first | with_reducible exact rc_int | with_reducible exact rc_intB | with_reducible exact rc_lenL | with_reducible exact rc_lenU | ((with_reducible apply rc_lenT); walk_at "sd") | with_reducible exact rc_min | with_reducible exact rc_tupleL | with_reducible exact rc_tupleU | with_reducible exact rc_listL | with_reducible exact rc_listU | with_reducible exact rc_max | ((with_reducible apply rc_isi); (focus (exact rfl)); first | with_reducible exact kitT | with_reducible exact kit_NoneType_int | with_reducible exact kit_NoneType_bool | with_reducible exact kit_NoneType_str | with_reducible exact kit_NoneType_list | with_reducible exact kit_NoneType_tuple | with_reducible exact kit_bool_int | with_reducible exact kit_bool_bool | with_reducible exact kit_bool_str | with_reducible exact kit_bool_list | with_reducible exact kit_bool_tuple | with_reducible exact kit_int_int | with_reducible exact kit_int_bool | with_reducible exact kit_int_str | with_reducible exact kit_int_list | with_reducible exact kit_int_tuple | with_reducible exact kit_str_int | with_reducible exact kit_str_bool | with_reducible exact kit_str_str | with_reducible exact kit_str_list | with_reducible exact kit_str_tuple | with_reducible exact kit_list_int | with_reducible exact kit_list_bool | with_reducible exact kit_list_str | with_reducible exact kit_list_list | with_reducible exact kit_list_tuple | with_reducible exact kit_tuple_int | with_reducible exact kit_tuple_bool | with_reducible exact kit_tuple_str | with_reducible exact kit_tuple_list | with_reducible exact kit_tuple_tuple | assumption | rfl) | with_reducible assumption)
local macro_rules | `(tactic| walk_at "rs") => `(tactic| first | with_reducible exact rs_slL | with_reducible exact rs_slU | ((with_reducible apply rs_slT); walk_at "sd"))
local macro_rules | `(tactic| walk_at "ru") => `(tactic| first | ((with_reducible apply ru_rev); walk_at "sd") | with_reducible exact ru_neg)
local macro_rules | `(tactic| walk_at "rm") => `(tactic| first | with_reducible exact rm_count | with_reducible assumption)
local macro_rules | `(tactic| walk_at "eo") => `(tactic| first
  | ((with_reducible apply evo_lstX); (focus (walk_at "ev")); exact Nat.le_of_ble_eq_true rfl)
  | ((with_reducible apply evo_callS); (focus (walk_at "ev")); (focus (walk_at "fn")))
  | ((with_reducible apply evo_addL rfl); (focus (walk_at "ev")); (focus (walk_at "ev")); walk_at "sd")
  | ((with_reducible apply evo_listL rfl); walk_at "ev") | ((with_reducible apply evo_listU rfl); walk_at "ev")
  | with_reducible assumption)
local macro_rules | `(tactic| walk_at "ev") => `(tactic| first
  | (with_reducible assumption)
  | ((with_reducible apply ev_var); exact rfl)
  | with_reducible exact ev_int | with_reducible exact ev_str | with_reducible exact ev_bl | with_reducible exact ev_non | with_reducible exact ev_ty | with_reducible exact ev_ref
  | with_reducible exact eva_nil
  | ((with_reducible apply eva_cons); (focus (walk_at "ev")); (focus (walk_at "ev")))
  | ((with_reducible apply ev_op); (focus (walk_at "ev")); (focus (walk_at "ev")); (focus (walk_at "rv")))
  | ((with_reducible apply ev_cb); (focus (walk_at "ev")); (focus (walk_at "rc")))
  | ((with_reducible apply evt_test); (focus (walk_at "ev")))
  | ((with_reducible apply evt_b); (focus (walk_at "ev")))
  | ((with_reducible apply evt_not); (focus (walk_at "ev")))
  | ((with_reducible apply evt_and); (focus (walk_at "ev")); (focus (intro _; walk_at "ev")))
  | ((with_reducible apply evt_or); (focus (walk_at "ev")); (focus (intro _; walk_at "ev")))
  | with_reducible exact evt_yes
  | ((with_reducible apply ev_and); (focus (walk_at "ev")); (focus (intro _; walk_at "ev")))
  | ((with_reducible apply ev_or); (focus (walk_at "ev")); (focus (intro _; walk_at "ev")))
  | ((with_reducible apply ev_not); (focus (walk_at "ev")))
  | ((with_reducible apply ev_callS); (focus (walk_at "ev")); (focus (walk_at "fn")))
  | ((with_reducible apply ev_call); (focus (walk_at "ev")); (focus (walk_at "fn")))
  | ((with_reducible apply ev_tupX); (focus (walk_at "ev")); exact Nat.le_of_ble_eq_true rfl)
  | with_reducible exact evp_none
  | ((with_reducible apply evp_some); (focus (walk_at "ev")))
  | ((with_reducible apply ev_sl); (focus (walk_at "ev")); (focus (walk_at "ev")); (focus (walk_at "ev")); (focus (walk_at "rs")))
  | ((with_reducible apply ev_un); (focus (walk_at "ev")); (focus (walk_at "ru")))
  | ((with_reducible apply ev_bmT); (focus (walk_at "ev")); (focus (walk_at "ev")); (focus (walk_at "rm")))
  | ((with_reducible apply ev_bmT0); (focus (walk_at "ev")); (focus (walk_at "rm")))
  | ((with_reducible apply evi_list); (focus (walk_at "ev")))
  | ((with_reducible apply evi_tup); (focus (walk_at "ev")))
  | ((with_reducible apply evi_str); (focus (walk_at "ev")))
  | ((with_reducible apply evi_rng1); (focus (walk_at "ev")); (focus (constructor <;> walk_at "sd")))
  | ((with_reducible apply evi_rng2); (focus (walk_at "ev")); (focus (constructor <;> walk_at "sd")); (focus (constructor <;> walk_at "sd")))
  | ((with_reducible apply Ev.of_own); walk_at "eo")
  | with_reducible assumption)
local macro_rules | `(tactic| walk_at "st") => `(tactic| repeat (first
  | (with_reducible apply sv_seq)
  | ((with_reducible apply sv_set); (focus (walk_at "ev")); (focus (walk_at "at")))
  | ((with_reducible apply sv_drop); (focus (walk_at "ev")))
  | (with_reducible apply sv_next)))
local macro_rules | `(tactic| walk_at "eq") => `(tactic| (with_reducible apply ev_eq); (focus (walk_at "ev")); rfl)
theorem dig_get (z : Int) (ss : List Int) (i : Nat) (s : Int) (h : ss[i]? = some s) (hs : 0 < s) : 0 ≤ (digits z ss).getD i 0 ∧ (digits z ss).getD i 0 < s := by
  obtain ⟨d, e, b⟩ := digits_lt z ss i s h hs
  rw [List.getD_eq_getElem?_getD, e]
  exact b
theorem prog_facts (ns : List Int) (lp : Bool) : Right (progLs ns 0) ∧ (0 ≤ progMk ns 0 8 ∧ progMk ns 0 8 < 3) ∧ ProgOk (progLs ns 0 ++ [65, 66, 67, 68, 69].take (progMk ns 0 8).toNat) (progLines ns 0 8 lp) ∧ (progLines ns 0 8 lp).length ≤ 8 := by
  have hr : Right (progLs ns 0) := by
    unfold progLs
    exact lettersOf_right (dig_get _ _ 1 8 rfl (by decide)) (dig_get _ _ 2 8 rfl (by decide)) (dig_get _ _ 3 8 rfl (by decide))
  have hm : 0 ≤ progMk ns 0 8 ∧ progMk ns 0 8 < 3 := dig_get (cellZ ns (0 + 1)) [3, 8] 0 3 rfl (by decide)
  have hN : 1 ≤ progN ns 0 8 ∧ progN ns 0 8 < 9 := by
    have := dig_get (cellZ ns (0 + 1)) [3, 8] 1 8 rfl (by decide)
    unfold progN
    omega
  have hlen : (progLines ns 0 8 lp).length = (progN ns 0 8).toNat := by unfold progLines; rw [List.length_map, List.length_range]
  have hcast : progN ns 0 8 = (((progN ns 0 8).toNat : Nat) : Int) := by omega
  refine ⟨hr, hm, ⟨by omega, by omega, fun l hl => ?_⟩, by omega⟩
  rw [hlen]
  unfold progLines at hl
  obtain ⟨k, _, rfl⟩ := List.mem_map.mp hl
  have hc : 0 < (progCs ns 0 8).length := by
    have := hr.1
    unfold progCs
    rw [List.length_append]; omega
  have := lnOf_ok (r := digits (cellZ ns (0 + 2 + (k : Nat))) rowL) (a := (k : Nat)) (m := (progN ns 0 8).toNat) (cs := progCs ns 0 8) (lp := lp) (dig_get _ _ 6 4 rfl (by decide)) hc
  rw [← hcast] at this
  exact this
theorem Ln.ok_le {cs : List Nat} {n m : Nat} {l : Ln} (h : l.ok cs n) (hn : n ≤ m) : l.ok cs m := by
  cases l with
  | one s a b t => exact ⟨h.1, h.2.1, fun k e => by have := h.2.2 k e; omega⟩
  | first a b t u => exact ⟨h.1, h.2.1, fun k e => by have := h.2.2 k e; omega⟩
  | every a b s t u => exact ⟨h.1, h.2.1, h.2.2.1, h.2.2.2.1, fun k e => by have := h.2.2.2.2 k e; omega⟩
  | count a ts => exact ⟨h.1, h.2.1, h.2.2.1, fun t ht k e => by have := h.2.2.2 t ht k e; omega⟩
  | leads a t u => exact ⟨h.1, fun k e => by have := h.2 k e; omega⟩
section
variable {lt : List Nat} {m : Nat} {L : List Ln}
theorem notes_mem {k : Nat} {x : List Nat} (h : x ∈ notesFrom k L) : ∃ i l, L[i]? = some l ∧ x = noteOf (k + i) l := by
  obtain ⟨i, hi⟩ := List.getElem?_of_mem h
  rw [notes_at] at hi
  obtain ⟨l, h1, h2⟩ := Option.map_eq_some_iff.mp hi
  exact ⟨i, l, h1, h2.symm⟩
theorem idx_lt {i : Nat} {l : Ln} (h : L[i]? = some l) : i < L.length := (List.getElem?_eq_some_iff.mp h).1
theorem notes_free (hr : Right lt) (hL : L.length ≤ 8) (ho : ∀ l ∈ L, l.ok (csOf lt m) L.length) : ∀ x ∈ notesFrom 0 L, 10 ∉ x ∧ x.length ≤ 63 := by
  intro x hx
  obtain ⟨i, l, h1, rfl⟩ := notes_mem hx
  have hi := idx_lt h1
  have hl := ho l (List.mem_of_getElem? h1)
  rw [Nat.zero_add]
  exact ⟨joinL_free (by decide) _ (words_free (by omega) (by omega : L.length ≤ 10) (csOf_let hr m) hl (by decide)), note_len (by omega) (by omega : L.length ≤ 10) hl⟩
theorem head10 (hr : Right lt) (hm : m ≤ 5) : 10 ∉ headOf lt m := joinL_free (by decide) _ (head_free hr hm (by decide))
theorem head_len (hr : Right lt) (hm : m ≤ 5) : (headOf lt m).length ≤ 63 := by
  have := joinL_len (c := 32) (b := 7) [kProg, lt, itxt m] fun w hw => by
    simp only [List.mem_cons, List.not_mem_nil, or_false] at hw
    rcases hw with rfl | rfl | rfl
    · simp
    · have := hr.2.1; omega
    · rw [itxt_dig (by omega)]; simp
  unfold headOf
  simp at this
  omega
theorem lines_at (hr : Right lt) {n : Nat} (hn : L.length ≤ n) (hn2 : n ≤ 10) (hL : L.length ≤ 8) (ho : ∀ l ∈ L, l.ok (csOf lt m) L.length) {i : Nat} {l : Ln} (h : L[i]? = some l) : ∃ y, (notesFrom 0 L)[i]? = some y ∧ LineR y i (csOf lt m) n l.e := by
  have hi := idx_lt h
  refine ⟨noteOf i l, by rw [notes_at, h, Nat.zero_add]; rfl, line_ok (by omega) hn2 (csOf_let hr m) (Ln.ok_le (ho l (List.mem_of_getElem? h)) hn)⟩
end
theorem spW_len {i : Nat} {l : Ln} {n mk kind : Nat} {cs : List Nat} (hi : i < 9) (hn : n < 10) (hk : kind < 16) (h : l.ok cs n) : (joinL [32] (spW i l n mk kind)).length ≤ 1000 := by
  obtain ⟨w1, w2⟩ := words_len (i := i) (by omega) (by omega : n ≤ 10) h
  have hws : ∀ w ∈ l.ws, w.length ≤ 6 := fun w hw => w2 w (List.mem_cons_of_mem _ (List.mem_cons_of_mem _ hw))
  have wl : l.ws.length ≤ 7 := by unfold Z.wordsOf at w1; simp at w1; omega
  have hkd := kind_len l
  have h1 : (itxt ((i : Nat) : Int)).length = 1 := by rw [itxt_dig (by omega)]; rfl
  have h2 : (itxt ((i : Int) + 1)).length = 1 := by rw [show (i : Int) + 1 = ((i + 1 : Nat) : Int) from rfl, itxt_dig (by omega)]; rfl
  have h3 : (itxt ((n : Nat) : Int)).length = 1 := by rw [itxt_dig hn]; rfl
  obtain ⟨a, q, z, ha, e⟩ := ws_parts h
  have h4 : (l.ws.headD []).length = 1 := by rw [e]; rfl
  have h5 : ∀ w ∈ l.ws.tail, w.length ≤ 6 := fun w hw => hws w (List.mem_of_mem_tail hw)
  have h6 : ∀ m, ∀ w ∈ (Z.wordsOf i l).take m, w.length ≤ 6 := fun m w hq => w2 w (List.mem_of_mem_take hq)
  have hrep : ∀ m, ∀ w ∈ List.replicate m wYes, w.length ≤ 6 := fun m w hq => by rw [List.eq_of_mem_replicate hq]; simp
  have key : (∀ w ∈ spW i l n mk kind, w.length ≤ 8) ∧ (spW i l n mk kind).length ≤ 16 := by
    rcases (by omega : kind = 0 ∨ kind = 1 ∨ kind = 2 ∨ kind = 3 ∨ kind = 4 ∨ kind = 5 ∨ kind = 6 ∨ kind = 7 ∨ kind = 8 ∨ kind = 9 ∨ kind = 10 ∨ kind = 11 ∨ kind = 12 ∨ kind = 13 ∨ kind = 14 ∨ kind = 15) with rfl | rfl | rfl | rfl | rfl | rfl | rfl | rfl | rfl | rfl | rfl | rfl | rfl | rfl | rfl | rfl
    · refine ⟨fun w q => ?_, by simp [spW]; omega⟩
      rcases List.mem_append.mp q with q | q
      · have := w2 w q; omega
      · simp at q; subst q; simp
    · refine ⟨fun w q => ?_, by simp [spW]; omega⟩
      rcases List.mem_cons.mp q with q | q
      · subst q; simp
      · have := w2 w q; omega
    · exact ⟨fun w q => by simp [spW] at q; subst q; simp, by simp [spW]⟩
    · refine ⟨fun w q => ?_, by simp [spW]; omega⟩
      rcases List.mem_append.mp q with q | q
      · have := w2 w q; omega
      · have := hrep 7 w q; omega
    · refine ⟨fun w q => ?_, by simp [spW]; omega⟩
      simp [spW] at q; rcases q with rfl | rfl | rfl | q
      · omega
      · simp
      · omega
      · have := hws w q; omega
    · refine ⟨fun w q => ?_, by simp [spW]; omega⟩
      simp [spW] at q; rcases q with rfl | rfl | q
      · simp; omega
      · omega
      · have := hws w q; omega
    · refine ⟨fun w q => ?_, by simp [spW]; omega⟩
      simp [spW] at q; rcases q with rfl | rfl | q
      · omega
      · omega
      · have := hws w q; omega
    · refine ⟨fun w q => ?_, by simp [spW]; omega⟩
      rcases List.mem_append.mp q with q | q
      · have := h6 _ w q; omega
      · simp at q; subst q; simp
    · refine ⟨fun w q => ?_, by simp [spW]; omega⟩
      rcases List.mem_append.mp q with q | q
      · have := h6 _ w q; omega
      · simp at q; subst q; omega
    · refine ⟨fun w q => ?_, by simp [spW]; omega⟩
      simp [spW] at q; rcases q with rfl | rfl | q
      · omega
      · rw [List.length_append]; simp; omega
      · have := hws w q; omega
    · refine ⟨fun w q => ?_, by simp [spW]; omega⟩
      simp [spW] at q; rcases q with rfl | rfl | rfl | q
      · omega
      · omega
      · simp
      · have := h5 w (by simpa using q); omega
    · refine ⟨fun w q => ?_, by simp [spW]; omega⟩
      rcases List.mem_append.mp q with q | q
      · have := h6 _ w q; omega
      · simp at q; subst q; simp
    · refine ⟨fun w q => ?_, by simp [spW]⟩
      simp [spW] at q; rcases q with rfl | rfl <;> omega
    · refine ⟨fun w q => ?_, by simp [spW]; omega⟩
      have q : w ∈ ([itxt i, l.kind] ++ [l.ws.headD [] ++ l.ws.headD []] ++ l.ws.tail) := q
      rcases List.mem_append.mp q with q | q
      · rcases List.mem_append.mp q with q | q
        · simp at q; rcases q with rfl | rfl <;> omega
        · rw [List.mem_singleton] at q; subst q; rw [List.length_append]; omega
      · have := h5 w q; omega
    · refine ⟨fun w q => ?_, by simp [spW]⟩
      have q : w ∈ [itxt i, kEvery, l.ws.headD [], l.ws.headD [], [[48], [55], [48, 49], [45, 49]].getD (i % 4) [], wYes, wNo] := q
      have h7 : ∀ k : Fin 4, (([[48], [55], [48, 49], [45, 49]] : List (List Nat)).getD k.val []).length ≤ 2 := by decide
      have h8 := h7 ⟨i % 4, Nat.mod_lt _ (by decide)⟩
      simp only [List.mem_cons, List.not_mem_nil, or_false] at q
      rcases q with rfl | rfl | rfl | rfl | rfl | rfl | rfl
      · omega
      · simp
      · omega
      · omega
      · have h8 : ([[48], [55], [48, 49], [45, 49]].getD (i % 4) []).length ≤ 2 := h8
        omega
      · simp
      · simp
    · have h7 : ∀ k : Fin 2, ([0, 7] : List Nat).getD k.val 0 ≤ 7 := by decide
      have h8 : ([0, 7] : List Nat).getD (i % 2) 0 ≤ 7 := h7 ⟨i % 2, Nat.mod_lt _ (by decide)⟩
      have es : spW i l n mk 15 = [itxt i, kCount, l.ws.headD []] ++ List.replicate ([0, 7].getD (i % 2) 0) wYes := rfl
      rw [es]
      refine ⟨fun w q => ?_, by rw [List.length_append, List.length_replicate]; simp only [List.length_cons, List.length_nil]; omega⟩
      rcases List.mem_append.mp q with q | q
      · simp only [List.mem_cons, List.not_mem_nil, or_false] at q
        rcases q with rfl | rfl | rfl
        · omega
        · simp
        · omega
      · have := hrep _ w q; omega
  have := joinL_len (c := 32) _ key.1
  have := key.2
  omega

end L

namespace L
open PySem PySem.Spec PyProof.Rows L2 Z
local macro_rules | `(tactic| walk_at "at") => `(tactic| first | with_reducible exact SetAt.zero | ((with_reducible apply SetAt.succ); walk_at "at"))
local macro_rules | `(tactic| walk_at "sd") => `(tactic| first | (with_reducible assumption) | omega | (simp only [rep_length, List.length_append, List.length_cons, List.length_nil, List.length_map, List.length_replicate, List.length_range, List.length_take, List.length_reverse] <;> omega) | decide | exact Nat.le_of_ble_eq_true rfl)
local macro_rules | `(tactic| walk_at "cm") => `(tactic| first | (with_reducible assumption) | (refine cmul_s ?_ ?_ ?_ ?_ <;> first | omega | decide))
local macro_rules | `(tactic| walk_at "rv") => `(tactic| first
  | with_reducible exact rv_add | ((with_reducible apply rv_addT); walk_at "sd") | ((with_reducible apply rv_addL); walk_at "sd") | ((with_reducible apply rv_addU); walk_at "sd")
  | with_reducible exact rv_sub | ((with_reducible apply rv_mul); walk_at "cm") | ((with_reducible apply rv_mulT) <;> walk_at "sd")
  | ((with_reducible apply rv_div); first | assumption | exact cdiv_s (by walk_at "sd") (by walk_at "sd")) | ((with_reducible apply rv_mod); walk_at "sd") | ((with_reducible apply rv_pow); exact ⟨by decide, by decide, by decide⟩)
  | with_reducible exact rv_lt | with_reducible exact rv_le | with_reducible exact rv_gt | with_reducible exact rv_ge
  | with_reducible exact rv_eqI | with_reducible exact rv_eqT | with_reducible exact rv_eqB | with_reducible exact rv_neI | with_reducible exact rv_neT | with_reducible exact rv_neB
  | ((with_reducible apply rv_ixL); first | with_reducible assumption | exact rfl) | ((with_reducible apply rv_ixU); first | with_reducible assumption | exact rfl) | ((with_reducible apply rv_ixT); (focus (first | with_reducible assumption | exact rfl)); walk_at "sd")
  | with_reducible exact rv_isN | with_reducible exact rv_isN' | with_reducible exact rv_notN'
  | with_reducible exact rv_inT | with_reducible exact rv_ninT | with_reducible exact rv_inTs | with_reducible exact rv_ninTs | with_reducible assumption)
local macro_rules | `(tactic| walk_at "rc") => `(tactic| first | with_reducible exact rc_int | with_reducible exact rc_intB | with_reducible exact rc_lenL | with_reducible exact rc_lenU | ((with_reducible apply rc_lenT); walk_at "sd") | with_reducible exact rc_min | with_reducible exact rc_tupleL | with_reducible exact rc_tupleU | with_reducible exact rc_listL | with_reducible exact rc_listU | with_reducible exact rc_max | ((with_reducible apply rc_isi); (focus (exact rfl)); first | with_reducible exact kitT | with_reducible exact kit_NoneType_int | with_reducible exact kit_NoneType_bool | with_reducible exact kit_NoneType_str | with_reducible exact kit_NoneType_list | with_reducible exact kit_NoneType_tuple | with_reducible exact kit_bool_int | with_reducible exact kit_bool_bool | with_reducible exact kit_bool_str | with_reducible exact kit_bool_list | with_reducible exact kit_bool_tuple | with_reducible exact kit_int_int | with_reducible exact kit_int_bool | with_reducible exact kit_int_str | with_reducible exact kit_int_list | with_reducible exact kit_int_tuple | with_reducible exact kit_str_int | with_reducible exact kit_str_bool | with_reducible exact kit_str_str | with_reducible exact kit_str_list | with_reducible exact kit_str_tuple | with_reducible exact kit_list_int | with_reducible exact kit_list_bool | with_reducible exact kit_list_str | with_reducible exact kit_list_list | with_reducible exact kit_list_tuple | with_reducible exact kit_tuple_int | with_reducible exact kit_tuple_bool | with_reducible exact kit_tuple_str | with_reducible exact kit_tuple_list | with_reducible exact kit_tuple_tuple | assumption | rfl) | with_reducible assumption)
local macro_rules | `(tactic| walk_at "rs") => `(tactic| first | with_reducible exact rs_slL | with_reducible exact rs_slU | ((with_reducible apply rs_slT); walk_at "sd"))
local macro_rules | `(tactic| walk_at "ru") => `(tactic| first | ((with_reducible apply ru_rev); walk_at "sd") | with_reducible exact ru_neg)
local macro_rules | `(tactic| walk_at "rm") => `(tactic| first | with_reducible exact rm_count | with_reducible assumption)
local macro_rules | `(tactic| walk_at "eo") => `(tactic| first
  | ((with_reducible apply evo_lstX); (focus (walk_at "ev")); exact Nat.le_of_ble_eq_true rfl)
  | ((with_reducible apply evo_callS); (focus (walk_at "ev")); (focus (walk_at "fn")))
  | ((with_reducible apply evo_addL rfl); (focus (walk_at "ev")); (focus (walk_at "ev")); walk_at "sd")
  | ((with_reducible apply evo_listL rfl); walk_at "ev") | ((with_reducible apply evo_listU rfl); walk_at "ev")
  | with_reducible assumption)
local macro_rules | `(tactic| walk_at "ev") => `(tactic| first
  | (with_reducible assumption)
  | ((with_reducible apply ev_var); exact rfl)
  | with_reducible exact ev_int | with_reducible exact ev_str | with_reducible exact ev_bl | with_reducible exact ev_non | with_reducible exact ev_ty | with_reducible exact ev_ref
  | with_reducible exact eva_nil
  | ((with_reducible apply eva_cons); (focus (walk_at "ev")); (focus (walk_at "ev")))
  | ((with_reducible apply ev_op); (focus (walk_at "ev")); (focus (walk_at "ev")); (focus (walk_at "rv")))
  | ((with_reducible apply ev_cb); (focus (walk_at "ev")); (focus (walk_at "rc")))
  | ((with_reducible apply evt_test); (focus (walk_at "ev")))
  | ((with_reducible apply evt_b); (focus (walk_at "ev")))
  | ((with_reducible apply evt_not); (focus (walk_at "ev")))
  | ((with_reducible apply evt_and); (focus (walk_at "ev")); (focus (intro _; walk_at "ev")))
  | ((with_reducible apply evt_or); (focus (walk_at "ev")); (focus (intro _; walk_at "ev")))
  | with_reducible exact evt_yes
  | ((with_reducible apply ev_and); (focus (walk_at "ev")); (focus (intro _; walk_at "ev")))
  | ((with_reducible apply ev_or); (focus (walk_at "ev")); (focus (intro _; walk_at "ev")))
  | ((with_reducible apply ev_not); (focus (walk_at "ev")))
  | ((with_reducible apply ev_callS); (focus (walk_at "ev")); (focus (walk_at "fn")))
  | ((with_reducible apply ev_call); (focus (walk_at "ev")); (focus (walk_at "fn")))
  | ((with_reducible apply ev_tupX); (focus (walk_at "ev")); exact Nat.le_of_ble_eq_true rfl)
  | with_reducible exact evp_none
  | ((with_reducible apply evp_some); (focus (walk_at "ev")))
  | ((with_reducible apply ev_sl); (focus (walk_at "ev")); (focus (walk_at "ev")); (focus (walk_at "ev")); (focus (walk_at "rs")))
  | ((with_reducible apply ev_un); (focus (walk_at "ev")); (focus (walk_at "ru")))
  | ((with_reducible apply ev_bmT); (focus (walk_at "ev")); (focus (walk_at "ev")); (focus (walk_at "rm")))
  | ((with_reducible apply ev_bmT0); (focus (walk_at "ev")); (focus (walk_at "rm")))
  | ((with_reducible apply evi_list); (focus (walk_at "ev")))
  | ((with_reducible apply evi_tup); (focus (walk_at "ev")))
  | ((with_reducible apply evi_str); (focus (walk_at "ev")))
  | ((with_reducible apply evi_rng1); (focus (walk_at "ev")); (focus (constructor <;> walk_at "sd")))
  | ((with_reducible apply evi_rng2); (focus (walk_at "ev")); (focus (constructor <;> walk_at "sd")); (focus (constructor <;> walk_at "sd")))
  | ((with_reducible apply Ev.of_own); walk_at "eo")
  | with_reducible assumption)
local macro_rules | `(tactic| walk_at "st") => `(tactic| repeat (first
  | (with_reducible apply sv_seq)
  | ((with_reducible apply sv_set); (focus (walk_at "ev")); (focus (walk_at "at")))
  | ((with_reducible apply sv_drop); (focus (walk_at "ev")))
  | (with_reducible apply sv_next)))
local macro_rules | `(tactic| walk_at "eq") => `(tactic| (with_reducible apply ev_eq); (focus (walk_at "ev")); rfl)
theorem strB_one {a : Nat} (h1 : 65 ≤ a) (h2 : a ≤ 122) : strB (tx [a]) = true := by
  have : ∀ k : Fin 58, strB (tx [65 + k.val]) = true := by decide +kernel
  have := this ⟨a - 65, by omega⟩
  simp only at this
  rwa [show 65 + (a - 65) = a by omega] at this
theorem lay_tg (n : Nat) (t : Tg) : layD n t.d = true := by cases t <;> cases n <;> rfl
theorem lay_line {l : Ln} {cs : List Nat} {n : Nat} (hl : Let cs) (h : l.ok cs n) : layD 2 l.d = true := by
  have hk : strB (tx l.kind) = true := by
    rw [l.kind_kd]
    cases l.kd <;> decide +kernel
  have hc : ∀ a ∈ cs, strB (tx [a]) = true := fun a ha => strB_one (hl a ha).1 (hl a ha).2
  have hs : ∀ x : Str, layD 1 (.str x) = strB x := fun _ => rfl
  have hi : ∀ i : Int, layD 1 (.int i) = true := fun _ => rfl
  show ((D.str (tx l.kind) :: l.items).all (layD 1)) = true
  rw [List.all_cons, hs, hk, Bool.true_and]
  cases l with
  | one s a b t => simp [Ln.items, List.all, hs, hc _ h.1, hc _ h.2.1, lay_tg]
  | first a b t u => simp [Ln.items, List.all, hs, hc _ h.1, hc _ h.2.1, lay_tg]
  | every a b s t u => simp [Ln.items, List.all, hs, hi, hc _ h.1, hc _ h.2.1, lay_tg]
  | leads a t u => simp [Ln.items, List.all, hs, hc _ h.1, lay_tg]
  | count a ts =>
    have e : layD 1 (.tup (ts.map Tg.d)) = true := by
      show (ts.map Tg.d).all (layD 0) = true
      rw [List.all_map, List.all_eq_true]
      exact fun t _ => lay_tg 0 t
    simp [Ln.items, List.all, hs, hc _ h.1, e]
theorem range_getD {α β : Type} (l : List α) (d : α) (f : α → β) : (List.range l.length).map (fun k => f (l.getD k d)) = l.map f := by
  apply List.ext_getElem?
  intro i
  rw [List.getElem?_map, List.getElem?_map]
  by_cases h : i < l.length
  · rw [List.getElem?_range h, List.getElem?_eq_getElem h]
    simp [List.getD_eq_getElem?_getD, List.getElem?_eq_getElem h]
  · rw [List.getElem?_eq_none (by simpa using h), List.getElem?_eq_none (by simpa using h)]
    rfl
theorem told_facts (ns : List Int) (lp : Bool) {d0 d1 d2 : Int} (b1 : 0 ≤ d1 ∧ d1 < 6) (b2 : 0 ≤ d2 ∧ d2 < 6) : ∃ (lt : List Nat) (m : Nat) (L : List Ln), D.lst [.str (tx (progLs ns 0)), .int (if d2 > progMk ns 0 8 then d2 else progMk ns 0 8), .lst (((progLines ns 0 8 lp).map (wid d0 d1)).map Ln.d)] = .lst [.str (tx lt), .int m, .lst (L.map Ln.d)] ∧
    Right lt ∧ m ≤ 5 ∧ 0 < L.length ∧ L.length ≤ 8 ∧ ∀ l ∈ L, l.ok (csOf lt m) L.length := by
  obtain ⟨hr, hm, ⟨p1, p2, p3⟩, h8⟩ := prog_facts ns lp
  have hmk : ∃ m : Nat, (if d2 > progMk ns 0 8 then d2 else progMk ns 0 8) = (m : Int) ∧ m ≤ 5 ∧ (progMk ns 0 8).toNat ≤ m := ⟨(if d2 > progMk ns 0 8 then d2 else progMk ns 0 8).toNat, by split <;> omega, by split <;> omega, by split <;> omega⟩
  obtain ⟨m, e, m5, mm⟩ := hmk
  refine ⟨progLs ns 0, m, (progLines ns 0 8 lp).map (wid d0 d1), by rw [e], hr, m5, by rw [List.length_map]; exact p1, by rw [List.length_map]; exact h8, fun l hl => ?_⟩
  obtain ⟨l0, h0, rfl⟩ := List.mem_map.mp hl
  rw [List.length_map]
  exact wid_ok b1.1 b1.2 (Ln.ok_mono (fun c hc => csOf_mono mm hc) (p3 l0 h0))
theorem pure_law {mg : Str → Option Value} {w : World} (B : Bx) (T : Tx w B.K mg) (W : WX) (ds : List D) (R : Sl → Prop) (X : Xc → Prop) (h : F_law B.K ds R X) : Sv B W (t_law w B.K W) (ini N_law ds) { nx := fun _ => R (.dat .non), rt := R, xc := fun x _ => X x } := by
  obtain ⟨ns, rfl, hl, hR⟩ := h
  show Sv B W (t_law w B.K W) [.dat (.lst (ns.map .int)), .un, .un, .un, .un, .un, .un, .un, .un, .un, .un, .un] _
  unfold t_law
  have hcell : ∀ k : Int, 0 ≤ k → k < 100 → Fcell [.lst (ns.map .int), .int k] (fun s => s.toD = some (.int (cellZ ns k))) (fun _ => False) := fun k h1 h2 => ⟨ns, k, rfl, h1, by omega, rfl⟩
  obtain ⟨d0, d1, d2, d3, d4, d5, d6, hd⟩ := list7 (digits_len (cellZ ns 12) [2, 6, 6, 16, 60, 8, 2])
  have bd : ∀ (i : Nat) (s x : Int), [2, 6, 6, 16, 60, 8, (2 : Int)][i]? = some s → 0 < s → [d0, d1, d2, d3, d4, d5, d6][i]? = some x → 0 ≤ x ∧ x < s := fun i s x h1 h2 h3 => by
    obtain ⟨d, e, b⟩ := digits_lt (cellZ ns 12) [2, 6, 6, 16, 60, 8, 2] i s h1 h2
    rw [hd, h3] at e
    cases e
    exact b
  have b1 := bd 1 6 d1 rfl (by decide) rfl
  have b2 := bd 2 6 d2 rfl (by decide) rfl
  have b3 := bd 3 16 d3 rfl (by decide) rfl
  have b4 := bd 4 60 d4 rfl (by decide) rfl
  have b5 := bd 5 8 d5 rfl (by decide) rfl
  have hdig : Fdigits [.int (cellZ ns 12), .lst [.int 2, .int 6, .int 6, .int 16, .int 60, .int 8, .int 2]] (fun s => s.toD = some (.lst [.int d0, .int d1, .int d2, .int d3, .int d4, .int d5, .int d6])) (fun _ => False) :=
    ⟨cellZ ns 12, [2, 6, 6, 16, 60, 8, 2], rfl, by decide, by decide, by rw [hd]; rfl⟩
  refine sv_seq (sv_set (ev_callS (eva_cons (ev_callS (by walk_at "ev") (hcell 12 (by decide) (by decide))) (by walk_at "ev")) hdig) (by walk_at "at") ?_)
  obtain ⟨_, _, hpo, _⟩ := prog_facts ns (decide (d6 = 0))
  obtain ⟨lt, m, L, eT, hr, hm, hL1, hL8, ho⟩ := told_facts ns (decide (d6 = 0)) (d0 := d0) b1 b2
  have PO : ProgOk (csOf lt m) L := ⟨hL1, by omega, ho⟩
  have hwid : F__law_wider B.K [.lst [.str (tx (progLs ns 0)), .int (progMk ns 0 8), .lst ((progLines ns 0 8 (decide (d6 = 0))).map Ln.d)], .lst [.int d0, .int d1, .int d2, .int d3, .int d4, .int d5, .int d6]] (fun s => s.toD = some (.lst [.str (tx lt), .int m, .lst (L.map Ln.d)])) (fun _ => False) :=
    ⟨_, _, _, [d0, d1, d2, d3, d4, d5, d6], _, rfl, rfl, b1, hpo, by rw [← eT]; rfl⟩
  refine sv_seq (sv_set (ev_callS (eva_cons (ev_callS (eva_cons (by walk_at "ev") (eva_cons (by walk_at "ev") (eva_cons (by walk_at "ev") (eva_cons (ev_op (ev_op (ev_var rfl) (by walk_at "ev") (rv_ixL (show atI [D.int d0, .int d1, .int d2, .int d3, .int d4, .int d5, .int d6] 6 = some _ from atI_ofNat (n := 6) rfl))) (by walk_at "ev") rv_eqI) eva_nil)))) ⟨ns, decide (d6 = 0), rfl, rfl⟩) (eva_cons (ev_var rfl) eva_nil)) hwid) (by walk_at "at") ?_)
  clear eT hwid hpo
  have nf := notes_free (m := m) hr hL8 ho
  have h10 := head10 hr hm
  have hhl := head_len hr hm
  have nlen := notes_len L 0
  have h3 := hr.2.1
  have told : ∀ (Γ : List Sl), Γ[2]? = some (.dat (.lst [.str (tx lt), .int m, .lst (L.map Ln.d)])) → Ev B (tOp (zIx B.K) (tVar 2) (tC (.int 0))) Γ (.str (tx lt)) ∧ Ev B (tOp (zIx B.K) (tVar 2) (tC (.int 1))) Γ (.int m) ∧ Ev B (tOp (zIx B.K) (tVar 2) (tC (.int 2))) Γ (.lst (L.map Ln.d)) := fun Γ h =>
    ⟨ev_op (ev_var h) ev_int (rv_ixL (show atI _ (0 : Int) = some _ from atI_ofNat (n := 0) rfl)), ev_op (ev_var h) ev_int (rv_ixL (show atI _ (1 : Int) = some _ from atI_ofNat (n := 1) rfl)), ev_op (ev_var h) ev_int (rv_ixL (show atI _ (2 : Int) = some _ from atI_ofNat (n := 2) rfl))⟩
  refine sv_seq (sv_set (told _ rfl).1 (by walk_at "at") ?_)
  -- the head
  have ehead : [112, 114, 111, 103, 114, 97, 109, 32] ++ lt ++ [32] ++ itxt ((m : Nat) : Int) = headOf lt m := by simp [headOf, joinL]
  have im1 : (itxt ((m : Nat) : Int)).length = 1 := by rw [itxt_dig (by omega)]; rfl
  refine sv_seq (sv_set (d := .str (tx (headOf lt m))) (ev_eq (ev_addS (ev_addS (ev_addS ev_str (ev_var rfl) (by simp; omega)) ev_str (by simp; omega)) (ev_cb (eva_cons (told _ rfl).2.1 eva_nil) (rc_str (log_small (by omega) (by omega)))) (by rw [im1]; simp; omega)) (by rw [ehead])) (by walk_at "at") ?_)
  -- the notes
  refine sv_seq (sv_set (d := .lst ((notesFrom 0 L).map strD)) (Ev.of_own ?_) (by walk_at "at") ?_)
  · have e := range_getD (notesFrom 0 L) [] strD
    rw [nlen] at e
    rw [← e]
    refine evo_map1 (fun k : Nat => .int (k : Nat)) (List.range L.length) (fun k => strD ((notesFrom 0 L).getD k [])) ?_ (Nat.le_of_ble_eq_true rfl) (by rw [List.length_range]; omega) fun k hk => ?_
    · have := evi_rng1 (B := B) (n := ((L.length : Nat) : Int)) (Γ := [.dat (.lst (ns.map .int)), .dat (.lst [.int d0, .int d1, .int d2, .int d3, .int d4, .int d5, .int d6]), .dat (.lst [.str (tx lt), .int m, .lst (L.map Ln.d)]), .dat (.str (tx lt)), .dat (.str (tx (headOf lt m))), .un, .un, .un, .un, .un, .un, .un]) (aa := tCons (tCB (zLen B.K) (tCons (tOp (zIx B.K) (tVar 2) (tC (.int 2))) tNil)) tNil) (eva_cons (ev_eq (ev_cb (eva_cons (told _ rfl).2.2 eva_nil) rc_lenL) (by rw [List.length_map])) eva_nil) (by omega)
      rwa [Int.toNat_natCast] at this
    · rw [List.mem_range] at hk
      obtain ⟨y, hy, _⟩ := lines_at hr (Nat.le_refl _) (by omega) hL8 ho (List.getElem?_eq_getElem hk)
      have ey : (notesFrom 0 L).getD k [] = noteOf k L[k] := by
        rw [List.getD_eq_getElem?_getD, notes_at, List.getElem?_eq_getElem hk, Nat.zero_add]; rfl
      rw [ey]
      exact ev_call (eva_cons (ev_var rfl) (eva_cons (ev_op (told _ rfl).2.2 (ev_var rfl) (rv_ixL (d := L[k].d) (atI_ofNat (by rw [List.getElem?_map, List.getElem?_eq_getElem hk]; rfl)))) eva_nil)) ⟨k, L[k], csOf lt m, L.length, rfl, by omega, by omega, ho _ (List.getElem_mem hk), rfl⟩
  -- the string
  have fr : ∀ x ∈ headOf lt m :: notesFrom 0 L, 10 ∉ x ∧ x.length ≤ 63 := fun x hx => by
    rcases List.mem_cons.mp hx with rfl | hx
    · exact ⟨h10, hhl⟩
    · exact nf x hx
  have hlen9 : (headOf lt m :: notesFrom 0 L).length ≤ 9 := by rw [List.length_cons, nlen]; omega
  have hsum : ((headOf lt m :: notesFrom 0 L).map (·.length)).sum + (headOf lt m :: notesFrom 0 L).length ≤ 100000 := sums_le (b := 63) (c := 9) (fun x hx => (fr x hx).2) hlen9 (by decide)
  have hsp : splt 10 (progT lt m L) = headOf lt m :: notesFrom 0 L := splt_join _ (by simp) fun x hx => (fr x hx).1
  have hpl : (progT lt m L).length ≤ 1000 := by
    have := joinL_len (c := 10) _ fun x hx => (fr x hx).2
    unfold progT
    omega
  refine sv_seq (sv_set (d := .str (tx (progT lt m L))) (ev_joinS (c := 10) (xs := headOf lt m :: notesFrom 0 L) (ev_catS (xs := [headOf lt m]) (ev_oneS (ev_var rfl)) (ev_var rfl) (by rw [nlen]; simp; omega)) hsum) (by walk_at "at") ?_)
  have hfmt : F_format_program B.K [progD B.K lt m L] (fun s => s.toD = some (.str (tx (progT lt m L)))) (fun _ => False) := ⟨csOf lt m, lt, m, L, rfl, PO, by omega, hm, h3, rfl⟩
  have hmk : ∀ (R : Sl → Prop) (X : Xc → Prop), R (.own (progI B.K lt m L)) → F_Program B.K [.str (tx lt), .int m, .lst (L.map Ln.d)] R X := fun R X h =>
    ⟨lt, m, L, L.map Ln.d, rfl, hr, by omega, by rw [Int.toNat_natCast]; exact PO, by rw [List.length_map]; omega, ok_lines (by omega) ho, frz_lines L, h⟩
  have hne0 : (!decide (progT lt m L = progT lt m L)) = false := by simp
  refine sv_seq (sv_if (p := false) (evt_eq (evt_test (ev_op (ev_callS (eva_cons (Ev.of_ownI (evo_mk (eva_cons (ev_var rfl) (eva_cons (told _ rfl).2.1 (eva_cons (told _ rfl).2.2 eva_nil))) (hmk _ _ rfl))) eva_nil) hfmt) (ev_var rfl) rv_neT)) hne0) (fun h => nomatch h) fun _ => sv_next ?_)
  -- read again
  have hpar : F_parse_program B.K [.str (tx (progT lt m L))] (fun s => s = .own (progI B.K lt m L)) (fun _ => False) :=
    ⟨_, rfl, by omega, .inr ⟨lt, _, m, L, _, hsp, head_ok hr hm, hr, nlen, fun i l h => by rw [nlen]; exact lines_at hr (Nat.le_refl _) (by omega) hL8 ho h, PO, rfl⟩⟩
  refine sv_seq (sv_set (d := progD B.K lt m L) (Ev.of_ownI (evo_callS (eva_cons (ev_var rfl) eva_nil) hpar)) (by walk_at "at") ?_)
  have lay : layD 3 (.tup (L.map Ln.d)) = true := by
    show (L.map Ln.d).all (layD 2) = true
    rw [List.all_map, List.all_eq_true]
    exact fun l hl => lay_line (csOf_let hr m) (ho l hl)
  have f1 : ∀ Γ : List Sl, Γ[7]? = some (.dat (progD B.K lt m L)) → Ev B (tFld B.K (tVar 7) "letters") Γ (.str (tx lt)) := fun Γ hΓ => ev_fld (ev_var hΓ) T.cl_Program T.na_Program_letters rfl
  have f2 : ∀ Γ : List Sl, Γ[7]? = some (.dat (progD B.K lt m L)) → Ev B (tFld B.K (tVar 7) "marks") Γ (.int m) := fun Γ hΓ => ev_fld (ev_var hΓ) T.cl_Program T.na_Program_marks rfl
  have f3 : ∀ Γ : List Sl, Γ[7]? = some (.dat (progD B.K lt m L)) → Ev B (tFld B.K (tVar 7) "lines") Γ (.tup (L.map Ln.d)) := fun Γ hΓ => ev_fld (ev_var hΓ) T.cl_Program T.na_Program_lines rfl
  refine sv_seq (sv_if (p := false) (evt_eq (evt_or (p := false) (evt_not (p := true) (evt_b (ev_cb (eva_cons (ev_var (d := progD B.K lt m L) rfl) (eva_cons ev_ref eva_nil)) (rc_isiC T.cl_Program T.is_Program T.k_Program_Program)))) fun _ => evt_or (evt_test (ev_op (f1 _ rfl) (ev_var rfl) rv_neT)) fun _ => evt_or (evt_test (ev_op (f2 _ rfl) (told _ rfl).2.1 rv_neI)) fun _ => evt_test (ev_op (f3 _ rfl) (ev_cb (eva_cons (told _ rfl).2.2 eva_nil) rc_tupleL) (rv_neSame lay (by decide)))) (by simp)) (fun h => nomatch h) fun _ => sv_next ?_)
  refine sv_seq (sv_if (p := false) (evt_eq (evt_test (ev_op (ev_callS (eva_cons (ev_var rfl) eva_nil) hfmt) (ev_var rfl) rv_neT)) hne0) (fun h => nomatch h) fun _ => sv_next ?_)
  -- a line spoilt
  have hplace : ∃ p : Nat, d4 % ((((notesFrom 0 L).map strD).length : Nat) : Int) = (p : Int) ∧ p < L.length := by
    rw [List.length_map, nlen]
    have h1 := Int.emod_nonneg d4 (show ((L.length : Nat) : Int) ≠ 0 by omega)
    have h2 := Int.emod_lt_of_pos d4 (show (0 : Int) < (L.length : Nat) by omega)
    exact ⟨(d4 % (L.length : Nat)).toNat, by omega, by omega⟩
  obtain ⟨p, ep, hp⟩ := hplace
  obtain ⟨kind, ek, hk⟩ : ∃ k : Nat, d3 = (k : Int) ∧ k < 16 := ⟨d3.toNat, by omega, by omega⟩
  obtain ⟨q5, e5, hq5⟩ : ∃ k : Nat, d5 = (k : Int) ∧ k < 8 := ⟨d5.toNat, by omega, by omega⟩
  subst ek e5
  refine sv_seq (sv_set (d := .int p) (ev_eq (ev_op (ev_op (ev_var rfl) ev_int (rv_ixL (show atI [D.int d0, .int d1, .int d2, .int (kind : Nat), .int d4, .int (q5 : Nat), .int d6] 4 = some _ from atI_ofNat (n := 4) rfl))) (ev_cb (eva_cons (ev_var rfl) eva_nil) rc_lenL) (rv_mod (by rw [List.length_map, nlen]; omega))) (by rw [ep])) (by walk_at "at") ?_)
  have hlp := ho L[p] (List.getElem_mem hp)
  have hspo : F__law_spoilt B.K [.int p, L[p].d, .int L.length, .int m, .int kind] (fun s => s.toD = some (.str (tx (joinL [32] (spW p L[p] L.length m kind))))) (fun _ => False) :=
    ⟨p, L[p], csOf lt m, L.length, m, kind, rfl, by omega, by omega, hm, hk, csOf_let hr m, hlp, rfl⟩
  refine sv_seq (sv_set (ev_callS (eva_cons (ev_var rfl) (eva_cons (ev_op (told _ rfl).2.2 (ev_var rfl) (rv_ixL (d := L[p].d) (atI_ofNat (by rw [List.getElem?_map, List.getElem?_eq_getElem hp]; rfl)))) (eva_cons (ev_eq (ev_cb (eva_cons (ev_var rfl) eva_nil) rc_lenL) (by rw [List.length_map, nlen])) (eva_cons (told _ rfl).2.1 (eva_cons (ev_op (ev_var rfl) ev_int (rv_ixL (show atI [D.int d0, .int d1, .int d2, .int (kind : Nat), .int d4, .int (q5 : Nat), .int d6] 3 = some _ from atI_ofNat (n := 3) rfl))) eva_nil))))) hspo) (by walk_at "at") ?_)
  -- .. is refused
  have hbadF : 10 ∉ joinL [32] (spW p L[p] L.length m kind) := joinL_free (by decide) _ (spW_free (by omega) (by omega) hk (csOf_let hr m) hlp (by decide))
  have hbadL := spW_len (i := p) (l := L[p]) (n := L.length) (mk := m) (kind := kind) (by omega) (by omega) hk hlp
  have hbadR : LineR (joinL [32] (spW p L[p] L.length m kind)) p (csOf lt m) L.length .non :=
    lineR_of (by omega) (by omega) hk hlp ((csOf_not hr m).resolve_right (by omega)) (splt_join _ (spW_ne _ _ _ _ _) (spW_free (by omega) (by omega) hk (csOf_let hr m) hlp (by decide)))
  generalize joinL [32] (spW p L[p] L.length m kind) = bad at hbadF hbadL hbadR
  have tks : ∀ x ∈ (notesFrom 0 L).take p, 10 ∉ x ∧ x.length ≤ 63 := fun x hx => nf x (List.mem_of_mem_take hx)
  have dps : ∀ x ∈ (notesFrom 0 L).drop (p + 1), 10 ∉ x ∧ x.length ≤ 63 := fun x hx => nf x (List.mem_of_mem_drop hx)
  have tlen : ((notesFrom 0 L).take p).length = p := by rw [List.length_take, nlen]; omega
  have dlen : ((notesFrom 0 L).drop (p + 1)).length = L.length - (p + 1) := by rw [List.length_drop, nlen]
  have hall : ∀ x ∈ headOf lt m :: ((notesFrom 0 L).take p ++ [bad] ++ (notesFrom 0 L).drop (p + 1)), 10 ∉ x ∧ x.length ≤ 1000 := fun x hx => by
    rcases List.mem_cons.mp hx with rfl | hx
    · exact ⟨h10, by omega⟩
    · rcases List.mem_append.mp hx with hx | hx
      · rcases List.mem_append.mp hx with hx | hx
        · have := tks x hx; exact ⟨this.1, by omega⟩
        · rw [List.mem_singleton] at hx; subst hx; exact ⟨hbadF, hbadL⟩
      · have := dps x hx; exact ⟨this.1, by omega⟩
  have hsum2 := sums_le (b := 1000) (c := 9) (fun x hx => (hall x hx).2) (by rw [List.length_cons, List.length_append, List.length_append, tlen, dlen, List.length_singleton]; omega) (by decide)
  have hsp2 : splt 10 (joinL [10] (headOf lt m :: ((notesFrom 0 L).take p ++ [bad] ++ (notesFrom 0 L).drop (p + 1)))) = headOf lt m :: ((notesFrom 0 L).take p ++ [bad] ++ (notesFrom 0 L).drop (p + 1)) := splt_join _ (by simp) fun x hx => (hall x hx).1
  have hjl2 := joinL_len (c := 10) _ fun x hx => (hall x hx).2
  have ttl : ((notesFrom 0 L).take p ++ [bad] ++ (notesFrom 0 L).drop (p + 1)).length = L.length := by rw [List.length_append, List.length_append, tlen, dlen, List.length_singleton]; omega
  have href : RefR (joinL [10] (headOf lt m :: ((notesFrom 0 L).take p ++ [bad] ++ (notesFrom 0 L).drop (p + 1)))) (p + 2) := by
    have hpL : (L.take p).length = p := by rw [List.length_take]; omega
    have := RefR.line (s := joinL [10] (headOf lt m :: ((notesFrom 0 L).take p ++ [bad] ++ (notesFrom 0 L).drop (p + 1)))) (x := bad) (L.take p) hsp2 (head_ok hr hm) h3 (by rw [ttl]; omega) (fun i l h => ?_) (by
      rw [hpL, List.append_assoc, List.getElem?_append_right (by omega), tlen, Nat.sub_self]; rfl) (by rw [hpL, ttl]; exact hbadR)
    · rw [hpL] at this; exact this
    · have hi : i < p := by have := idx_lt h; omega
      rw [List.getElem?_take_of_lt hi] at h
      obtain ⟨y, hy, hL⟩ := lines_at hr (Nat.le_refl _) (by omega) hL8 ho h
      refine ⟨y, ?_, by rw [ttl]; exact hL⟩
      rw [List.append_assoc, List.getElem?_append_left (by omega), List.getElem?_take_of_lt hi]
      exact hy
  rw [List.length_cons, ttl] at hjl2
  refine sv_seq (sv_if (p := false) (evt_not (p := true) (evt_b (ev_callS (eva_cons (ev_joinS (c := 10) (xs := headOf lt m :: ((notesFrom 0 L).take p ++ [bad] ++ (notesFrom 0 L).drop (p + 1))) (ev_eq (ev_catS (xs := [headOf lt m] ++ (notesFrom 0 L).take p ++ [bad]) (ys := (notesFrom 0 L).drop (p + 1)) (ev_catS (ys := [bad]) (ev_catS (xs := [headOf lt m]) (ys := (notesFrom 0 L).take p) (ev_oneS (ev_var rfl)) (ev_eq (ev_sl (ev_var rfl) evp_none (evp_some (ev_var (d := .int p) rfl)) rs_slL) (by rw [cut_take, List.map_take])) (by rw [tlen]; simp; omega)) (ev_oneS (ev_var rfl)) (by rw [List.length_append, tlen]; simp; omega)) (ev_eq (ev_sl (ev_var rfl) (evp_some (ev_op (ev_var (d := .int p) rfl) ev_int rv_add)) evp_none rs_slL) (by rw [show (p : Int) + 1 = ((p + 1 : Nat) : Int) from rfl, cut_drop, List.map_drop])) (by rw [List.length_append, List.length_append, tlen, dlen]; simp; omega)) (by simp)) hsum2) (eva_cons (ev_op (ev_var (d := .int p) rfl) ev_int rv_add) eva_nil)) ⟨_, p + 2, rfl, by omega, href, rfl⟩))) (fun h => nomatch h) fun _ => sv_next ?_)
  -- the heads
  have hrev : (lt.reverse).length = lt.length := List.length_reverse
  refine sv_seq (sv_set (d := .lst ((badH lt).map fun ws => strD (joinL [32] ws))) (ev_eq (Ev.of_own (evo_lstX (eva_cons (ev_addS (ev_addS ev_str (ev_var rfl) (by simp; omega)) ev_str (by simp; omega)) (eva_cons (ev_addS ev_str (ev_var rfl) (by simp; omega)) (eva_cons (ev_addS (ev_addS ev_str (ev_var rfl) (by simp; omega)) ev_str (by simp; omega)) (eva_cons (ev_addS (ev_addS ev_str (ev_var rfl) (by simp; omega)) ev_str (by simp; omega))
    (eva_cons (ev_addS (ev_addS ev_str (ev_un (ev_var rfl) (ru_rev (by omega))) (by simp; omega)) ev_str (by simp; omega)) (eva_cons (ev_addS (ev_addS ev_str (ev_var rfl) (by simp; omega)) ev_str (by simp; omega)) (eva_cons ev_str (eva_cons (ev_addS (ev_addS ev_str (ev_var rfl) (by simp; omega)) ev_str (by simp; omega)) eva_nil)))))))) (Nat.le_of_ble_eq_true rfl))) (by simp [badH, joinL, strD])) (by walk_at "at") ?_)
  have hq : q5 < (badH lt).length := hq5
  have hbm : (badH lt)[q5] ∈ badH lt := List.getElem_mem hq
  have hbn := badH_non hr hbm
  have hbf : 10 ∉ joinL [32] (badH lt)[q5] := joinL_free (by decide) _ (badH_free hr (by decide) _ hbm)
  have hbl : (joinL [32] (badH lt)[q5]).length ≤ 63 := by
    have key : ∀ ws ∈ badH lt, (∀ w ∈ ws, w.length ≤ 7) ∧ ws.length ≤ 4 := by
      intro ws hws
      simp only [badH, List.mem_cons, List.not_mem_nil, or_false] at hws
      rcases hws with rfl | rfl | rfl | rfl | rfl | rfl | rfl | rfl <;> refine ⟨fun w hw => ?_, by simp⟩ <;> simp only [List.mem_cons, List.not_mem_nil, or_false] at hw
      · rcases hw with rfl | rfl | rfl <;> first | (simp; done) | omega
      · rcases hw with rfl | rfl <;> first | (simp; done) | omega
      · rcases hw with rfl | rfl | rfl | rfl <;> first | (simp; done) | omega
      · rcases hw with rfl | rfl | rfl <;> first | (simp; done) | omega
      · rcases hw with rfl | rfl | rfl <;> first | (simp; done) | (rw [List.length_append, hrev]; simp; omega)
      · rcases hw with rfl | rfl | rfl <;> first | (simp; done) | omega
      · subst hw; simp
      · rcases hw with rfl | rfl | rfl | rfl <;> first | (simp; done) | omega
    have := key _ hbm
    have h2 := joinL_len (c := 32) _ this.1
    have h3 := this.2
    omega
  have hall3 : ∀ x ∈ joinL [32] (badH lt)[q5] :: notesFrom 0 L, 10 ∉ x ∧ x.length ≤ 63 := fun x hx => by
    rcases List.mem_cons.mp hx with rfl | hx
    · exact ⟨hbf, hbl⟩
    · exact nf x hx
  have hlen3 : (joinL [32] (badH lt)[q5] :: notesFrom 0 L).length ≤ 9 := by rw [List.length_cons, nlen]; omega
  have hsum3 := sums_le (b := 63) (c := 9) (fun x hx => (hall3 x hx).2) hlen3 (by decide)
  have hsp3 : splt 10 (joinL [10] (joinL [32] (badH lt)[q5] :: notesFrom 0 L)) = joinL [32] (badH lt)[q5] :: notesFrom 0 L := splt_join _ (by simp) fun x hx => (hall3 x hx).1
  have hjl3 := joinL_len (c := 10) _ fun x hx => (hall3 x hx).2
  refine sv_seq (sv_if (p := false) (evt_not (p := true) (evt_b (ev_callS (eva_cons (ev_joinS (c := 10) (xs := joinL [32] (badH lt)[q5] :: notesFrom 0 L) (ev_catS (xs := [joinL [32] (badH lt)[q5]]) (ev_oneS (ev_op (ev_var rfl) (ev_op (ev_var rfl) ev_int (rv_ixL (show atI [D.int d0, .int d1, .int d2, .int (kind : Nat), .int d4, .int (q5 : Nat), .int d6] 5 = some _ from atI_ofNat (n := 5) rfl))) (rv_ixL (d := strD (joinL [32] (badH lt)[q5])) (atI_ofNat (by rw [List.getElem?_map, List.getElem?_eq_getElem hq]; rfl))))) (ev_var rfl) (by rw [nlen]; simp; omega)) hsum3) (eva_cons ev_int eva_nil)) ⟨_, 1, rfl, by omega, .head hsp3 hbn, rfl⟩))) (fun h => nomatch h) fun _ => sv_next ?_)
  -- no second line, one line more
  have hspH : splt 10 (headOf lt m) = [headOf lt m] := splt_free h10
  have hall4 : ∀ x ∈ headOf lt m :: (notesFrom 0 L ++ [[]]), 10 ∉ x := fun x hx => by
    rcases List.mem_cons.mp hx with rfl | hx
    · exact h10
    · rcases List.mem_append.mp hx with hx | hx
      · exact (nf x hx).1
      · rw [List.mem_singleton] at hx; subst hx; simp
  have ej4 : joinL [10] (headOf lt m :: (notesFrom 0 L ++ [[]])) = progT lt m L ++ [10] := by
    have := joinL_app (c := 10) (headOf lt m :: notesFrom 0 L) [[]] (by simp) (by simp)
    exact this
  have hsp4 : splt 10 (progT lt m L ++ [10]) = headOf lt m :: (notesFrom 0 L ++ [[]]) := by rw [← ej4]; exact splt_join _ (by simp) hall4
  have tl4 : (notesFrom 0 L ++ [[]]).length = L.length + 1 := by rw [List.length_append, nlen]; rfl
  have href4 : RefR (progT lt m L ++ [10]) (L.length + 2) := by
    refine RefR.line (x := []) L hsp4 (head_ok hr hm) h3 (by rw [tl4]; omega) (fun i l h => ?_) (by rw [List.getElem?_append_right (by omega), nlen, Nat.sub_self]; rfl) (.short (by show (splt 32 []).length < 3; decide))
    obtain ⟨y, hy, hL⟩ := lines_at hr (n := L.length + 1) (by omega) (by omega) hL8 ho h
    exact ⟨y, by rw [List.getElem?_append_left (by have := idx_lt h; omega)]; exact hy, by rw [tl4]; exact hL⟩
  refine sv_retD (ev_and (p := true) (q := true) (ev_callS (eva_cons (ev_var rfl) (eva_cons ev_int eva_nil)) ⟨_, 2, rfl, by omega, .none hspH (head_ok hr hm), rfl⟩) fun _ => ev_callS (eva_cons (ev_addS (ev_var rfl) ev_str (by simp; omega)) (eva_cons (ev_eq (ev_op (ev_cb (eva_cons (ev_var rfl) eva_nil) rc_lenL) ev_int rv_add) (by rw [List.length_map, nlen]; rfl)) eva_nil)) ⟨_, L.length + 2, rfl, by rw [List.length_append]; simp; omega, href4, rfl⟩) hR

end L

namespace L
open PySem PySem.Spec PyProof.Rows L2 Z

section
variable {P : Program} {w : World} {K : PySem.W.Frag} {mg : Str → Option Value} {base : Heap}
theorem dx_BadLetters (T : Tx w K mg) {fd : FuncData} (FD : FunD K "__init__" "BadLetters.__init__" (defArgs s_BadLetters) (defBody s_BadLetters) (defScope s_BadLetters) [] [] (He.ma K (He.ga K "BadLetters") "__init__") fd) : Dx P w K mg base "BadLetters" (He.ga K "BadLetters") ["self", "letters"] (spX1 (He.ga K "BadLetters") "letters") :=
  ⟨T.x_BadLetters, T.g_BadLetters, _, fd, FD.ok sc_BadLetters spX1_len (fun cdv A outer s H vs Q E hr h => ⟨_, pss_one (ps_ost (pv 0) (pv 1)), init1 T.x_BadLetters T.n_BadLetters_letters h⟩), T.i_BadLetters.1, T.i_BadLetters.2, FD.bindsN fun _ _ _ _ _ _ us hl => match us, hl with | [_, _], _ => rfl⟩
theorem dx_BadLine (T : Tx w K mg) {fd : FuncData} (FD : FunD K "__init__" "BadLine.__init__" (defArgs s_BadLine) (defBody s_BadLine) (defScope s_BadLine) [] [] (He.ma K (He.ga K "BadLine") "__init__") fd) : Dx P w K mg base "BadLine" (He.ga K "BadLine") ["self", "line"] (spX1 (He.ga K "BadLine") "line") :=
  ⟨T.x_BadLine, T.g_BadLine, _, fd, FD.ok sc_BadLine spX1_len (fun cdv A outer s H vs Q E hr h => ⟨_, pss_one (ps_ost (pv 0) (pv 1)), init1 T.x_BadLine T.n_BadLine_line h⟩), T.i_BadLine.1, T.i_BadLine.2, FD.bindsN fun _ _ _ _ _ _ us hl => match us, hl with | [_, _], _ => rfl⟩
theorem dx_BadProgram (T : Tx w K mg) {fd : FuncData} (FD : FunD K "__init__" "BadProgram.__init__" (defArgs s_BadProgram) (defBody s_BadProgram) (defScope s_BadProgram) [] [] (He.ma K (He.ga K "BadProgram") "__init__") fd) : Dx P w K mg base "BadProgram" (He.ga K "BadProgram") ["self", "index"] (spX1 (He.ga K "BadProgram") "index") :=
  ⟨T.x_BadProgram, T.g_BadProgram, _, fd, FD.ok sc_BadProgram spX1_len (fun cdv A outer s H vs Q E hr h => ⟨_, pss_one (ps_ost (pv 0) (pv 1)), init1 T.x_BadProgram T.n_BadProgram_index h⟩), T.i_BadProgram.1, T.i_BadProgram.2, FD.bindsN fun _ _ _ _ _ _ us hl => match us, hl with | [_, _], _ => rfl⟩
theorem ok__law_digits (T : Tx w K mg)  {fd : FuncData} (FD : FunD K "_law_digits" "_law_digits" (defArgs s__law_digits) (defBody s__law_digits) (defScope s__law_digits) [] [] (He.ga K "_law_digits") fd) (gm : mg "_law_digits" = some (.ref (He.ga K "_law_digits"))) : Df P w K mg base "_law_digits" ["cell", "sizes"] 1 (spz K (F__law_digits K)) :=
  ⟨_, fd, FD.ok sc__law_digits (spz_len (len__law_digits (K := K))) (fun cdv A outer s H vs Q E hr h => ⟨_, ps__law_digits T  hr, sv_def h fun G ds R X hF => pure__law_digits ⟨K, G, H, NoF⟩ T _ ds R X hF⟩), gm, FD.kp, FD.bindsN fun _ _ _ _ _ _ us hl => match us, hl with | [_, _], _ => rfl⟩
theorem ok__law_wider (T : Tx w K mg)  {fd : FuncData} (FD : FunD K "_law_wider" "_law_wider" (defArgs s__law_wider) (defBody s__law_wider) (defScope s__law_wider) [] [] (He.ga K "_law_wider") fd) (gm : mg "_law_wider" = some (.ref (He.ga K "_law_wider"))) : Df P w K mg base "_law_wider" ["told", "row"] 1 (spz K (F__law_wider K)) :=
  ⟨_, fd, FD.ok sc__law_wider (spz_len (len__law_wider (K := K))) (fun cdv A outer s H vs Q E hr h => ⟨_, ps__law_wider T  hr, sv_def h fun G ds R X hF => pure__law_wider ⟨K, G, H, NoF⟩ T _ ds R X hF⟩), gm, FD.kp, FD.bindsN fun _ _ _ _ _ _ us hl => match us, hl with | [_, _], _ => rfl⟩
theorem ok_are_letters (T : Tx w K mg)  {fd : FuncData} (FD : FunD K "are_letters" "are_letters" (defArgs s_are_letters) (defBody s_are_letters) (defScope s_are_letters) [] [] (He.ga K "are_letters") fd) (gm : mg "are_letters" = some (.ref (He.ga K "are_letters"))) : Df P w K mg base "are_letters" ["letters"] 1 (spz K (F_are_letters K)) :=
  ⟨_, fd, FD.ok sc_are_letters (spz_len (len_are_letters (K := K))) (fun cdv A outer s H vs Q E hr h => ⟨_, ps_are_letters T  hr, sv_def h fun G ds R X hF => pure_are_letters ⟨K, G, H, NoF⟩ T _ ds R X hF⟩), gm, FD.kp, FD.bindsN fun _ _ _ _ _ _ us hl => match us, hl with | [_], _ => rfl⟩
theorem ok_read_head (T : Tx w K mg) (D_are_letters : Df P w K mg base "are_letters" ["letters"] 1 (spz K (F_are_letters K))) {fd : FuncData} (FD : FunD K "read_head" "read_head" (defArgs s_read_head) (defBody s_read_head) (defScope s_read_head) [] [] (He.ga K "read_head") fd) (gm : mg "read_head" = some (.ref (He.ga K "read_head"))) : Df P w K mg base "read_head" ["line"] 2 (spz K (F_read_head K)) :=
  ⟨_, fd, FD.ok sc_read_head (spz_len (len_read_head (K := K))) (fun cdv A outer s H vs Q E hr h => ⟨_, ps_read_head T D_are_letters hr, sv_def h fun G ds R X hF => pure_read_head ⟨K, G, H, NoF⟩ T _ ds R X hF⟩), gm, FD.kp, FD.bindsN fun _ _ _ _ _ _ us hl => match us, hl with | [_], _ => rfl⟩
theorem ok_check_letters (T : Tx w K mg) (D_BadLetters : Dx P w K mg base "BadLetters" (He.ga K "BadLetters") ["self", "letters"] (spX1 (He.ga K "BadLetters") "letters")) (D_are_letters : Df P w K mg base "are_letters" ["letters"] 1 (spz K (F_are_letters K))) {fd : FuncData} (FD : FunD K "check_letters" "check_letters" (defArgs s_check_letters) (defBody s_check_letters) (defScope s_check_letters) [] [] (He.ga K "check_letters") fd) (gm : mg "check_letters" = some (.ref (He.ga K "check_letters"))) : Df P w K mg base "check_letters" ["letters"] 3 (spz K (F_check_letters K)) :=
  ⟨_, fd, FD.ok sc_check_letters (spz_len (len_check_letters (K := K))) (fun cdv A outer s H vs Q E hr h => ⟨_, ps_check_letters T D_BadLetters D_are_letters hr, sv_def h fun G ds R X hF => pure_check_letters ⟨K, G, H, NoF⟩ T _ ds R X hF⟩), gm, FD.kp, FD.bindsN fun _ _ _ _ _ _ us hl => match us, hl with | [_], _ => rfl⟩
theorem ok_frozen (T : Tx w K mg)  {fd : FuncData} (FD : FunD K "frozen" "frozen" (defArgs s_frozen) (defBody s_frozen) (defScope s_frozen) [] [] (He.ga K "frozen") fd) (gm : mg "frozen" = some (.ref (He.ga K "frozen"))) : ∀ n : Nat, Df P w K mg base "frozen" ["value"] (1 + n) (spz K (F_frozen n K))
  | 0 => ⟨_, fd, FD.ok (k := 0) sc_frozen (spz_len (len_frozen (K := K) 0)) (fun cdv A outer s H vs Q E hr h => by obtain ⟨_, _, _, _, _, _, z, _⟩ := h; exact z.elim), gm, FD.kp, FD.bindsN fun _ _ _ _ _ _ us hl => match us, hl with | [_], _ => rfl⟩
  | n + 1 => ⟨_, fd, FD.ok (k := 1 + n) sc_frozen (spz_len (len_frozen (K := K) (n + 1))) (fun cdv A outer s H vs Q E hr h => ⟨_, ps_frozen n T (ok_frozen T  FD gm n) hr, sv_def h fun G ds R X hF => pure_frozen n ⟨K, G, H, NoF⟩ T _ ds R X hF⟩), gm, FD.kp, FD.bindsN fun _ _ _ _ _ _ us hl => match us, hl with | [_], _ => rfl⟩
theorem ok_is_whole (T : Tx w K mg)  {fd : FuncData} (FD : FunD K "is_whole" "is_whole" (defArgs s_is_whole) (defBody s_is_whole) (defScope s_is_whole) [] [] (He.ga K "is_whole") fd) (gm : mg "is_whole" = some (.ref (He.ga K "is_whole"))) : Df P w K mg base "is_whole" ["value"] 1 (spz K (F_is_whole K)) :=
  ⟨_, fd, FD.ok sc_is_whole (spz_len (len_is_whole (K := K))) (fun cdv A outer s H vs Q E hr h => ⟨_, ps_is_whole T  hr, sv_def h fun G ds R X hF => pure_is_whole ⟨K, G, H, NoF⟩ T _ ds R X hF⟩), gm, FD.kp, FD.bindsN fun _ _ _ _ _ _ us hl => match us, hl with | [_], _ => rfl⟩
theorem ok_is_target (T : Tx w K mg) (D_is_whole : Df P w K mg base "is_whole" ["value"] 1 (spz K (F_is_whole K))) {fd : FuncData} (FD : FunD K "is_target" "is_target" (defArgs s_is_target) (defBody s_is_target) (defScope s_is_target) [] [] (He.ga K "is_target") fd) (gm : mg "is_target" = some (.ref (He.ga K "is_target"))) : Df P w K mg base "is_target" ["value", "sweeps"] 2 (spz K (F_is_target K)) :=
  ⟨_, fd, FD.ok sc_is_target (spz_len (len_is_target (K := K))) (fun cdv A outer s H vs Q E hr h => ⟨_, ps_is_target T D_is_whole hr, sv_def h fun G ds R X hF => pure_is_target ⟨K, G, H, NoF⟩ T _ ds R X hF⟩), gm, FD.kp, FD.bindsN fun _ _ _ _ _ _ us hl => match us, hl with | [_, _], _ => rfl⟩
theorem ok_is_item (T : Tx w K mg) (D_is_target : Df P w K mg base "is_target" ["value", "sweeps"] 2 (spz K (F_is_target K))) (D_is_whole : Df P w K mg base "is_whole" ["value"] 1 (spz K (F_is_whole K))) {fd : FuncData} (FD : FunD K "is_item" "is_item" (defArgs s_is_item) (defBody s_is_item) (defScope s_is_item) [] [] (He.ga K "is_item") fd) (gm : mg "is_item" = some (.ref (He.ga K "is_item"))) : Df P w K mg base "is_item" ["shape", "item", "characters", "lines"] 3 (spz K (F_is_item K)) :=
  ⟨_, fd, FD.ok sc_is_item (spz_len (len_is_item (K := K))) (fun cdv A outer s H vs Q E hr h => ⟨_, ps_is_item T D_is_target D_is_whole hr, sv_def h fun G ds R X hF => pure_is_item ⟨K, G, H, NoF⟩ T _ ds R X hF⟩), gm, FD.kp, FD.bindsN fun _ _ _ _ _ _ us hl => match us, hl with | [_, _, _, _], _ => rfl⟩
theorem ok_is_line (T : Tx w K mg) (D_is_item : Df P w K mg base "is_item" ["shape", "item", "characters", "lines"] 3 (spz K (F_is_item K))) {fd : FuncData} (FD : FunD K "is_line" "is_line" (defArgs s_is_line) (defBody s_is_line) (defScope s_is_line) [] [] (He.ga K "is_line") fd) (gm : mg "is_line" = some (.ref (He.ga K "is_line"))) : Df P w K mg base "is_line" ["line", "characters", "lines"] 4 (spz K (F_is_line K)) :=
  ⟨_, fd, FD.ok sc_is_line (spz_len (len_is_line (K := K))) (fun cdv A outer s H vs Q E hr h => ⟨_, ps_is_line T D_is_item hr, sv_def h fun G ds R X hF => pure_is_line ⟨K, G, H, NoF⟩ T _ ds R X hF⟩), gm, FD.kp, FD.bindsN fun _ _ _ _ _ _ us hl => match us, hl with | [_, _, _], _ => rfl⟩
theorem ok_characters_of (T : Tx w K mg)  {fd : FuncData} (FD : FunD K "characters_of" "characters_of" (defArgs s_characters_of) (defBody s_characters_of) (defScope s_characters_of) [] [] (He.ga K "characters_of") fd) (gm : mg "characters_of" = some (.ref (He.ga K "characters_of"))) : Df P w K mg base "characters_of" ["letters", "marks"] 1 (spz K (F_characters_of K)) :=
  ⟨_, fd, FD.ok sc_characters_of (spz_len (len_characters_of (K := K))) (fun cdv A outer s H vs Q E hr h => ⟨_, ps_characters_of T  hr, sv_def h fun G ds R X hF => pure_characters_of ⟨K, G, H, NoF⟩ T _ ds R X hF⟩), gm, FD.kp, FD.bindsN fun _ _ _ _ _ _ us hl => match us, hl with | [_, _], _ => rfl⟩
theorem ok_Program (T : Tx w K mg) (D_BadProgram : Dx P w K mg base "BadProgram" (He.ga K "BadProgram") ["self", "index"] (spX1 (He.ga K "BadProgram") "index")) (D_characters_of : Df P w K mg base "characters_of" ["letters", "marks"] 1 (spz K (F_characters_of K))) (D_check_letters : Df P w K mg base "check_letters" ["letters"] 3 (spz K (F_check_letters K))) (D_frozen : Df P w K mg base "frozen" ["value"] 6 (spz K (F_frozen 5 K))) (D_is_line : Df P w K mg base "is_line" ["line", "characters", "lines"] 4 (spz K (F_is_line K))) {fd : FuncData} (FD : FunD K "__init__" "Program.__init__" (defArgs s_Program) (defBody s_Program) (defScope s_Program) [] [] (He.ma K (He.ga K "Program") "__init__") fd) : Dc P w K mg base "Program" (He.ga K "Program") ["self", "letters", "marks", "lines"] 7 (spI K (He.ga K "Program") (F_Program K)) :=
  ⟨T.g_Program, _, fd, T.mk_Program, FD.ok sc_Program (spI_len (len_Program (K := K))) (fun cdv A outer s H vs Q E hr h => ⟨_, ps_Program T D_BadProgram D_characters_of D_check_letters D_frozen D_is_line hr, sv_init (by decide) h fun H0 G a ds R X hF => pure_Program T G H0 a _ ds R X hF⟩), FD.bindsN fun _ _ _ _ _ _ us hl => match us, hl with | [_, _, _, _], _ => rfl⟩
theorem ok_plain_number (T : Tx w K mg)  {fd : FuncData} (FD : FunD K "plain_number" "plain_number" (defArgs s_plain_number) (defBody s_plain_number) (defScope s_plain_number) [] [] (He.ga K "plain_number") fd) (gm : mg "plain_number" = some (.ref (He.ga K "plain_number"))) : Df P w K mg base "plain_number" ["word", "digits"] 1 (spz K (F_plain_number K)) :=
  ⟨_, fd, FD.ok sc_plain_number (spz_len (len_plain_number (K := K))) (fun cdv A outer s H vs Q E hr h => ⟨_, ps_plain_number T  hr, sv_def h fun G ds R X hF => pure_plain_number ⟨K, G, H, NoF⟩ T _ ds R X hF⟩), gm, FD.kp, FD.bindsN fun _ _ _ _ _ _ us hl => match us, hl with | [_, _], _ => rfl⟩
theorem ok_read_target (T : Tx w K mg) (D_plain_number : Df P w K mg base "plain_number" ["word", "digits"] 1 (spz K (F_plain_number K))) {fd : FuncData} (FD : FunD K "read_target" "read_target" (defArgs s_read_target) (defBody s_read_target) (defScope s_read_target) [] [] (He.ga K "read_target") fd) (gm : mg "read_target" = some (.ref (He.ga K "read_target"))) : Df P w K mg base "read_target" ["word", "lines"] 2 (spz K (F_read_target K)) :=
  ⟨_, fd, FD.ok sc_read_target (spz_len (len_read_target (K := K))) (fun cdv A outer s H vs Q E hr h => ⟨_, ps_read_target T D_plain_number hr, sv_def h fun G ds R X hF => pure_read_target ⟨K, G, H, NoF⟩ T _ ds R X hF⟩), gm, FD.kp, FD.bindsN fun _ _ _ _ _ _ us hl => match us, hl with | [_, _], _ => rfl⟩
theorem ok_read_word (T : Tx w K mg) (D_plain_number : Df P w K mg base "plain_number" ["word", "digits"] 1 (spz K (F_plain_number K))) (D_read_target : Df P w K mg base "read_target" ["word", "lines"] 2 (spz K (F_read_target K))) {fd : FuncData} (FD : FunD K "read_word" "read_word" (defArgs s_read_word) (defBody s_read_word) (defScope s_read_word) [] [] (He.ga K "read_word") fd) (gm : mg "read_word" = some (.ref (He.ga K "read_word"))) : Df P w K mg base "read_word" ["shape", "word", "characters", "lines"] 3 (spz K (F_read_word K)) :=
  ⟨_, fd, FD.ok sc_read_word (spz_len (len_read_word (K := K))) (fun cdv A outer s H vs Q E hr h => ⟨_, ps_read_word T D_plain_number D_read_target hr, sv_def h fun G ds R X hF => pure_read_word ⟨K, G, H, NoF⟩ T _ ds R X hF⟩), gm, FD.kp, FD.bindsN fun _ _ _ _ _ _ us hl => match us, hl with | [_, _, _, _], _ => rfl⟩
theorem ok_read_line (T : Tx w K mg) (D_read_word : Df P w K mg base "read_word" ["shape", "word", "characters", "lines"] 3 (spz K (F_read_word K))) {fd : FuncData} (FD : FunD K "read_line" "read_line" (defArgs s_read_line) (defBody s_read_line) (defScope s_read_line) [] [] (He.ga K "read_line") fd) (gm : mg "read_line" = some (.ref (He.ga K "read_line"))) : Df P w K mg base "read_line" ["line", "at", "characters", "lines"] 4 (spz K (F_read_line K)) :=
  ⟨_, fd, FD.ok sc_read_line (spz_len (len_read_line (K := K))) (fun cdv A outer s H vs Q E hr h => ⟨_, ps_read_line T D_read_word hr, sv_def h fun G ds R X hF => pure_read_line ⟨K, G, H, NoF⟩ T _ ds R X hF⟩), gm, FD.kp, FD.bindsN fun _ _ _ _ _ _ us hl => match us, hl with | [_, _, _, _], _ => rfl⟩
theorem ok_parse_program (T : Tx w K mg) (C_Program : Dc P w K mg base "Program" (He.ga K "Program") ["self", "letters", "marks", "lines"] 7 (spI K (He.ga K "Program") (F_Program K))) (D_BadLine : Dx P w K mg base "BadLine" (He.ga K "BadLine") ["self", "line"] (spX1 (He.ga K "BadLine") "line")) (D_characters_of : Df P w K mg base "characters_of" ["letters", "marks"] 1 (spz K (F_characters_of K))) (D_read_head : Df P w K mg base "read_head" ["line"] 2 (spz K (F_read_head K))) (D_read_line : Df P w K mg base "read_line" ["line", "at", "characters", "lines"] 4 (spz K (F_read_line K))) {fd : FuncData} (FD : FunD K "parse_program" "parse_program" (defArgs s_parse_program) (defBody s_parse_program) (defScope s_parse_program) [] [] (He.ga K "parse_program") fd) (gm : mg "parse_program" = some (.ref (He.ga K "parse_program"))) : Df P w K mg base "parse_program" ["string"] 9 (spz K (F_parse_program K)) :=
  ⟨_, fd, FD.ok sc_parse_program (spz_len (len_parse_program (K := K))) (fun cdv A outer s H vs Q E hr h => ⟨_, ps_parse_program T C_Program D_BadLine D_characters_of D_read_head D_read_line hr, sv_def h fun G ds R X hF => pure_parse_program ⟨K, G, H, NoF⟩ T _ ds R X hF⟩), gm, FD.kp, FD.bindsN fun _ _ _ _ _ _ us hl => match us, hl with | [_], _ => rfl⟩
theorem ok__law_word (T : Tx w K mg)  {fd : FuncData} (FD : FunD K "_law_word" "_law_word" (defArgs s__law_word) (defBody s__law_word) (defScope s__law_word) [] [] (He.ga K "_law_word") fd) (gm : mg "_law_word" = some (.ref (He.ga K "_law_word"))) : Df P w K mg base "_law_word" ["target"] 1 (spz K (F__law_word K)) :=
  ⟨_, fd, FD.ok sc__law_word (spz_len (len__law_word (K := K))) (fun cdv A outer s H vs Q E hr h => ⟨_, ps__law_word T  hr, sv_def h fun G ds R X hF => pure__law_word ⟨K, G, H, NoF⟩ T _ ds R X hF⟩), gm, FD.kp, FD.bindsN fun _ _ _ _ _ _ us hl => match us, hl with | [_], _ => rfl⟩
theorem ok__law_note (T : Tx w K mg) (D__law_word : Df P w K mg base "_law_word" ["target"] 1 (spz K (F__law_word K))) {fd : FuncData} (FD : FunD K "_law_note" "_law_note" (defArgs s__law_note) (defBody s__law_note) (defScope s__law_note) [] [] (He.ga K "_law_note") fd) (gm : mg "_law_note" = some (.ref (He.ga K "_law_note"))) : Df P w K mg base "_law_note" ["at", "line"] 2 (spz K (F__law_note K)) :=
  ⟨_, fd, FD.ok sc__law_note (spz_len (len__law_note (K := K))) (fun cdv A outer s H vs Q E hr h => ⟨_, ps__law_note T D__law_word hr, sv_def h fun G ds R X hF => pure__law_note ⟨K, G, H, NoF⟩ T _ ds R X hF⟩), gm, FD.kp, FD.bindsN fun _ _ _ _ _ _ us hl => match us, hl with | [_, _], _ => rfl⟩
theorem ok__law_spoilt (T : Tx w K mg) (D__law_note : Df P w K mg base "_law_note" ["at", "line"] 2 (spz K (F__law_note K))) {fd : FuncData} (FD : FunD K "_law_spoilt" "_law_spoilt" (defArgs s__law_spoilt) (defBody s__law_spoilt) (defScope s__law_spoilt) [] [] (He.ga K "_law_spoilt") fd) (gm : mg "_law_spoilt" = some (.ref (He.ga K "_law_spoilt"))) : Df P w K mg base "_law_spoilt" ["at", "line", "many", "marks", "kind"] 3 (spz K (F__law_spoilt K)) :=
  ⟨_, fd, FD.ok sc__law_spoilt (spz_len (len__law_spoilt (K := K))) (fun cdv A outer s H vs Q E hr h => ⟨_, ps__law_spoilt T D__law_note hr, sv_def h fun G ds R X hF => pure__law_spoilt ⟨K, G, H, NoF⟩ T _ ds R X hF⟩), gm, FD.kp, FD.bindsN fun _ _ _ _ _ _ us hl => match us, hl with | [_, _, _, _, _], _ => rfl⟩
theorem ok__law_cell (T : Tx w K mg)  {fd : FuncData} (FD : FunD K "_law_cell" "_law_cell" (defArgs s__law_cell) (defBody s__law_cell) (defScope s__law_cell) [] [] (He.ga K "_law_cell") fd) (gm : mg "_law_cell" = some (.ref (He.ga K "_law_cell"))) : Df P w K mg base "_law_cell" ["script", "k"] 1 (spz K (F__law_cell K)) :=
  ⟨_, fd, FD.ok sc__law_cell (spz_len (len__law_cell (K := K))) (fun cdv A outer s H vs Q E hr h => ⟨_, ps__law_cell T  hr, sv_def h fun G ds R X hF => pure__law_cell ⟨K, G, H, NoF⟩ T _ ds R X hF⟩), gm, FD.kp, FD.bindsN fun _ _ _ _ _ _ us hl => match us, hl with | [_, _], _ => rfl⟩
theorem ok__law_letters (T : Tx w K mg)  {fd : FuncData} (FD : FunD K "_law_letters" "_law_letters" (defArgs s__law_letters) (defBody s__law_letters) (defScope s__law_letters) [] [] (He.ga K "_law_letters") fd) (gm : mg "_law_letters" = some (.ref (He.ga K "_law_letters"))) : Df P w K mg base "_law_letters" ["row"] 1 (spz K (F__law_letters K)) :=
  ⟨_, fd, FD.ok sc__law_letters (spz_len (len__law_letters (K := K))) (fun cdv A outer s H vs Q E hr h => ⟨_, ps__law_letters T  hr, sv_def h fun G ds R X hF => pure__law_letters ⟨K, G, H, NoF⟩ T _ ds R X hF⟩), gm, FD.kp, FD.bindsN fun _ _ _ _ _ _ us hl => match us, hl with | [_], _ => rfl⟩
theorem ok__law_target (T : Tx w K mg)  {fd : FuncData} (FD : FunD K "_law_target" "_law_target" (defArgs s__law_target) (defBody s__law_target) (defScope s__law_target) [] [] (He.ga K "_law_target") fd) (gm : mg "_law_target" = some (.ref (He.ga K "_law_target"))) : Df P w K mg base "_law_target" ["digit", "at", "many", "loops"] 1 (spz K (F__law_target K)) :=
  ⟨_, fd, FD.ok sc__law_target (spz_len (len__law_target (K := K))) (fun cdv A outer s H vs Q E hr h => ⟨_, ps__law_target T  hr, sv_def h fun G ds R X hF => pure__law_target ⟨K, G, H, NoF⟩ T _ ds R X hF⟩), gm, FD.kp, FD.bindsN fun _ _ _ _ _ _ us hl => match us, hl with | [_, _, _, _], _ => rfl⟩
theorem ok__law_line (T : Tx w K mg) (D__law_target : Df P w K mg base "_law_target" ["digit", "at", "many", "loops"] 1 (spz K (F__law_target K))) {fd : FuncData} (FD : FunD K "_law_line" "_law_line" (defArgs s__law_line) (defBody s__law_line) (defScope s__law_line) [] [] (He.ga K "_law_line") fd) (gm : mg "_law_line" = some (.ref (He.ga K "_law_line"))) : Df P w K mg base "_law_line" ["row", "at", "many", "characters", "loops"] 2 (spz K (F__law_line K)) :=
  ⟨_, fd, FD.ok sc__law_line (spz_len (len__law_line (K := K))) (fun cdv A outer s H vs Q E hr h => ⟨_, ps__law_line T D__law_target hr, sv_def h fun G ds R X hF => pure__law_line ⟨K, G, H, NoF⟩ T _ ds R X hF⟩), gm, FD.kp, FD.bindsN fun _ _ _ _ _ _ us hl => match us, hl with | [_, _, _, _, _], _ => rfl⟩
theorem ok__law_program (T : Tx w K mg) (D__law_cell : Df P w K mg base "_law_cell" ["script", "k"] 1 (spz K (F__law_cell K))) (D__law_digits : Df P w K mg base "_law_digits" ["cell", "sizes"] 1 (spz K (F__law_digits K))) (D__law_letters : Df P w K mg base "_law_letters" ["row"] 1 (spz K (F__law_letters K))) (D__law_line : Df P w K mg base "_law_line" ["row", "at", "many", "characters", "loops"] 2 (spz K (F__law_line K))) {fd : FuncData} (FD : FunD K "_law_program" "_law_program" (defArgs s__law_program) (defBody s__law_program) (defScope s__law_program) [] [] (He.ga K "_law_program") fd) (gm : mg "_law_program" = some (.ref (He.ga K "_law_program"))) : Df P w K mg base "_law_program" ["script", "at", "longest", "loops"] 3 (spz K (F__law_program K)) :=
  ⟨_, fd, FD.ok sc__law_program (spz_len (len__law_program (K := K))) (fun cdv A outer s H vs Q E hr h => ⟨_, ps__law_program T D__law_cell D__law_digits D__law_letters D__law_line hr, sv_def h fun G ds R X hF => pure__law_program ⟨K, G, H, NoF⟩ T _ ds R X hF⟩), gm, FD.kp, FD.bindsN fun _ _ _ _ _ _ us hl => match us, hl with | [_, _, _, _], _ => rfl⟩
theorem ok_target_note (T : Tx w K mg)  {fd : FuncData} (FD : FunD K "target_note" "target_note" (defArgs s_target_note) (defBody s_target_note) (defScope s_target_note) [] [] (He.ga K "target_note") fd) (gm : mg "target_note" = some (.ref (He.ga K "target_note"))) : Df P w K mg base "target_note" ["target"] 1 (spz K (F_target_note K)) :=
  ⟨_, fd, FD.ok sc_target_note (spz_len (len_target_note (K := K))) (fun cdv A outer s H vs Q E hr h => ⟨_, ps_target_note T  hr, sv_def h fun G ds R X hF => pure_target_note ⟨K, G, H, NoF⟩ T _ ds R X hF⟩), gm, FD.kp, FD.bindsN fun _ _ _ _ _ _ us hl => match us, hl with | [_], _ => rfl⟩
theorem ok_item_note (T : Tx w K mg) (D_target_note : Df P w K mg base "target_note" ["target"] 1 (spz K (F_target_note K))) {fd : FuncData} (FD : FunD K "item_note" "item_note" (defArgs s_item_note) (defBody s_item_note) (defScope s_item_note) [] [] (He.ga K "item_note") fd) (gm : mg "item_note" = some (.ref (He.ga K "item_note"))) : Df P w K mg base "item_note" ["shape", "item"] 2 (spz K (F_item_note K)) :=
  ⟨_, fd, FD.ok sc_item_note (spz_len (len_item_note (K := K))) (fun cdv A outer s H vs Q E hr h => ⟨_, ps_item_note T D_target_note hr, sv_def h fun G ds R X hF => pure_item_note ⟨K, G, H, NoF⟩ T _ ds R X hF⟩), gm, FD.kp, FD.bindsN fun _ _ _ _ _ _ us hl => match us, hl with | [_, _], _ => rfl⟩
theorem ok_format_program (T : Tx w K mg) (D_item_note : Df P w K mg base "item_note" ["shape", "item"] 2 (spz K (F_item_note K))) {fd : FuncData} (FD : FunD K "format_program" "format_program" (defArgs s_format_program) (defBody s_format_program) (defScope s_format_program) [] [] (He.ga K "format_program") fd) (gm : mg "format_program" = some (.ref (He.ga K "format_program"))) : Df P w K mg base "format_program" ["program"] 3 (spz K (F_format_program K)) :=
  ⟨_, fd, FD.ok sc_format_program (spz_len (len_format_program (K := K))) (fun cdv A outer s H vs Q E hr h => ⟨_, ps_format_program T D_item_note hr, sv_def h fun G ds R X hF => pure_format_program ⟨K, G, H, NoF⟩ T _ ds R X hF⟩), gm, FD.kp, FD.bindsN fun _ _ _ _ _ _ us hl => match us, hl with | [_], _ => rfl⟩
theorem ok__law_whole (T : Tx w K mg)  {fd : FuncData} (FD : FunD K "_law_whole" "_law_whole" (defArgs s__law_whole) (defBody s__law_whole) (defScope s__law_whole) [] [] (He.ga K "_law_whole") fd) (gm : mg "_law_whole" = some (.ref (He.ga K "_law_whole"))) : Df P w K mg base "_law_whole" ["value"] 1 (spz K (F__law_whole K)) :=
  ⟨_, fd, FD.ok sc__law_whole (spz_len (len__law_whole (K := K))) (fun cdv A outer s H vs Q E hr h => ⟨_, ps__law_whole T  hr, sv_def h fun G ds R X hF => pure__law_whole ⟨K, G, H, NoF⟩ T _ ds R X hF⟩), gm, FD.kp, FD.bindsN fun _ _ _ _ _ _ us hl => match us, hl with | [_], _ => rfl⟩
theorem oks__law_whole (T : Tx w K mg) {fd : FuncData} (FD : FunD K "_law_whole" "_law_whole" (defArgs s__law_whole) (defBody s__law_whole) (defScope s__law_whole) [] [] (He.ga K "_law_whole") fd) (gm : mg "_law_whole" = some (.ref (He.ga K "_law_whole"))) : Ds P w K mg base "_law_whole" ["value"] 1 (spz K (F__law_whole K)) :=
  ⟨_, fd, okS FD sc__law_whole (spz_len (len__law_whole (K := K))) (fun cdv A outer s H vs Q E p hr h => ⟨_, psH__law_whole T hr, sv_def h fun G ds R X hF => pure__law_whole ⟨K, G, H, NoF⟩ T _ ds R X hF⟩), gm, FD.kp, FD.bindsN fun _ _ _ _ _ _ us hl => match us, hl with | [_], _ => rfl⟩
theorem ok__law_is_refused (T : Tx w K mg) (S__law_whole : Ds P w K mg base "_law_whole" ["value"] 1 (spz K (F__law_whole K))) (D_parse_program : Df P w K mg base "parse_program" ["string"] 9 (spz K (F_parse_program K))) {fd : FuncData} (FD : FunD K "_law_is_refused" "_law_is_refused" (defArgs s__law_is_refused) (defBody s__law_is_refused) (defScope s__law_is_refused) [] [] (He.ga K "_law_is_refused") fd) (gm : mg "_law_is_refused" = some (.ref (He.ga K "_law_is_refused"))) : Df P w K mg base "_law_is_refused" ["string", "due"] 10 (spz K (F__law_is_refused K)) :=
  ⟨_, fd, FD.ok sc__law_is_refused (spz_len (len__law_is_refused (K := K))) (fun cdv A outer s H vs Q E hr h => ⟨_, ps__law_is_refused T S__law_whole D_parse_program hr, sv_def h fun G ds R X hF => pure__law_is_refused ⟨K, G, H, NoF⟩ T _ ds R X hF⟩), gm, FD.kp, FD.bindsN fun _ _ _ _ _ _ us hl => match us, hl with | [_, _], _ => rfl⟩
theorem okf_law (T : Tx w K mg) (C_Program : Dc P w K mg base "Program" (He.ga K "Program") ["self", "letters", "marks", "lines"] 7 (spI K (He.ga K "Program") (F_Program K))) (D__law_cell : Df P w K mg base "_law_cell" ["script", "k"] 1 (spz K (F__law_cell K))) (D__law_digits : Df P w K mg base "_law_digits" ["cell", "sizes"] 1 (spz K (F__law_digits K))) (D__law_is_refused : Df P w K mg base "_law_is_refused" ["string", "due"] 10 (spz K (F__law_is_refused K))) (D__law_note : Df P w K mg base "_law_note" ["at", "line"] 2 (spz K (F__law_note K))) (D__law_program : Df P w K mg base "_law_program" ["script", "at", "longest", "loops"] 3 (spz K (F__law_program K))) (D__law_spoilt : Df P w K mg base "_law_spoilt" ["at", "line", "many", "marks", "kind"] 3 (spz K (F__law_spoilt K))) (D__law_wider : Df P w K mg base "_law_wider" ["told", "row"] 1 (spz K (F__law_wider K))) (D_format_program : Df P w K mg base "format_program" ["program"] 3 (spz K (F_format_program K))) (D_parse_program : Df P w K mg base "parse_program" ["string"] 9 (spz K (F_parse_program K))) {fd : FuncData} (FD : FunD K "law" "law" (defArgs s_law) (defBody s_law) (defScope s_law) [] [] (He.ga K "law") fd) : FnOk P w K mg base (L2.CX P w) 11 (He.ga K "law") fd ["script"] (spz K Flaw) :=
  FD.ok sc_law (spz_len (len_law (K := K))) (fun cdv A outer s H vs Q E hr h => ⟨_, ps_law T C_Program D__law_cell D__law_digits D__law_is_refused D__law_note D__law_program D__law_spoilt D__law_wider D_format_program D_parse_program hr, sv_def h fun G ds R X hF => pure_law ⟨K, G, H, NoF⟩ T _ ds R X hF⟩)
end
def d__law_digits : He.DefD := ⟨("_law_digits", none), "_law_digits", "_law_digits", defArgs s__law_digits, defBody s__law_digits, defScope s__law_digits, [], []⟩
def d__law_wider : He.DefD := ⟨("_law_wider", none), "_law_wider", "_law_wider", defArgs s__law_wider, defBody s__law_wider, defScope s__law_wider, [], []⟩
def d_are_letters : He.DefD := ⟨("are_letters", none), "are_letters", "are_letters", defArgs s_are_letters, defBody s_are_letters, defScope s_are_letters, [], []⟩
def d_read_head : He.DefD := ⟨("read_head", none), "read_head", "read_head", defArgs s_read_head, defBody s_read_head, defScope s_read_head, [], []⟩
def d_check_letters : He.DefD := ⟨("check_letters", none), "check_letters", "check_letters", defArgs s_check_letters, defBody s_check_letters, defScope s_check_letters, [], []⟩
def d_frozen : He.DefD := ⟨("frozen", none), "frozen", "frozen", defArgs s_frozen, defBody s_frozen, defScope s_frozen, [], []⟩
def d_is_whole : He.DefD := ⟨("is_whole", none), "is_whole", "is_whole", defArgs s_is_whole, defBody s_is_whole, defScope s_is_whole, [], []⟩
def d_is_target : He.DefD := ⟨("is_target", none), "is_target", "is_target", defArgs s_is_target, defBody s_is_target, defScope s_is_target, [], []⟩
def d_is_item : He.DefD := ⟨("is_item", none), "is_item", "is_item", defArgs s_is_item, defBody s_is_item, defScope s_is_item, [], []⟩
def d_is_line : He.DefD := ⟨("is_line", none), "is_line", "is_line", defArgs s_is_line, defBody s_is_line, defScope s_is_line, [], []⟩
def d_characters_of : He.DefD := ⟨("characters_of", none), "characters_of", "characters_of", defArgs s_characters_of, defBody s_characters_of, defScope s_characters_of, [], []⟩
def d_Program : He.DefD := ⟨("Program", some "__init__"), "__init__", "Program.__init__", defArgs s_Program, defBody s_Program, defScope s_Program, [], []⟩
def d_plain_number : He.DefD := ⟨("plain_number", none), "plain_number", "plain_number", defArgs s_plain_number, defBody s_plain_number, defScope s_plain_number, [], []⟩
def d_read_target : He.DefD := ⟨("read_target", none), "read_target", "read_target", defArgs s_read_target, defBody s_read_target, defScope s_read_target, [], []⟩
def d_read_word : He.DefD := ⟨("read_word", none), "read_word", "read_word", defArgs s_read_word, defBody s_read_word, defScope s_read_word, [], []⟩
def d_read_line : He.DefD := ⟨("read_line", none), "read_line", "read_line", defArgs s_read_line, defBody s_read_line, defScope s_read_line, [], []⟩
def d_parse_program : He.DefD := ⟨("parse_program", none), "parse_program", "parse_program", defArgs s_parse_program, defBody s_parse_program, defScope s_parse_program, [], []⟩
def d__law_word : He.DefD := ⟨("_law_word", none), "_law_word", "_law_word", defArgs s__law_word, defBody s__law_word, defScope s__law_word, [], []⟩
def d__law_note : He.DefD := ⟨("_law_note", none), "_law_note", "_law_note", defArgs s__law_note, defBody s__law_note, defScope s__law_note, [], []⟩
def d__law_spoilt : He.DefD := ⟨("_law_spoilt", none), "_law_spoilt", "_law_spoilt", defArgs s__law_spoilt, defBody s__law_spoilt, defScope s__law_spoilt, [], []⟩
def d__law_cell : He.DefD := ⟨("_law_cell", none), "_law_cell", "_law_cell", defArgs s__law_cell, defBody s__law_cell, defScope s__law_cell, [], []⟩
def d__law_letters : He.DefD := ⟨("_law_letters", none), "_law_letters", "_law_letters", defArgs s__law_letters, defBody s__law_letters, defScope s__law_letters, [], []⟩
def d__law_target : He.DefD := ⟨("_law_target", none), "_law_target", "_law_target", defArgs s__law_target, defBody s__law_target, defScope s__law_target, [], []⟩
def d__law_line : He.DefD := ⟨("_law_line", none), "_law_line", "_law_line", defArgs s__law_line, defBody s__law_line, defScope s__law_line, [], []⟩
def d__law_program : He.DefD := ⟨("_law_program", none), "_law_program", "_law_program", defArgs s__law_program, defBody s__law_program, defScope s__law_program, [], []⟩
def d_target_note : He.DefD := ⟨("target_note", none), "target_note", "target_note", defArgs s_target_note, defBody s_target_note, defScope s_target_note, [], []⟩
def d_item_note : He.DefD := ⟨("item_note", none), "item_note", "item_note", defArgs s_item_note, defBody s_item_note, defScope s_item_note, [], []⟩
def d_format_program : He.DefD := ⟨("format_program", none), "format_program", "format_program", defArgs s_format_program, defBody s_format_program, defScope s_format_program, [], []⟩
def d__law_whole : He.DefD := ⟨("_law_whole", none), "_law_whole", "_law_whole", defArgs s__law_whole, defBody s__law_whole, defScope s__law_whole, [], []⟩
def d__law_is_refused : He.DefD := ⟨("_law_is_refused", none), "_law_is_refused", "_law_is_refused", defArgs s__law_is_refused, defBody s__law_is_refused, defScope s__law_is_refused, [], []⟩
def d_law : He.DefD := ⟨("law", none), "law", "law", defArgs s_law, defBody s_law, defScope s_law, [], []⟩
def d_BadLetters : He.DefD := ⟨("BadLetters", some "__init__"), "__init__", "BadLetters.__init__", defArgs s_BadLetters, defBody s_BadLetters, defScope s_BadLetters, [], []⟩
def d_BadLine : He.DefD := ⟨("BadLine", some "__init__"), "__init__", "BadLine.__init__", defArgs s_BadLine, defBody s_BadLine, defScope s_BadLine, [], []⟩
def d_BadProgram : He.DefD := ⟨("BadProgram", some "__init__"), "__init__", "BadProgram.__init__", defArgs s_BadProgram, defBody s_BadProgram, defScope s_BadProgram, [], []⟩
def fn : List He.DefD := [d_BadLetters, d_BadLine, d_BadProgram, d__law_digits, d__law_wider, d_are_letters, d_read_head, d_check_letters, d_frozen, d_is_whole, d_is_target, d_is_item, d_is_line, d_characters_of, d_Program, d_plain_number, d_read_target, d_read_word, d_read_line, d_parse_program, d__law_word, d__law_note, d__law_spoilt, d__law_cell, d__law_letters, d__law_target, d__law_line, d__law_program, d_target_note, d_item_note, d_format_program, d__law_whole, d__law_is_refused, d_law]
def factsAll : List (PySem.W.Frag → Bool) := facts ++ [fun K => gloB K "_law_digits", fun K => gloB K "_law_wider", fun K => gloB K "are_letters", fun K => gloB K "read_head", fun K => gloB K "check_letters", fun K => gloB K "frozen", fun K => gloB K "is_whole", fun K => gloB K "is_target", fun K => gloB K "is_item", fun K => gloB K "is_line", fun K => gloB K "characters_of", fun K => gloB K "plain_number", fun K => gloB K "read_target", fun K => gloB K "read_word", fun K => gloB K "read_line", fun K => gloB K "parse_program", fun K => gloB K "_law_word", fun K => gloB K "_law_note", fun K => gloB K "_law_spoilt", fun K => gloB K "_law_cell", fun K => gloB K "_law_letters", fun K => gloB K "_law_target", fun K => gloB K "_law_line", fun K => gloB K "_law_program", fun K => gloB K "target_note", fun K => gloB K "item_note", fun K => gloB K "format_program", fun K => gloB K "_law_whole", fun K => gloB K "_law_is_refused", fun K => gloB K "law"]
def loose0 : List PySem.Str := ["ClockError", "BadLetters", "BadLine", "BadProgram", "ALPHABET", "frozen", "is_whole", "are_letters", "check_letters", "plain_number", "is_target", "MARKS"]
def loose1 : List PySem.Str := ["MOST_STEP", "MOST_TARGETS", "SHAPES", "characters_of", "is_item", "is_line", "Program", "target_note", "item_note", "format_program", "read_head", "read_target"]
def loose2 : List PySem.Str := ["read_word", "read_line", "parse_program", "_law_whole", "_law_cell", "_law_digits", "_law_letters", "_law_target", "_law_line", "_law_program", "_law_word", "_law_note"]
def loose3 : List PySem.Str := ["_law_wider", "_law_spoilt", "_law_is_refused"]
def loose : List PySem.Str := loose0 ++ loose1 ++ loose2 ++ loose3
abbrev R : PySem.W.OpenRow := PySem.W.OpenLaw.row PySem.Challenge.rw_straightclock_k77_written_programs
abbrev hk : PySem.W.Hook := hookW 7 factsAll fn tabs
def ob (s : PySem.W.SharedT) : AlZ := obsWG 7 factsAll fn tabs (HandSHeadRun.getT s)
theorem ob_eq (s : PySem.W.SharedT) : ob s = hk.obs s.abs := obsWG_eq (HandSHeadRun.getT_eq s)
theorem run_false (w : World) : HandSHeadRun.RunEq R (PySem.W.view R.prog [46]) hk ob 4000 loose (w.withFollow "special-get-raises" false) := by
  intro os
  kernel_rfl
theorem run_true (w : World) : HandSHeadRun.RunEq R (PySem.W.view R.prog [46]) hk ob 4000 loose (w.withFollow "special-get-raises" true) := by
  intro os
  kernel_rfl
theorem run (w : World) : HandSHeadRun.RunEq R (PySem.W.view R.prog [46]) hk ob 4000 loose w := PySem.W.byRow2 "special-get-raises" (P := fun w => HandSHeadRun.RunEq R (PySem.W.view R.prog [46]) hk ob 4000 loose w) run_false run_true w
theorem fin {P : Program} {w : World} {K : PySem.W.Frag} {h : Heap} {mg : Str → Option Value} {f : Addr} (X : K.In h) (G : h.Ns mainGlobals mg) (hfa : mg ("law" : Str) = some (.ref f)) (cw : SaysW factsAll fn tabs w K) :
    ∃ fd : FuncData, (∀ (s : Shared) (v : Value), BindsTo s fd ⟨[v], []⟩ [("script", v)]) ∧ ∀ base : Heap, K.In base → base.Ns mainGlobals mg → FnOk P w K mg base (L2.CX P w) 11 f fd ["script"] (spz K Flaw) := by
  have c := cw.z
  have T : Tx w K mg := tx_of X G (fun i f h => c.fact i (fact_app h)) fun i t h => cw.tab i h
  obtain ⟨fd_BadLetters, FD_BadLetters⟩ := c.def_ 0 (d := d_BadLetters) rfl
  obtain ⟨fd_BadLine, FD_BadLine⟩ := c.def_ 1 (d := d_BadLine) rfl
  obtain ⟨fd_BadProgram, FD_BadProgram⟩ := c.def_ 2 (d := d_BadProgram) rfl
  obtain ⟨fd__law_digits, FD__law_digits⟩ := c.def_ 3 (d := d__law_digits) rfl
  obtain ⟨fd__law_wider, FD__law_wider⟩ := c.def_ 4 (d := d__law_wider) rfl
  obtain ⟨fd_are_letters, FD_are_letters⟩ := c.def_ 5 (d := d_are_letters) rfl
  obtain ⟨fd_read_head, FD_read_head⟩ := c.def_ 6 (d := d_read_head) rfl
  obtain ⟨fd_check_letters, FD_check_letters⟩ := c.def_ 7 (d := d_check_letters) rfl
  obtain ⟨fd_frozen, FD_frozen⟩ := c.def_ 8 (d := d_frozen) rfl
  obtain ⟨fd_is_whole, FD_is_whole⟩ := c.def_ 9 (d := d_is_whole) rfl
  obtain ⟨fd_is_target, FD_is_target⟩ := c.def_ 10 (d := d_is_target) rfl
  obtain ⟨fd_is_item, FD_is_item⟩ := c.def_ 11 (d := d_is_item) rfl
  obtain ⟨fd_is_line, FD_is_line⟩ := c.def_ 12 (d := d_is_line) rfl
  obtain ⟨fd_characters_of, FD_characters_of⟩ := c.def_ 13 (d := d_characters_of) rfl
  obtain ⟨fd_Program, FD_Program⟩ := c.def_ 14 (d := d_Program) rfl
  obtain ⟨fd_plain_number, FD_plain_number⟩ := c.def_ 15 (d := d_plain_number) rfl
  obtain ⟨fd_read_target, FD_read_target⟩ := c.def_ 16 (d := d_read_target) rfl
  obtain ⟨fd_read_word, FD_read_word⟩ := c.def_ 17 (d := d_read_word) rfl
  obtain ⟨fd_read_line, FD_read_line⟩ := c.def_ 18 (d := d_read_line) rfl
  obtain ⟨fd_parse_program, FD_parse_program⟩ := c.def_ 19 (d := d_parse_program) rfl
  obtain ⟨fd__law_word, FD__law_word⟩ := c.def_ 20 (d := d__law_word) rfl
  obtain ⟨fd__law_note, FD__law_note⟩ := c.def_ 21 (d := d__law_note) rfl
  obtain ⟨fd__law_spoilt, FD__law_spoilt⟩ := c.def_ 22 (d := d__law_spoilt) rfl
  obtain ⟨fd__law_cell, FD__law_cell⟩ := c.def_ 23 (d := d__law_cell) rfl
  obtain ⟨fd__law_letters, FD__law_letters⟩ := c.def_ 24 (d := d__law_letters) rfl
  obtain ⟨fd__law_target, FD__law_target⟩ := c.def_ 25 (d := d__law_target) rfl
  obtain ⟨fd__law_line, FD__law_line⟩ := c.def_ 26 (d := d__law_line) rfl
  obtain ⟨fd__law_program, FD__law_program⟩ := c.def_ 27 (d := d__law_program) rfl
  obtain ⟨fd_target_note, FD_target_note⟩ := c.def_ 28 (d := d_target_note) rfl
  obtain ⟨fd_item_note, FD_item_note⟩ := c.def_ 29 (d := d_item_note) rfl
  obtain ⟨fd_format_program, FD_format_program⟩ := c.def_ 30 (d := d_format_program) rfl
  obtain ⟨fd__law_whole, FD__law_whole⟩ := c.def_ 31 (d := d__law_whole) rfl
  obtain ⟨fd__law_is_refused, FD__law_is_refused⟩ := c.def_ 32 (d := d__law_is_refused) rfl
  obtain ⟨fd_law, FD_law⟩ := c.def_ 33 (d := d_law) rfl
  have gm__law_digits := He.glo_ok X G (x := "_law_digits") (c.fact 69 (f := fun K => gloB K "_law_digits") rfl)
  have gm__law_wider := He.glo_ok X G (x := "_law_wider") (c.fact 70 (f := fun K => gloB K "_law_wider") rfl)
  have gm_are_letters := He.glo_ok X G (x := "are_letters") (c.fact 71 (f := fun K => gloB K "are_letters") rfl)
  have gm_read_head := He.glo_ok X G (x := "read_head") (c.fact 72 (f := fun K => gloB K "read_head") rfl)
  have gm_check_letters := He.glo_ok X G (x := "check_letters") (c.fact 73 (f := fun K => gloB K "check_letters") rfl)
  have gm_frozen := He.glo_ok X G (x := "frozen") (c.fact 74 (f := fun K => gloB K "frozen") rfl)
  have gm_is_whole := He.glo_ok X G (x := "is_whole") (c.fact 75 (f := fun K => gloB K "is_whole") rfl)
  have gm_is_target := He.glo_ok X G (x := "is_target") (c.fact 76 (f := fun K => gloB K "is_target") rfl)
  have gm_is_item := He.glo_ok X G (x := "is_item") (c.fact 77 (f := fun K => gloB K "is_item") rfl)
  have gm_is_line := He.glo_ok X G (x := "is_line") (c.fact 78 (f := fun K => gloB K "is_line") rfl)
  have gm_characters_of := He.glo_ok X G (x := "characters_of") (c.fact 79 (f := fun K => gloB K "characters_of") rfl)
  have gm_plain_number := He.glo_ok X G (x := "plain_number") (c.fact 80 (f := fun K => gloB K "plain_number") rfl)
  have gm_read_target := He.glo_ok X G (x := "read_target") (c.fact 81 (f := fun K => gloB K "read_target") rfl)
  have gm_read_word := He.glo_ok X G (x := "read_word") (c.fact 82 (f := fun K => gloB K "read_word") rfl)
  have gm_read_line := He.glo_ok X G (x := "read_line") (c.fact 83 (f := fun K => gloB K "read_line") rfl)
  have gm_parse_program := He.glo_ok X G (x := "parse_program") (c.fact 84 (f := fun K => gloB K "parse_program") rfl)
  have gm__law_word := He.glo_ok X G (x := "_law_word") (c.fact 85 (f := fun K => gloB K "_law_word") rfl)
  have gm__law_note := He.glo_ok X G (x := "_law_note") (c.fact 86 (f := fun K => gloB K "_law_note") rfl)
  have gm__law_spoilt := He.glo_ok X G (x := "_law_spoilt") (c.fact 87 (f := fun K => gloB K "_law_spoilt") rfl)
  have gm__law_cell := He.glo_ok X G (x := "_law_cell") (c.fact 88 (f := fun K => gloB K "_law_cell") rfl)
  have gm__law_letters := He.glo_ok X G (x := "_law_letters") (c.fact 89 (f := fun K => gloB K "_law_letters") rfl)
  have gm__law_target := He.glo_ok X G (x := "_law_target") (c.fact 90 (f := fun K => gloB K "_law_target") rfl)
  have gm__law_line := He.glo_ok X G (x := "_law_line") (c.fact 91 (f := fun K => gloB K "_law_line") rfl)
  have gm__law_program := He.glo_ok X G (x := "_law_program") (c.fact 92 (f := fun K => gloB K "_law_program") rfl)
  have gm_target_note := He.glo_ok X G (x := "target_note") (c.fact 93 (f := fun K => gloB K "target_note") rfl)
  have gm_item_note := He.glo_ok X G (x := "item_note") (c.fact 94 (f := fun K => gloB K "item_note") rfl)
  have gm_format_program := He.glo_ok X G (x := "format_program") (c.fact 95 (f := fun K => gloB K "format_program") rfl)
  have gm__law_whole := He.glo_ok X G (x := "_law_whole") (c.fact 96 (f := fun K => gloB K "_law_whole") rfl)
  have gm__law_is_refused := He.glo_ok X G (x := "_law_is_refused") (c.fact 97 (f := fun K => gloB K "_law_is_refused") rfl)
  have gm_law := He.glo_ok X G (x := "law") (c.fact 98 (f := fun K => gloB K "law") rfl)
  have e := hfa.symm.trans gm_law
  cases e
  have b := FunD.bindsA (ps := ["script"]) FD_law fun _ _ _ _ _ _ us hl => match us, hl with | [_], _ => rfl
  refine ⟨fd_law, fun s v => b s [v] rfl, fun base _ _ => ?_⟩
  have D_BadLetters : Dx P w K mg base _ _ _ _ := dx_BadLetters T FD_BadLetters
  have D_BadLine : Dx P w K mg base _ _ _ _ := dx_BadLine T FD_BadLine
  have D_BadProgram : Dx P w K mg base _ _ _ _ := dx_BadProgram T FD_BadProgram
  have D__law_digits : Df P w K mg base _ _ _ _ := ok__law_digits T  FD__law_digits gm__law_digits
  have D__law_wider : Df P w K mg base _ _ _ _ := ok__law_wider T  FD__law_wider gm__law_wider
  have D_are_letters : Df P w K mg base _ _ _ _ := ok_are_letters T  FD_are_letters gm_are_letters
  have D_read_head : Df P w K mg base _ _ _ _ := ok_read_head T D_are_letters FD_read_head gm_read_head
  have D_check_letters : Df P w K mg base _ _ _ _ := ok_check_letters T D_BadLetters D_are_letters FD_check_letters gm_check_letters
  have D_frozen : Df P w K mg base _ _ _ _ := ok_frozen T  FD_frozen gm_frozen 5
  have D_is_whole : Df P w K mg base _ _ _ _ := ok_is_whole T  FD_is_whole gm_is_whole
  have D_is_target : Df P w K mg base _ _ _ _ := ok_is_target T D_is_whole FD_is_target gm_is_target
  have D_is_item : Df P w K mg base _ _ _ _ := ok_is_item T D_is_target D_is_whole FD_is_item gm_is_item
  have D_is_line : Df P w K mg base _ _ _ _ := ok_is_line T D_is_item FD_is_line gm_is_line
  have D_characters_of : Df P w K mg base _ _ _ _ := ok_characters_of T  FD_characters_of gm_characters_of
  have C_Program : Dc P w K mg base _ _ _ _ _ := ok_Program T D_BadProgram D_characters_of D_check_letters D_frozen D_is_line FD_Program
  have D_plain_number : Df P w K mg base _ _ _ _ := ok_plain_number T  FD_plain_number gm_plain_number
  have D_read_target : Df P w K mg base _ _ _ _ := ok_read_target T D_plain_number FD_read_target gm_read_target
  have D_read_word : Df P w K mg base _ _ _ _ := ok_read_word T D_plain_number D_read_target FD_read_word gm_read_word
  have D_read_line : Df P w K mg base _ _ _ _ := ok_read_line T D_read_word FD_read_line gm_read_line
  have D_parse_program : Df P w K mg base _ _ _ _ := ok_parse_program T C_Program D_BadLine D_characters_of D_read_head D_read_line FD_parse_program gm_parse_program
  have D__law_word : Df P w K mg base _ _ _ _ := ok__law_word T  FD__law_word gm__law_word
  have D__law_note : Df P w K mg base _ _ _ _ := ok__law_note T D__law_word FD__law_note gm__law_note
  have D__law_spoilt : Df P w K mg base _ _ _ _ := ok__law_spoilt T D__law_note FD__law_spoilt gm__law_spoilt
  have D__law_cell : Df P w K mg base _ _ _ _ := ok__law_cell T  FD__law_cell gm__law_cell
  have D__law_letters : Df P w K mg base _ _ _ _ := ok__law_letters T  FD__law_letters gm__law_letters
  have D__law_target : Df P w K mg base _ _ _ _ := ok__law_target T  FD__law_target gm__law_target
  have D__law_line : Df P w K mg base _ _ _ _ := ok__law_line T D__law_target FD__law_line gm__law_line
  have D__law_program : Df P w K mg base _ _ _ _ := ok__law_program T D__law_cell D__law_digits D__law_letters D__law_line FD__law_program gm__law_program
  have D_target_note : Df P w K mg base _ _ _ _ := ok_target_note T  FD_target_note gm_target_note
  have D_item_note : Df P w K mg base _ _ _ _ := ok_item_note T D_target_note FD_item_note gm_item_note
  have D_format_program : Df P w K mg base _ _ _ _ := ok_format_program T D_item_note FD_format_program gm_format_program
  have S__law_whole : Ds P w K mg base _ _ _ _ := oks__law_whole T FD__law_whole gm__law_whole
  have D__law_whole : Df P w K mg base _ _ _ _ := ok__law_whole T  FD__law_whole gm__law_whole
  have D__law_is_refused : Df P w K mg base _ _ _ _ := ok__law_is_refused T S__law_whole D_parse_program FD__law_is_refused gm__law_is_refused
  exact okf_law T C_Program D__law_cell D__law_digits D__law_is_refused D__law_note D__law_program D__law_spoilt D__law_wider D_format_program D_parse_program FD_law
end L
open PySem PySem.W PySem.Calls PyProof.Rows
theorem PySem.Challenge.cw_straightclock_k77_written_programs_holds : PySem.Challenge.rw_straightclock_k77_written_programs.Holds := by
  w_on; o_law
  refine HandSHeadRun.head_any (r := OpenLaw.row PySem.Challenge.rw_straightclock_k77_written_programs) (q := view (OpenLaw.row PySem.Challenge.rw_straightclock_k77_written_programs).prog [46]) (H := L.hk) (ob := L.ob) (M := 4000) (loose := L.loose) (d := HandSHeadRun.topDef (OpenLaw.row PySem.Challenge.rw_straightclock_k77_written_programs).prog 46) (kwd := []) L.ob_eq
    (by kernel_rfl) (fun s => by kernel_rfl) L.run (by kernel_rfl) (by kernel_rfl) (by kernel_rfl) (by rfl) (by first | assumption | decide +kernel) (by decide +kernel) ⟨rfl, rfl, rfl, rfl, rfl, by decide +kernel⟩ ?hw ?hc
  case hw => w_witness2
  case hc =>
    refine Z.walk_ofX (l := PySem.Challenge.rw_straightclock_k77_written_programs) (k := 11) (x := "script") rfl (by kernel_rfl) ⟨rfl, by decide, by decide⟩ ?_
    intro w mg fa h Y G hmg0
    obtain ⟨K, KX, c⟩ := Y
    have hmg : mg ("law" : PySem.Str) = some (.ref fa) := by
      have e : (HandSHeadRun.topDef (OpenLaw.row PySem.Challenge.rw_straightclock_k77_written_programs).prog 46).name = ("law" : PySem.Str) := by kernel_rfl
      rw [← e]
      exact hmg0
    obtain ⟨fd, hb, hF⟩ := L.fin (P := (PySem.Challenge.rw_straightclock_k77_written_programs).prog) (w := w) KX G hmg c
    exact ⟨K, fd, KX, hb, hF⟩
