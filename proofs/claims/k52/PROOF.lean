import PyProof.Rows.All
import Wide.All
import OpenK.AllK
import Wide.FinOn
import HandS.ForMost
import HandS.Exc
import HandS.ExcOwn
import HandS.WordsExc
import HandS.Defaults
import HandS.HeadHook1
import HandS.Rev
import HandS.Zip
import HandS.TupAny
import HandS.Style
import HandS.Wide
import HandS.Small
import KE.DataEq
import HandS.IsInst
import KE.SortData
import HandS.SortOrd
import HandS.WordsDict
import HandS.DictComp
import HandS.Deep
import HandS.Conv
import HandS.Iter
import HandS.Sort
import HandS.Steps
import HandS.Flt
import HandS.ClsMeth
import HandS.Property
import HandS.ExcIs
import HandS.ExcField
import HandS.ExcInit
import HandS.ExcInitHot
import HandS.HotCalls
import HandS.HeadHook2
import HandS.AnyAll
import HandS.Head0
import HandS.Head1
import HandS.Head2
import HandS.HeadEnd
import HandS.HeadHook3
import HandS.HeadHook4
import HandS.Words
import PySem.Challenge.RW_nestweigh_k52_spoilt_bounds
set_option Elab.async false
set_option linter.all false
set_option maxRecDepth 100000
set_option maxHeartbeats 1000000
/-! RX: pure data over the hand layer. Data, representation, states. -/
namespace RX
open PySem L2
/-- pure data -/
inductive D where
  | non | bl (b : Bool) | int (i : Int) | str (s : Str)
  | tup (xs : List D) | lst (xs : List D)
  | dic (kvs : List (Key × D))
  | obj (c : Str) (fs : List (Str × D))
  | ty (n : String) | cls (c : Str)
  | sto
/-- the law's store of draws: its cells, then the five numbers behind -/
structure Sto where
  cells : List Int
  p : Int
  q : Int
  r : Int
  s : Int
  t : Int
abbrev cl (K : PySem.W.Frag) (c : Str) : Addr := He.ga K c
section
variable (K : PySem.W.Frag) (a0 : Addr) (F : Hp)
mutual
def Rep : V → D → Prop
  | v, .non => v = .non
  | v, .bl b => v = .bl b
  | v, .int i => v = .int i
  | v, .str s => v = .str s
  | v, .tup ds => ∃ a vs, v = .ref a ∧ SqT K F a vs ∧ RepL vs ds
  | v, .lst ds => ∃ a vs, v = .ref a ∧ F a = some (.lst vs) ∧ RepL vs ds
  | v, .dic kds => ∃ a kvs, v = .ref a ∧ Rd F a (.dK kvs) ∧ RepK kvs kds
  | v, .obj c fds => ∃ a dx fs, v = .ref a ∧ F a = some (.ins (cl K c) dx fs) ∧ RepF fs fds
  | v, .ty n => v = .ty n
  | v, .cls c => v = .ref (cl K c)
  | v, .sto => v = .ref a0
def RepL : List V → List D → Prop
  | [], [] => True
  | v :: vs, d :: ds => Rep v d ∧ RepL vs ds
  | _, _ => False
def RepK : List (Key × V) → List (Key × D) → Prop
  | [], [] => True
  | (k, v) :: vs, (j, d) :: ds => k = j ∧ Rep v d ∧ RepK vs ds
  | _, _ => False
def RepF : List (Str × V) → List (Str × D) → Prop
  | [], [] => True
  | (k, v) :: vs, (j, d) :: ds => k = j ∧ Rep v d ∧ RepF vs ds
  | _, _ => False
end
end
mutual
/-- no list and no dict within -/
def pureD : D → Bool
  | .tup ds => pureL ds
  | .lst _ => false
  | .dic _ => false
  | .obj _ fs => pureF fs
  | _ => true
def pureL : List D → Bool
  | [] => true
  | d :: ds => pureD d && pureL ds
def pureF : List (Str × D) → Bool
  | [] => true
  | (_, d) :: ds => pureD d && pureF ds
end
section
variable {K : PySem.W.Frag} {a0 : Addr} {F F' : Hp}
mutual
/-- what stands in F stands in F' (b: lists and dicts too) -/
theorem rep_map (b : Bool) (hT : ∀ a vs, SqT K F a vs → SqT K F' a vs) (hI : ∀ a C dx fs, F a = some (.ins C dx fs) → F' a = some (.ins C dx fs))
    (hL : b = true → ∀ a vs, F a = some (.lst vs) → F' a = some (.lst vs)) (hD : b = true → ∀ a kvs, Rd F a (.dK kvs) → Rd F' a (.dK kvs)) :
    ∀ (d : D) (v : V), (b = true ∨ pureD d = true) → Rep K a0 F v d → Rep K a0 F' v d
  | .non, _, _, h => h
  | .bl _, _, _, h => h
  | .int _, _, _, h => h
  | .str _, _, _, h => h
  | .sto, _, _, h => h
  | .ty _, _, _, h => h
  | .cls _, _, _, h => h
  | .tup ds, v, hb, ⟨a, vs, e, h, r⟩ => ⟨a, vs, e, hT a vs h, repL_map b hT hI hL hD ds vs (hb.imp id (fun z => by simpa [pureD] using z)) r⟩
  | .lst ds, v, hb, ⟨a, vs, e, h, r⟩ => by
    have hb' : b = true := by
      rcases hb with h | h
      · exact h
      · simp [pureD] at h
    exact ⟨a, vs, e, hL hb' a vs h, repL_map b hT hI hL hD ds vs (.inl hb') r⟩
  | .dic kds, v, hb, ⟨a, kvs, e, h, r⟩ => by
    have hb' : b = true := by
      rcases hb with h | h
      · exact h
      · simp [pureD] at h
    exact ⟨a, kvs, e, hD hb' a kvs h, repK_map b hT hI hL hD kds kvs hb' r⟩
  | .obj c fds, v, hb, ⟨a, dx, fs, e, h, r⟩ => ⟨a, dx, fs, e, hI a _ dx fs h, repF_map b hT hI hL hD fds fs (hb.imp id (fun z => by simpa [pureD] using z)) r⟩
theorem repL_map (b : Bool) (hT : ∀ a vs, SqT K F a vs → SqT K F' a vs) (hI : ∀ a C dx fs, F a = some (.ins C dx fs) → F' a = some (.ins C dx fs))
    (hL : b = true → ∀ a vs, F a = some (.lst vs) → F' a = some (.lst vs)) (hD : b = true → ∀ a kvs, Rd F a (.dK kvs) → Rd F' a (.dK kvs)) :
    ∀ (ds : List D) (vs : List V), (b = true ∨ pureL ds = true) → RepL K a0 F vs ds → RepL K a0 F' vs ds
  | [], [], _, _ => trivial
  | [], _ :: _, _, h => h.elim
  | _ :: _, [], _, h => h.elim
  | d :: ds, v :: vs, hb, ⟨h, r⟩ => ⟨rep_map b hT hI hL hD d v (hb.imp id (fun z => by simp [pureL] at z; exact z.1)) h, repL_map b hT hI hL hD ds vs (hb.imp id (fun z => by simp [pureL] at z; exact z.2)) r⟩
theorem repK_map (b : Bool) (hT : ∀ a vs, SqT K F a vs → SqT K F' a vs) (hI : ∀ a C dx fs, F a = some (.ins C dx fs) → F' a = some (.ins C dx fs))
    (hL : b = true → ∀ a vs, F a = some (.lst vs) → F' a = some (.lst vs)) (hD : b = true → ∀ a kvs, Rd F a (.dK kvs) → Rd F' a (.dK kvs)) :
    ∀ (ds : List (Key × D)) (vs : List (Key × V)), b = true → RepK K a0 F vs ds → RepK K a0 F' vs ds
  | [], [], _, _ => trivial
  | [], _ :: _, _, h => h.elim
  | _ :: _, [], _, h => h.elim
  | (_, d) :: ds, (_, v) :: vs, hb, ⟨e, h, r⟩ => ⟨e, rep_map b hT hI hL hD d v (.inl hb) h, repK_map b hT hI hL hD ds vs hb r⟩
theorem repF_map (b : Bool) (hT : ∀ a vs, SqT K F a vs → SqT K F' a vs) (hI : ∀ a C dx fs, F a = some (.ins C dx fs) → F' a = some (.ins C dx fs))
    (hL : b = true → ∀ a vs, F a = some (.lst vs) → F' a = some (.lst vs)) (hD : b = true → ∀ a kvs, Rd F a (.dK kvs) → Rd F' a (.dK kvs)) :
    ∀ (ds : List (Str × D)) (vs : List (Str × V)), (b = true ∨ pureF ds = true) → RepF K a0 F vs ds → RepF K a0 F' vs ds
  | [], [], _, _ => trivial
  | [], _ :: _, _, h => h.elim
  | _ :: _, [], _, h => h.elim
  | (_, d) :: ds, (_, v) :: vs, hb, ⟨e, h, r⟩ => ⟨e, rep_map b hT hI hL hD d v (hb.imp id (fun z => by simp [pureF] at z; exact z.1)) h, repF_map b hT hI hL hD ds vs (hb.imp id (fun z => by simp [pureF] at z; exact z.2)) r⟩
end
/-- F lies within F' -/
def Sub (F F' : Hp) : Prop := ∀ a o, F a = some o → F' a = some o
theorem Sub.refl (F : Hp) : Sub F F := fun _ _ h => h
theorem Sub.trans {F G J : Hp} (h : Sub F G) (k : Sub G J) : Sub F J := fun a o e => k a o (h a o e)
theorem Sub.rd {F F' : Hp} (s : Sub F F') {a : Addr} {o : HO} (h : Rd F a o) : Rd F' a o := h.imp (s a o) fun ⟨b, e⟩ => ⟨b, s a _ e⟩
theorem Sub.sqL {F F' : Hp} (s : Sub F F') {a : Addr} {vs : List V} (h : SqL K F a vs) : SqL K F' a vs := h.imp s.rd id
theorem Sub.sqT {F F' : Hp} (s : Sub F F') {a : Addr} {vs : List V} (h : SqT K F a vs) : SqT K F' a vs := h.imp s.rd id
theorem Rep.mono (s : Sub F F') {v : V} {d : D} (h : Rep K a0 F v d) : Rep K a0 F' v d :=
  rep_map true (fun _ _ => s.sqT) (fun a _ _ _ => s a _) (fun _ a _ => s a _) (fun _ _ _ => s.rd) d v (.inl rfl) h
theorem RepL.mono (s : Sub F F') {v : List V} {d : List D} (h : RepL K a0 F v d) : RepL K a0 F' v d :=
  repL_map true (fun _ _ => s.sqT) (fun a _ _ _ => s a _) (fun _ a _ => s a _) (fun _ _ _ => s.rd) d v (.inl rfl) h
theorem RepK.mono (s : Sub F F') {v : List (Key × V)} {d : List (Key × D)} (h : RepK K a0 F v d) : RepK K a0 F' v d :=
  repK_map true (fun _ _ => s.sqT) (fun a _ _ _ => s a _) (fun _ a _ => s a _) (fun _ _ _ => s.rd) d v rfl h
theorem RepF.mono (s : Sub F F') {v : List (Str × V)} {d : List (Str × D)} (h : RepF K a0 F v d) : RepF K a0 F' v d :=
  repF_map true (fun _ _ => s.sqT) (fun a _ _ _ => s a _) (fun _ a _ => s a _) (fun _ _ _ => s.rd) d v (.inl rfl) h
end
/-- a slot: nothing, a value for good, a container that this frame alone holds -/
inductive Slot where
  | emp | v (d : D) | own (d : D)
structure Fm where
  env : List Slot
  sto : Sto
inductive Kd where
  | sh | fr | ow (i : Nat)
/-- a value told: shared, new and held by nobody else, or the container of slot i -/
structure Val where
  k : Kd
  d : D
/-- an outcome: a value, an exception (class, fields), or no word -/
inductive Rs (σ α : Type) where
  | ok (a : α) (s : σ)
  | ex (c : Str) (fs : List (Str × D)) (s : σ)
  | no
/-- what is fixed through a def's run -/
structure Cn where
  K : PySem.W.Frag
  a0 : Addr
  c0 : Addr
  cells : List Int
  F0 : Hp
  H0 : Hp
  s0 : Option (Option V)
def stoL (c : Addr) (st : Sto) : HO := .lst [V.ref c, V.int st.p, V.int st.q, V.int st.r, V.int st.s, V.int st.t]
structure Hd (C : Cn) (st : Sto) (F H : Hp) : Prop where
  sub : Sub F H
  base : Sub C.F0 F
  fr : ∀ a o, C.H0 a = some o → a ≠ C.a0 → H a = some o
  nw : ∀ a o, F a = some o → C.F0 a = some o ∨ C.H0 a = none
  f0 : F C.a0 = none
  sto : H C.a0 = some (stoL C.c0 st)
  cells : st.cells = C.cells
  cel : SqL C.K C.F0 C.c0 (C.cells.map V.int)
  z0 : ∃ o, C.H0 C.a0 = some o
/-- the content of a tracked container -/
def COf (K : PySem.W.Frag) (a0 : Addr) (F : Hp) (ho : HO) : D → Prop
  | .lst ds => ∃ vs, ho = .lst vs ∧ RepL K a0 F vs ds
  | .dic kds => ∃ kvs, ho = .dK kvs ∧ RepK K a0 F kvs kds
  | .obj c fds => ∃ dx fs, ho = .ins (cl K c) dx fs ∧ RepF K a0 F fs fds
  | _ => False
theorem COf.mono {K : PySem.W.Frag} {a0 : Addr} {F F' : Hp} (s : Sub F F') {ho : HO} {d : D} (h : COf K a0 F ho d) : COf K a0 F' ho d := by
  cases d with
  | lst ds => obtain ⟨vs, e, r⟩ := h; exact ⟨vs, e, r.mono s⟩
  | dic ds => obtain ⟨vs, e, r⟩ := h; exact ⟨vs, e, r.mono s⟩
  | obj c fs => obtain ⟨dx, vs, e, r⟩ := h; exact ⟨dx, vs, e, r.mono s⟩
  | _ => exact h.elim
/-- a frozen container is represented -/
theorem COf.rep {K : PySem.W.Frag} {a0 : Addr} {F : Hp} {a : Addr} {ho : HO} {d : D} (h : COf K a0 F ho d) (e : F a = some ho) : Rep K a0 F (.ref a) d := by
  cases d with
  | lst ds => obtain ⟨vs, z, r⟩ := h; subst z; exact ⟨a, vs, rfl, e, r⟩
  | dic ds => obtain ⟨vs, z, r⟩ := h; subst z; exact ⟨a, vs, rfl, .inl e, r⟩
  | obj c fs => obtain ⟨dx, vs, z, r⟩ := h; subst z; exact ⟨a, dx, vs, rfl, e, r⟩
  | _ => exact h.elim
structure OwnAt (C : Cn) (F H : Hp) (a : Addr) (d : D) : Prop where
  nf : F a = none
  ne : a ≠ C.a0
  nh : C.H0 a = none
  at_ : ∃ ho, H a = some ho ∧ COf C.K C.a0 F ho d
structure Mt (C : Cn) (s : Fm) (σ : L2.St) (F H : Hp) : Prop where
  hd : Hd C s.sto F H
  ln : s.env.length = σ.length ∧ σ[0]? = C.s0
  sh : ∀ (i : Nat) (d : D), s.env[i]? = some (.v d) → ∃ v, σ[i]? = some (some v) ∧ Rep C.K C.a0 F v d
  ow : ∀ (i : Nat) (d : D), s.env[i]? = some (.own d) → ∃ a, σ[i]? = some (some (V.ref a)) ∧ OwnAt C F H a d
  inj : ∀ (i j : Nat) (d d' : D) (a : Addr), s.env[i]? = some (.own d) → s.env[j]? = some (.own d') → σ[i]? = some (some (V.ref a)) → σ[j]? = some (some (V.ref a)) → i = j
theorem Mt.len {C : Cn} {s : Fm} {σ : L2.St} {F H : Hp} (m : Mt C s σ F H) : s.env.length = σ.length := m.ln.1
/-- a told value and its V -/
def RV (C : Cn) (env : List Slot) (σ : L2.St) (F H : Hp) (w : Val) (v : V) : Prop :=
  match w.k with
  | .sh => Rep C.K C.a0 F v w.d
  | .fr => ∃ a, v = .ref a ∧ OwnAt C F H a w.d ∧ ∀ (i : Nat) (d : D), env[i]? = some (.own d) → σ[i]? ≠ some (some (V.ref a))
  | .ow i => env[i]? = some (.own w.d) ∧ σ[i]? = some (some v)
/-- what can be read of a value now: its own container in H, the rest in F -/
def RH (K : PySem.W.Frag) (a0 : Addr) (F H : Hp) (v : V) : D → Prop
  | .lst ds => ∃ a vs, v = .ref a ∧ H a = some (.lst vs) ∧ RepL K a0 F vs ds
  | .dic kds => ∃ a kvs, v = .ref a ∧ Rd H a (.dK kvs) ∧ RepK K a0 F kvs kds
  | .obj c fds => ∃ a dx fs, v = .ref a ∧ H a = some (.ins (cl K c) dx fs) ∧ RepF K a0 F fs fds
  | d => Rep K a0 F v d
theorem Rep.rh {K : PySem.W.Frag} {a0 : Addr} {F H : Hp} (s : Sub F H) {v : V} {d : D} (h : Rep K a0 F v d) : RH K a0 F H v d := by
  cases d with
  | lst ds => obtain ⟨a, vs, e, h, r⟩ := h; exact ⟨a, vs, e, s _ _ h, r⟩
  | dic ds => obtain ⟨a, vs, e, h, r⟩ := h; exact ⟨a, vs, e, s.rd h, r⟩
  | obj c fs => obtain ⟨a, dx, vs, e, h, r⟩ := h; exact ⟨a, dx, vs, e, s _ _ h, r⟩
  | _ => exact h
theorem OwnAt.rh {C : Cn} {F H : Hp} {a : Addr} {d : D} (h : OwnAt C F H a d) : RH C.K C.a0 F H (.ref a) d := by
  obtain ⟨_, _, _, ho, e, c⟩ := h
  cases d with
  | lst ds => obtain ⟨vs, z, r⟩ := c; subst z; exact ⟨a, vs, rfl, e, r⟩
  | dic ds => obtain ⟨vs, z, r⟩ := c; subst z; exact ⟨a, vs, rfl, .inl e, r⟩
  | obj c fs => obtain ⟨dx, vs, z, r⟩ := c; subst z; exact ⟨a, dx, vs, rfl, e, r⟩
  | _ => exact c.elim
theorem RV.rh {C : Cn} {s : Fm} {σ : L2.St} {F H : Hp} {w : Val} {v : V} (m : Mt C s σ F H) (h : RV C s.env σ F H w v) : RH C.K C.a0 F H v w.d := by
  obtain ⟨k, d⟩ := w
  cases k with
  | sh => exact Rep.rh m.hd.sub h
  | fr =>
    obtain ⟨a, rfl, o, _⟩ := h
    exact o.rh
  | ow i =>
    obtain ⟨e, z⟩ := h
    obtain ⟨a, z', o⟩ := m.ow i d e
    have : v = .ref a := by
      have := z.symm.trans z'
      simpa using this
    subst this
    exact o.rh
/-! ### the state goes on -/
section
variable {C : Cn} {s : Fm} {σ : L2.St} {F H : Hp}
/-- a new address is none of ours -/
theorem Hd.fresh {st : Sto} (h : Hd C st F H) {p : Addr} (n : H p = none) : F p = none ∧ p ≠ C.a0 ∧ C.H0 p = none := by
  refine ⟨?_, ?_, ?_⟩
  · cases e : F p with
    | none => rfl
    | some o => rw [h.sub p o e] at n; cases n
  · rintro rfl
    rw [h.sto] at n; cases n
  · cases e : C.H0 p with
    | none => rfl
    | some o =>
      have : p ≠ C.a0 := by rintro rfl; rw [h.sto] at n; cases n
      rw [h.fr p o e this] at n; cases n
/-- something new is laid, not frozen -/
theorem Hd.laid {st : Sto} (h : Hd C st F H) {p : Addr} {o : HO} (n : H p = none) : Hd C st F (upd H p o) := by
  obtain ⟨f, ne, _⟩ := h.fresh n
  refine ⟨fun a u e => ?_, h.base, fun a u e z => ?_, h.nw, h.f0, ?_, h.cells, h.cel, h.z0⟩
  · rw [upd_ne (ne_of_none e f)]; exact h.sub a u e
  · rw [upd_ne (ne_of_none (h.fr a u e z) n)]; exact h.fr a u e z
  · rw [upd_ne (fun z => ne z.symm)]; exact h.sto
theorem OwnAt.laid {a : Addr} {d : D} (o : OwnAt C F H a d) {p : Addr} {u : HO} (n : H p = none) : OwnAt C F (upd H p u) a d := by
  obtain ⟨x, y, z, ho, e, c⟩ := o
  exact ⟨x, y, z, ho, by rw [upd_ne (ne_of_none e n)]; exact e, c⟩
theorem Mt.laid (m : Mt C s σ F H) {p : Addr} {o : HO} (n : H p = none) : Mt C s σ F (upd H p o) :=
  ⟨m.hd.laid n, m.ln, m.sh, fun i d e => let ⟨a, z, o⟩ := m.ow i d e; ⟨a, z, o.laid n⟩, m.inj⟩
theorem Mt.own_ne (m : Mt C s σ F H) {p : Addr} (n : H p = none) : ∀ (i : Nat) (d : D), s.env[i]? = some (.own d) → σ[i]? ≠ some (some (V.ref p)) := fun i d e z => by
  obtain ⟨a, z', _, _, _, ho, q, _⟩ := m.ow i d e
  have : V.ref a = V.ref p := by simpa using z'.symm.trans z
  cases this
  rw [q] at n; cases n
/-- what nobody of ours holds alone is frozen -/
theorem Hd.freeze {st : Sto} (h : Hd C st F H) {p : Addr} {o : HO} (e : H p = some o) (f : F p = none) (ne : p ≠ C.a0) (nh : C.H0 p = none) : Hd C st (upd F p o) H := by
  refine ⟨fun a u z => ?_, fun a u z => ?_, h.fr, fun a u z => ?_, ?_, h.sto, h.cells, h.cel, h.z0⟩
  · by_cases q : a = p
    · subst q; rw [upd_same] at z; cases z; exact e
    · rw [upd_ne q] at z; exact h.sub a u z
  · have := h.base a u z
    rw [upd_ne (ne_of_none this f)]; exact this
  · by_cases q : a = p
    · subst q; exact .inr nh
    · rw [upd_ne q] at z; exact h.nw a u z
  · rw [upd_ne (fun z => ne z.symm)]; exact h.f0
theorem Sub.upd {F : Hp} {p : Addr} {o : HO} (f : F p = none) : Sub F (upd F p o) := fun a u e => by
  rw [upd_ne (ne_of_none e f)]; exact e
theorem Mt.freeze (m : Mt C s σ F H) {p : Addr} {o : HO} (e : H p = some o) (f : F p = none) (ne : p ≠ C.a0) (nh : C.H0 p = none)
    (no : ∀ (i : Nat) (d : D), s.env[i]? = some (.own d) → σ[i]? ≠ some (some (V.ref p))) : Mt C s σ (upd F p o) H := by
  refine ⟨m.hd.freeze e f ne nh, m.ln, fun i d q => ?_, fun i d q => ?_, m.inj⟩
  · obtain ⟨v, z, r⟩ := m.sh i d q
    exact ⟨v, z, r.mono (Sub.upd f)⟩
  · obtain ⟨a, z, o', y, w, ho, k, c⟩ := m.ow i d q
    have hne : a ≠ p := by
      rintro rfl
      exact no i d q z
    exact ⟨a, z, by rw [upd_ne hne]; exact o', y, w, ho, k, c.mono (Sub.upd f)⟩
/-- a new one becomes shared -/
theorem Mt.freezeV (m : Mt C s σ F H) {d : D} {v : V} (h : RV C s.env σ F H ⟨.fr, d⟩ v) : ∃ F', Sub F F' ∧ Mt C s σ F' H ∧ Rep C.K C.a0 F' v d := by
  obtain ⟨a, rfl, ⟨f, ne, nh, ho, e, c⟩, no⟩ := h
  exact ⟨upd F a ho, Sub.upd f, m.freeze e f ne nh no, COf.rep (c.mono (Sub.upd f)) upd_same⟩
end
/-! ### results of pure operations -/
inductive Res (K : PySem.W.Frag) (a0 : Addr) (F H : Hp) : Val → V → Hp → Prop
  | old {d : D} {v : V} : Rep K a0 F v d → Res K a0 F H ⟨.sh, d⟩ v H
  | tup {ds : List D} {vs : List V} {p : Addr} : H p = none → RepL K a0 F vs ds → Res K a0 F H ⟨.sh, .tup ds⟩ (.ref p) (upd H p (.tup vs))
  | new {d : D} {p : Addr} {ho : HO} : H p = none → COf K a0 F ho d → Res K a0 F H ⟨.fr, d⟩ (.ref p) (upd H p ho)
theorem Res.go {C : Cn} {s : Fm} {σ : L2.St} {F H H' : Hp} {w : Val} {v : V} (m : Mt C s σ F H) (r : Res C.K C.a0 F H w v H') : ∃ F', Sub F F' ∧ Mt C s σ F' H' ∧ RV C s.env σ F' H' w v := by
  cases r with
  | old h => exact ⟨F, Sub.refl F, m, h⟩
  | @tup ds vs p n h =>
    obtain ⟨f, ne, nh⟩ := m.hd.fresh n
    refine ⟨upd F p (.tup vs), Sub.upd f, (m.laid n).freeze upd_same f ne nh (m.own_ne n), ?_⟩
    exact ⟨p, vs, rfl, SqT.of upd_same, h.mono (Sub.upd f)⟩
  | @new d p ho n c =>
    obtain ⟨f, ne, nh⟩ := m.hd.fresh n
    exact ⟨F, Sub.refl F, m.laid n, p, rfl, ⟨f, ne, nh, ho, upd_same, c⟩, m.own_ne n⟩
end RX

set_option Elab.async false
set_option linter.all false
set_option maxRecDepth 100000
set_option maxHeartbeats 1000000
/-! RX: expressions, tests, arguments, statements: what a combinator's outcome says of HandS's readings. -/
namespace RX
open PySem L2
def Exn (C : Cn) (F H : Hp) (c : Str) (fs : List (Str × D)) (cls : Value) (d : Option Addr) : Prop :=
  cls = .ref (cl C.K c) ∧ ((fs = [] ∧ d = none) ∨ ∃ dd vfs, d = some dd ∧ F dd = some (.xd vfs) ∧ RepF C.K C.a0 F vfs fs)
def Rs.bind {σ α β : Type} (r : Rs σ α) (f : α → σ → Rs σ β) : Rs σ β := match r with
  | .ok a s => f a s
  | .ex c fs s => .ex c fs s
  | .no => .no
@[simp] theorem Rs.bind_ok {σ α β : Type} {a : α} {s : σ} {f : α → σ → Rs σ β} : (Rs.ok a s).bind f = f a s := rfl
@[simp] theorem Rs.bind_ex {σ α β : Type} {c : Str} {fs : List (Str × D)} {s : σ} {f : α → σ → Rs σ β} : (Rs.ex c fs s).bind f = .ex c fs s := rfl
@[simp] theorem Rs.bind_no {σ α β : Type} {f : α → σ → Rs σ β} : (Rs.no : Rs σ α).bind f = .no := rfl
/-- an operand: shared, or the container of a slot -/
def RB (C : Cn) (env : List Slot) (σ : L2.St) (F : Hp) (w : Val) (v : V) : Prop :=
  match w.k with
  | .ow i => env[i]? = some (.own w.d) ∧ σ[i]? = some (some v)
  | _ => Rep C.K C.a0 F v w.d
theorem RB.mono {C : Cn} {env : List Slot} {σ : L2.St} {F F' : Hp} {w : Val} {v : V} (s : Sub F F') (h : RB C env σ F w v) : RB C env σ F' w v := by
  obtain ⟨k, d⟩ := w
  cases k with
  | ow i => exact h
  | sh => exact Rep.mono s h
  | fr => exact Rep.mono s h
theorem RB.rh {C : Cn} {s : Fm} {σ : L2.St} {F H : Hp} {w : Val} {v : V} (m : Mt C s σ F H) (h : RB C s.env σ F w v) : RH C.K C.a0 F H v w.d := by
  obtain ⟨k, d⟩ := w
  cases k with
  | ow i => exact RV.rh (w := ⟨.ow i, d⟩) m h
  | sh => exact RV.rh (w := ⟨.sh, d⟩) m h
  | fr => exact RV.rh (w := ⟨.sh, d⟩) m h
theorem RV.settle {C : Cn} {s : Fm} {σ : L2.St} {F H : Hp} {w : Val} {v : V} (m : Mt C s σ F H) (h : RV C s.env σ F H w v) : ∃ F', Sub F F' ∧ Mt C s σ F' H ∧ RB C s.env σ F' w v := by
  obtain ⟨k, d⟩ := w
  cases k with
  | ow i => exact ⟨F, Sub.refl F, m, h⟩
  | sh => exact ⟨F, Sub.refl F, m, h⟩
  | fr => exact m.freezeV h
def RBL (C : Cn) (env : List Slot) (σ : L2.St) (F : Hp) : List Val → List V → Prop
  | [], [] => True
  | w :: ws, v :: vs => RB C env σ F w v ∧ RBL C env σ F ws vs
  | _, _ => False
theorem RBL.mono {C : Cn} {env : List Slot} {σ : L2.St} {F F' : Hp} (s : Sub F F') : ∀ {ws : List Val} {vs : List V}, RBL C env σ F ws vs → RBL C env σ F' ws vs
  | [], [], h => h
  | _ :: _, _ :: _, ⟨h, r⟩ => ⟨h.mono s, RBL.mono s r⟩
def RHL (K : PySem.W.Frag) (a0 : Addr) (F H : Hp) : List V → List D → Prop
  | [], [] => True
  | v :: vs, d :: ds => RH K a0 F H v d ∧ RHL K a0 F H vs ds
  | _, _ => False
theorem RBL.rh {C : Cn} {s : Fm} {σ : L2.St} {F H : Hp} (m : Mt C s σ F H) : ∀ {ws : List Val} {vs : List V}, RBL C s.env σ F ws vs → RHL C.K C.a0 F H vs (ws.map Val.d)
  | [], [], _ => trivial
  | _ :: _, _ :: _, ⟨h, r⟩ => ⟨h.rh m, RBL.rh m r⟩
/-! ### what is wanted -/
def PostE (C : Cn) (s : Fm) (σ : L2.St) (F : Hp) (W : WX) (r : Rs Sto Val) (Q : VK) : Prop :=
  match r with
  | .ok w st => ∀ v F' H', Sub F F' → Mt C ⟨s.env, st⟩ σ F' H' → RV C s.env σ F' H' w v → Q v H'
  | .ex c fs st => ∀ cls d F' H', Sub F F' → Mt C ⟨s.env, st⟩ σ F' H' → Exn C F' H' c fs cls d → W cls d σ H'
  | .no => False
def PostT (C : Cn) (s : Fm) (σ : L2.St) (F : Hp) (W : WX) (r : Rs Sto Bool) (Q : Bool → Hp → Prop) : Prop :=
  match r with
  | .ok b st => ∀ F' H', Sub F F' → Mt C ⟨s.env, st⟩ σ F' H' → Q b H'
  | .ex c fs st => ∀ cls d F' H', Sub F F' → Mt C ⟨s.env, st⟩ σ F' H' → Exn C F' H' c fs cls d → W cls d σ H'
  | .no => False
def PostA (C : Cn) (s : Fm) (σ : L2.St) (F : Hp) (W : WX) (r : Rs Sto (List Val)) (Q : List V → Hp → Prop) : Prop :=
  match r with
  | .ok ws st => ∀ vs F' H', Sub F F' → Mt C ⟨s.env, st⟩ σ F' H' → RBL C s.env σ F' ws vs → Q vs H'
  | .ex c fs st => ∀ cls d F' H', Sub F F' → Mt C ⟨s.env, st⟩ σ F' H' → Exn C F' H' c fs cls d → W cls d σ H'
  | .no => False
inductive Fl where
  | nx | bk | ct | ret (w : Val)
def PostS (C : Cn) (F : Hp) (W : WX) (r : Rs Fm Fl) (D : Ends) : Prop :=
  match r with
  | .ok .nx s' => ∀ σ' F' H', Sub F F' → Mt C s' σ' F' H' → D.nx σ' H'
  | .ok .bk s' => ∀ σ' F' H', Sub F F' → Mt C s' σ' F' H' → D.bk σ' H'
  | .ok .ct s' => ∀ σ' F' H', Sub F F' → Mt C s' σ' F' H' → D.ct σ' H'
  | .ok (.ret w) s' => ∀ v σ' F' H', Sub F F' → Mt C s' σ' F' H' → RV C s'.env σ' F' H' w v → D.rt v H'
  | .ex c fs s' => ∀ cls d σ' F' H', Sub F F' → Mt C s' σ' F' H' → Exn C F' H' c fs cls d → W cls d σ' H'
  | .no => False
def SimE (K : PySem.W.Frag) (W : WX) (t : TE) (m : Fm → Rs Sto Val) : Prop := ∀ (C : Cn) (s : Fm) (σ : L2.St) (F H : Hp) (Q : VK), C.K = K → Mt C s σ F H → PostE C s σ F W (m s) Q → t σ H Q
def SimT (K : PySem.W.Frag) (W : WX) (t : TT) (m : Fm → Rs Sto Bool) : Prop := ∀ (C : Cn) (s : Fm) (σ : L2.St) (F H : Hp) (Q : Bool → Hp → Prop), C.K = K → Mt C s σ F H → PostT C s σ F W (m s) Q → t σ H Q
def SimA (K : PySem.W.Frag) (W : WX) (t : TA) (m : Fm → Rs Sto (List Val)) : Prop := ∀ (C : Cn) (s : Fm) (σ : L2.St) (F H : Hp) (Q : List V → Hp → Prop), C.K = K → Mt C s σ F H → PostA C s σ F W (m s) Q → t σ H Q
def SimS (K : PySem.W.Frag) (W : WX) (t : TS) (m : Fm → Rs Fm Fl) : Prop := ∀ (C : Cn) (s : Fm) (σ : L2.St) (F H : Hp) (D : Ends), C.K = K → Mt C s σ F H → PostS C F W (m s) D → t D σ H
section
variable {K : PySem.W.Frag} {W : WX}
/-- an operand is told, then g goes on -/
theorem SimE.then {t : TE} {m : Fm → Rs Sto Val} {β : Type} (h : SimE K W t m) {C : Cn} {s : Fm} {σ : L2.St} {F H : Hp} {Q : VK} (e : C.K = K) (mt : Mt C s σ F H)
    (hok : ∀ w st, m s = .ok w st → ∀ v F' H', Sub F F' → Mt C ⟨s.env, st⟩ σ F' H' → RB C s.env σ F' w v → Q v H')
    (hex : ∀ c fs st, m s = .ex c fs st → ∀ cls d F' H', Sub F F' → Mt C ⟨s.env, st⟩ σ F' H' → Exn C F' H' c fs cls d → W cls d σ H')
    (hno : m s ≠ .no) : t σ H Q := by
  refine h C s σ F H Q e mt ?_
  unfold PostE
  cases q : m s with
  | ok w st =>
    intro v F' H' sub mt' rv
    obtain ⟨F2, s2, m2, rb⟩ := rv.settle mt'
    exact hok w st q v F2 H' (sub.trans s2) m2 rb
  | ex c fs st => exact hex c fs st q
  | no => exact hno q
/-! ### names, constants -/
def mVar (i : Nat) : Fm → Rs Sto Val := fun s => match s.env[i]? with
  | some (.v d) => .ok ⟨.sh, d⟩ s.sto
  | some (.own d) => .ok ⟨.ow i, d⟩ s.sto
  | _ => .no
theorem sim_var (i : Nat) : SimE K W (tVar i) (mVar i) := fun C s σ F H Q e m p => by
  unfold PostE mVar at p
  cases q : s.env[i]? with
  | none => rw [q] at p; exact p.elim
  | some x =>
    rw [q] at p
    cases x with
    | emp => exact p.elim
    | v d =>
      obtain ⟨v, z, r⟩ := m.sh i d q
      exact ⟨v, z, p v F H (Sub.refl F) m r⟩
    | own d =>
      obtain ⟨a, z, o⟩ := m.ow i d q
      exact ⟨.ref a, z, p _ F H (Sub.refl F) m ⟨q, z⟩⟩
def mC (d : D) : Fm → Rs Sto Val := fun s => .ok ⟨.sh, d⟩ s.sto
theorem sim_c {v : V} {d : D} (h : ∀ a0 F, Rep K a0 F v d) : SimE K W (tC v) (mC d) := fun C s σ F H Q e m p => p v F H (Sub.refl F) m (by subst e; exact h _ _)
theorem sim_int (i : Int) : SimE K W (tC (.int i)) (mC (.int i)) := sim_c fun _ _ => rfl
theorem sim_str (i : Str) : SimE K W (tC (.str i)) (mC (.str i)) := sim_c fun _ _ => rfl
theorem sim_bl (i : Bool) : SimE K W (tC (.bl i)) (mC (.bl i)) := sim_c fun _ _ => rfl
theorem sim_non : SimE K W (tC .non) (mC .non) := sim_c fun _ _ => rfl
/-! ### operators -/
/-- a two-place operation on what can be read -/
def SOp (K : PySem.W.Frag) (r : R2) (f : D → D → Option Val) : Prop := ∀ (a0 : Addr) (F H : Hp) (x y : V) (d e : D) (w : Val) (Q : VK), Sub F H → RH K a0 F H x d → RH K a0 F H y e → f d e = some w → (∀ v H', Res K a0 F H w v H' → Q v H') → r x y H Q
def SUn (K : PySem.W.Frag) (r : V → Hp → VK → Prop) (f : D → Option Val) : Prop := ∀ (a0 : Addr) (F H : Hp) (x : V) (d : D) (w : Val) (Q : VK), Sub F H → RH K a0 F H x d → f d = some w → (∀ v H', Res K a0 F H w v H' → Q v H') → r x H Q
def SCall (K : PySem.W.Frag) (r : List V → Hp → VK → Prop) (f : List D → Option Val) : Prop := ∀ (a0 : Addr) (F H : Hp) (xs : List V) (ds : List D) (w : Val) (Q : VK), Sub F H → RHL K a0 F H xs ds → f ds = some w → (∀ v H', Res K a0 F H w v H' → Q v H') → r xs H Q
def ofO (o : Option Val) (st : Sto) : Rs Sto Val := match o with
  | some w => .ok w st
  | none => .no
def mOp (f : D → D → Option Val) (a b : Fm → Rs Sto Val) : Fm → Rs Sto Val := fun s => (a s).bind fun x st => (b ⟨s.env, st⟩).bind fun y st' => ofO (f x.d y.d) st'
def mUn (f : D → Option Val) (a : Fm → Rs Sto Val) : Fm → Rs Sto Val := fun s => (a s).bind fun x st => ofO (f x.d) st
theorem sim_op {r : R2} {f : D → D → Option Val} {ta tb : TE} {a b : Fm → Rs Sto Val} (hr : SOp K r f) (ha : SimE K W ta a) (hb : SimE K W tb b) : SimE K W (tOp r ta tb) (mOp f a b) := fun C s σ F H Q e m p => by
  unfold mOp at p
  refine ha.then (β := Unit) e m (fun x st q v F1 H1 s1 m1 r1 => ?_) (fun c fs st q => by rw [q] at p; exact p) (fun q => by rw [q] at p; exact p)
  rw [q, Rs.bind_ok] at p
  refine hb.then (β := Unit) e m1 (fun y st' q2 u F2 H2 s2 m2 r2 => ?_) (fun c fs st' q2 => by rw [q2] at p; exact fun cls d F' H' z => p cls d F' H' (s1.trans z)) (fun q2 => by rw [q2] at p; exact p)
  rw [q2, Rs.bind_ok] at p
  cases q3 : f x.d y.d with
  | none => rw [q3] at p; exact p.elim
  | some w =>
    rw [q3] at p
    subst e
    refine hr C.a0 F2 H2 v u x.d y.d w Q m2.hd.sub ((r1.mono s2).rh m2) (r2.rh m2) q3 fun v' H' rs => ?_
    obtain ⟨F3, s3, m3, r3⟩ := rs.go m2
    exact p v' F3 H' ((s1.trans s2).trans s3) m3 r3
theorem sim_un {r : V → Hp → VK → Prop} {f : D → Option Val} {ta : TE} {a : Fm → Rs Sto Val} (hr : SUn K r f) (ha : SimE K W ta a) : SimE K W (tUn r ta) (mUn f a) := fun C s σ F H Q e m p => by
  unfold mUn at p
  refine ha.then (β := Unit) e m (fun x st q v F1 H1 s1 m1 r1 => ?_) (fun c fs st q => by rw [q] at p; exact p) (fun q => by rw [q] at p; exact p)
  rw [q, Rs.bind_ok] at p
  cases q3 : f x.d with
  | none => rw [q3] at p; exact p.elim
  | some w =>
    rw [q3] at p
    subst e
    refine hr C.a0 F1 H1 v x.d w Q m1.hd.sub (r1.rh m1) q3 fun v' H' rs => ?_
    obtain ⟨F3, s3, m3, r3⟩ := rs.go m1
    exact p v' F3 H' (s1.trans s3) m3 r3
/-! ### arguments -/
def mNil : Fm → Rs Sto (List Val) := fun s => .ok [] s.sto
def settle (w : Val) : Val := match w.k with
  | .fr => ⟨.sh, w.d⟩
  | _ => w
def mCons (a : Fm → Rs Sto Val) (b : Fm → Rs Sto (List Val)) : Fm → Rs Sto (List Val) := fun s => (a s).bind fun x st => (b ⟨s.env, st⟩).bind fun ys st' => .ok (settle x :: ys) st'
theorem RB.settled {C : Cn} {env : List Slot} {σ : L2.St} {F : Hp} {w : Val} {v : V} (h : RB C env σ F w v) : RB C env σ F (RX.settle w) v := by
  obtain ⟨k, d⟩ := w
  cases k <;> exact h
theorem sim_nil : SimA K W tNil mNil := fun C s σ F H Q e m p => p [] F H (Sub.refl F) m trivial
theorem sim_cons {ta : TE} {tb : TA} {a : Fm → Rs Sto Val} {b : Fm → Rs Sto (List Val)} (ha : SimE K W ta a) (hb : SimA K W tb b) : SimA K W (tCons ta tb) (mCons a b) := fun C s σ F H Q e m p => by
  unfold mCons at p
  refine ha.then (β := Unit) e m (fun x st q v F1 H1 s1 m1 r1 => ?_) (fun c fs st q => by rw [q] at p; exact p) (fun q => by rw [q] at p; exact p)
  rw [q, Rs.bind_ok] at p
  refine hb C ⟨s.env, st⟩ σ F1 H1 _ e m1 ?_
  cases q2 : b ⟨s.env, st⟩ with
  | no => rw [q2] at p; exact p.elim
  | ex c fs st' => rw [q2] at p; exact fun cls d F' H' z => p cls d F' H' (s1.trans z)
  | ok ys st' =>
    rw [q2, Rs.bind_ok] at p
    exact fun vs F2 H2 s2 m2 r2 => p (v :: vs) F2 H2 (s1.trans s2) m2 ⟨(r1.mono s2).settled, r2⟩
def mCB (f : List D → Option Val) (a : Fm → Rs Sto (List Val)) : Fm → Rs Sto Val := fun s => (a s).bind fun xs st => ofO (f (xs.map Val.d)) st
/-- a built-in is called -/
theorem sim_cb {r : List V → Hp → VK → Prop} {f : List D → Option Val} {ta : TA} {a : Fm → Rs Sto (List Val)} (hr : SCall K r f) (ha : SimA K W ta a) : SimE K W (tCB r ta) (mCB f a) := fun C s σ F H Q e m p => by
  unfold mCB at p
  refine ha C s σ F H _ e m ?_
  cases q : a s with
  | no => rw [q] at p; exact p.elim
  | ex c fs st => rw [q] at p; exact p
  | ok xs st =>
    rw [q, Rs.bind_ok] at p
    intro vs F1 H1 s1 m1 r1
    cases q3 : f (xs.map Val.d) with
    | none => rw [q3] at p; exact p.elim
    | some w =>
      rw [q3] at p
      subst e
      refine hr C.a0 F1 H1 vs _ w Q m1.hd.sub (r1.rh m1) q3 fun v' H' rs => ?_
      obtain ⟨F3, s3, m3, r3⟩ := rs.go m1
      exact p v' F3 H' (s1.trans s3) m3 r3
/-- all shared -/
def allSh : List Val → Option (List D)
  | [] => some []
  | ⟨.sh, d⟩ :: ws => (allSh ws).map (d :: ·)
  | _ :: _ => none
theorem allSh_rep {C : Cn} {env : List Slot} {σ : L2.St} {F : Hp} : ∀ {ws : List Val} {vs : List V} {ds : List D}, allSh ws = some ds → RBL C env σ F ws vs → RepL C.K C.a0 F vs ds
  | [], [], _, e, _ => by cases e; trivial
  | [], _ :: _, _, _, h => h.elim
  | _ :: _, [], _, _, h => by cases h
  | ⟨k, d⟩ :: ws, v :: vs, ds, e, ⟨h, r⟩ => by
    cases k with
    | sh =>
      cases q : allSh ws with
      | none => simp [allSh, q] at e
      | some es =>
        simp [allSh, q] at e
        subst e
        exact ⟨h, allSh_rep q r⟩
    | fr => simp [allSh] at e
    | ow i => simp [allSh] at e
theorem allSh_len : ∀ {ws : List Val} {ds : List D}, allSh ws = some ds → ds.length = ws.length
  | [], _, e => by cases e; rfl
  | ⟨k, d⟩ :: ws, ds, e => by
    cases k with
    | sh =>
      cases q : allSh ws with
      | none => simp [allSh, q] at e
      | some es =>
        simp [allSh, q] at e
        subst e
        simp [allSh_len q]
    | fr => simp [allSh] at e
    | ow i => simp [allSh] at e
theorem RepL.len {a0 : Addr} {F : Hp} : ∀ {vs : List V} {ds : List D}, RepL K a0 F vs ds → vs.length = ds.length
  | [], [], _ => rfl
  | [], _ :: _, h => h.elim
  | _ :: _, [], h => h.elim
  | _ :: vs, _ :: ds, ⟨_, r⟩ => by simp [RepL.len r]
def line : Nat := 100000
theorem line_ok {n : Nat} (h : n ≤ line) : n ≤ sizeLine := Nat.le_trans h (by decide)
theorem line_lt {n : Nat} (h : n < line) : n < sizeLine := Nat.lt_of_lt_of_le h (by decide)
def mTup (a : Fm → Rs Sto (List Val)) : Fm → Rs Sto Val := fun s => (a s).bind fun xs st => match allSh xs with
  | some ds => if ds.length ≤ line then .ok ⟨.sh, .tup ds⟩ st else .no
  | none => .no
def mLst (a : Fm → Rs Sto (List Val)) : Fm → Rs Sto Val := fun s => (a s).bind fun xs st => match allSh xs with
  | some ds => if ds.length ≤ line then .ok ⟨.fr, .lst ds⟩ st else .no
  | none => .no
theorem sim_tup {ta : TA} {a : Fm → Rs Sto (List Val)} (ha : SimA K W ta a) : SimE K W (tTup ta) (mTup a) := fun C s σ F H Q e m p => by
  unfold mTup at p
  refine ha C s σ F H _ e m ?_
  cases q : a s with
  | no => rw [q] at p; exact p.elim
  | ex c fs st => rw [q] at p; exact p
  | ok xs st =>
    rw [q, Rs.bind_ok] at p
    intro vs F1 H1 s1 m1 r1
    cases q3 : allSh xs with
    | none => rw [q3] at p; exact p.elim
    | some ds =>
      rw [q3] at p
      by_cases hl : ds.length ≤ line
      · rw [show (match some ds with | some ds => if ds.length ≤ line then Rs.ok ⟨.sh, .tup ds⟩ st else .no | none => .no) = (Rs.ok ⟨.sh, .tup ds⟩ st : Rs Sto Val) from if_pos hl] at p
        have rl := allSh_rep q3 r1
        refine ⟨by rw [rl.len]; exact line_ok hl, fun t ht => ?_⟩
        obtain ⟨F3, s3, m3, r3⟩ := (Res.tup (K := C.K) (a0 := C.a0) ht rl).go m1
        exact p _ F3 _ (s1.trans s3) m3 r3
      · rw [show (match some ds with | some ds => if ds.length ≤ line then Rs.ok ⟨.sh, .tup ds⟩ st else .no | none => .no) = (Rs.no : Rs Sto Val) from if_neg hl] at p
        exact p.elim
theorem sim_lst {ta : TA} {a : Fm → Rs Sto (List Val)} (ha : SimA K W ta a) : SimE K W (tLst ta) (mLst a) := fun C s σ F H Q e m p => by
  unfold mLst at p
  refine ha C s σ F H _ e m ?_
  cases q : a s with
  | no => rw [q] at p; exact p.elim
  | ex c fs st => rw [q] at p; exact p
  | ok xs st =>
    rw [q, Rs.bind_ok] at p
    intro vs F1 H1 s1 m1 r1
    cases q3 : allSh xs with
    | none => rw [q3] at p; exact p.elim
    | some ds =>
      rw [q3] at p
      by_cases hl : ds.length ≤ line
      · rw [show (match some ds with | some ds => if ds.length ≤ line then Rs.ok ⟨.fr, .lst ds⟩ st else .no | none => .no) = (Rs.ok ⟨.fr, .lst ds⟩ st : Rs Sto Val) from if_pos hl] at p
        have rl := allSh_rep q3 r1
        refine ⟨by rw [rl.len]; exact line_ok hl, fun t ht => ?_⟩
        obtain ⟨F3, s3, m3, r3⟩ := (Res.new (K := C.K) (a0 := C.a0) (F := F1) (d := .lst ds) ht ⟨vs, rfl, rl⟩).go m1
        exact p _ F3 _ (s1.trans s3) m3 r3
      · rw [show (match some ds with | some ds => if ds.length ≤ line then Rs.ok ⟨.fr, .lst ds⟩ st else .no | none => .no) = (Rs.no : Rs Sto Val) from if_neg hl] at p
        exact p.elim
end
end RX

set_option Elab.async false
set_option linter.all false
set_option maxRecDepth 100000
set_option maxHeartbeats 1000000
/-! RX: tests and statements. -/
namespace RX
open PySem L2
section
variable {K : PySem.W.Frag} {W : WX}
/-! ### tests -/
def asB (w : Val) (st : Sto) : Rs Sto Bool := match w.d with
  | .bl b => .ok b st
  | _ => .no
def mB (a : Fm → Rs Sto Val) : Fm → Rs Sto Bool := fun s => (a s).bind asB
theorem sim_B {t : TE} {a : Fm → Rs Sto Val} (ha : SimE K W t a) : SimT K W (tB t) (mB a) := fun C s σ F H Q e m p => by
  unfold mB at p
  refine ha.then (β := Unit) e m (fun x st q v F1 H1 s1 m1 r1 => ?_) (fun c fs st q => by rw [q] at p; exact p) (fun q => by rw [q] at p; exact p)
  rw [q, Rs.bind_ok] at p
  obtain ⟨k, d⟩ := x
  unfold asB at p
  cases d with
  | bl b =>
    have z : v = .bl b := r1.rh m1
    exact ⟨b, z, p F1 H1 s1 m1⟩
  | _ => exact p.elim
theorem sim_test {t : TE} {a : Fm → Rs Sto Val} (ha : SimE K W t a) : SimT K W (tTest t) (mB a) := sim_B ha
/-- a value's truth -/
def truD : D → Option Bool
  | .non => some false
  | .bl b => some b
  | .int i => some (i != 0)
  | .str s => some (s.length != 0)
  | .lst ds => some (!ds.isEmpty)
  | .tup ds => some (!ds.isEmpty)
  | .dic ds => some (!ds.isEmpty)
  | _ => none
def mTru (a : Fm → Rs Sto Val) : Fm → Rs Sto Bool := fun s => (a s).bind fun w st => match truD w.d with
  | some b => .ok b st
  | none => .no
theorem RepL.empty {a0 : Addr} {F : Hp} : ∀ {vs : List V} {ds : List D}, RepL K a0 F vs ds → vs.isEmpty = ds.isEmpty
  | [], [], _ => rfl
  | [], _ :: _, h => h.elim
  | _ :: _, [], h => h.elim
  | _ :: _, _ :: _, _ => rfl
theorem RepK.empty {a0 : Addr} {F : Hp} : ∀ {vs : List (Key × V)} {ds : List (Key × D)}, RepK K a0 F vs ds → vs.isEmpty = ds.isEmpty
  | [], [], _ => rfl
  | [], _ :: _, h => h.elim
  | _ :: _, [], h => h.elim
  | _ :: _, _ :: _, _ => rfl
end
section
variable {K : PySem.W.Frag} {W : WX}
def mAnd (a b : Fm → Rs Sto Bool) : Fm → Rs Sto Bool := fun s => (a s).bind fun x st => if x = true then b ⟨s.env, st⟩ else .ok false st
def mOr (a b : Fm → Rs Sto Bool) : Fm → Rs Sto Bool := fun s => (a s).bind fun x st => if x = true then .ok true st else b ⟨s.env, st⟩
def mNot (a : Fm → Rs Sto Bool) : Fm → Rs Sto Bool := fun s => (a s).bind fun x st => .ok (!x) st
theorem PostT.mono {C : Cn} {s : Fm} {st : Sto} {σ : L2.St} {F F1 : Hp} {r : Rs Sto Bool} {Q : Bool → Hp → Prop} (z : Sub F F1) (p : PostT C s σ F W r Q) : PostT C ⟨s.env, st⟩ σ F1 W r Q := by
  cases r with
  | no => exact p
  | ex c fs st => exact fun cls d F' H' y => p cls d F' H' (z.trans y)
  | ok b st => exact fun F' H' y => p F' H' (z.trans y)
theorem PostE.mono {C : Cn} {s : Fm} {st : Sto} {σ : L2.St} {F F1 : Hp} {r : Rs Sto Val} {Q : VK} (z : Sub F F1) (p : PostE C s σ F W r Q) : PostE C ⟨s.env, st⟩ σ F1 W r Q := by
  cases r with
  | no => exact p
  | ex c fs st => exact fun cls d F' H' y => p cls d F' H' (z.trans y)
  | ok b st => exact fun v F' H' y => p v F' H' (z.trans y)
theorem PostS.mono {C : Cn} {F F1 : Hp} {r : Rs Fm Fl} {D : Ends} (z : Sub F F1) (p : PostS C F W r D) : PostS C F1 W r D := by
  cases r with
  | no => exact p
  | ex c fs st => exact fun cls d σ' F' H' y => p cls d σ' F' H' (z.trans y)
  | ok fl s' =>
    cases fl with
    | ret w => exact fun v σ' F' H' y => p v σ' F' H' (z.trans y)
    | _ => exact fun σ' F' H' y => p σ' F' H' (z.trans y)
theorem sim_and {ta tb : TT} {a b : Fm → Rs Sto Bool} (ha : SimT K W ta a) (hb : SimT K W tb b) : SimT K W (tAnd ta tb) (mAnd a b) := fun C s σ F H Q e m p => by
  unfold mAnd at p
  refine ha C s σ F H _ e m ?_
  cases q : a s with
  | no => rw [q] at p; exact p
  | ex c fs st => rw [q] at p; exact p
  | ok x st =>
    rw [q, Rs.bind_ok] at p
    intro F1 H1 s1 m1
    cases x with
    | true =>
      rw [if_pos rfl] at p ⊢
      exact hb C ⟨s.env, st⟩ σ F1 H1 Q e m1 (p.mono s1)
    | false =>
      rw [if_neg Bool.false_ne_true] at p ⊢
      exact p F1 H1 s1 m1
theorem sim_or {ta tb : TT} {a b : Fm → Rs Sto Bool} (ha : SimT K W ta a) (hb : SimT K W tb b) : SimT K W (tOr ta tb) (mOr a b) := fun C s σ F H Q e m p => by
  unfold mOr at p
  refine ha C s σ F H _ e m ?_
  cases q : a s with
  | no => rw [q] at p; exact p
  | ex c fs st => rw [q] at p; exact p
  | ok x st =>
    rw [q, Rs.bind_ok] at p
    intro F1 H1 s1 m1
    cases x with
    | true =>
      rw [if_pos rfl] at p ⊢
      exact p F1 H1 s1 m1
    | false =>
      rw [if_neg Bool.false_ne_true] at p ⊢
      exact hb C ⟨s.env, st⟩ σ F1 H1 Q e m1 (p.mono s1)
theorem sim_not {ta : TT} {a : Fm → Rs Sto Bool} (ha : SimT K W ta a) : SimT K W (tNot ta) (mNot a) := fun C s σ F H Q e m p => by
  unfold mNot at p
  refine ha C s σ F H _ e m ?_
  cases q : a s with
  | no => rw [q] at p; exact p
  | ex c fs st => rw [q] at p; exact p
  | ok x st =>
    rw [q, Rs.bind_ok] at p
    exact fun F1 H1 s1 m1 => p F1 H1 s1 m1
/-- a test as a value -/
def mOfT (a : Fm → Rs Sto Bool) : Fm → Rs Sto Val := fun s => (a s).bind fun x st => .ok ⟨.sh, .bl x⟩ st
def mAndV (a b : Fm → Rs Sto Val) : Fm → Rs Sto Val := fun s => (a s).bind fun x st => match x.d with
  | .bl true => b ⟨s.env, st⟩
  | .bl false => .ok ⟨.sh, .bl false⟩ st
  | _ => .no
def mOrV (a b : Fm → Rs Sto Val) : Fm → Rs Sto Val := fun s => (a s).bind fun x st => match x.d with
  | .bl true => .ok ⟨.sh, .bl true⟩ st
  | .bl false => b ⟨s.env, st⟩
  | _ => .no
def mNotV (a : Fm → Rs Sto Val) : Fm → Rs Sto Val := fun s => (a s).bind fun x st => match x.d with
  | .bl c => .ok ⟨.sh, .bl (!c)⟩ st
  | _ => .no
theorem sim_andV {ta tb : TE} {a b : Fm → Rs Sto Val} (ha : SimE K W ta a) (hb : SimE K W tb b) : SimE K W (tAndV ta tb) (mAndV a b) := fun C s σ F H Q e m p => by
  unfold mAndV at p
  refine ha.then (β := Unit) e m (fun x st q v F1 H1 s1 m1 r1 => ?_) (fun c fs st q => by rw [q] at p; exact p) (fun q => by rw [q] at p; exact p)
  rw [q, Rs.bind_ok] at p
  obtain ⟨k, d⟩ := x
  cases d with
  | bl b' =>
    have z : v = .bl b' := r1.rh m1
    refine ⟨b', z, ?_⟩
    cases b' with
    | true =>
      rw [if_pos rfl]
      exact hb C ⟨s.env, st⟩ σ F1 H1 Q e m1 (PostE.mono s1 p)
    | false =>
      rw [if_neg Bool.false_ne_true]
      exact p _ F1 H1 s1 m1 rfl
  | _ => exact p.elim
theorem sim_orV {ta tb : TE} {a b : Fm → Rs Sto Val} (ha : SimE K W ta a) (hb : SimE K W tb b) : SimE K W (tOrV ta tb) (mOrV a b) := fun C s σ F H Q e m p => by
  unfold mOrV at p
  refine ha.then (β := Unit) e m (fun x st q v F1 H1 s1 m1 r1 => ?_) (fun c fs st q => by rw [q] at p; exact p) (fun q => by rw [q] at p; exact p)
  rw [q, Rs.bind_ok] at p
  obtain ⟨k, d⟩ := x
  cases d with
  | bl b' =>
    have z : v = .bl b' := r1.rh m1
    refine ⟨b', z, ?_⟩
    cases b' with
    | false =>
      rw [if_neg Bool.false_ne_true]
      exact hb C ⟨s.env, st⟩ σ F1 H1 Q e m1 (PostE.mono s1 p)
    | true =>
      rw [if_pos rfl]
      exact p _ F1 H1 s1 m1 rfl
  | _ => exact p.elim
theorem sim_notV {ta : TE} {a : Fm → Rs Sto Val} (ha : SimE K W ta a) : SimE K W (tNotV ta) (mNotV a) := fun C s σ F H Q e m p => by
  unfold mNotV at p
  refine ha.then (β := Unit) e m (fun x st q v F1 H1 s1 m1 r1 => ?_) (fun c fs st q => by rw [q] at p; exact p) (fun q => by rw [q] at p; exact p)
  rw [q, Rs.bind_ok] at p
  obtain ⟨k, d⟩ := x
  cases d with
  | bl b' =>
    have z : v = .bl b' := r1.rh m1
    exact ⟨b', z, p _ F1 H1 s1 m1 rfl⟩
  | _ => exact p.elim
def mIfE (c : Fm → Rs Sto Bool) (a b : Fm → Rs Sto Val) : Fm → Rs Sto Val := fun s => (c s).bind fun x st => if x = true then a ⟨s.env, st⟩ else b ⟨s.env, st⟩
theorem sim_ifE {tc : TT} {ta tb : TE} {c : Fm → Rs Sto Bool} {a b : Fm → Rs Sto Val} (hc : SimT K W tc c) (ha : SimE K W ta a) (hb : SimE K W tb b) : SimE K W (tIf tc ta tb) (mIfE c a b) := fun C s σ F H Q e m p => by
  unfold mIfE at p
  refine hc C s σ F H _ e m ?_
  cases q : c s with
  | no => rw [q] at p; exact p
  | ex c fs st => rw [q] at p; exact p
  | ok x st =>
    rw [q, Rs.bind_ok] at p
    intro F1 H1 s1 m1
    cases x with
    | true =>
      rw [if_pos rfl] at p ⊢
      exact ha C ⟨s.env, st⟩ σ F1 H1 Q e m1 (PostE.mono s1 p)
    | false =>
      rw [if_neg Bool.false_ne_true] at p ⊢
      exact hb C ⟨s.env, st⟩ σ F1 H1 Q e m1 (PostE.mono s1 p)
/-! ### statements -/
def mSeq (a b : Fm → Rs Fm Fl) : Fm → Rs Fm Fl := fun s => match a s with
  | .ok .nx s' => b s'
  | r => r
def mNext : Fm → Rs Fm Fl := fun s => .ok .nx s
def mBreak : Fm → Rs Fm Fl := fun s => .ok .bk s
def mCont : Fm → Rs Fm Fl := fun s => .ok .ct s
theorem sim_next : SimS K W tNext mNext := fun C s σ F H D e m p => p σ F H (Sub.refl F) m
theorem sim_break : SimS K W tBreak mBreak := fun C s σ F H D e m p => p σ F H (Sub.refl F) m
theorem sim_cont : SimS K W tCont mCont := fun C s σ F H D e m p => p σ F H (Sub.refl F) m
theorem sim_seq {t u : TS} {a b : Fm → Rs Fm Fl} (ha : SimS K W t a) (hb : SimS K W u b) : SimS K W (tSeq t u) (mSeq a b) := fun C s σ F H D e m p => by
  unfold mSeq at p
  refine ha C s σ F H { D with nx := u D } e m ?_
  cases q : a s with
  | no => rw [q] at p; exact p
  | ex c fs st => rw [q] at p; exact p
  | ok fl s' =>
    rw [q] at p
    cases fl with
    | nx => exact fun σ1 F1 H1 s1 m1 => hb C s' σ1 F1 H1 D e m1 (PostS.mono s1 p)
    | bk => exact p
    | ct => exact p
    | ret w => exact p
/-- a statement of one expression -/
def mDrop (a : Fm → Rs Sto Val) : Fm → Rs Fm Fl := fun s => match a s with
  | .ok _ st => .ok .nx ⟨s.env, st⟩
  | .ex c fs st => .ex c fs ⟨s.env, st⟩
  | .no => .no
theorem sim_drop {t : TE} {a : Fm → Rs Sto Val} (ha : SimE K W t a) : SimS K W (tDrop t) (mDrop a) := fun C s σ F H D e m p => by
  unfold mDrop at p
  refine ha C s σ F H _ e m ?_
  cases q : a s with
  | no => rw [q] at p; exact p
  | ex c fs st => rw [q] at p; exact fun cls d F' H' s1 m1 x => p cls d σ F' H' s1 m1 x
  | ok w st => rw [q] at p; exact fun v F' H' s1 m1 _ => p σ F' H' s1 m1
def mRet (a : Fm → Rs Sto Val) : Fm → Rs Fm Fl := fun s => match a s with
  | .ok w st => .ok (.ret w) ⟨s.env, st⟩
  | .ex c fs st => .ex c fs ⟨s.env, st⟩
  | .no => .no
theorem sim_ret {t : TE} {a : Fm → Rs Sto Val} (ha : SimE K W t a) : SimS K W (tRet t) (mRet a) := fun C s σ F H D e m p => by
  unfold mRet at p
  refine ha C s σ F H _ e m ?_
  cases q : a s with
  | no => rw [q] at p; exact p
  | ex c fs st => rw [q] at p; exact fun cls d F' H' s1 m1 x => p cls d σ F' H' s1 m1 x
  | ok w st => rw [q] at p; exact fun v F' H' s1 m1 r1 => p v σ F' H' s1 m1 r1
def mRetN : Fm → Rs Fm Fl := fun s => .ok (.ret ⟨.sh, .non⟩) s
theorem sim_retN : SimS K W tRetN mRetN := fun C s σ F H D e m p => p .non σ F H (Sub.refl F) m rfl
def mIf (c : Fm → Rs Sto Bool) (a b : Fm → Rs Fm Fl) : Fm → Rs Fm Fl := fun s => match c s with
  | .ok true st => a ⟨s.env, st⟩
  | .ok false st => b ⟨s.env, st⟩
  | .ex c fs st => .ex c fs ⟨s.env, st⟩
  | .no => .no
theorem sim_if {tc : TT} {t u : TS} {c : Fm → Rs Sto Bool} {a b : Fm → Rs Fm Fl} (hc : SimT K W tc c) (ha : SimS K W t a) (hb : SimS K W u b) : SimS K W (tIfS tc t u) (mIf c a b) := fun C s σ F H D e m p => by
  unfold mIf at p
  refine hc C s σ F H _ e m ?_
  cases q : c s with
  | no => rw [q] at p; exact p
  | ex c fs st => rw [q] at p; exact fun cls d F' H' s1 m1 x => p cls d σ F' H' s1 m1 x
  | ok x st =>
    rw [q] at p
    intro F1 H1 s1 m1
    cases x with
    | true =>
      rw [if_pos rfl]
      exact ha C _ σ F1 H1 D e m1 (PostS.mono s1 p)
    | false =>
      rw [if_neg Bool.false_ne_true]
      exact hb C _ σ F1 H1 D e m1 (PostS.mono s1 p)
end
/-! ### slots are stored -/
section
variable {C : Cn} {s : Fm} {σ : L2.St} {F H : Hp}
theorem Mt.putV (m : Mt C s σ F H) {i : Nat} (hi0 : i ≠ 0) {v : V} {d : D} (h : Rep C.K C.a0 F v d) : Mt C ⟨s.env.set i (.v d), s.sto⟩ (σ.set i (some v)) F H := by
  refine ⟨m.hd, ⟨by simp [m.len], by rw [List.getElem?_set_ne hi0]; exact m.ln.2⟩, fun j e q => ?_, fun j e q => ?_, fun j k e e' a q q' z z' => ?_⟩
  · rw [List.getElem?_set] at q ⊢
    by_cases hj : i = j
    · subst hj
      rw [if_pos rfl] at q ⊢
      split at q
      · cases q
        rw [if_pos (by rw [← m.len]; assumption)]
        exact ⟨v, rfl, h⟩
      · cases q
    · rw [if_neg hj] at q ⊢
      exact m.sh j e q
  · rw [List.getElem?_set] at q ⊢
    by_cases hj : i = j
    · subst hj
      rw [if_pos rfl] at q
      split at q <;> cases q
    · rw [if_neg hj] at q ⊢
      exact m.ow j e q
  · rw [List.getElem?_set] at q q' z z'
    by_cases hj : i = j
    · rw [if_pos hj] at q
      split at q <;> cases q
    · by_cases hk : i = k
      · rw [if_pos hk] at q'
        split at q' <;> cases q'
      · rw [if_neg hj] at q z
        rw [if_neg hk] at q' z'
        exact m.inj j k e e' a q q' z z'
theorem Mt.putO (m : Mt C s σ F H) {i : Nat} (hi0 : i ≠ 0) {a : Addr} {d : D} (h : OwnAt C F H a d) (no : ∀ (j : Nat) (d : D), j ≠ i → s.env[j]? = some (.own d) → σ[j]? ≠ some (some (V.ref a))) : Mt C ⟨s.env.set i (.own d), s.sto⟩ (σ.set i (some (.ref a))) F H := by
  refine ⟨m.hd, ⟨by simp [m.len], by rw [List.getElem?_set_ne hi0]; exact m.ln.2⟩, fun j e q => ?_, fun j e q => ?_, fun j k e e' b q q' z z' => ?_⟩
  · rw [List.getElem?_set] at q ⊢
    by_cases hj : i = j
    · subst hj
      rw [if_pos rfl] at q
      split at q <;> cases q
    · rw [if_neg hj] at q ⊢
      exact m.sh j e q
  · rw [List.getElem?_set] at q ⊢
    by_cases hj : i = j
    · subst hj
      rw [if_pos rfl] at q ⊢
      split at q
      · cases q
        rw [if_pos (by rw [← m.len]; assumption)]
        exact ⟨a, rfl, h⟩
      · cases q
    · rw [if_neg hj] at q ⊢
      exact m.ow j e q
  · rw [List.getElem?_set] at q q' z z'
    by_cases hj : i = j
    · by_cases hk : i = k
      · rw [← hj, hk]
      · exfalso
        rw [if_pos hj] at z
        rw [if_neg hk] at q' z'
        split at z
        · cases z
          exact no k e' (fun x => hk x.symm) q' z'
        · cases z
    · by_cases hk : i = k
      · exfalso
        rw [if_pos hk] at z'
        rw [if_neg hj] at q z
        split at z'
        · cases z'
          exact no j e (fun x => hj x.symm) q z
        · cases z'
      · rw [if_neg hj] at q z
        rw [if_neg hk] at q' z'
        exact m.inj j k e e' b q q' z z'
end
section
variable {K : PySem.W.Frag} {W : WX}
/-- x = e: a new container is x's own, a shared value is shared -/
def storeW (i : Nat) (w : Val) (s : Fm) : Rs Fm Fl := match w.k with
  | .sh => .ok .nx ⟨s.env.set i (.v w.d), s.sto⟩
  | .fr => .ok .nx ⟨s.env.set i (.own w.d), s.sto⟩
  | .ow _ => .no
/-- .. shared in any case -/
def storeV (i : Nat) (w : Val) (s : Fm) : Rs Fm Fl := match w.k with
  | .ow _ => .no
  | _ => .ok .nx ⟨s.env.set i (.v w.d), s.sto⟩
def liftS (r : Rs Sto Val) (env : List Slot) (g : Val → Fm → Rs Fm Fl) : Rs Fm Fl := match r with
  | .ok w st => g w ⟨env, st⟩
  | .ex c fs st => .ex c fs ⟨env, st⟩
  | .no => .no
def mSetO (i : Nat) (a : Fm → Rs Sto Val) : Fm → Rs Fm Fl := fun s => liftS (a s) s.env (storeW i)
def mSet (i : Nat) (a : Fm → Rs Sto Val) : Fm → Rs Fm Fl := fun s => liftS (a s) s.env (storeV i)
theorem sim_setO {i : Nat} {t : TE} {a : Fm → Rs Sto Val} (ha : SimE K W t a) (hi0 : i ≠ 0 := by decide) : SimS K W (tAsg t (gName i)) (mSetO i a) := fun C s σ F H D e m p => by
  unfold mSetO liftS at p
  refine ha C s σ F H _ e m ?_
  cases q : a s with
  | no => rw [q] at p; exact p
  | ex c fs st => rw [q] at p; exact fun cls d F' H' s1 m1 x => p cls d σ F' H' s1 m1 x
  | ok w st =>
    rw [q] at p
    intro v F1 H1 s1 m1 r1
    obtain ⟨k, d⟩ := w
    cases k with
    | sh => exact p _ F1 H1 s1 (m1.putV (i := i) hi0 r1)
    | fr =>
      obtain ⟨b, rfl, o, no⟩ := r1
      exact p _ F1 H1 s1 (m1.putO (i := i) hi0 o fun j d _ => no j d)
    | ow j => exact p.elim
theorem sim_set {i : Nat} {t : TE} {a : Fm → Rs Sto Val} (ha : SimE K W t a) (hi0 : i ≠ 0 := by decide) : SimS K W (tAsg t (gName i)) (mSet i a) := fun C s σ F H D e m p => by
  unfold mSet liftS at p
  refine ha C s σ F H _ e m ?_
  cases q : a s with
  | no => rw [q] at p; exact p
  | ex c fs st => rw [q] at p; exact fun cls d F' H' s1 m1 x => p cls d σ F' H' s1 m1 x
  | ok w st =>
    rw [q] at p
    intro v F1 H1 s1 m1 r1
    obtain ⟨k, d⟩ := w
    cases k with
    | sh => exact p _ F1 H1 s1 (m1.putV (i := i) hi0 r1)
    | fr =>
      obtain ⟨F2, s2, m2, r2⟩ := m1.freezeV r1
      exact p _ F2 H1 (s1.trans s2) (m2.putV (i := i) hi0 r2)
    | ow j => exact p.elim
/-- slot i's container becomes shared -/
def mFreeze (i : Nat) (s : Fm) : Fm := match s.env[i]? with
  | some (.own d) => ⟨s.env.set i (.v d), s.sto⟩
  | _ => s
theorem Mt.freezeAt {C : Cn} {s : Fm} {σ : L2.St} {F H : Hp} (m : Mt C s σ F H) (i : Nat) : ∃ F', Sub F F' ∧ Mt C (mFreeze i s) σ F' H := by
  unfold mFreeze
  cases q : s.env[i]? with
  | none => exact ⟨F, Sub.refl F, m⟩
  | some x =>
    cases x with
    | own d =>
      obtain ⟨a, z, f, ne, nh, ho, ea, c⟩ := m.ow i d q
      have sub : Sub F (upd F a ho) := Sub.upd f
      refine ⟨upd F a ho, sub, m.hd.freeze ea f ne nh, ⟨by simp [m.len], m.ln.2⟩, fun j e q' => ?_, fun j e q' => ?_, fun j k e e' b q' q'' z' z'' => ?_⟩
      · dsimp only at q'
        rw [List.getElem?_set] at q'
        by_cases hj : i = j
        · subst hj
          rw [if_pos rfl] at q'
          split at q'
          · cases q'
            exact ⟨_, z, COf.rep (c.mono sub) upd_same⟩
          · cases q'
        · rw [if_neg hj] at q'
          obtain ⟨v, z', r⟩ := m.sh j e q'
          exact ⟨v, z', r.mono sub⟩
      · dsimp only at q'
        rw [List.getElem?_set] at q'
        by_cases hj : i = j
        · subst hj
          rw [if_pos rfl] at q'
          split at q' <;> cases q'
        · rw [if_neg hj] at q'
          obtain ⟨b, z', f', ne', nh', ho', eb, c'⟩ := m.ow j e q'
          have hba : b ≠ a := by
            rintro rfl
            exact hj (m.inj i j d e b q q' z z')
          exact ⟨b, z', by rw [upd_ne hba]; exact f', ne', nh', ho', eb, c'.mono sub⟩
      · dsimp only at q' q''
        rw [List.getElem?_set] at q' q''
        by_cases hj : i = j
        · rw [if_pos hj] at q'
          split at q' <;> cases q'
        · by_cases hk : i = k
          · rw [if_pos hk] at q''
            split at q'' <;> cases q''
          · rw [if_neg hj] at q'
            rw [if_neg hk] at q''
            exact m.inj j k e e' b q' q'' z' z''
    | _ => exact ⟨F, Sub.refl F, m⟩
/-- .. ahead of a statement -/
theorem sim_frz (i : Nat) {t : TS} {a : Fm → Rs Fm Fl} (ha : SimS K W t a) : SimS K W t (fun s => a (mFreeze i s)) := fun C s σ F H D e m p => by
  obtain ⟨F1, s1, m1⟩ := m.freezeAt i
  exact ha C _ σ F1 H D e m1 (PostS.mono s1 p)
end
end RX

set_option Elab.async false
set_option linter.all false
set_option maxRecDepth 100000
set_option maxHeartbeats 1000000
/-! RX: targets, loops, comprehensions. -/
namespace RX
open PySem L2
section
variable {K : PySem.W.Frag} {W : WX}
/-! ### targets -/
/-- only the slots is are written -/
structure Same (is : List Nat) (s s' : Fm) (σ σ' : L2.St) : Prop where
  env : ∀ j, j ∉ is → s'.env[j]? = s.env[j]?
  slot : ∀ j, j ∉ is → σ'[j]? = σ[j]?
  len : σ'.length = σ.length
theorem Same.trans {is js : List Nat} {s s' s'' : Fm} {σ σ' σ'' : L2.St} (a : Same is s s' σ σ') (b : Same js s' s'' σ' σ'') : Same (is ++ js) s s'' σ σ'' :=
  ⟨fun j h => (b.env j fun z => h (List.mem_append_right _ z)).trans (a.env j fun z => h (List.mem_append_left _ z)), fun j h => (b.slot j fun z => h (List.mem_append_right _ z)).trans (a.slot j fun z => h (List.mem_append_left _ z)), b.len.trans a.len⟩
/-- a target stores a shared value; is: the slots that it writes -/
def SimG (K : PySem.W.Frag) (is : List Nat) (g : TG) (tg : D → Fm → Option Fm) : Prop :=
  ∀ (C : Cn) (s s' : Fm) (σ : L2.St) (F H : Hp) (v : V) (d : D) (Q : L2.St → Hp → Prop), C.K = K → Mt C s σ F H → Rep C.K C.a0 F v d → tg d s = some s' →
    (∀ σ', Mt C s' σ' F H → Same is s s' σ σ' → Q σ' H) → g v σ H Q
def SimGs (K : PySem.W.Frag) (is : List Nat) (g : TGs) (tg : List D → Fm → Option Fm) : Prop :=
  ∀ (C : Cn) (s s' : Fm) (σ : L2.St) (F H : Hp) (v : List V) (d : List D) (Q : L2.St → Hp → Prop), C.K = K → Mt C s σ F H → RepL C.K C.a0 F v d → tg d s = some s' →
    (∀ σ', Mt C s' σ' F H → Same is s s' σ σ' → Q σ' H) → g v σ H Q
def gN (i : Nat) : D → Fm → Option Fm := fun d s => some ⟨s.env.set i (.v d), s.sto⟩
theorem wipe_get (σ : L2.St) (j : Nat) : ∀ vs : List Nat, (wipe σ vs)[j]? = if j ∈ vs ∧ j < σ.length then some none else σ[j]?
  | [] => by simp [wipe]
  | v :: vs => by
    unfold wipe
    rw [List.getElem?_set, wipe_length, wipe_get σ j vs]
    by_cases h : v = j
    · subst h
      by_cases hl : v < σ.length
      · simp [hl]
      · simp only [hl, and_false, if_false, if_true]
        exact (List.getElem?_eq_none (by omega)).symm
    · simp [h, Ne.symm h]
theorem Same.wipe {is : List Nat} {s s' : Fm} {σ σ' : L2.St} (h : Same is s s' σ σ') {vs : List Nat} (hv : ∀ i ∈ is, i ∈ vs) : L2.wipe σ' vs = L2.wipe σ vs := by
  apply List.ext_getElem?
  intro j
  rw [wipe_get, wipe_get, h.len]
  by_cases hj : j ∈ vs ∧ j < σ.length
  · rw [if_pos hj, if_pos hj]
  · rw [if_neg hj, if_neg hj]
    by_cases hi : j ∈ is
    · have : σ.length ≤ j := by
        rcases Nat.lt_or_ge j σ.length with z | z
        · exact absurd ⟨hv j hi, z⟩ hj
        · exact z
      rw [List.getElem?_eq_none this, List.getElem?_eq_none (by rw [h.len]; exact this)]
    · exact h.slot j hi
theorem sim_gN (i : Nat) (hi0 : i ≠ 0 := by decide) : SimG K [i] (gName i) (gN i) := fun C s s' σ F H v d Q e m r h k => by
  cases h
  refine k _ (m.putV (i := i) hi0 r) ⟨fun j hj => ?_, fun j hj => ?_, by simp⟩
  · exact List.getElem?_set_ne (fun z => hj (by simp [z]))
  · exact List.getElem?_set_ne (fun z => hj (by simp [z]))
def gsNil : List D → Fm → Option Fm := fun ds s => match ds with
  | [] => some s
  | _ => none
def gsCons (g : D → Fm → Option Fm) (gs : List D → Fm → Option Fm) : List D → Fm → Option Fm := fun ds s => match ds with
  | d :: ds => (g d s).bind (gs ds)
  | [] => none
def gT (n : Nat) (gs : List D → Fm → Option Fm) : D → Fm → Option Fm := fun d s => match d with
  | .tup ds => if ds.length = n then gs ds s else none
  | _ => none
theorem sim_gsNil : SimGs K [] gNil gsNil := fun C s s' σ F H v d Q e m r h k => by
  cases d with
  | cons _ _ => cases h
  | nil =>
    cases h
    cases v with
    | cons _ _ => exact r.elim
    | nil => exact ⟨rfl, k σ m ⟨fun _ _ => rfl, fun _ _ => rfl, rfl⟩⟩
theorem sim_gsCons {is js : List Nat} {g : TG} {gs : TGs} {tg : D → Fm → Option Fm} {tgs : List D → Fm → Option Fm} (h1 : SimG K is g tg) (h2 : SimGs K js gs tgs) : SimGs K (is ++ js) (gCons g gs) (gsCons tg tgs) := fun C s s' σ F H v d Q e m r h k => by
  cases d with
  | nil => cases h
  | cons d ds =>
    cases v with
    | nil => exact r.elim
    | cons v vs =>
      have h' : (tg d s).bind (tgs ds) = some s' := h
      cases q : tg d s with
      | none => rw [q] at h'; cases h'
      | some s1 =>
        rw [q] at h'
        refine ⟨v, vs, rfl, h1 C s s1 σ F H v d _ e m r.1 q fun σ1 m1 w1 => ?_⟩
        exact h2 C s1 s' σ1 F H vs ds Q e m1 r.2 h' fun σ2 m2 w2 => k σ2 m2 (w1.trans w2)
theorem sim_gT {is : List Nat} {n : Nat} {gs : TGs} {tgs : List D → Fm → Option Fm} (h : SimGs K is gs tgs) : SimG K is (gTup K n gs) (gT n tgs) := fun C s s' σ F H v d Q e m r q k => by
  unfold gT at q
  cases d with
  | tup ds =>
    obtain ⟨a, vs, ev, hq, rl⟩ := r
    by_cases hn : ds.length = n
    · rw [show (match D.tup ds with | .tup ds => if ds.length = n then tgs ds s else none | _ => none) = tgs ds s from if_pos hn] at q
      subst e
      exact ⟨a, vs, ev, m.hd.sub.sqT hq, by rw [rl.len]; exact hn, h C s s' σ F H vs ds Q rfl m rl q k⟩
    · rw [show (match D.tup ds with | .tup ds => if ds.length = n then tgs ds s else none | _ => none) = none from if_neg hn] at q
      cases q
  | _ => cases q
/-- a target takes the value of an expression -/
def mAsgT (tg : D → Fm → Option Fm) (a : Fm → Rs Sto Val) : Fm → Rs Fm Fl := fun s => liftS (a s) s.env fun w s1 => match w.k with
  | .ow _ => .no
  | _ => match tg w.d s1 with
    | some s2 => .ok .nx s2
    | none => .no
theorem sim_asgT {is : List Nat} {g : TG} {tg : D → Fm → Option Fm} {t : TE} {a : Fm → Rs Sto Val} (ha : SimE K W t a) (hg : SimG K is g tg) : SimS K W (tAsg t g) (mAsgT tg a) := fun C s σ F H D e m p => by
  unfold mAsgT liftS at p
  refine ha.then (β := Unit) e m (fun w st q v F1 H1 s1 m1 r1 => ?_) (fun c fs st q => by rw [q] at p; exact fun cls d F' H' s1 m1 x => p cls d σ F' H' s1 m1 x) (fun q => by rw [q] at p; exact p)
  rw [q] at p
  obtain ⟨k, d⟩ := w
  cases k with
  | ow j => exact p.elim
  | sh =>
    dsimp only at p
    cases q2 : tg d ⟨s.env, st⟩ with
    | none => rw [q2] at p; exact p.elim
    | some s2 =>
      rw [q2] at p
      exact hg C _ s2 σ F1 H1 v d _ e m1 r1 q2 fun σ' m2 _ => p σ' F1 H1 s1 m2
  | fr =>
    dsimp only at p
    cases q2 : tg d ⟨s.env, st⟩ with
    | none => rw [q2] at p; exact p.elim
    | some s2 =>
      rw [q2] at p
      exact hg C _ s2 σ F1 H1 v d _ e m1 r1 q2 fun σ' m2 _ => p σ' F1 H1 s1 m2
/-! ### what is walked -/
structure Wk (C : Cn) (J : It) (F : Hp) (ds : List D) : Prop where
  stop : ∀ H F', Sub F F' → Sub F' H → J.stop ds.length H
  go : ∀ i H F', Sub F F' → Sub F' H → i < ds.length → J.go i H
  yld : ∀ i H F' x H', Sub F F' → Sub F' H → i < ds.length → J.yld i H x H' → ∃ d, ds[i]? = some d ∧ Res C.K C.a0 F' H ⟨.sh, d⟩ x H'
def PostI (C : Cn) (s : Fm) (σ : L2.St) (F : Hp) (W : WX) (r : Rs Sto (List D)) (R : It → Hp → Prop) : Prop :=
  match r with
  | .ok ds st => ∀ J F' H', Sub F F' → Mt C ⟨s.env, st⟩ σ F' H' → Wk C J F' ds → R J H'
  | .ex c fs st => ∀ cls d F' H', Sub F F' → Mt C ⟨s.env, st⟩ σ F' H' → Exn C F' H' c fs cls d → W cls d σ H'
  | .no => False
def SimI (K : PySem.W.Frag) (W : WX) (wi : TI) (m : Fm → Rs Sto (List D)) : Prop := ∀ (C : Cn) (s : Fm) (σ : L2.St) (F H : Hp) (R : It → Hp → Prop), C.K = K → Mt C s σ F H → PostI C s σ F W (m s) R → wi σ H R
/-- the turns of a for -/
def forD (tg : D → Fm → Option Fm) (b : Fm → Rs Fm Fl) : List D → Fm → Rs Fm Fl
  | [], s => .ok .nx s
  | d :: ds, s => match tg d s with
    | none => .no
    | some s1 => match b s1 with
      | .ok .nx s2 => forD tg b ds s2
      | .ok .ct s2 => forD tg b ds s2
      | .ok .bk s2 => .ok .nx s2
      | r => r
def mFor (src : Fm → Rs Sto (List D)) (tg : D → Fm → Option Fm) (b : Fm → Rs Fm Fl) : Fm → Rs Fm Fl := fun s => match src s with
  | .ok ds st => forD tg b ds ⟨s.env, st⟩
  | .ex c fs st => .ex c fs ⟨s.env, st⟩
  | .no => .no
theorem drop_cons {α : Type} {l : List α} {i : Nat} {d : α} (h : l[i]? = some d) : l.drop i = d :: l.drop (i + 1) := by
  obtain ⟨hi, e⟩ := List.getElem?_eq_some_iff.mp h
  rw [List.drop_eq_getElem_cons hi, e]
theorem sim_for {is : List Nat} {wi : TI} {src : Fm → Rs Sto (List D)} {g : TG} {tg : D → Fm → Option Fm} {t : TS} {b : Fm → Rs Fm Fl} (hi : SimI K W wi src) (hg : SimG K is g tg) (hb : SimS K W t b) : SimS K W (tFor wi g t) (mFor src tg b) := fun C s σ F H D e m p => by
  unfold mFor at p
  refine hi C s σ F H _ e m ?_
  cases q : src s with
  | no => rw [q] at p; exact p
  | ex c fs st => rw [q] at p; exact fun cls d F' H' s1 m1 x => p cls d σ F' H' s1 m1 x
  | ok ds st =>
    rw [q] at p
    intro J F1 H1 s1 m1 wk
    let Pv : Nat → L2.St → Hp → Prop := fun i σ H => ∃ s' F', Sub F1 F' ∧ Mt C s' σ F' H ∧ PostS C F' W (forD tg b (ds.drop i) s') D
    refine ⟨fun i k σ H => k = ds.length - i ∧ i ≤ ds.length ∧ Pv i σ H, ⟨ds.length, by simp, Nat.zero_le _, ⟨s.env, st⟩, F1, Sub.refl F1, m1, by simpa using PostS.mono s1 p⟩, ?_⟩
    rintro i k σ' H' ⟨rfl, hle, s', F', sub, mt, po⟩
    by_cases hlt : i < ds.length
    · refine .inr ⟨wk.go i H' F' sub mt.hd.sub hlt, Pv (i + 1), fun σ2 H2 z => ⟨ds.length - (i + 1), by omega, rfl, hlt, z⟩, fun x H2 y => ?_⟩
      obtain ⟨d, hd, rs⟩ := wk.yld i H' F' x H2 sub mt.hd.sub hlt y
      obtain ⟨F2, s2, m2, rv⟩ := rs.go mt
      rw [drop_cons hd] at po
      unfold forD at po
      cases q2 : tg d s' with
      | none => rw [q2] at po; exact po.elim
      | some s3 =>
        rw [q2] at po
        dsimp only at po
        refine hg C s' s3 σ' F2 H2 x d _ e m2 rv q2 fun σ3 m3 _ => ?_
        refine hb C s3 σ3 F2 H2 _ e m3 ?_
        cases q3 : b s3 with
        | no => rw [q3] at po; exact po
        | ex c fs s4 => rw [q3] at po; exact PostS.mono s2 po
        | ok fl s4 =>
          rw [q3] at po
          have po := PostS.mono s2 po
          cases fl with
          | nx => exact fun σ4 F4 H4 s5 m4 => ⟨s4, F4, sub.trans (s2.trans s5), m4, PostS.mono s5 po⟩
          | ct => exact fun σ4 F4 H4 s5 m4 => ⟨s4, F4, sub.trans (s2.trans s5), m4, PostS.mono s5 po⟩
          | bk => exact po
          | ret w => exact po
    · have ei : i = ds.length := by omega
      subst ei
      refine .inl ⟨wk.stop H' F' sub mt.hd.sub, ?_⟩
      rw [List.drop_length] at po
      exact po σ' F' H' (Sub.refl F') mt
/-! ### while -/
def whileD (c : Fm → Rs Sto Bool) (b : Fm → Rs Fm Fl) : Nat → Fm → Rs Fm Fl
  | 0, _ => .no
  | n + 1, s => match c s with
    | .ok true st => (match b ⟨s.env, st⟩ with
      | .ok .nx s' => whileD c b n s'
      | .ok .ct s' => whileD c b n s'
      | .ok .bk s' => .ok .nx s'
      | r => r)
    | .ok false st => .ok .nx ⟨s.env, st⟩
    | .ex c fs st => .ex c fs ⟨s.env, st⟩
    | .no => .no
def mWhile (n : Nat) (c : Fm → Rs Sto Bool) (b : Fm → Rs Fm Fl) : Fm → Rs Fm Fl := whileD c b n
theorem sim_while {n : Nat} {tc : TT} {t : TS} {c : Fm → Rs Sto Bool} {b : Fm → Rs Fm Fl} (hc : SimT K W tc c) (hb : SimS K W t b) : SimS K W (tWhile tc t) (mWhile n c b) := fun C s σ F H D e m p => by
  refine ⟨fun k σ H => ∃ s' F', Mt C s' σ F' H ∧ PostS C F' W (whileD c b k s') D, ⟨n, s, F, m, p⟩, ?_⟩
  rintro k σ' H' ⟨s', F', mt, po⟩
  refine hc C s' σ' F' H' _ e mt ?_
  cases k with
  | zero => exact po.elim
  | succ k =>
    unfold whileD at po
    cases q : c s' with
    | no => rw [q] at po; exact po
    | ex c fs st => rw [q] at po; exact fun cls d F' H' s1 m1 x => po cls d σ' F' H' s1 m1 x
    | ok x st =>
      rw [q] at po
      intro F1 H1 s1 m1
      cases x with
      | false =>
        rw [if_neg Bool.false_ne_true]
        exact po σ' F1 H1 s1 m1
      | true =>
        rw [if_pos rfl]
        refine ⟨fun σ H => ∃ s' F', Mt C s' σ F' H ∧ PostS C F' W (whileD c b k s') D, fun σ2 H2 z => ⟨k, Nat.lt_succ_self k, z⟩, ?_⟩
        refine hb C _ σ' F1 H1 _ e m1 ?_
        dsimp only at po
        cases q3 : b ⟨s'.env, st⟩ with
        | no => rw [q3] at po; exact po
        | ex c fs s4 => rw [q3] at po; exact PostS.mono s1 po
        | ok fl s4 =>
          rw [q3] at po
          have po := PostS.mono s1 po
          cases fl with
          | nx => exact fun σ4 F4 H4 s5 m4 => ⟨s4, F4, m4, PostS.mono s5 po⟩
          | ct => exact fun σ4 F4 H4 s5 m4 => ⟨s4, F4, m4, PostS.mono s5 po⟩
          | bk => exact po
          | ret w => exact po
/-! ### an object set aside -/
def Cn.with (C : Cn) (p : Addr) (o : HO) : Cn := { C with H0 := upd C.H0 p o }
theorem Mt.push {C : Cn} {s : Fm} {σ : L2.St} {F H : Hp} (m : Mt C s σ F H) {p : Addr} {o : HO} (hp : H p = some o) (f : F p = none) (ne : p ≠ C.a0)
    (no : ∀ (i : Nat) (d : D), s.env[i]? = some (.own d) → σ[i]? ≠ some (some (V.ref p))) : Mt (C.with p o) s σ F H := by
  obtain ⟨⟨h1, h2, h3, h4, h5, h6, h7, h8, h9⟩, m2, m3, m4, m5⟩ := m
  refine ⟨⟨h1, h2, fun a u z zn => ?_, fun a u z => ?_, h5, h6, h7, h8, ?_⟩, m2, m3, fun i d z => ?_, m5⟩
  · by_cases e : a = p
    · subst e
      have : upd C.H0 a o a = some u := z
      rw [upd_same] at this
      cases this
      exact hp
    · have : upd C.H0 p o a = some u := z
      rw [upd_ne e] at this
      exact h3 a u this zn
  · have e : a ≠ p := ne_of_none z f
    refine (h4 a u z).imp id fun q => ?_
    show upd C.H0 p o a = none
    rw [upd_ne e]
    exact q
  · obtain ⟨o', z⟩ := h9
    exact ⟨o', by show upd C.H0 p o C.a0 = some o'; rw [upd_ne (fun e => ne e.symm)]; exact z⟩
  · obtain ⟨a, z', x1, x2, x3, x4⟩ := m4 i d z
    have hap : a ≠ p := by
      rintro rfl
      exact no i d z z'
    exact ⟨a, z', x1, x2, by show upd C.H0 p o a = none; rw [upd_ne hap]; exact x3, x4⟩
theorem Mt.pop {C : Cn} {s : Fm} {σ : L2.St} {F H : Hp} {p : Addr} {o : HO} (m : Mt (C.with p o) s σ F H) (ne : p ≠ C.a0) (nh : C.H0 p = none) (nf : C.F0 p = none) :
    Mt C s σ F H ∧ H p = some o ∧ F p = none ∧ ∀ (i : Nat) (d : D), s.env[i]? = some (.own d) → σ[i]? ≠ some (some (V.ref p)) := by
  obtain ⟨⟨h1, h2, h3, h4, h5, h6, h7, h8, h9⟩, m2, m3, m4, m5⟩ := m
  have hp : H p = some o := h3 p o upd_same ne
  have ge : ∀ {a : Addr}, a ≠ p → upd C.H0 p o a = C.H0 a := fun h => upd_ne h
  have fp : F p = none := by
    cases q : F p with
    | none => rfl
    | some u =>
      rcases h4 p u q with z | z
      · have : C.F0 p = some u := z
        rw [nf] at this; cases this
      · have : upd C.H0 p o p = none := z
        rw [upd_same] at this; cases this
  refine ⟨⟨⟨h1, h2, fun a u z zn => ?_, fun a u z => ?_, h5, h6, h7, h8, ?_⟩, m2, m3, fun i d z => ?_, m5⟩, hp, fp, fun i d z z' => ?_⟩
  · by_cases e : a = p
    · subst e; rw [nh] at z; cases z
    · exact h3 a u (by show upd C.H0 p o a = some u; rw [ge e]; exact z) zn
  · have e : a ≠ p := ne_of_none z fp
    refine (h4 a u z).imp id fun q => ?_
    have : upd C.H0 p o a = none := q
    rw [ge e] at this
    exact this
  · obtain ⟨o', z⟩ := h9
    have : upd C.H0 p o C.a0 = some o' := z
    rw [ge (fun e => ne e.symm)] at this
    exact ⟨o', this⟩
  · obtain ⟨a, z', x1, x2, x3, x4⟩ := m4 i d z
    have x3' : upd C.H0 p o a = none := x3
    have hap : a ≠ p := by
      rintro rfl
      rw [upd_same] at x3'; cases x3'
    rw [ge hap] at x3'
    exact ⟨a, z', x1, x2, x3', x4⟩
  · obtain ⟨a, z'', x1, x2, x3, x4⟩ := m4 i d z
    have : a = p := by
      have := z'.symm.trans z''
      simpa using this.symm
    subst this
    have x3' : upd C.H0 a o a = none := x3
    rw [upd_same] at x3'; cases x3'
/-- an object that no slot and nothing frozen knows is written -/
theorem Mt.rewr {C : Cn} {s : Fm} {σ : L2.St} {F H : Hp} (m : Mt C s σ F H) {p : Addr} {o : HO} (f : F p = none) (ne : p ≠ C.a0) (nh : C.H0 p = none)
    (no : ∀ (i : Nat) (d : D), s.env[i]? = some (.own d) → σ[i]? ≠ some (some (V.ref p))) : Mt C s σ F (upd H p o) := by
  obtain ⟨⟨h1, h2, h3, h4, h5, h6, h7, h8, h9⟩, m2, m3, m4, m5⟩ := m
  refine ⟨⟨fun a u z => ?_, h2, fun a u z zn => ?_, h4, h5, ?_, h7, h8, h9⟩, m2, m3, fun i d z => ?_, m5⟩
  · rw [upd_ne (ne_of_none z f)]; exact h1 a u z
  · rw [upd_ne (ne_of_none z nh)]; exact h3 a u z zn
  · rw [upd_ne (fun e => ne e.symm)]; exact h6
  · obtain ⟨a, z', x1, x2, x3, ho, x4, x5⟩ := m4 i d z
    have hap : a ≠ p := by
      rintro rfl
      exact no i d z z'
    exact ⟨a, z', x1, x2, x3, ho, by rw [upd_ne hap]; exact x4, x5⟩
/-! ### comprehensions -/
def wipeE (env : List Slot) : List Nat → List Slot
  | [] => env
  | v :: vs => (wipeE env vs).set v .emp
theorem Mt.drop1 {C : Cn} {s : Fm} {σ : L2.St} {F H : Hp} (m : Mt C s σ F H) (i : Nat) (hi0 : i ≠ 0) (x : Option V) : Mt C ⟨s.env.set i .emp, s.sto⟩ (σ.set i x) F H := by
  refine ⟨m.hd, ⟨by simp [m.len], by rw [List.getElem?_set_ne hi0]; exact m.ln.2⟩, fun j e q => ?_, fun j e q => ?_, fun j k e e' a q q' z z' => ?_⟩
  · rw [List.getElem?_set] at q ⊢
    by_cases hj : i = j
    · rw [if_pos hj] at q
      split at q <;> cases q
    · rw [if_neg hj] at q ⊢
      exact m.sh j e q
  · rw [List.getElem?_set] at q ⊢
    by_cases hj : i = j
    · rw [if_pos hj] at q
      split at q <;> cases q
    · rw [if_neg hj] at q ⊢
      exact m.ow j e q
  · rw [List.getElem?_set] at q q' z z'
    by_cases hj : i = j
    · rw [if_pos hj] at q
      split at q <;> cases q
    · by_cases hk : i = k
      · rw [if_pos hk] at q'
        split at q' <;> cases q'
      · rw [if_neg hj] at q z
        rw [if_neg hk] at q' z'
        exact m.inj j k e e' a q q' z z'
theorem Mt.wipe {C : Cn} {s : Fm} {σ : L2.St} {F H : Hp} (m : Mt C s σ F H) : ∀ vs : List Nat, 0 ∉ vs → Mt C ⟨wipeE s.env vs, s.sto⟩ (L2.wipe σ vs) F H
  | [], _ => m
  | v :: vs, h => (m.wipe vs fun z => h (List.mem_cons_of_mem _ z)).drop1 v (fun z => h (by simp [z])) none
/-- the turns of a list comprehension -/
def lcD (tg : D → Fm → Option Fm) (tt : Fm → Rs Sto Bool) (el : Fm → Rs Sto Val) (env : List Slot) : List D → Sto → List D → Rs Sto (List D)
  | [], st, acc => .ok acc st
  | d :: ds, st, acc => match tg d ⟨env, st⟩ with
    | none => .no
    | some s1 => match tt s1 with
      | .ok false st' => lcD tg tt el env ds st' acc
      | .ok true st' => (match el ⟨s1.env, st'⟩ with
        | .ok ⟨.ow _, _⟩ _ => .no
        | .ok ⟨_, y⟩ st2 => lcD tg tt el env ds st2 (acc ++ [y])
        | _ => .no)
      | _ => .no
def mYes : Fm → Rs Sto Bool := fun s => .ok true s.sto
theorem sim_yes : SimT K W tYes mYes := fun C s σ F H Q e m p => p F H (Sub.refl F) m
def noX : WX := fun _ _ _ _ => False
/-- none of these slots holds a container alone -/
def noOwn (env : List Slot) : List Nat → Bool
  | [] => true
  | v :: vs => (match env[v]? with | some (.own _) => false | _ => true) && noOwn env vs
theorem noOwn_ok {env : List Slot} : ∀ {vs : List Nat}, noOwn env vs = true → ∀ i ∈ vs, ∀ d, env[i]? ≠ some (.own d)
  | v :: vs, h, i, hi, d, z => by
    unfold noOwn at h
    rw [Bool.and_eq_true] at h
    rcases List.mem_cons.mp hi with e | hi
    · subst e
      rw [z] at h
      exact absurd h.1 (by simp)
    · exact noOwn_ok h.2 i hi d z
def mLc (src : Fm → Rs Sto (List D)) (tg : D → Fm → Option Fm) (tt : Fm → Rs Sto Bool) (el : Fm → Rs Sto Val) (vs : List Nat) : Fm → Rs Sto Val := fun s => (src s).bind fun ds st =>
  if ds.length ≤ line ∧ noOwn s.env vs = true then (lcD tg tt el (wipeE s.env vs) ds st []).bind fun ys st' => .ok ⟨.fr, .lst ys⟩ st' else .no
theorem wipeE_get (env : List Slot) (j : Nat) : ∀ vs : List Nat, (wipeE env vs)[j]? = if j ∈ vs ∧ j < env.length then some .emp else env[j]?
  | [] => by simp [wipeE]
  | v :: vs => by
    have hlen : ∀ vs : List Nat, (wipeE env vs).length = env.length := by
      intro vs
      induction vs with
      | nil => rfl
      | cons v vs ih => unfold wipeE; rw [List.length_set, ih]
    unfold wipeE
    rw [List.getElem?_set, hlen, wipeE_get env j vs]
    by_cases h : v = j
    · subst h
      by_cases hl : v < env.length
      · simp [hl]
      · rw [if_pos rfl, if_neg hl, if_neg (fun z => hl z.2)]
        exact (List.getElem?_eq_none (by omega)).symm
    · simp [h, Ne.symm h]
theorem RepL.snoc {a0 : Addr} {F : Hp} : ∀ {vs : List V} {ds : List D} {v : V} {d : D}, RepL K a0 F vs ds → Rep K a0 F v d → RepL K a0 F (vs ++ [v]) (ds ++ [d])
  | [], [], _, _, _, h => ⟨h, trivial⟩
  | [], _ :: _, _, _, h, _ => h.elim
  | _ :: _, [], _, _, h, _ => h.elim
  | _ :: _, _ :: _, _, _, ⟨h, r⟩, k => ⟨h, RepL.snoc r k⟩
/-- out of a block: the slots outside are as they were -/
theorem Mt.back {C : Cn} {env env4 : List Slot} {st st4 : Sto} {σ σ4 : L2.St} {F F4 H H4 : Hp} {vs : List Nat} (m : Mt C ⟨env, st⟩ σ F H) (m4 : Mt C ⟨env4, st4⟩ σ4 F4 H4) (sub : Sub F F4)
    (he : ∀ j, j ∉ vs → env4[j]? = env[j]?) (hs : ∀ j, j ∉ vs → σ4[j]? = σ[j]?) (no : ∀ i ∈ vs, ∀ d, env[i]? ≠ some (.own d)) : Mt C ⟨env, st4⟩ σ F4 H4 := by
  refine ⟨m4.hd, m.ln, fun i d z => ?_, fun i d z => ?_, m.inj⟩
  · obtain ⟨v, z', r⟩ := m.sh i d z
    exact ⟨v, z', r.mono sub⟩
  · have hi : i ∉ vs := fun h => no i h d z
    obtain ⟨a, z', o⟩ := m4.ow i d ((he i hi).trans z)
    exact ⟨a, (hs i hi).symm.trans z', o⟩
theorem sim_lc {is vs : List Nat} {wi : TI} {src : Fm → Rs Sto (List D)} {g : TG} {tg : D → Fm → Option Fm} {tt : TT} {te : TE} {ct : Fm → Rs Sto Bool} {el : Fm → Rs Sto Val} (hi : SimI K W wi src) (hg : SimG K is g tg) (hv : ∀ i ∈ is, i ∈ vs)
    (ht : SimT K noX tt ct) (he : SimE K noX te el) (h0 : 0 ∉ vs := by decide) : SimE K W (tLc wi g tt te vs) (mLc src tg ct el vs) := fun C s σ F H Q e m p => by
  unfold mLc at p
  refine hi C s σ F H _ e m ?_
  cases q : src s with
  | no => rw [q] at p; exact p
  | ex c fs st => rw [q] at p; exact p
  | ok ds st =>
    rw [q, Rs.bind_ok] at p
    by_cases hl : ds.length ≤ line ∧ noOwn s.env vs = true
    · rw [if_pos hl] at p
      obtain ⟨hl, hno⟩ := hl
      have hno := noOwn_ok hno
      intro J F1 H1 s1 m1 wk L nL
      obtain ⟨fL, neL, nhL⟩ := m1.hd.fresh nL
      have nfL : C.F0 L = none := by
        cases q0 : C.F0 L with
        | none => rfl
        | some o => rw [m1.hd.base L o q0] at fL; cases fL
      let Pv : Nat → Hp → Prop := fun i H => ∃ st' F' acc vacc, Sub F1 F' ∧ Mt (C.with L (.lst vacc)) ⟨s.env, st'⟩ σ F' H ∧ RepL C.K C.a0 F' vacc acc ∧ acc.length ≤ i ∧
        PostE C s σ F W ((lcD tg ct el (wipeE s.env vs) (ds.drop i) st' acc).bind fun ys st' => .ok ⟨.fr, .lst ys⟩ st') Q
      have own1 := m1.own_ne nL
      refine ⟨fun i k H => k = ds.length - i ∧ i ≤ ds.length ∧ Pv i H, ⟨ds.length, by simp, Nat.zero_le _, st, F1, [], [], Sub.refl F1, (m1.laid nL).push upd_same fL neL own1, trivial, Nat.le_refl _, by simpa using p⟩, ?_⟩
      rintro i k H' ⟨rfl, hle, st', F', acc, vacc, sub, mt, rl, hal, po⟩
      obtain ⟨mt0, hL, fL', noL⟩ := mt.pop neL nhL nfL
      by_cases hlt : i < ds.length
      · refine .inr ⟨wk.go i H' F' sub mt0.hd.sub hlt, Pv (i + 1), fun H2 z => ⟨ds.length - (i + 1), by omega, rfl, hlt, z⟩, fun x H2 y => ?_⟩
        obtain ⟨d, hd, rs⟩ := wk.yld i H' F' x H2 sub mt0.hd.sub hlt y
        obtain ⟨F2, s2, m2, rv⟩ := Res.go (C := C.with L (.lst vacc)) mt rs
        rw [drop_cons hd] at po
        unfold lcD at po
        cases q2 : tg d ⟨wipeE s.env vs, st'⟩ with
        | none => rw [q2] at po; exact po.elim
        | some s3 =>
          rw [q2] at po
          dsimp only at po
          refine hg (C.with L (.lst vacc)) ⟨wipeE s.env vs, st'⟩ s3 (L2.wipe σ vs) F2 H2 x d _ e (m2.wipe vs h0) rv q2 fun σ3 m3 w3 => ⟨(w3.wipe hv).trans ?_, ?_⟩
          · apply List.ext_getElem?
            intro j
            rw [wipe_get, wipe_get, wipe_length]
            by_cases hj : j ∈ vs ∧ j < σ.length
            · rw [if_pos hj, if_pos hj]
            · rw [if_neg hj, if_neg hj]
          · have eS : ∀ j, j ∉ vs → σ3[j]? = σ[j]? := fun j hj => (w3.slot j fun z => hj (hv j z)).trans (by rw [wipe_get, if_neg fun z => hj z.1])
            have eE : ∀ j, j ∉ vs → s3.env[j]? = s.env[j]? := fun j hj => (w3.env j fun z => hj (hv j z)).trans (by rw [wipeE_get, if_neg fun z => hj z.1])
            refine ht (C.with L (.lst vacc)) s3 σ3 F2 H2 _ e m3 ?_
            cases q3 : ct s3 with
            | no => rw [q3] at po; exact po
            | ex c fs st4 => rw [q3] at po; exact po.elim
            | ok b st4 =>
              rw [q3] at po
              intro F3 H3 s4 m4
              cases b with
              | false =>
                rw [if_neg Bool.false_ne_true]
                exact ⟨st4, F3, acc, vacc, sub.trans (s2.trans s4), m2.back m4 s4 eE eS hno, rl.mono (s2.trans s4), Nat.le_succ_of_le hal, po⟩
              | true =>
                rw [if_pos rfl]
                dsimp only at po
                refine he (C.with L (.lst vacc)) ⟨s3.env, st4⟩ σ3 F3 H3 _ e m4 ?_
                cases q4 : el ⟨s3.env, st4⟩ with
                | no => rw [q4] at po; exact po
                | ex c fs st5 => rw [q4] at po; exact po.elim
                | ok w st5 =>
                  rw [q4] at po
                  intro v F5 H5 s5 m5 r5
                  obtain ⟨kw, dw⟩ := w
                  have fin : ∀ {F6 : Hp}, Sub F5 F6 → Mt (C.with L (.lst vacc)) ⟨s3.env, st5⟩ σ3 F6 H5 → Rep C.K C.a0 F6 v dw →
                      PostE C s σ F W ((lcD tg ct el (wipeE s.env vs) (ds.drop (i + 1)) st5 (acc ++ [dw])).bind fun ys st' => .ok ⟨.fr, .lst ys⟩ st') Q →
                      ∃ acc', H5 L = some (.lst acc') ∧ acc'.length < sizeLine ∧ Pv (i + 1) (upd H5 L (.lst (acc' ++ [v]))) := fun {F6} s6 m6 r6 po => by
                    have mb := m2.back m6 (s4.trans (s5.trans s6)) eE eS hno
                    obtain ⟨mb0, hL5, fL5, noL5⟩ := mb.pop neL nhL nfL
                    have rl6 := rl.mono (s2.trans (s4.trans (s5.trans s6)))
                    refine ⟨vacc, hL5, ?_, st5, F6, acc ++ [dw], vacc ++ [v], sub.trans (s2.trans (s4.trans (s5.trans s6))), ?_, rl6.snoc r6, by simp; omega, po⟩
                    · rw [rl6.len]
                      exact line_lt (Nat.lt_of_le_of_lt hal (Nat.lt_of_lt_of_le hlt hl))
                    · exact (mb0.rewr fL5 neL nhL noL5).push upd_same fL5 neL noL5
                  cases kw with
                  | ow j => exact po.elim
                  | sh => exact fin (Sub.refl F5) m5 r5 po
                  | fr =>
                    obtain ⟨F6, s6, m6, r6⟩ := m5.freezeV r5
                    exact fin s6 m6 r6 po
      · have ei : i = ds.length := by omega
        subst ei
        refine .inl ⟨wk.stop H' F' sub mt0.hd.sub, ?_⟩
        rw [List.drop_length] at po
        exact po (.ref L) F' H' (s1.trans sub) mt0 ⟨L, rfl, ⟨fL', neL, nhL, _, hL, vacc, rfl, rl⟩, noL⟩
    · rw [if_neg hl] at p
      exact p.elim
end
end RX

set_option Elab.async false
set_option linter.all false
set_option maxRecDepth 100000
set_option maxHeartbeats 1000000
/-! RX: the promise of a def, calls, instances made. -/
namespace RX
open PySem PySem.Spec PyProof.Rows L2
/-- a def's told end -/
def RF (C : Cn) (F H : Hp) (w : Val) (v : V) : Prop :=
  match w.k with
  | .sh => Rep C.K C.a0 F v w.d
  | .fr => ∃ a, v = .ref a ∧ OwnAt C F H a w.d
  | .ow _ => False
def PostF (C : Cn) (F : Hp) (r : Rs Sto Val) (Q : VK) (E : XK) : Prop :=
  match r with
  | .ok w st => ∀ v F' H', Sub F F' → Hd C st F' H' → RF C F' H' w v → Q v H'
  | .ex c fs st => ∀ cls d F' H', Sub F F' → Hd C st F' H' → Exn C F' H' c fs cls d → E cls d H'
  | .no => False
/-- the first slot at a start -/
def headS : List V → Option (Option V)
  | [] => none
  | v :: _ => some (some v)
/-- the promise: the value of a function on data and the store -/
def spF (K : PySem.W.Frag) (f : List D → Sto → Rs Sto Val) : Sp := fun vs H Q E => ∃ (C : Cn) (F : Hp) (ds : List D) (st : Sto), C.K = K ∧ C.F0 = F ∧ C.H0 = H ∧ C.s0 = headS vs ∧ Hd C st F H ∧ RepL K C.a0 F vs ds ∧ PostF C F (f ds st) Q E
def isOw (w : Val) : Bool := match w.k with
  | .ow _ => true
  | _ => false
def okOw (w : Val) : Bool := match w.k, w.d with
  | .ow _, .obj _ _ => false
  | _, _ => true
mutual
def pureK : List (Key × D) → Bool
  | [] => true
  | (_, d) :: ds => pureD d && pureK ds
end
/-- nothing that may change lies within (its own container aside, when it is new) -/
def pureW (w : Val) : Bool := match w.k, w.d with
  | .sh, d => pureD d
  | .fr, .lst ds => pureL ds
  | .fr, .obj _ fs => pureF fs
  | _, _ => false
/-- a call's outcome: containers that the caller alone holds may be handed in if they cannot come back -/
def callW (f : List D → Sto → Rs Sto Val) (ws : List Val) (dds : List D) (st : Sto) : Rs Sto Val :=
  match f (ws.map Val.d ++ dds) st with
  | .ok w st' => if ws.any isOw = true then (if (pureW w && ws.all okOw) = true then .ok w st' else .no) else .ok w st'
  | .ex c fs st' => if ws.any isOw = true then .no else .ex c fs st'
  | .no => .no
section
variable {C : Cn} {s : Fm} {σ : L2.St} {F H : Hp}
/-- a's the container of a slot -/
def IsOwn (env : List Slot) (σ : L2.St) (a : Addr) : Prop := ∃ (i : Nat) (d : D), env[i]? = some (.own d) ∧ σ[i]? = some (some (V.ref a))
open Classical in
/-- without what the slots hold alone -/
noncomputable def cutO (env : List Slot) (σ : L2.St) (F : Hp) : Hp := fun a => if IsOwn env σ a then none else F a
theorem cutO_not {env : List Slot} {σ : L2.St} {F : Hp} {a : Addr} (h : ¬ IsOwn env σ a) : cutO env σ F a = F a := by
  unfold cutO; rw [if_neg h]
theorem cutO_own {env : List Slot} {σ : L2.St} {F : Hp} {a : Addr} (h : IsOwn env σ a) : cutO env σ F a = none := by
  unfold cutO; rw [if_pos h]
theorem cutO_some {env : List Slot} {σ : L2.St} {F : Hp} {a : Addr} {o : HO} (h : cutO env σ F a = some o) : ¬ IsOwn env σ a ∧ F a = some o := by
  unfold cutO at h
  split at h
  · cases h
  · exact ⟨by assumption, h⟩
/-- the slots that are handed in are frozen -/
theorem Mt.frzAll (m : Mt C s σ F H) : ∀ (ws : List Val) (vs : List V), RBL C s.env σ F ws vs → ∃ Fc, Sub F Fc ∧ Hd C s.sto Fc H ∧ RepL C.K C.a0 Fc vs (ws.map Val.d) ∧
      (∀ a o, Fc a = some o → F a = some o ∨ ∃ (i : Nat) (d : D), ((⟨.ow i, d⟩ : Val) ∈ ws) ∧ s.env[i]? = some (.own d) ∧ σ[i]? = some (some (V.ref a)) ∧ COf C.K C.a0 Fc o d) := by
  -- by freezing slot after slot
  have key : ∀ (ws : List Val) (vs : List V) (s' : Fm) (G : Hp), s'.sto = s.sto → Sub F G → Mt C s' σ G H → RBL C s.env σ G ws vs →
      (∀ (i : Nat) (d : D), s.env[i]? = some (.own d) → s'.env[i]? = some (.own d) ∨ s'.env[i]? = some (.v d)) →
      (∀ (i : Nat) (d : D), s'.env[i]? = some (.own d) → s.env[i]? = some (.own d)) →
      ∃ Fc, Sub G Fc ∧ Hd C s.sto Fc H ∧ RepL C.K C.a0 Fc vs (ws.map Val.d) ∧
      (∀ a o, Fc a = some o → G a = some o ∨ ∃ (i : Nat) (d : D), ((⟨.ow i, d⟩ : Val) ∈ ws) ∧ s.env[i]? = some (.own d) ∧ σ[i]? = some (some (V.ref a)) ∧ COf C.K C.a0 Fc o d) := by
    intro ws
    induction ws with
    | nil =>
      intro vs s' G es sg mt rb hs hs'
      cases vs with
      | cons _ _ => exact rb.elim
      | nil => exact ⟨G, Sub.refl G, es ▸ mt.hd, trivial, fun a o z => .inl z⟩
    | cons w ws ih =>
      intro vs s' G es sg mt rb hs hs'
      cases vs with
      | nil => exact rb.elim
      | cons v vs =>
        obtain ⟨h, r⟩ := rb
        obtain ⟨k, d⟩ := w
        have plain : Rep C.K C.a0 G v d → ∃ Fc, Sub G Fc ∧ Hd C s.sto Fc H ∧ RepL C.K C.a0 Fc (v :: vs) (((⟨k, d⟩ : Val) :: ws).map Val.d) ∧
            (∀ a o, Fc a = some o → G a = some o ∨ ∃ (i : Nat) (d' : D), ((⟨.ow i, d'⟩ : Val) ∈ (⟨k, d⟩ : Val) :: ws) ∧ s.env[i]? = some (.own d') ∧ σ[i]? = some (some (V.ref a)) ∧ COf C.K C.a0 Fc o d') := fun h => by
          obtain ⟨Fc, s1, hd, rl, nw⟩ := ih vs s' G es sg mt r hs hs'
          refine ⟨Fc, s1, hd, ⟨h.mono s1, rl⟩, fun a o z => (nw a o z).imp id fun ⟨i, d', x1, x2⟩ => ⟨i, d', List.mem_cons_of_mem _ x1, x2⟩⟩
        cases k with
        | sh => exact plain h
        | fr => exact plain h
        | ow i =>
          obtain ⟨e, z⟩ := h
          rcases hs i d e with q | q
          · -- frozen now
            obtain ⟨a, z', f, ne, nh, ho, ea, c⟩ := mt.ow i d q
            have ev : v = .ref a := by
              have := z.symm.trans z'
              simpa using this
            subst ev
            have sub : Sub G (upd G a ho) := Sub.upd f
            have mt2 : Mt C ⟨s'.env.set i (.v d), s'.sto⟩ σ (upd G a ho) H := by
              refine ⟨mt.hd.freeze ea f ne nh, ⟨by simp [mt.len], mt.ln.2⟩, fun j e' q' => ?_, fun j e' q' => ?_, fun j k' e' e'' b q' q'' z1 z2 => ?_⟩
              · dsimp only at q'
                rw [List.getElem?_set] at q'
                by_cases hj : i = j
                · subst hj
                  rw [if_pos rfl] at q'
                  split at q'
                  · cases q'
                    exact ⟨_, z', COf.rep (c.mono sub) upd_same⟩
                  · cases q'
                · rw [if_neg hj] at q'
                  obtain ⟨v', z1, r'⟩ := mt.sh j e' q'
                  exact ⟨v', z1, r'.mono sub⟩
              · dsimp only at q'
                rw [List.getElem?_set] at q'
                by_cases hj : i = j
                · subst hj
                  rw [if_pos rfl] at q'
                  split at q' <;> cases q'
                · rw [if_neg hj] at q'
                  obtain ⟨b, z1, f', ne', nh', ho', eb, c'⟩ := mt.ow j e' q'
                  have hba : b ≠ a := by
                    rintro rfl
                    exact hj (mt.inj i j d e' b q q' z' z1)
                  exact ⟨b, z1, by rw [upd_ne hba]; exact f', ne', nh', ho', eb, c'.mono sub⟩
              · dsimp only at q' q''
                rw [List.getElem?_set] at q' q''
                by_cases hj : i = j
                · rw [if_pos hj] at q'
                  split at q' <;> cases q'
                · by_cases hk : i = k'
                  · rw [if_pos hk] at q''
                    split at q'' <;> cases q''
                  · rw [if_neg hj] at q'
                    rw [if_neg hk] at q''
                    exact mt.inj j k' e' e'' b q' q'' z1 z2
            obtain ⟨Fc, s1, hd, rl, nw⟩ := ih vs ⟨s'.env.set i (.v d), s'.sto⟩ (upd G a ho) es (sg.trans sub) mt2 (r.mono sub)
              (fun j d' q' => by
                dsimp only
                rw [List.getElem?_set]
                by_cases hj : i = j
                · subst hj
                  have : d' = d := by
                    have := e.symm.trans q'
                    simpa using this.symm
                  subst this
                  have hlt : i < s'.env.length := (List.getElem?_eq_some_iff.mp q).1
                  rw [if_pos rfl, if_pos hlt]
                  exact .inr rfl
                · rw [if_neg hj]
                  exact hs j d' q')
              (fun j d' q' => by
                dsimp only at q'
                rw [List.getElem?_set] at q'
                by_cases hj : i = j
                · rw [if_pos hj] at q'
                  split at q' <;> cases q'
                · rw [if_neg hj] at q'
                  exact hs' j d' q')
            refine ⟨Fc, sub.trans s1, hd, ⟨(COf.rep (c.mono sub) upd_same).mono s1, rl⟩, fun b o zb => ?_⟩
            rcases nw b o zb with y | ⟨j, d', y1, y2, y3, y4⟩
            · by_cases hb : b = a
              · subst hb
                rw [upd_same] at y
                cases y
                exact .inr ⟨i, d, List.mem_cons_self, e, z', c.mono (sub.trans s1)⟩
              · rw [upd_ne hb] at y
                exact .inl y
            · exact .inr ⟨j, d', List.mem_cons_of_mem _ y1, y2, y3, y4⟩
          · -- frozen already
            obtain ⟨v', z', rv⟩ := mt.sh i d q
            have ev : v = v' := by
              have := z.symm.trans z'
              simpa using this
            subst ev
            exact plain rv
  intro ws vs rb
  exact key ws vs s F rfl (Sub.refl F) m rb (fun i d h => .inl h) fun i d h => h
theorem any_ow {ws : List Val} {i : Nat} {d : D} (h : (⟨.ow i, d⟩ : Val) ∈ ws) : ws.any isOw = true := List.any_eq_true.mpr ⟨_, h, rfl⟩
/-- behind a call: the slots stand as they stood -/
theorem Mt.called {z0 : Option (Option V)} (m : Mt C s σ F H) {ws : List Val} {Fc : Hp} (sc : Sub F Fc) (hdc : Hd C s.sto Fc H)
    (nw : ∀ a o, Fc a = some o → F a = some o ∨ ∃ (i : Nat) (d : D), ((⟨.ow i, d⟩ : Val) ∈ ws) ∧ s.env[i]? = some (.own d) ∧ σ[i]? = some (some (V.ref a)) ∧ COf C.K C.a0 Fc o d)
    {st' : Sto} {F' H' : Hp} (sub : Sub Fc F') (hd' : Hd { C with F0 := Fc, H0 := H, s0 := z0 } st' F' H') :
    ∃ F3, Sub F F3 ∧ Mt C ⟨s.env, st'⟩ σ F3 H' ∧ (∀ w v, RF { C with F0 := Fc, H0 := H, s0 := z0 } F' H' w v → (ws.any isOw = true → (pureW w && ws.all okOw) = true) → RV C s.env σ F3 H' w v) ∧
      (ws.any isOw = false → ∀ a, F3 a = F' a) := by
  have ownF : ∀ a, IsOwn s.env σ a → F a = none ∧ a ≠ C.a0 ∧ C.H0 a = none ∧ ∃ o, H a = some o := fun a ⟨i, d, e, z⟩ => by
    obtain ⟨b, z', x1, x2, x3, ho, x4, _⟩ := m.ow i d e
    have : V.ref a = V.ref b := by simpa using z.symm.trans z'
    cases this
    exact ⟨x1, x2, x3, ho, x4⟩
  have sub3 : Sub F (cutO s.env σ F') := fun a o z => by
    have hn : ¬ IsOwn s.env σ a := fun h => by rw [(ownF a h).1] at z; cases z
    rw [cutO_not hn]
    exact sub a o (sc a o z)
  have hfr : ∀ a o, H a = some o → a ≠ C.a0 → H' a = some o := hd'.fr
  have fullN : ∀ a o, F' a = some o → (Fc a = some o) ∨ H a = none := hd'.nw
  have hdN : Hd C st' (cutO s.env σ F') H' := by
    refine ⟨fun a o z => hd'.sub a o (cutO_some z).2, fun a o z => sub3 a o (m.hd.base a o z), fun a o z zn => hfr a o (m.hd.fr a o z zn) zn, fun a o z => ?_, ?_, hd'.sto, hd'.cells, m.hd.cel, m.hd.z0⟩
    · obtain ⟨no, z'⟩ := cutO_some z
      rcases fullN a o z' with y | y
      · rcases nw a o y with q | ⟨i, d, _, e, e', _⟩
        · exact m.hd.nw a o q
        · exact absurd ⟨i, d, e, e'⟩ no
      · refine .inr ?_
        cases q : C.H0 a with
        | none => rfl
        | some u =>
          have ha : a ≠ C.a0 := by
            rintro rfl
            have : F' C.a0 = none := hd'.f0
            rw [this] at z'; cases z'
          rw [m.hd.fr a u q ha] at y; cases y
    · by_cases h : IsOwn s.env σ C.a0
      · rw [cutO_own h]
      · rw [cutO_not h]; exact hd'.f0
  have mt3 : Mt C ⟨s.env, st'⟩ σ (cutO s.env σ F') H' := by
    refine ⟨hdN, m.ln, fun i d z => ?_, fun i d z => ?_, m.inj⟩
    · obtain ⟨v, z', r⟩ := m.sh i d z
      exact ⟨v, z', r.mono sub3⟩
    · obtain ⟨a, z', x1, x2, x3, ho, x4, x5⟩ := m.ow i d z
      exact ⟨a, z', cutO_own ⟨i, d, z, z'⟩, x2, x3, ho, hfr a ho x4 x2, x5.mono sub3⟩
  have same : ws.any isOw = false → ∀ a, cutO s.env σ F' a = F' a := fun hno a => by
    by_cases h : IsOwn s.env σ a
    · rw [cutO_own h]
      obtain ⟨f, ne, _, o, ho⟩ := ownF a h
      cases q : F' a with
      | none => rfl
      | some u =>
        rcases fullN a u q with y | y
        · rcases nw a u y with y | ⟨i, d, hi, _⟩
          · rw [f] at y; cases y
          · rw [any_ow hi] at hno; cases hno
        · rw [ho] at y; cases y
    · exact cutO_not h
  -- what is frozen of ours is a list or a dict
  have kind : (ws.any isOw = true → ws.all okOw = true) → ∀ a o, IsOwn s.env σ a → F' a = some o → (∃ xs, o = .lst xs) ∨ ∃ ks, o = .dK ks := fun hk a o h q => by
    obtain ⟨f, ne, _, u, hu⟩ := ownF a h
    rcases fullN a o q with y | y
    · rcases nw a o y with y | ⟨i, d, hi, _, _, c⟩
      · rw [f] at y; cases y
      · have ok := List.all_eq_true.mp (hk (any_ow hi)) _ hi
        cases d with
        | lst ds => obtain ⟨vs, e, _⟩ := c; exact .inl ⟨vs, e⟩
        | dic ds => obtain ⟨vs, e, _⟩ := c; exact .inr ⟨vs, e⟩
        | obj c' fs => simp [okOw] at ok
        | _ => exact c.elim
    · rw [hu] at y; cases y
  refine ⟨cutO s.env σ F', sub3, mt3, fun w v rf hp => ?_, same⟩
  by_cases hany : ws.any isOw = true
  · have hp' := hp hany
    rw [Bool.and_eq_true] at hp'
    have kd := kind fun _ => hp'.2
    have hT : ∀ a vs, SqT C.K F' a vs → SqT C.K (cutO s.env σ F') a vs := fun a vs h => by
      rcases h with (h | ⟨ob, h⟩) | h
      · refine .inl (.inl ?_)
        rw [cutO_not fun z => by rcases kd a _ z h with ⟨_, e⟩ | ⟨_, e⟩ <;> cases e]
        exact h
      · refine .inl (.inr ⟨ob, ?_⟩)
        rw [cutO_not fun z => by rcases kd a _ z h with ⟨_, e⟩ | ⟨_, e⟩ <;> cases e]
        exact h
      · exact .inr h
    have hI : ∀ a D dx fs, F' a = some (.ins D dx fs) → cutO s.env σ F' a = some (.ins D dx fs) := fun a D dx fs h => by
      rw [cutO_not fun z => by rcases kd a _ z h with ⟨_, e⟩ | ⟨_, e⟩ <;> cases e]
      exact h
    obtain ⟨k, d⟩ := w
    cases k with
    | ow j => exact rf.elim
    | sh =>
      have pd : pureD d = true := hp'.1
      exact rep_map false hT hI (fun h => nomatch h) (fun h => nomatch h) d v (.inr pd) rf
    | fr =>
      obtain ⟨a, rfl, f, ne, nh, ho, e, c⟩ := rf
      have nh' : H a = none := nh
      have nown : ¬ IsOwn s.env σ a := fun h => by
        obtain ⟨_, _, _, o, ho⟩ := ownF a h
        rw [ho] at nh'; cases nh'
      refine ⟨a, rfl, ⟨?_, ne, ?_, ho, e, ?_⟩, fun i d' e' z => nown ⟨i, d', e', z⟩⟩
      · rw [cutO_not nown]; exact f
      · cases q : C.H0 a with
        | none => rfl
        | some u => rw [m.hd.fr a u q ne] at nh'; cases nh'
      · have pw := hp'.1
        cases d with
        | lst ds =>
          obtain ⟨vs, e1, r⟩ := c
          exact ⟨vs, e1, repL_map false hT hI (fun h => nomatch h) (fun h => nomatch h) ds vs (.inr pw) r⟩
        | obj cc fs =>
          obtain ⟨dx, vs, e1, r⟩ := c
          exact ⟨dx, vs, e1, repF_map false hT hI (fun h => nomatch h) (fun h => nomatch h) fs vs (.inr pw) r⟩
        | _ => simp [pureW] at pw
  · have hany' : ws.any isOw = false := by
      cases q : ws.any isOw with
      | true => exact absurd q hany
      | false => rfl
    have eqF : cutO s.env σ F' = F' := funext (same hany')
    rw [eqF]
    obtain ⟨k, d⟩ := w
    cases k with
    | ow j => exact rf.elim
    | sh => exact rf
    | fr =>
      obtain ⟨a, rfl, f, ne, nh, ho, e, c⟩ := rf
      have nh' : H a = none := nh
      refine ⟨a, rfl, ⟨f, ne, ?_, ho, e, c⟩, fun i d' e' z => ?_⟩
      · cases q : C.H0 a with
        | none => rfl
        | some u => rw [m.hd.fr a u q ne] at nh'; cases nh'
      · obtain ⟨_, _, _, o, ho⟩ := ownF a ⟨i, d', e', z⟩
        rw [ho] at nh'; cases nh'
/-- the callee's ground -/
theorem Hd.ground {z0 : Option (Option V)} (h : Hd C s.sto F H) : Hd { C with F0 := F, H0 := H, s0 := z0 } s.sto F H :=
  ⟨h.sub, Sub.refl F, fun a o z _ => z, fun a o z => .inl z, h.f0, h.sto, h.cells, (h.base.sqL h.cel : SqL C.K F C.c0 _), ⟨_, h.sto⟩⟩
end
theorem RepL.append {K : PySem.W.Frag} {a0 : Addr} {F : Hp} : ∀ {vs us : List V} {ds es : List D}, RepL K a0 F vs ds → RepL K a0 F us es → RepL K a0 F (vs ++ us) (ds ++ es)
  | [], _, [], _, _, k => k
  | [], _, _ :: _, _, h, _ => h.elim
  | _ :: _, _, [], _, h, _ => h.elim
  | _ :: _, _, _ :: _, _, ⟨h, r⟩, k => ⟨h, RepL.append r k⟩
section
variable {K : PySem.W.Frag} {W : WX}
/-- what a caller shows of spF, behind its arguments -/
theorem call_go {C : Cn} {s : Fm} {σ : L2.St} {F F1 H1 : Hp} {st : Sto} {f : List D → Sto → Rs Sto Val} {ws : List Val} {vs dvs : List V} {dds : List D} {Q : VK} {E : XK} (e : C.K = K) (s1 : Sub F F1) (m1 : Mt C ⟨s.env, st⟩ σ F1 H1)
    (r1 : RBL C s.env σ F1 ws vs) (hd : ∀ a0 F, RepL K a0 F dvs dds) (hE : ∀ cls d H, W cls d σ H → E cls d H) (p : PostE C s σ F W (callW f ws dds st) Q) : spF K f (vs ++ dvs) H1 Q E := by
  obtain ⟨Fc, sc, hdc, rl, nw⟩ := Mt.frzAll (s := ⟨s.env, st⟩) m1 ws vs r1
  refine ⟨{ C with F0 := Fc, H0 := H1, s0 := headS (vs ++ dvs) }, Fc, ws.map Val.d ++ dds, st, e, rfl, rfl, rfl, Hd.ground (s := ⟨s.env, st⟩) hdc, by subst e; exact rl.append (hd _ _), ?_⟩
  unfold callW at p
  unfold PostF
  cases q : f (ws.map Val.d ++ dds) st with
  | no => rw [q] at p; exact p
  | ex c fs st' =>
    rw [q] at p
    dsimp only at p
    intro cls d F' H' sub hd' ex
    obtain ⟨F3, s3, m3, _, same⟩ := Mt.called (s := ⟨s.env, st⟩) m1 sc hdc nw sub hd'
    by_cases hany : ws.any isOw = true
    · rw [if_pos hany] at p; exact p.elim
    · rw [if_neg hany] at p
      have eqF : F3 = F' := funext (same (by
        cases q : ws.any isOw with
        | true => exact absurd q hany
        | false => rfl))
      subst eqF
      exact hE _ _ _ (p cls d F3 H' (s1.trans s3) m3 ex)
  | ok w st' =>
    rw [q] at p
    dsimp only at p
    intro v F' H' sub hd' rf
    obtain ⟨F3, s3, m3, rv, same⟩ := Mt.called (s := ⟨s.env, st⟩) m1 sc hdc nw sub hd'
    by_cases hany : ws.any isOw = true
    · rw [if_pos hany] at p
      by_cases hp : (pureW w && ws.all okOw) = true
      · rw [if_pos hp] at p
        exact p v F3 H' (s1.trans s3) m3 (rv w v rf fun _ => hp)
      · rw [if_neg hp] at p; exact p.elim
    · rw [if_neg hany] at p
      exact p v F3 H' (s1.trans s3) m3 (rv w v rf fun z => absurd z hany)
def mCall (f : List D → Sto → Rs Sto Val) (dds : List D) (a : Fm → Rs Sto (List Val)) : Fm → Rs Sto Val := fun s => (a s).bind fun ws st => callW f ws dds st
theorem sim_call {f : List D → Sto → Rs Sto Val} {dvs : List V} {dds : List D} {E : XK} {ta : TA} {a : Fm → Rs Sto (List Val)} (ha : SimA K W ta a) (hd : ∀ a0 F, RepL K a0 F dvs dds) (hE : ∀ cls d σ H, W cls d σ H → E cls d H) :
    SimE K W (tCall (spF K f) dvs E ta) (mCall f dds a) := fun C s σ F H Q e m p => by
  unfold mCall at p
  refine ha C s σ F H _ e m ?_
  cases q : a s with
  | no => rw [q] at p; exact p
  | ex c fs st => rw [q] at p; exact p
  | ok ws st =>
    rw [q, Rs.bind_ok] at p
    exact fun vs F1 H1 s1 m1 r1 => call_go (E := E) e s1 m1 r1 hd (fun cls d H => hE cls d σ H) p
/-- .. where what is raised is wished for at the slots -/
theorem sim_callS {f : List D → Sto → Rs Sto Val} {ta : TA} {a : Fm → Rs Sto (List Val)} (ha : SimA K W ta a) : SimE K W (tCallS (spF K f) (WE W) ta) (mCall f [] a) := fun C s σ F H Q e m p => by
  unfold mCall at p
  refine ha C s σ F H _ e m ?_
  cases q : a s with
  | no => rw [q] at p; exact p
  | ex c fs st => rw [q] at p; exact p
  | ok ws st =>
    rw [q, Rs.bind_ok] at p
    intro vs F1 H1 s1 m1 r1
    have := call_go (E := WE W σ) (dvs := []) (dds := []) e s1 m1 r1 (fun _ _ => trivial) (fun cls d H h => h) p
    rw [List.append_nil] at this
    exact this
end
/-! ### a def keeps the promise of its body -/
def outF (r : Rs Fm Fl) : Rs Sto Val := match r with
  | .ok (.ret ⟨.ow _, d⟩) s => .ok ⟨.fr, d⟩ s.sto
  | .ok (.ret w) s => .ok w s.sto
  | .ok .nx s => .ok ⟨.sh, .non⟩ s.sto
  | .ok _ _ => .no
  | .ex c fs s => .ex c fs s.sto
  | .no => .no
/-- the slots at a def's start: np parameters, n names -/
def startE (n : Nat) (ds : List D) : List Slot := ds.map Slot.v ++ List.replicate (n - ds.length) .emp
def fnM (np n : Nat) (m : Fm → Rs Fm Fl) : List D → Sto → Rs Sto Val := fun ds st => if ds.length = np then outF (m ⟨startE n ds, st⟩) else .no
theorem RepL.get {K : PySem.W.Frag} {a0 : Addr} {F : Hp} : ∀ {vs : List V} {ds : List D} {i : Nat} {d : D}, RepL K a0 F vs ds → ds[i]? = some d → ∃ v, vs[i]? = some v ∧ Rep K a0 F v d
  | [], [], _, _, _, e => by simp at e
  | [], _ :: _, _, _, h, _ => h.elim
  | _ :: _, [], _, _, h, _ => h.elim
  | v :: _, _ :: _, 0, _, ⟨h, _⟩, e => by simp at e; subst e; exact ⟨v, rfl, h⟩
  | _ :: _, _ :: _, i + 1, d, ⟨_, r⟩, e => by
    obtain ⟨v, q, h⟩ := RepL.get (i := i) (d := d) r (by simpa using e)
    exact ⟨v, by simpa using q, h⟩
theorem startE_get {n : Nat} {ds : List D} {i : Nat} {x : Slot} (h : (startE n ds)[i]? = some x) : (∃ d, ds[i]? = some d ∧ x = .v d) ∨ x = .emp := by
  unfold startE at h
  rw [List.getElem?_append] at h
  split at h
  · rw [List.getElem?_map] at h
    cases q : ds[i]? with
    | none => rw [q] at h; cases h
    | some d =>
      rw [q] at h
      exact .inl ⟨d, rfl, (Option.some.inj h).symm⟩
  · rw [List.getElem?_replicate] at h
    split at h
    · exact .inr (Option.some.inj h).symm
    · cases h
theorem Mt.start {C : Cn} {st : Sto} {F H : Hp} {N : List Str} {vs : List V} {ds : List D} (h : Hd C st F H) (r : RepL C.K C.a0 F vs ds) (h0 : (L2.start N vs)[0]? = C.s0) : Mt C ⟨startE N.length ds, st⟩ (L2.start N vs) F H := by
  refine ⟨h, ⟨?_, h0⟩, fun i d q => ?_, fun i d q => ?_, fun i j d d' a q => ?_⟩
  · unfold startE L2.start
    rw [List.length_append, List.length_append, List.length_map, List.length_map, List.length_replicate, List.length_replicate, r.len]
  · rcases startE_get q with ⟨d', e, z⟩ | z
    · cases z
      obtain ⟨v, e', hr⟩ := r.get e
      refine ⟨v, ?_, hr⟩
      unfold L2.start
      have hi : i < vs.length := (List.getElem?_eq_some_iff.mp e').1
      rw [List.getElem?_append_left (by simpa using hi), List.getElem?_map, e']
      rfl
    · cases z
  · rcases startE_get q with ⟨d', e, z⟩ | z <;> cases z
  · rcases startE_get q with ⟨d', e, z⟩ | z <;> cases z
theorem start_head {N : List Str} {vs : List V} {z : Option (Option V)} (h : 0 < vs.length) (hz : z = headS vs) : (L2.start N vs)[0]? = z := by
  subst hz
  match vs, h with
  | v :: us, _ => rfl
/-- a body that is simulated keeps the promise -/
theorem spF_body {K : PySem.W.Frag} {N : List Str} {np : Nat} {m : Fm → Rs Fm Fl} {t : TS} {vs : List V} {H : Hp} {Q : VK} {E : XK} (h : SimS K (fun cls d _ H => E cls d H) t m) (hnp : 0 < np) (hsp : spF K (fnM np N.length m) vs H Q E) :
    t { nx := fun _ H' => Q .non H', rt := Q } (L2.start N vs) H := by
  obtain ⟨C, F, ds, st, e, ef, eh, hz, hd, r, p⟩ := hsp
  unfold fnM at p
  by_cases hl : ds.length = np
  · rw [if_pos hl] at p
    subst e
    refine h C ⟨startE N.length ds, st⟩ (L2.start N vs) F H _ rfl (Mt.start hd r (start_head (by rw [r.len, hl]; exact hnp) hz)) ?_
    unfold outF at p
    cases q : m ⟨startE N.length ds, st⟩ with
    | no => rw [q] at p; exact p
    | ex c fs s' => rw [q] at p; exact fun cls d σ' F' H' s1 m1 x => p cls d F' H' s1 m1.hd x
    | ok fl s' =>
      rw [q] at p
      cases fl with
      | nx => exact fun σ' F' H' s1 m1 => p .non F' H' s1 m1.hd rfl
      | bk => exact p.elim
      | ct => exact p.elim
      | ret w =>
        obtain ⟨k, d⟩ := w
        cases k with
        | sh => exact fun v σ' F' H' s1 m1 rv => p v F' H' s1 m1.hd rv
        | fr =>
          intro v σ' F' H' s1 m1 rv
          obtain ⟨a, ev, o, _⟩ := rv
          exact p v F' H' s1 m1.hd ⟨a, ev, o⟩
        | ow i =>
          intro v σ' F' H' s1 m1 rv
          obtain ⟨e1, z⟩ := rv
          obtain ⟨a, z', o⟩ := m1.ow i d e1
          have ev : v = .ref a := by
            have := z.symm.trans z'
            simpa using this
          exact p v F' H' s1 m1.hd ⟨a, ev, o⟩
  · rw [if_neg hl] at p
    exact p.elim
theorem spF_len {K : PySem.W.Frag} {np n : Nat} {m : Fm → Rs Fm Fl} {vs : List V} {H : Hp} {Q : VK} {E : XK} (h : spF K (fnM np n m) vs H Q E) : vs.length = np := by
  obtain ⟨C, F, ds, st, e, ef, eh, hz, hd, r, p⟩ := h
  unfold fnM at p
  by_cases hl : ds.length = np
  · rw [r.len, hl]
  · rw [if_neg hl] at p
    exact p.elim
/-- the def at f keeps the promise of its body -/
theorem fn_ok {CX : CXT} {P : Program} {w : PySem.World} {K : PySem.W.Frag} {mg : Str → Option Value} {base : Heap} {x qual : Str} {params : Arguments} {body : List Stmt} {scope : Scope} {dvs : List V} {kws : List (Str × V)} {f : Addr} {fd : FuncData} {N ps : List Str} {k : Nat} {m : Fm → Rs Fm Fl}
    (F : FunD K x qual params body scope dvs kws f fd) (S : FnScope N ps scope) (hnp : 0 < ps.length)
    (hb : ∀ (cdv : Value) (A : Around) (outer : List Env) (s : Shared) (H : Hp) (E : XK), Room k (A.deeper (envOfC qual scope s.heap.objs.size f cdv)) →
      ∃ t, PSs (cxOf CX P w K mg base N qual scope f cdv A outer s H E) body t ∧ SimS K (fun cls d _ H => E cls d H) t m) :
    FnOk P w K mg base CX (k + 1) f fd ps (spF K (fnM ps.length N.length m)) := by
  refine F.ok S (fun vs H Q E h => spF_len h) fun cdv A outer s H vs Q E hr h => ?_
  obtain ⟨t, ht, hs⟩ := hb cdv A outer s H E hr
  exact ⟨t, ht, spF_body hs hnp h⟩
end RX

set_option Elab.async false
set_option linter.all false
set_option maxRecDepth 100000
set_option maxHeartbeats 1000000
/-! RX: what loops walk. -/
namespace RX
open PySem PySem.Spec PyProof.Rows L2
/-- a list, a tuple or a text is walked -/
def iSeq (K : PySem.W.Frag) (tl : TE) : TI := fun σ H R => tl σ H fun x H1 => (∃ a, x = .ref a ∧ (∃ xs, SqL K H1 a xs) ∧ R (Itl K a) H1) ∨ (∃ a, x = .ref a ∧ (∃ xs, SqT K H1 a xs) ∧ R (Itt K a) H1) ∨ ∃ z, x = .str z ∧ R (Its z) H1
theorem pi_seq {X : Cx} {tg l : Expr} {tl : TE} (hl : PE X l tl) : PI X tg l (iSeq X.K tl) := by
  refine ⟨fun pins s σ H R I h => ?_⟩
  refine thn (hl.run pins s σ H _ I h) fun v s1 ⟨x, H1, I1, r1, q1⟩ => ?_
  rcases q1 with ⟨a, e, ⟨xs, hq⟩, q⟩ | ⟨a, e, ⟨xs, hq⟩, q⟩ | ⟨z, e, q⟩
  · subst e
    cases r1
    obtain ⟨its, rv, p, hz⟩ := I1.list hq
    refine wpAny_pyIter_list p.isList ?_
    exact pi_one (tk := s1.toks) I1 _ (turn_list a _) ⟨_, Heap.get?_push_size _ rfl, rfl, rfl⟩ q
  · subst e
    cases r1
    obtain ⟨its, rv, p, hz⟩ := I1.tuple hq
    refine wpAny_pyIter_tuple (show s1.heap.IsTuple a its.toArray from p) ?_
    exact pi_one (tk := s1.toks) I1 _ (turn_tuple a _) ⟨_, Heap.get?_push_size _ rfl, rfl, rfl⟩ q
  · subst e
    obtain ⟨t, rfl⟩ := r1
    cases ha : z.cps.all (· < 128)
    · exact wpAny_pyIter_wide ha (pi_one (tk := s1.toks) I1 _ (turn_str _ z t "str_iterator" (.inr rfl)) ⟨_, Heap.get?_push_size _ rfl, rfl, rfl⟩ q)
    · exact wpAny_pyIter_ascii ha (pi_one (tk := s1.toks) I1 _ (turn_str _ z t "str_ascii_iterator" (.inl rfl)) ⟨_, Heap.get?_push_size _ rfl, rfl, rfl⟩ q)
/-- the signs of a text -/
def signs (z : Str) : List D := z.cps.toList.map fun c => .str ⟨#[c]⟩
def seqD : D → Option (List D)
  | .lst ds => some ds
  | .tup ds => some ds
  | .str z => some (signs z)
  | _ => none
def mSrc (f : D → Option (List D)) (a : Fm → Rs Sto Val) : Fm → Rs Sto (List D) := fun s => (a s).bind fun w st => match w.k with
  | .ow _ => .no
  | _ => match f w.d with
    | some ds => .ok ds st
    | none => .no
section
variable {K : PySem.W.Frag} {W : WX} {C : Cn} {F : Hp}
theorem RepL.at {a0 : Addr} {vs : List V} {ds : List D} (r : RepL K a0 F vs ds) {i : Nat} {v : V} (h : vs[i]? = some v) : ∃ d, ds[i]? = some d ∧ Rep K a0 F v d := by
  have hi : i < vs.length := (List.getElem?_eq_some_iff.mp h).1
  rw [r.len] at hi
  obtain ⟨v', e, hr⟩ := r.get (List.getElem?_eq_getElem hi)
  rw [h] at e
  cases e
  exact ⟨_, List.getElem?_eq_getElem hi, hr⟩
theorem wk_list {a : Addr} {vs : List V} {ds : List D} (e : C.K = K) (h : F a = some (.lst vs)) (r : RepL C.K C.a0 F vs ds) : Wk C (Itl K a) F ds := by
  subst e
  refine ⟨fun H F' s1 s2 => ⟨vs, SqL.of (s2 _ _ (s1 _ _ h)), by rw [r.len]; exact Nat.le_refl _⟩, fun i H F' s1 s2 hi => ?_, fun i H F' x H' s1 s2 hi y => ?_⟩
  · have hi' : i < vs.length := by rw [r.len]; exact hi
    exact ⟨vs, vs[i], SqL.of (s2 _ _ (s1 _ _ h)), List.getElem?_eq_getElem hi'⟩
  · obtain ⟨e, y⟩ := y
    subst e
    obtain ⟨d, e, hr⟩ := r.at (y vs (SqL.of (s2 _ _ (s1 _ _ h))))
    exact ⟨d, e, .old (hr.mono s1)⟩
theorem wk_tup {a : Addr} {vs : List V} {ds : List D} (e : C.K = K) (h : SqT K F a vs) (r : RepL C.K C.a0 F vs ds) : Wk C (Itt K a) F ds := by
  subst e
  refine ⟨fun H F' s1 s2 => ⟨vs, s2.sqT (s1.sqT h), by rw [r.len]; exact Nat.le_refl _⟩, fun i H F' s1 s2 hi => ?_, fun i H F' x H' s1 s2 hi y => ?_⟩
  · have hi' : i < vs.length := by rw [r.len]; exact hi
    exact ⟨vs, vs[i], s2.sqT (s1.sqT h), List.getElem?_eq_getElem hi'⟩
  · obtain ⟨e, y⟩ := y
    subst e
    obtain ⟨d, e, hr⟩ := r.at (y vs (s2.sqT (s1.sqT h)))
    exact ⟨d, e, .old (hr.mono s1)⟩
theorem wk_str {z : Str} : Wk C (Its z) F (signs z) := by
  refine ⟨fun H F' s1 s2 => ?_, fun i H F' s1 s2 hi => ?_, fun i H F' x H' s1 s2 hi y => ?_⟩
  · show z.cps.size ≤ (signs z).length
    simp [signs]
  · show i < z.cps.size
    simpa [signs] using hi
  · obtain ⟨e, c, h, ex⟩ := y
    subst e ex
    refine ⟨.str ⟨#[c]⟩, ?_, .old rfl⟩
    unfold signs
    rw [List.getElem?_map, Array.getElem?_toList, h]
    rfl
theorem sim_src {f : D → Option (List D)} {a : Fm → Rs Sto Val} {tl : TE} {P : V → Hp → (It → Hp → Prop) → Prop} (ha : SimE K W tl a)
    (hf : ∀ (C : Cn) (F H : Hp) (x : V) (d : D) (ds : List D) (R : It → Hp → Prop), C.K = K → Sub F H → Rep C.K C.a0 F x d → f d = some ds → (∀ J, Wk C J F ds → R J H) → P x H R) : SimI K W (fun σ H R => tl σ H fun x H1 => P x H1 R) (mSrc f a) := fun C s σ F H R e m p => by
  unfold mSrc at p
  refine ha.then (β := Unit) e m (fun w st q v F1 H1 s1 m1 r1 => ?_) (fun c fs st q => by rw [q] at p; exact p) (fun q => by rw [q] at p; exact p)
  rw [q, Rs.bind_ok] at p
  obtain ⟨k, d⟩ := w
  cases k with
  | ow i => exact p.elim
  | sh =>
    dsimp only at p
    cases q2 : f d with
    | none => rw [q2] at p; exact p.elim
    | some ds =>
      rw [q2] at p
      exact hf C F1 H1 v d ds R e m1.hd.sub r1 q2 fun J wk => p J F1 H1 s1 m1 wk
  | fr =>
    dsimp only at p
    cases q2 : f d with
    | none => rw [q2] at p; exact p.elim
    | some ds =>
      rw [q2] at p
      exact hf C F1 H1 v d ds R e m1.hd.sub r1 q2 fun J wk => p J F1 H1 s1 m1 wk
theorem sim_seqI {tl : TE} {a : Fm → Rs Sto Val} (ha : SimE K W tl a) : SimI K W (iSeq K tl) (mSrc seqD a) :=
  sim_src (P := fun x H1 R => (∃ a, x = .ref a ∧ (∃ xs, SqL K H1 a xs) ∧ R (Itl K a) H1) ∨ (∃ a, x = .ref a ∧ (∃ xs, SqT K H1 a xs) ∧ R (Itt K a) H1) ∨ ∃ z, x = .str z ∧ R (Its z) H1) ha
    fun C F H x d ds R e sub r q k => by
      cases d with
      | lst es =>
        cases q
        obtain ⟨a, vs, rfl, h, rl⟩ := r
        exact .inl ⟨a, rfl, ⟨vs, SqL.of (sub _ _ h)⟩, k _ (wk_list e h rl)⟩
      | tup es =>
        cases q
        obtain ⟨a, vs, rfl, h, rl⟩ := r
        subst e
        exact .inr (.inl ⟨a, rfl, ⟨vs, sub.sqT h⟩, k _ (wk_tup rfl h rl)⟩)
      | str z =>
        cases q
        exact .inr (.inr ⟨z, r, k _ wk_str⟩)
      | _ => cases q
/-! ### ranges -/
def rngD (lo : Int) (n : Nat) : List D := (List.range n).map fun (i : Nat) => .int (lo + i)
theorem wk_rng {lo : Int} {n : Nat} : Wk C (Itr lo n) F (rngD lo n) := by
  refine ⟨fun H F' s1 s2 => ?_, fun i H F' s1 s2 hi => ?_, fun i H F' x H' s1 s2 hi y => ?_⟩
  · show n ≤ (rngD lo n).length
    simp [rngD]
  · show i < n
    simpa [rngD] using hi
  · obtain ⟨e, ex⟩ := y
    subst e ex
    have hi' : i < n := by simpa [rngD] using hi
    refine ⟨.int (lo + i), ?_, .old rfl⟩
    unfold rngD
    rw [List.getElem?_map, List.getElem?_range hi']
    rfl
def big : Int := 1000000000000
/-- a bound of a range that stays closed to the kernel while the number is not told -/
def smR (i : Int) : Bool := Nat.ble i.natAbs 1000000
def mRng (a : Fm → Rs Sto (List Val)) : Fm → Rs Sto (List D) := fun s => (a s).bind fun ws st => match ws.map Val.d with
  | [.int j] => if smR j = true then .ok (rngD 0 j.toNat) st else .no
  | [.int i, .int j] => if (smR i = true) ∧ smR j = true then .ok (rngD i (j - i).toNat) st else .no
  | _ => .no
theorem SimA.then {ta : TA} {a : Fm → Rs Sto (List Val)} (ha : SimA K W ta a) {s : Fm} {σ : L2.St} {H : Hp} {Q : List V → Hp → Prop} (e : C.K = K) (m : Mt C s σ F H)
    (hok : ∀ ws st, a s = .ok ws st → ∀ vs F' H', Sub F F' → Mt C ⟨s.env, st⟩ σ F' H' → RBL C s.env σ F' ws vs → Q vs H')
    (hex : ∀ c fs st, a s = .ex c fs st → ∀ cls d F' H', Sub F F' → Mt C ⟨s.env, st⟩ σ F' H' → Exn C F' H' c fs cls d → W cls d σ H') (hno : a s ≠ .no) : ta σ H Q := by
  refine ha C s σ F H Q e m ?_
  unfold PostA
  cases q : a s with
  | ok w st => exact hok w st q
  | ex c fs st => exact hex c fs st q
  | no => exact hno q
theorem rhl1 {a0 : Addr} {F H : Hp} {vs : List V} {d : D} (h : RHL K a0 F H vs [d]) : ∃ v, vs = [v] ∧ RH K a0 F H v d := by
  match vs, h with
  | [v], ⟨h, _⟩ => exact ⟨v, rfl, h⟩
theorem rhl2 {a0 : Addr} {F H : Hp} {vs : List V} {d e : D} (h : RHL K a0 F H vs [d, e]) : ∃ v u, vs = [v, u] ∧ RH K a0 F H v d ∧ RH K a0 F H u e := by
  match vs, h with
  | [v, u], ⟨h, h', _⟩ => exact ⟨v, u, rfl, h, h'⟩
theorem rhl3 {a0 : Addr} {F H : Hp} {vs : List V} {d e f : D} (h : RHL K a0 F H vs [d, e, f]) : ∃ v u w, vs = [v, u, w] ∧ RH K a0 F H v d ∧ RH K a0 F H u e ∧ RH K a0 F H w f := by
  match vs, h with
  | [v, u, w], ⟨h, h', h'', _⟩ => exact ⟨v, u, w, rfl, h, h', h''⟩
theorem big_ok {i : Int} (h : smR i = true) : -(2 ^ 62) ≤ i ∧ i < 2 ^ 62 := by
  have h : i.natAbs ≤ 1000000 := Nat.le_of_ble_eq_true h
  omega
theorem sim_rng1 {ta : TA} {a : Fm → Rs Sto (List Val)} (ha : SimA K W ta a) (h1 : ∀ s ws st, a s = .ok ws st → ws.length = 1) : SimI K W (iRng1 ta) (mRng a) := fun C s σ F H R e m p => by
  unfold mRng at p
  refine ha.then e m (fun ws st q vs F1 H1 s1 m1 r1 => ?_) (fun c fs st q => by rw [q] at p; exact p) (fun q => by rw [q] at p; exact p)
  rw [q, Rs.bind_ok] at p
  have hl := h1 s ws st q
  match ws, hl with
  | [w], _ =>
    obtain ⟨k, d⟩ := w
    cases d with
    | int j =>
      have rh := r1.rh m1
      obtain ⟨v, ev, rv⟩ := rhl1 rh
      subst ev
      by_cases hb : smR j = true
      · have p' : PostI C s σ F W (.ok (rngD 0 j.toNat) st) R := by
          have : (if smR j = true then (.ok (rngD 0 j.toNat) st : Rs Sto (List D)) else .no) = .ok (rngD 0 j.toNat) st := if_pos hb
          rw [← this]; exact p
        have ev : v = .int j := rv
        subst ev
        exact ⟨j, rfl, (big_ok hb).1, (big_ok hb).2, p' _ F1 H1 s1 m1 wk_rng⟩
      · have p' : PostI C s σ F W .no R := by
          have : (if smR j = true then (.ok (rngD 0 j.toNat) st : Rs Sto (List D)) else .no) = .no := if_neg hb
          rw [← this]; exact p
        exact p'.elim
    | _ => exact p.elim
theorem sim_rng2 {ta : TA} {a : Fm → Rs Sto (List Val)} (ha : SimA K W ta a) (h1 : ∀ s ws st, a s = .ok ws st → ws.length = 2) : SimI K W (iRng2 ta) (mRng a) := fun C s σ F H R e m p => by
  unfold mRng at p
  refine ha.then e m (fun ws st q vs F1 H1 s1 m1 r1 => ?_) (fun c fs st q => by rw [q] at p; exact p) (fun q => by rw [q] at p; exact p)
  rw [q, Rs.bind_ok] at p
  have hl := h1 s ws st q
  match ws, hl with
  | [w, w'], _ =>
    obtain ⟨k, d⟩ := w
    obtain ⟨k', d'⟩ := w'
    cases d with
    | int i =>
      cases d' with
      | int j =>
        have rh := r1.rh m1
        obtain ⟨v, u, ev, rv, ru⟩ := rhl2 rh
        subst ev
        by_cases hb : (smR i = true) ∧ smR j = true
        · have p' : PostI C s σ F W (.ok (rngD i (j - i).toNat) st) R := by
            have : (if (smR i = true) ∧ smR j = true then (.ok (rngD i (j - i).toNat) st : Rs Sto (List D)) else .no) = .ok (rngD i (j - i).toNat) st := if_pos hb
            rw [← this]; exact p
          have ev : v = .int i := rv
          have eu : u = .int j := ru
          subst ev eu
          exact ⟨i, j, rfl, ⟨(big_ok hb.1).1, (big_ok hb.1).2, (big_ok hb.2).1, (big_ok hb.2).2⟩, p' _ F1 H1 s1 m1 wk_rng⟩
        · have p' : PostI C s σ F W .no R := by
            have : (if (smR i = true) ∧ smR j = true then (.ok (rngD i (j - i).toNat) st : Rs Sto (List D)) else .no) = .no := if_neg hb
            rw [← this]; exact p
          exact p'.elim
      | _ => exact p.elim
    | _ => exact p.elim
/-! ### enumerate, zip, reversed -/
def enumD : Nat → List D → List D
  | _, [] => []
  | i, d :: ds => .tup [.int i, d] :: enumD (i + 1) ds
theorem enumD_get : ∀ (ds : List D) (i j : Nat), (enumD i ds)[j]? = ds[j]?.map fun d => .tup [.int ((i + j : Nat) : Int), d]
  | [], _, _ => by simp [enumD]
  | d :: ds, i, 0 => by simp [enumD]
  | d :: ds, i, j + 1 => by
    simp only [enumD, List.getElem?_cons_succ]
    rw [enumD_get ds (i + 1) j]
    congr 1
    funext x
    congr 4
    omega
theorem enumD_len : ∀ (ds : List D) (i : Nat), (enumD i ds).length = ds.length
  | [], _ => rfl
  | _ :: ds, i => by simp [enumD, enumD_len ds]
theorem wk_enum {a : Addr} {vs : List V} {ds : List D} (e : C.K = K) (h : F a = some (.lst vs)) (r : RepL C.K C.a0 F vs ds) : Wk C (Ite K a) F (enumD 0 ds) := by
  subst e
  refine ⟨fun H F' s1 s2 => ⟨vs, SqL.of (s2 _ _ (s1 _ _ h)), by rw [r.len, enumD_len]; exact Nat.le_refl _⟩, fun i H F' s1 s2 hi => ?_, fun i H F' x H' s1 s2 hi y => ?_⟩
  · rw [enumD_len] at hi
    have hi' : i < vs.length := by rw [r.len]; exact hi
    exact ⟨vs, vs[i], SqL.of (s2 _ _ (s1 _ _ h)), List.getElem?_eq_getElem hi'⟩
  · obtain ⟨T, x', ev, nT, eH, hx⟩ := y
    subst ev eH
    obtain ⟨d, e, hr⟩ := r.at (hx vs (SqL.of (s2 _ _ (s1 _ _ h))))
    refine ⟨.tup [.int (i : Nat), d], by rw [enumD_get, e]; simp, .tup nT ⟨rfl, hr.mono s1, trivial⟩⟩
def enumS : List D → Option (List D)
  | [.lst ds] => some (enumD 0 ds)
  | _ => none
def mSrcA (f : List D → Option (List D)) (a : Fm → Rs Sto (List Val)) : Fm → Rs Sto (List D) := fun s => (a s).bind fun ws st => match allSh ws with
  | some ds => (match f ds with
    | some es => .ok es st
    | none => .no)
  | none => .no
theorem sim_srcA {f : List D → Option (List D)} {a : Fm → Rs Sto (List Val)} {ta : TA} {P : List V → Hp → (It → Hp → Prop) → Prop} (ha : SimA K W ta a)
    (hf : ∀ (C : Cn) (F H : Hp) (xs : List V) (ds es : List D) (R : It → Hp → Prop), C.K = K → Sub F H → RepL C.K C.a0 F xs ds → f ds = some es → (∀ J, Wk C J F es → R J H) → P xs H R) : SimI K W (fun σ H R => ta σ H fun xs H1 => P xs H1 R) (mSrcA f a) := fun C s σ F H R e m p => by
  unfold mSrcA at p
  refine ha.then e m (fun ws st q vs F1 H1 s1 m1 r1 => ?_) (fun c fs st q => by rw [q] at p; exact p) (fun q => by rw [q] at p; exact p)
  rw [q, Rs.bind_ok] at p
  cases q2 : allSh ws with
  | none => rw [q2] at p; exact p.elim
  | some ds =>
    rw [q2] at p
    dsimp only at p
    cases q3 : f ds with
    | none => rw [q3] at p; exact p.elim
    | some es =>
      rw [q3] at p
      exact hf C F1 H1 vs ds es R e m1.hd.sub (allSh_rep q2 r1) q3 fun J wk => p J F1 H1 s1 m1 wk
theorem sim_enum {ta : TA} {a : Fm → Rs Sto (List Val)} (ha : SimA K W ta a) : SimI K W (iEnum K ta) (mSrcA enumS a) :=
  sim_srcA (P := fun vs H1 R => ∃ a xs, vs = [.ref a] ∧ SqL K H1 a xs ∧ R (Ite K a) H1) ha fun C F H xs ds es R e sub r q k => by
    unfold enumS at q
    split at q
    · cases q
      match xs, r with
      | [x], ⟨⟨a, vs, ex, h, rl⟩, _⟩ =>
        subst ex
        exact ⟨a, vs, rfl, SqL.of (sub _ _ h), k _ (wk_enum e h rl)⟩
    · cases q
def zipD : List D → List D → List D
  | d :: ds, e :: es => .tup [d, e] :: zipD ds es
  | _, _ => []
theorem zipD_get : ∀ (ds es : List D) (j : Nat) (d e : D), ds[j]? = some d → es[j]? = some e → (zipD ds es)[j]? = some (.tup [d, e])
  | [], _, _, _, _, h, _ => by simp at h
  | _ :: _, [], _, _, _, _, h => by simp at h
  | d :: ds, e :: es, 0, _, _, h, h' => by
    simp at h h'
    subst h h'
    rfl
  | d :: ds, e :: es, j + 1, _, _, h, h' => by
    simp only [zipD, List.getElem?_cons_succ] at *
    exact zipD_get ds es j _ _ h h'
theorem zipD_len : ∀ (ds es : List D), (zipD ds es).length = min ds.length es.length
  | [], _ => by simp [zipD]
  | _ :: _, [] => by simp [zipD]
  | d :: ds, e :: es => by simp [zipD, zipD_len ds es]
theorem wk_zip {a b : Addr} {vs us : List V} {ds es : List D} (e : C.K = K) (h : F a = some (.lst vs)) (r : RepL C.K C.a0 F vs ds) (h' : F b = some (.lst us)) (r' : RepL C.K C.a0 F us es) : Wk C (Itz K a b) F (zipD ds es) := by
  subst e
  refine ⟨fun H F' s1 s2 => ⟨vs, us, SqL.of (s2 _ _ (s1 _ _ h)), SqL.of (s2 _ _ (s1 _ _ h')), ?_⟩, fun i H F' s1 s2 hi => ?_, fun i H F' x H' s1 s2 hi y => ?_⟩
  · rw [r.len, r'.len, zipD_len]
    omega
  · rw [zipD_len] at hi
    have hi' : i < vs.length := by rw [r.len]; omega
    have hi'' : i < us.length := by rw [r'.len]; omega
    exact ⟨vs, us, vs[i], us[i], SqL.of (s2 _ _ (s1 _ _ h)), SqL.of (s2 _ _ (s1 _ _ h')), List.getElem?_eq_getElem hi', List.getElem?_eq_getElem hi''⟩
  · obtain ⟨T, x', y', ev, nT, eH, hx, hy⟩ := y
    subst ev eH
    obtain ⟨d, e, hr⟩ := r.at (hx vs (SqL.of (s2 _ _ (s1 _ _ h))))
    obtain ⟨d', e', hr'⟩ := r'.at (hy us (SqL.of (s2 _ _ (s1 _ _ h'))))
    exact ⟨.tup [d, d'], zipD_get _ _ _ _ _ e e', .tup nT ⟨hr.mono s1, hr'.mono s1, trivial⟩⟩
theorem wk_zipT {a b : Addr} {vs us : List V} {ds es : List D} (e : C.K = K) (h : SqT K F a vs) (r : RepL C.K C.a0 F vs ds) (h' : SqT K F b us) (r' : RepL C.K C.a0 F us es) : Wk C (RZ.ItzT K a b) F (zipD ds es) := by
  subst e
  refine ⟨fun H F' s1 s2 => ⟨vs, us, s2.sqT (s1.sqT h), s2.sqT (s1.sqT h'), ?_⟩, fun i H F' s1 s2 hi => ?_, fun i H F' x H' s1 s2 hi y => ?_⟩
  · rw [r.len, r'.len, zipD_len]
    omega
  · rw [zipD_len] at hi
    have hi' : i < vs.length := by rw [r.len]; omega
    have hi'' : i < us.length := by rw [r'.len]; omega
    exact ⟨vs, us, vs[i], us[i], s2.sqT (s1.sqT h), s2.sqT (s1.sqT h'), List.getElem?_eq_getElem hi', List.getElem?_eq_getElem hi''⟩
  · obtain ⟨T, x', y', ev, nT, eH, hx, hy⟩ := y
    subst ev eH
    obtain ⟨d, e, hr⟩ := r.at (hx vs (s2.sqT (s1.sqT h)))
    obtain ⟨d', e', hr'⟩ := r'.at (hy us (s2.sqT (s1.sqT h')))
    exact ⟨.tup [d, d'], zipD_get _ _ _ _ _ e e', .tup nT ⟨hr.mono s1, hr'.mono s1, trivial⟩⟩
theorem repl2 {a0 : Addr} {F : Hp} {vs : List V} {d e : D} (h : RepL K a0 F vs [d, e]) : ∃ v u, vs = [v, u] ∧ Rep K a0 F v d ∧ Rep K a0 F u e := by
  match vs, h with
  | [v, u], ⟨h, h', _⟩ => exact ⟨v, u, rfl, h, h'⟩
def zipS : List D → Option (List D)
  | [.lst ds, .lst es] => some (zipD ds es)
  | [.tup ds, .tup es] => some (zipD ds es)
  | _ => none
theorem sim_zip {ta : TA} {a : Fm → Rs Sto (List Val)} (ha : SimA K W ta a) : SimI K W (RZ.iZipA K ta) (mSrcA zipS a) :=
  sim_srcA (P := fun vs H1 R => ∃ a b xs ys, vs = [.ref a, .ref b] ∧ ((SqL K H1 a xs ∧ SqL K H1 b ys ∧ R (Itz K a b) H1) ∨ (SqT K H1 a xs ∧ SqT K H1 b ys ∧ R (RZ.ItzT K a b) H1))) ha fun C F H xs ds es R e sub r q k => by
    unfold zipS at q
    split at q
    · cases q
      obtain ⟨x, y, ex, rx, ry⟩ := repl2 r
      obtain ⟨a, vs, ex', h, rl⟩ := rx
      obtain ⟨b, us, ey', h', rl'⟩ := ry
      subst ex ex' ey'
      exact ⟨a, b, vs, us, rfl, Or.inl ⟨SqL.of (sub _ _ h), SqL.of (sub _ _ h'), k (Itz K a b) (wk_zip e h rl h' rl')⟩⟩
    · cases q
      obtain ⟨x, y, ex, rx, ry⟩ := repl2 r
      obtain ⟨a, vs, ex', h, rl⟩ := rx
      obtain ⟨b, us, ey', h', rl'⟩ := ry
      subst ex ex' ey' e
      exact ⟨a, b, vs, us, rfl, Or.inr ⟨sub.sqT h, sub.sqT h', k (RZ.ItzT C.K a b) (wk_zipT rfl h rl h' rl')⟩⟩
    · cases q
def revS : D → Option (List D)
  | .lst ds => some ds.reverse
  | .tup ds => some ds.reverse
  | _ => none
theorem wk_rev {a : Addr} {vs : List V} {ds : List D} (e : C.K = K) (h : F a = some (.lst vs)) (r : RepL C.K C.a0 F vs ds) : Wk C (Itv K a vs.length) F ds.reverse := by
  subst e
  refine ⟨fun H F' s1 s2 => ?_, fun i H F' s1 s2 hi => ?_, fun i H F' x H' s1 s2 hi y => ?_⟩
  · show vs.length ≤ ds.reverse.length
    rw [r.len, List.length_reverse]; exact Nat.le_refl _
  · rw [List.length_reverse, ← r.len] at hi
    have hi' : vs.length - 1 - i < vs.length := by omega
    exact ⟨hi, vs, vs[vs.length - 1 - i], SqL.of (s2 _ _ (s1 _ _ h)), List.getElem?_eq_getElem hi'⟩
  · obtain ⟨e, y⟩ := y
    subst e
    obtain ⟨d, e, hr⟩ := r.at (y vs (SqL.of (s2 _ _ (s1 _ _ h))))
    rw [List.length_reverse] at hi
    refine ⟨d, ?_, .old (hr.mono s1)⟩
    rw [List.getElem?_reverse hi, ← r.len]
    exact e
theorem wk_revT {a : Addr} {vs : List V} {ds : List D} (e : C.K = K) (h : SqT K F a vs) (r : RepL C.K C.a0 F vs ds) : Wk C (RT.ItvT K a vs.length) F ds.reverse := by
  subst e
  refine ⟨fun H F' s1 s2 => ?_, fun i H F' s1 s2 hi => ?_, fun i H F' x H' s1 s2 hi y => ?_⟩
  · show vs.length ≤ ds.reverse.length
    rw [r.len, List.length_reverse]; exact Nat.le_refl _
  · rw [List.length_reverse, ← r.len] at hi
    have hi' : vs.length - 1 - i < vs.length := by omega
    exact ⟨hi, vs, vs[vs.length - 1 - i], s2.sqT (s1.sqT h), List.getElem?_eq_getElem hi'⟩
  · obtain ⟨e, y⟩ := y
    subst e
    obtain ⟨d, e, hr⟩ := r.at (y vs (s2.sqT (s1.sqT h)))
    rw [List.length_reverse] at hi
    refine ⟨d, ?_, .old (hr.mono s1)⟩
    rw [List.getElem?_reverse hi, ← r.len]
    exact e
theorem sim_rev {tl : TE} {a : Fm → Rs Sto Val} (ha : SimE K W tl a) : SimI K W (RT.iRevA K tl) (mSrc revS a) :=
  sim_src (P := fun v H1 R => ∃ (a : Addr) (xs : List V), v = .ref a ∧ ((SqL K H1 a xs ∧ R (Itv K a xs.length) H1) ∨ (SqT K H1 a xs ∧ R (RT.ItvT K a xs.length) H1))) ha
    fun C F H x d ds R e sub r q k => by
      cases d with
      | lst es =>
        cases q
        obtain ⟨a, vs, rfl, h, rl⟩ := r
        exact ⟨a, vs, rfl, .inl ⟨SqL.of (sub _ _ h), k _ (wk_rev e h rl)⟩⟩
      | tup es =>
        cases q
        obtain ⟨a, vs, rfl, h, rl⟩ := r
        subst e
        exact ⟨a, vs, rfl, .inr ⟨sub.sqT h, k _ (wk_revT rfl h rl)⟩⟩
      | _ => cases q
end
end RX

set_option Elab.async false
set_option linter.all false
set_option maxRecDepth 100000
set_option maxHeartbeats 1000000
/-! RX: operators. -/
namespace RX
open PySem PySem.Spec PyProof.Rows L2
section
variable {K : PySem.W.Frag} {W : WX} {X : Cx}
abbrev shV (d : D) : Option Val := some ⟨.sh, d⟩
abbrev shI (i : Int) : Option Val := some ⟨.sh, .int i⟩
abbrev shB (b : Bool) : Option Val := some ⟨.sh, .bl b⟩
/-! ### ints and texts -/
theorem SOp.or {r r' : R2} {f g h : D → D → Option Val} (a : SOp K r f) (b : SOp K r' g) (e : ∀ x y w, h x y = some w → f x y = some w ∨ g x y = some w) : SOp K (fun x y H Q => r x y H Q ∨ r' x y H Q) h := fun a0 F H x y d d' w Q s rx ry q k => by
  rcases e d d' w q with q | q
  · exact .inl (a a0 F H x y d d' w Q s rx ry q k)
  · exact .inr (b a0 F H x y d d' w Q s rx ry q k)
def fI2 (C : Int → Int → Bool) (g : Int → Int → D) : D → D → Option Val := fun d e => match d, e with
  | .int i, .int j => if C i j = true then shV (g i j) else none
  | _, _ => none
theorem sop_I {C : Int → Int → Prop} {g : Int → Int → V} {c : Int → Int → Bool} {gd : Int → Int → D} (hc : ∀ i j, c i j = true → C i j) (hg : ∀ i j a0 F, Rep K a0 F (g i j) (gd i j)) : SOp K (rI C g) (fI2 c gd) := fun a0 F H x y d e w Q s rx ry q k => by
  unfold fI2 at q
  split at q
  · next i j =>
    split at q
    · next h =>
      cases q
      cases (show x = .int i from rx)
      cases (show y = .int j from ry)
      exact ⟨i, j, rfl, rfl, hc i j h, k _ H (.old (hg i j a0 F))⟩
    · cases q
  · cases q
theorem sop_I0 {g : Int → Int → V} {gd : Int → Int → D} (hg : ∀ i j a0 F, Rep K a0 F (g i j) (gd i j)) : SOp K (rI0 g) (fI2 (fun _ _ => true) gd) := fun a0 F H x y d e w Q s rx ry q k => by
  unfold fI2 at q
  split at q
  · next i j =>
    rw [if_pos rfl] at q
    cases q
    cases (show x = .int i from rx)
    cases (show y = .int j from ry)
    exact ⟨i, j, rfl, rfl, k _ H (.old (hg i j a0 F))⟩
  · cases q
/-! ### + -/
def dAdd : D → D → Option Val
  | .int i, .int j => shI (i + j)
  | .str a, .str b => if a.length + b.length ≤ line then shV (.str (a ++ b)) else none
  | .lst a, .lst b => if a.length + b.length ≤ line then some ⟨.fr, .lst (a ++ b)⟩ else none
  | .tup a, .tup b => if a.length + b.length ≤ line then shV (.tup (a ++ b)) else none
  | _, _ => none
def rAddA (K : PySem.W.Frag) : R2 := fun x y H Q => (∃ i j, x = .int i ∧ y = .int j ∧ Q (.int (i + j)) H) ∨ (∃ i j, x = .str i ∧ y = .str j ∧ i.length + j.length ≤ sizeLine ∧ Q (.str (i ++ j)) H) ∨ rCat x y H Q ∨ rCatA K x y H Q
theorem op_addA : OpR X (binaryOp .Add) (rAddA X.K) := OpR.or op_add (OpR.or op_add_str (OpR.or op_cat op_catA))
theorem sop_add : SOp K (rAddA K) dAdd := fun a0 F H x y d e w Q s rx ry q k => by
  unfold dAdd at q
  split at q
  · cases q
    exact .inl ⟨_, _, rx, ry, k _ H (.old rfl)⟩
  · split at q
    · next h =>
      cases q
      exact .inr (.inl ⟨_, _, rx, ry, line_ok h, k _ H (.old rfl)⟩)
    · cases q
  · split at q
    · next a b h =>
      cases q
      obtain ⟨p, vs, rfl, hp, rl⟩ := rx
      obtain ⟨p', us, rfl, hp', rl'⟩ := ry
      exact .inr (.inr (.inl ⟨p, p', vs, us, rfl, rfl, hp, hp', by rw [rl.len, rl'.len]; exact line_ok h, fun t ht => k _ _ (.new ht ⟨_, rfl, rl.append rl'⟩)⟩))
    · cases q
  · split at q
    · next a b h =>
      cases q
      obtain ⟨p, vs, rfl, hp, rl⟩ := rx
      obtain ⟨p', us, rfl, hp', rl'⟩ := ry
      refine .inr (.inr (.inr ⟨p, p', vs, us, rfl, rfl, s.sqT hp, s.sqT hp', by rw [rl.len, rl'.len]; exact line_ok h, fun ez => ?_, fun _ ez => ?_, fun _ _ t ht => k _ _ (.tup ht (rl.append rl'))⟩))
      · subst ez
        refine k _ H (.old ⟨p', us, rfl, hp', ?_⟩)
        have : a = [] := List.eq_nil_of_length_eq_zero (by rw [← rl.len]; rfl)
        subst this
        exact rl'
      · subst ez
        refine k _ H (.old ⟨p, vs, rfl, hp, ?_⟩)
        have : b = [] := List.eq_nil_of_length_eq_zero (by rw [← rl'.len]; rfl)
        subst this
        rw [List.append_nil]
        exact rl
    · cases q
  · cases q
theorem sim_add {ta tb : TE} {a b : Fm → Rs Sto Val} (ha : SimE K W ta a) (hb : SimE K W tb b) : SimE K W (tOp (rAddA K) ta tb) (mOp dAdd a b) := sim_op sop_add ha hb
/-! ### the other arithmetic -/
def dSub : D → D → Option Val := fI2 (fun _ _ => true) fun i j => .int (i - j)
theorem sop_sub : SOp K (rI0 fun i j => .int (i - j)) dSub := sop_I0 fun _ _ _ _ => rfl
def small64 (i : Int) : Bool := decide (-(2 ^ 64) < i) && decide (i < 2 ^ 64)
/-- the n-fold list, text -/
def dMul : D → D → Option Val
  | .int i, .int j => if (small64 i || small64 j) = true then shI (i * j) else none
  | .lst a, .int k => if a.length * k.toNat ≤ line ∧ -big < k ∧ k < big then some ⟨.fr, .lst (List.replicate k.toNat a).flatten⟩ else none
  | _, _ => none
def rMulA : R2 := fun x y H Q => rI CMul (fun i j => .int (i * j)) x y H Q ∨ rRep x y H Q
theorem op_mulA : OpR X (binaryOp .Mult) rMulA := OpR.or op_mul op_rep
theorem RepL.rep {a0 : Addr} {F : Hp} {vs : List V} {ds : List D} (r : RepL K a0 F vs ds) : ∀ n : Nat, RepL K a0 F (List.replicate n vs).flatten (List.replicate n ds).flatten
  | 0 => trivial
  | n + 1 => by
    rw [List.replicate_succ, List.replicate_succ, List.flatten_cons, List.flatten_cons]
    exact r.append (RepL.rep r n)
theorem sop_mul : SOp K rMulA dMul := fun a0 F H x y d e w Q s rx ry q k => by
  unfold dMul at q
  split at q
  · next i j =>
    split at q
    · next h =>
      cases q
      refine .inl ⟨_, _, rx, ry, ?_, k _ H (.old rfl)⟩
      rw [Bool.or_eq_true] at h
      unfold small64 at h
      rw [Bool.and_eq_true, Bool.and_eq_true] at h
      rcases h with ⟨h1, h2⟩ | ⟨h1, h2⟩
      · exact .inl ⟨of_decide_eq_true h1, of_decide_eq_true h2⟩
      · exact .inr ⟨of_decide_eq_true h1, of_decide_eq_true h2⟩
    · cases q
  · next a j =>
    split at q
    · next h =>
      cases q
      obtain ⟨p, vs, rfl, hp, rl⟩ := rx
      cases (show y = .int j from ry)
      have hb := h.2
      unfold big at hb
      exact .inr ⟨p, j, vs, rfl, rfl, hp, by omega, by omega, by rw [rl.len]; exact line_ok h.1, fun t ht => k _ _ (.new ht ⟨_, rfl, rl.rep _⟩)⟩
    · cases q
  · cases q
def dMod : D → D → Option Val := fI2 (fun _ j => decide (0 < j)) fun i j => .int (i % j)
theorem sop_mod : SOp K (rI (fun _ j => 0 < j) fun i j => .int (i % j)) dMod := sop_I (fun _ _ h => of_decide_eq_true h) fun _ _ _ _ => rfl
def dFdiv : D → D → Option Val := fI2 (fun _ j => decide (0 < j ∧ j < 1073741824)) fun i j => .int (i / j)
theorem sop_fdiv : SOp K (rI CDiv fun i j => .int (i / j)) dFdiv := sop_I (fun i j h => (show 0 < j ∧ j < 1073741824 from of_decide_eq_true h)) fun _ _ _ _ => rfl
def dPow : D → D → Option Val := fI2 (fun i j => decide (0 ≤ j ∧ j ≤ 1000000 ∧ i.natAbs < 2 ^ 64)) fun i j => .int (i ^ j.toNat)
theorem sop_pow : SOp K (rI CPow fun i j => .int (i ^ j.toNat)) dPow := sop_I (fun i j h => (show 0 ≤ j ∧ j ≤ 1000000 ∧ i.natAbs < 2 ^ 64 from of_decide_eq_true h)) fun _ _ _ _ => rfl
def dShl : D → D → Option Val := fI2 (fun i j => decide (0 ≤ j ∧ j ≤ 1000000 ∧ i.natAbs < 2 ^ 64)) fun i j => .int (i * 2 ^ j.toNat)
theorem sop_shl : SOp K (rI CPow fun i j => .int (i * 2 ^ j.toNat)) dShl := sop_I (fun i j h => (show 0 ≤ j ∧ j ≤ 1000000 ∧ i.natAbs < 2 ^ 64 from of_decide_eq_true h)) fun _ _ _ _ => rfl
def dShr : D → D → Option Val := fI2 (fun _ j => decide (0 ≤ j)) fun i j => .int (i / 2 ^ j.toNat)
theorem sop_shr : SOp K (rI (fun _ j => 0 ≤ j) fun i j => .int (i / 2 ^ j.toNat)) dShr := sop_I (fun _ _ h => of_decide_eq_true h) fun _ _ _ _ => rfl
def dAndB : D → D → Option Val := fI2 (fun _ _ => true) fun i j => .int (Builtin.bitAnd i j)
theorem sop_andB : SOp K (rI0 fun i j => .int (Builtin.bitAnd i j)) dAndB := sop_I0 fun _ _ _ _ => rfl
def dOrB : D → D → Option Val := fI2 (fun _ _ => true) fun i j => .int (Builtin.bitOr i j)
theorem sop_orB : SOp K (rI0 fun i j => .int (Builtin.bitOr i j)) dOrB := sop_I0 fun _ _ _ _ => rfl
def dNeg : D → Option Val := fun d => match d with
  | .int i => shI (-i)
  | _ => none
theorem sun_neg : SUn K (rU fun i => .int (-i)) dNeg := fun a0 F H x d w Q s rx q k => by
  unfold dNeg at q
  split at q
  · cases q
    exact ⟨_, rx, k _ H (.old rfl)⟩
  · cases q
/-! ### order -/
def strLt (a b : Str) : Bool := decide (a.cps.toList < b.cps.toList)
def dLt : D → D → Option Val
  | .int i, .int j => shB (decide (i < j))
  | .str a, .str b => shB (strLt a b)
  | _, _ => none
def rLtA : R2 := fun x y H Q => rI0 (fun i j => .bl (decide (i < j))) x y H Q ∨ ∃ i j, x = .str i ∧ y = .str j ∧ Q (.bl (decide (i.cps.toList < j.cps.toList))) H
theorem op_ltA : OpR X (compareOp .Lt) rLtA := OpR.or op_lt op_lt_str
theorem sop_lt : SOp K rLtA dLt := fun a0 F H x y d e w Q s rx ry q k => by
  unfold dLt at q
  split at q
  · cases q; exact .inl ⟨_, _, rx, ry, k _ H (.old rfl)⟩
  · cases q; exact .inr ⟨_, _, rx, ry, k _ H (.old rfl)⟩
  · cases q
def dLe : D → D → Option Val := fI2 (fun _ _ => true) fun i j => .bl (decide (i ≤ j))
theorem sop_le : SOp K (rI0 fun i j => .bl (decide (i ≤ j))) dLe := sop_I0 fun _ _ _ _ => rfl
def dGt : D → D → Option Val
  | .int i, .int j => shB (decide (j < i))
  | .str a, .str b => shB (strLt b a)
  | _, _ => none
def rGtA : R2 := fun x y H Q => rI0 (fun i j => .bl (decide (j < i))) x y H Q ∨ ∃ i j, x = .str i ∧ y = .str j ∧ Q (.bl (decide (j.cps.toList < i.cps.toList))) H
theorem op_gtA : OpR X (compareOp .Gt) rGtA := OpR.or op_gt op_gt_str
theorem sop_gt : SOp K rGtA dGt := fun a0 F H x y d e w Q s rx ry q k => by
  unfold dGt at q
  split at q
  · cases q; exact .inl ⟨_, _, rx, ry, k _ H (.old rfl)⟩
  · cases q; exact .inr ⟨_, _, rx, ry, k _ H (.old rfl)⟩
  · cases q
def dGe : D → D → Option Val := fI2 (fun _ _ => true) fun i j => .bl (decide (j ≤ i))
theorem sop_ge : SOp K (rI0 fun i j => .bl (decide (j ≤ i))) dGe := sop_I0 fun _ _ _ _ => rfl
end
/-! ### data -/
mutual
/-- no dict, instance, store within, not deeper than n -/
def fitD : Nat → D → Bool
  | _, .non => true
  | _, .bl _ => true
  | _, .int _ => true
  | _, .str _ => true
  | n, .tup ds => decide (0 < n) && fitL (n - 1) ds
  | n, .lst ds => decide (0 < n) && fitL (n - 1) ds
  | _, _ => false
def fitL : Nat → List D → Bool
  | _, [] => true
  | n, d :: ds => fitD n d && fitL n ds
def toP : D → PyData
  | .non => .none
  | .bl b => .bool b
  | .int i => .int i
  | .str s => .str s
  | .tup ds => .tuple (toPL ds)
  | .lst ds => .list (toPL ds)
  | _ => .none
def toPL : List D → List PyData
  | [] => []
  | d :: ds => toP d :: toPL ds
end
mutual
theorem fit_plain : ∀ (d : D) (n : Nat), fitD n d = true → (toP d).plain = true ∧ (toP d).depth ≤ n
  | .non, _, _ => ⟨rfl, Nat.zero_le _⟩
  | .bl _, _, _ => ⟨rfl, Nat.zero_le _⟩
  | .int _, _, _ => ⟨rfl, Nat.zero_le _⟩
  | .str _, _, _ => ⟨rfl, Nat.zero_le _⟩
  | .tup ds, n, h => by
    rw [fitD, Bool.and_eq_true] at h
    have h0 := of_decide_eq_true h.1
    obtain ⟨a, b⟩ := fitL_plain ds (n - 1) h.2
    refine ⟨by simpa [toP, PyData.plain] using a, ?_⟩
    show PyData.depthAll (toPL ds) + 1 ≤ n
    omega
  | .lst ds, n, h => by
    rw [fitD, Bool.and_eq_true] at h
    have h0 := of_decide_eq_true h.1
    obtain ⟨a, b⟩ := fitL_plain ds (n - 1) h.2
    refine ⟨by simpa [toP, PyData.plain] using a, ?_⟩
    show PyData.depthAll (toPL ds) + 1 ≤ n
    omega
  | .dic _, _, h => by simp [fitD] at h
  | .obj _ _, _, h => by simp [fitD] at h
  | .sto, _, h => by simp [fitD] at h
  | .ty _, _, h => by simp [fitD] at h
  | .cls _, _, h => by simp [fitD] at h
theorem fitL_plain : ∀ (ds : List D) (n : Nat), fitL n ds = true → PyData.plainAll (toPL ds) = true ∧ PyData.depthAll (toPL ds) ≤ n
  | [], _, _ => ⟨rfl, Nat.zero_le _⟩
  | d :: ds, n, h => by
    rw [fitL, Bool.and_eq_true] at h
    obtain ⟨a, b⟩ := fit_plain d n h.1
    obtain ⟨a', b'⟩ := fitL_plain ds n h.2
    refine ⟨by simp [toPL, PyData.plainAll, a, a'], ?_⟩
    show max _ _ ≤ n
    exact Nat.max_le.mpr ⟨b, b'⟩
end
section
variable {K : PySem.W.Frag} {W : WX} {X : Cx}
mutual
theorem rep_dp {a0 : Addr} {F H : Hp} (s : Sub F H) : ∀ (d : D) (v : V) (n : Nat), fitD n d = true → Rep K a0 F v d → Dp K H v (toP d)
  | .non, _, _, _, h => by cases (show _ = V.non from h); exact .non
  | .bl b, _, _, _, h => by cases (show _ = V.bl b from h); exact .bl b
  | .int b, _, _, _, h => by cases (show _ = V.int b from h); exact .int b
  | .str b, _, _, _, h => by cases (show _ = V.str b from h); exact .str b
  | .tup ds, v, n, f, ⟨a, vs, e, h, r⟩ => by
    rw [fitD, Bool.and_eq_true] at f
    subst e
    exact .tup (s.sqT h) (repL_dp s ds vs (n - 1) f.2 r)
  | .lst ds, v, n, f, ⟨a, vs, e, h, r⟩ => by
    rw [fitD, Bool.and_eq_true] at f
    subst e
    exact .lst (SqL.of (s _ _ h)) (repL_dp s ds vs (n - 1) f.2 r)
  | .dic _, _, _, f, _ => by simp [fitD] at f
  | .obj _ _, _, _, f, _ => by simp [fitD] at f
  | .sto, _, _, f, _ => by simp [fitD] at f
  | .ty _, _, _, f, _ => by simp [fitD] at f
  | .cls _, _, _, f, _ => by simp [fitD] at f
theorem repL_dp {a0 : Addr} {F H : Hp} (s : Sub F H) : ∀ (ds : List D) (vs : List V) (n : Nat), fitL n ds = true → RepL K a0 F vs ds → DpAll K H vs (toPL ds)
  | [], [], _, _, _ => .nil
  | [], _ :: _, _, _, h => h.elim
  | _ :: _, [], _, _, h => h.elim
  | d :: ds, v :: vs, n, f, ⟨h, r⟩ => by
    rw [fitL, Bool.and_eq_true] at f
    exact .cons (rep_dp s d v n f.1 h) (repL_dp s ds vs n f.2 r)
end
theorem rh_dp {a0 : Addr} {F H : Hp} (s : Sub F H) {d : D} {v : V} {n : Nat} (f : fitD n d = true) (h : RH K a0 F H v d) : Dp K H v (toP d) := by
  cases d with
  | lst ds =>
    obtain ⟨a, vs, e, hq, r⟩ := h
    rw [fitD, Bool.and_eq_true] at f
    subst e
    exact .lst (SqL.of hq) (repL_dp s ds vs (n - 1) f.2 r)
  | dic _ => simp [fitD] at f
  | obj _ _ => simp [fitD] at f
  | _ => exact rep_dp (a0 := a0) s _ v n f h
/-- == of data -/
def rEqP (K : PySem.W.Frag) : R2 := fun x y H Q => ∃ d e, Dp K H x d ∧ Dp K H y e ∧ d.plain = true ∧ e.plain = true ∧ d.depth ≤ 60 ∧ Q (.bl (PyData.eqv d e)) H
def rNeP (K : PySem.W.Frag) : R2 := fun x y H Q => ∃ d e, Dp K H x d ∧ Dp K H y e ∧ d.plain = true ∧ e.plain = true ∧ d.depth ≤ 60 ∧ Q (.bl (!PyData.eqv d e)) H
theorem op_eqP (hu : X.A.units + 64 < cLine) : OpR X (compareOp .Eq) (rEqP X.K) := by
  intro pins s σ H x y v u Q I rx ry h
  obtain ⟨d, e, hd, he, sd, se, dp, q⟩ := h
  obtain ⟨as, r1⟩ := Dp.reads I d x v hd rx
  obtain ⟨bs, r2⟩ := Dp.reads I e y u he ry
  exact SeqAt.eq_plain r1 r2 sd se (by omega) ⟨.bl _, H, I, rfl, q⟩
theorem op_neP (hu : X.A.units + 64 < cLine) : OpR X (compareOp .NotEq) (rNeP X.K) := by
  intro pins s σ H x y v u Q I rx ry h
  obtain ⟨d, e, hd, he, sd, se, dp, q⟩ := h
  obtain ⟨as, r1⟩ := Dp.reads I d x v hd rx
  obtain ⟨bs, r2⟩ := Dp.reads I e y u he ry
  exact SeqAt.ne_plain r1 r2 sd se (by omega) ⟨.bl _, H, I, rfl, q⟩
def deep : Nat := 40
def dEq : D → D → Option Val := fun d e => if (fitD deep d && fitD deep e) = true then shB (PyData.eqv (toP d) (toP e)) else none
def dNe : D → D → Option Val := fun d e => if (fitD deep d && fitD deep e) = true then shB (!PyData.eqv (toP d) (toP e)) else none
theorem sop_eq : SOp K (rEqP K) dEq := fun a0 F H x y d e w Q s rx ry q k => by
  unfold dEq at q
  split at q
  · next h =>
    cases q
    rw [Bool.and_eq_true] at h
    obtain ⟨p1, d1⟩ := fit_plain d deep h.1
    obtain ⟨p2, _⟩ := fit_plain e deep h.2
    exact ⟨_, _, rh_dp s h.1 rx, rh_dp s h.2 ry, p1, p2, Nat.le_trans d1 (by decide), k _ H (.old rfl)⟩
  · cases q
theorem sop_ne : SOp K (rNeP K) dNe := fun a0 F H x y d e w Q s rx ry q k => by
  unfold dNe at q
  split at q
  · next h =>
    cases q
    rw [Bool.and_eq_true] at h
    obtain ⟨p1, d1⟩ := fit_plain d deep h.1
    obtain ⟨p2, _⟩ := fit_plain e deep h.2
    exact ⟨_, _, rh_dp s h.1 rx, rh_dp s h.2 ry, p1, p2, Nat.le_trans d1 (by decide), k _ H (.old rfl)⟩
  · cases q
/-! ### in -/
/-- a dict's look-up, store, removal -/
def kGet {κ α : Type} [DecidableEq κ] : List (κ × α) → κ → Option α
  | [], _ => none
  | (j, d) :: r, k => if j = k then some d else kGet r k
def kSet {κ α : Type} [DecidableEq κ] : List (κ × α) → κ → α → List (κ × α)
  | [], k, d => [(k, d)]
  | (j, e) :: r, k, d => if j = k then (j, d) :: r else (j, e) :: kSet r k d
def dKey : D → Option Key
  | .int i => some (.inl i)
  | .str s => some (.inr s)
  | _ => none
theorem dKey_v {a0 : Addr} {F : Hp} {d : D} {k : Key} {v : V} (h : dKey d = some k) (r : Rep K a0 F v d) : v = kV k := by
  cases d with
  | int i => cases h; exact r
  | str i => cases h; exact r
  | _ => cases h
theorem dKey_rh {a0 : Addr} {F H : Hp} {d : D} {k : Key} {v : V} (h : dKey d = some k) (r : RH K a0 F H v d) : v = kV k := by
  cases d with
  | int i => cases h; exact r
  | str i => cases h; exact r
  | _ => cases h
/-- one sign -/
def inSign (x z : Str) : Bool := match x.cps.toList with
  | [c] => decide (c ∈ z.cps.toList)
  | _ => false
def inB : D → D → Option Bool
  | d, .lst ds => if (fitD deep d && fitL deep ds) = true then some ((toPL ds).any fun z => PyData.eqv z (toP d)) else none
  | d, .tup ds => if (fitD deep d && fitL deep ds) = true then some ((toPL ds).any fun z => PyData.eqv z (toP d)) else none
  | d, .dic kds => (dKey d).map fun k => (kGet kds k).isSome
  | .str x, .str z => if x.cps.size = 1 then some (inSign x z) else none
  | _, _ => none
def dIn : D → D → Option Val := fun d e => (inB d e).map fun b => ⟨.sh, .bl b⟩
def dNotIn : D → D → Option Val := fun d e => (inB d e).map fun b => ⟨.sh, .bl (!b)⟩
def rInP (K : PySem.W.Frag) (ng : Bool) : R2 := fun x y H Q =>
  (∃ d ds, Dp K H x d ∧ (Dp K H y (.list ds) ∨ Dp K H y (.tuple ds)) ∧ PyData.plainAll ds = true ∧ d.plain = true ∧ d.depth ≤ 60 ∧ Q (.bl (xor ng (ds.any fun z => PyData.eqv z d))) H) ∨
  (∃ a o, y = .ref a ∧ DGet H a x o ∧ Q (.bl (xor ng o.isSome)) H) ∨
  (∃ (c : Nat) (z : Str), x = .str ⟨#[c]⟩ ∧ y = .str z ∧ Q (.bl (xor ng (decide (c ∈ z.cps.toList)))) H)
theorem op_inP (hu : X.A.units + 64 < cLine) : OpR X (compareOp .In) (rInP X.K false) := by
  intro pins s σ H x y v u Q I rx ry h
  rcases h with ⟨d, ds, hd, he, p1, p2, dp, q⟩ | ⟨a, o, rfl, g, q⟩ | h
  · obtain ⟨as, r1⟩ := Dp.reads I d x v hd rx
    rcases he with he | he
    · obtain ⟨bs, r2⟩ := Dp.reads I _ y u he ry
      exact SeqAt.in_list_data r2 r1 p1 p2 (by omega) ⟨.bl _, H, I, rfl, by simpa using q⟩
    · obtain ⟨bs, r2⟩ := Dp.reads I _ y u he ry
      exact SeqAt.in_tuple_data r2 r1 p1 p2 (by omega) ⟨.bl _, H, I, rfl, by simpa using q⟩
  · cases ry
    exact d_in (by omega) I g rx fun s' I' => ⟨.bl _, H, I', rfl, by simpa using q⟩
  · obtain ⟨c, z, ex, ey, q⟩ := h
    exact op_in_sign pins s σ H x y v u Q I rx ry ⟨c, z, ex, ey, by simpa using q⟩
theorem op_notInP (hu : X.A.units + 64 < cLine) : OpR X (compareOp .NotIn) (rInP X.K true) := by
  intro pins s σ H x y v u Q I rx ry h
  rcases h with ⟨d, ds, hd, he, p1, p2, dp, q⟩ | ⟨a, o, rfl, g, q⟩ | h
  · obtain ⟨as, r1⟩ := Dp.reads I d x v hd rx
    rcases he with he | he
    · obtain ⟨bs, r2⟩ := Dp.reads I _ y u he ry
      exact SeqAt.notIn_list_data r2 r1 p1 p2 (by omega) ⟨.bl _, H, I, rfl, by simpa using q⟩
    · obtain ⟨bs, r2⟩ := Dp.reads I _ y u he ry
      exact SeqAt.notIn_tuple_data r2 r1 p1 p2 (by omega) ⟨.bl _, H, I, rfl, by simpa using q⟩
  · cases ry
    exact d_notIn (by omega) I g rx fun s' I' => ⟨.bl _, H, I', rfl, by simpa using q⟩
  · obtain ⟨c, z, ex, ey, q⟩ := h
    exact op_notIn_sign pins s σ H x y v u Q I rx ry ⟨c, z, ex, ey, by simpa using q⟩
theorem RepK.val {a0 : Addr} {F : Hp} : ∀ {kvs : List (Key × V)} {kds : List (Key × D)} (k : Key), RepK K a0 F kvs kds →
    (valV kvs k = none ∧ kGet kds k = none) ∨ ∃ (v : V) (d : D), valV kvs k = some v ∧ kGet kds k = some d ∧ Rep K a0 F v d
  | [], [], k, _ => .inl ⟨rfl, rfl⟩
  | [], _ :: _, _, h => h.elim
  | _ :: _, [], _, h => h.elim
  | (j, v) :: kvs, (j', d) :: kds, k, ⟨e, h, r⟩ => by
    subst e
    by_cases hk : j = k
    · exact .inr ⟨v, d, valV_pos hk, if_pos hk, h⟩
    · rw [valV_neg hk, show kGet ((j, d) :: kds) k = kGet kds k from if_neg hk]
      exact RepK.val k r
theorem RepK.some {a0 : Addr} {F : Hp} {kvs : List (Key × V)} {kds : List (Key × D)} (k : Key) (r : RepK K a0 F kvs kds) : (valV kvs k).isSome = (kGet kds k).isSome := by
  rcases r.val k with ⟨a, b⟩ | ⟨v, d, a, b, _⟩ <;> rw [a, b] <;> rfl
theorem sop_inG (ng : Bool) : SOp K (rInP K ng) (fun d e => (inB d e).map fun b => ⟨.sh, .bl (xor ng b)⟩) := fun a0 F H x y d e w Q s rx ry q k => by
  have q : (inB d e).map (fun b => (⟨.sh, .bl (xor ng b)⟩ : Val)) = some w := q
  cases h : inB d e with
  | none => rw [h] at q; cases q
  | some b =>
    rw [h] at q
    cases q
    unfold inB at h
    split at h
    · split at h
      · next hh =>
        cases h
        rw [Bool.and_eq_true] at hh
        obtain ⟨p1, d1⟩ := fit_plain _ deep hh.1
        obtain ⟨p2, _⟩ := fitL_plain _ deep hh.2
        obtain ⟨a, vs, rfl, hq, rl⟩ := ry
        exact .inl ⟨_, _, rh_dp s hh.1 rx, .inl (.lst (SqL.of hq) (repL_dp s _ _ deep hh.2 rl)), p2, p1, Nat.le_trans d1 (by decide), k _ H (.old rfl)⟩
      · cases h
    · split at h
      · next hh =>
        cases h
        rw [Bool.and_eq_true] at hh
        obtain ⟨p1, d1⟩ := fit_plain _ deep hh.1
        obtain ⟨p2, _⟩ := fitL_plain _ deep hh.2
        obtain ⟨a, vs, rfl, hq, rl⟩ := ry
        exact .inl ⟨_, _, rh_dp s hh.1 rx, .inr (.tup (s.sqT hq) (repL_dp s _ _ deep hh.2 rl)), p2, p1, Nat.le_trans d1 (by decide), k _ H (.old rfl)⟩
      · cases h
    · next kds =>
      cases hk : dKey d with
      | none => rw [hk] at h; cases h
      | some key =>
        rw [hk] at h
        cases h
        obtain ⟨a, kvs, rfl, hq, rl⟩ := ry
        have ex := dKey_rh hk rx
        subst ex
        refine .inr (.inl ⟨a, valV kvs key, rfl, .inl ⟨kvs, key, hq, rfl, rfl⟩, ?_⟩)
        rw [rl.some]
        exact k _ H (.old rfl)
    · next x' z =>
      split at h
      · next hs =>
        cases h
        have ex : x = .str x' := rx
        have ey : y = .str z := ry
        subst ex ey
        obtain ⟨arr⟩ := x'
        obtain ⟨l⟩ := arr
        match l, hs with
        | [c], _ => exact .inr (.inr ⟨c, z, rfl, rfl, k _ H (.old rfl)⟩)
      · cases h
    · cases h
theorem sop_in : SOp K (rInP K false) dIn := by
  have h : dIn = fun d e => (inB d e).map fun b => (⟨.sh, .bl (xor false b)⟩ : Val) := by
    funext d e
    simp [dIn]
  rw [h]
  exact sop_inG false
theorem sop_notIn : SOp K (rInP K true) dNotIn := by
  have h : dNotIn = fun d e => (inB d e).map fun b => (⟨.sh, .bl (xor true b)⟩ : Val) := by
    funext d e
    simp [dNotIn]
  rw [h]
  exact sop_inG true
/-! ### is None, is a truth value -/
def isNon : D → Bool
  | .non => true
  | _ => false
def isB : D → D → Option Bool
  | d, .non => some (isNon d)
  | .bl a, .bl b => some (decide (a = b))
  | _, _ => none
def dIs : D → D → Option Val := fun d e => (isB d e).map fun b => ⟨.sh, .bl b⟩
def dIsNot : D → D → Option Val := fun d e => (isB d e).map fun b => ⟨.sh, .bl (!b)⟩
def rIsA : R2 := fun x y H Q => (y = .non ∧ Q (.bl (decide (x = .non))) H) ∨ rIsB x y H Q
def rIsNotA : R2 := fun x y H Q => (y = .non ∧ Q (.bl (!decide (x = .non))) H) ∨ rNotB x y H Q
theorem op_isA : OpR X (compareOp .Is) rIsA := OpR.or op_isN op_isBl
theorem op_isNotA : OpR X (compareOp .IsNot) rIsNotA := OpR.or op_notN op_notBl
theorem rh_non {a0 : Addr} {F H : Hp} {x : V} {d : D} (h : RH K a0 F H x d) : decide (x = .non) = isNon d := by
  cases d with
  | non => cases (show x = .non from h); rfl
  | bl b => cases (show x = .bl b from h); rfl
  | int b => cases (show x = .int b from h); rfl
  | str b => cases (show x = .str b from h); rfl
  | tup b => obtain ⟨a, _, rfl, _⟩ := h; rfl
  | lst b => obtain ⟨a, _, rfl, _⟩ := h; rfl
  | dic b => obtain ⟨a, _, rfl, _⟩ := h; rfl
  | obj b c => obtain ⟨a, _, _, rfl, _⟩ := h; rfl
  | sto => cases (show x = .ref a0 from h); rfl
  | ty n => cases (show x = .ty n from h); rfl
  | cls n => cases (show x = .ref _ from h); rfl
theorem sop_is : SOp K rIsA dIs := fun a0 F H x y d e w Q s rx ry q k => by
  unfold dIs at q
  cases h : isB d e with
  | none => rw [h] at q; cases q
  | some b =>
    rw [h] at q
    cases q
    unfold isB at h
    split at h
    · cases h
      refine .inl ⟨ry, ?_⟩
      rw [rh_non rx]
      exact k _ H (.old rfl)
    · cases h
      exact .inr ⟨_, _, rx, ry, k _ H (.old rfl)⟩
    · cases h
theorem sop_isNot : SOp K rIsNotA dIsNot := fun a0 F H x y d e w Q s rx ry q k => by
  unfold dIsNot at q
  cases h : isB d e with
  | none => rw [h] at q; cases q
  | some b =>
    rw [h] at q
    cases q
    unfold isB at h
    split at h
    · cases h
      refine .inl ⟨ry, ?_⟩
      rw [rh_non rx]
      exact k _ H (.old rfl)
    · cases h
      exact .inr ⟨_, _, rx, ry, k _ H (.old rfl)⟩
    · cases h
end
end RX

set_option Elab.async false
set_option linter.all false
set_option maxRecDepth 100000
set_option maxHeartbeats 1000000
/-! RX: subscripts, slices, built-ins. -/
namespace RX
open PySem PySem.Spec PyProof.Rows L2
section
variable {K : PySem.W.Frag} {W : WX} {X : Cx}
/-! ### a[b] -/
def rIxD : R2 := fun x y H Q => ∃ a v, x = .ref a ∧ DGet H a y (some v) ∧ Q v H
theorem ix_dict (hu : X.A.units + 64 < cLine) : IxR X rIxD := by
  intro value slice pins s σ H x y v u Q I rx ry h hs
  obtain ⟨a, z, rfl, g, q⟩ := h
  cases rx
  exact tail_any (dict_typeIs I g) PySem.F.slot_dict_getitem.lookup (d_getItem (by omega) I g ry fun w' s3 I3 rw' => ⟨z, H, I3, rw', q⟩) hs
def rIxA (K : PySem.W.Frag) : R2 := fun x y H Q => rIx K x y H Q ∨ rIxD x y H Q
theorem ix_any (hu : X.A.units + 64 < cLine) : IxR X (rIxA X.K) := ix_seq.or (ix_dict hu)
def dIx : D → D → Option Val
  | .lst ds, .int i => (atI ds i).map fun d => ⟨.sh, d⟩
  | .tup ds, .int i => (atI ds i).map fun d => ⟨.sh, d⟩
  | .str z, .int i => if z.length ≤ line then (atI z.cps.toList i).map fun c => ⟨.sh, .str ⟨#[c]⟩⟩ else none
  | .dic kds, e => (dKey e).bind fun k => (kGet kds k).map fun d => ⟨.sh, d⟩
  | _, _ => none
theorem RepL.atI {a0 : Addr} {F : Hp} {vs : List V} {ds : List D} (r : RepL K a0 F vs ds) {i : Int} {d : D} (h : L2.atI ds i = some d) : ∃ v, L2.atI vs i = some v ∧ Rep K a0 F v d := by
  unfold L2.atI at h ⊢
  rw [r.len]
  cases q : ixN ds.length i with
  | none => rw [q] at h; cases h
  | some j =>
    rw [q] at h
    exact r.get h
theorem sop_ix : SOp K (rIxA K) dIx := fun a0 F H x y d e w Q s rx ry q k => by
  unfold dIx at q
  split at q
  · next ds i =>
    cases h : L2.atI ds i with
    | none => rw [h] at q; cases q
    | some d =>
      rw [h] at q
      cases q
      obtain ⟨p, vs, rfl, hp, rl⟩ := rx
      obtain ⟨v, hv, r⟩ := rl.atI h
      exact .inl (.inl ⟨p, vs, i, v, rfl, ry, SqL.of hp, hv, k _ H (.old r)⟩)
  · next ds i =>
    cases h : L2.atI ds i with
    | none => rw [h] at q; cases q
    | some d =>
      rw [h] at q
      cases q
      obtain ⟨p, vs, rfl, hp, rl⟩ := rx
      obtain ⟨v, hv, r⟩ := rl.atI h
      exact .inl (.inr (.inl ⟨p, vs, i, v, rfl, ry, s.sqT hp, hv, k _ H (.old r)⟩))
  · next z i =>
    split at q
    · next hl =>
      cases h : L2.atI z.cps.toList i with
      | none => rw [h] at q; cases q
      | some c =>
        rw [h] at q
        cases q
        exact .inl (.inr (.inr ⟨z, i, c, rx, ry, line_ok hl, h, k _ H (.old rfl)⟩))
    · cases q
  · next kds =>
    cases h : dKey e with
    | none => rw [h] at q; cases q
    | some key =>
      rw [h] at q
      have q : (kGet kds key).map (fun d => (⟨.sh, d⟩ : Val)) = some w := q
      cases h2 : kGet kds key with
      | none => rw [h2] at q; cases q
      | some d =>
        rw [h2] at q
        cases q
        obtain ⟨p, kvs, rfl, hp, rl⟩ := rx
        have ey := dKey_rh h ry
        subst ey
        rcases rl.val key with ⟨_, z⟩ | ⟨v, d', e1, e2, r⟩
        · rw [h2] at z; cases z
        · rw [h2] at e2
          cases e2
          exact .inr ⟨p, v, rfl, .inl ⟨kvs, key, hp, rfl, e1.symm⟩, k _ H (.old r)⟩
  · cases q
/-! ### a[lo:hi] -/
def PostO (C : Cn) (s : Fm) (σ : L2.St) (F : Hp) (W : WX) (r : Rs Sto (Option Int)) (Q : Option Int → Hp → Prop) : Prop :=
  match r with
  | .ok o st => ∀ F' H', Sub F F' → Mt C ⟨s.env, st⟩ σ F' H' → Q o H'
  | .ex c fs st => ∀ cls d F' H', Sub F F' → Mt C ⟨s.env, st⟩ σ F' H' → Exn C F' H' c fs cls d → W cls d σ H'
  | .no => False
def SimO (K : PySem.W.Frag) (W : WX) (t : TO) (m : Fm → Rs Sto (Option Int)) : Prop := ∀ (C : Cn) (s : Fm) (σ : L2.St) (F H : Hp) (Q : Option Int → Hp → Prop), C.K = K → Mt C s σ F H → PostO C s σ F W (m s) Q → t σ H Q
def mNoPart : Fm → Rs Sto (Option Int) := fun s => .ok none s.sto
theorem sim_noPart : SimO K W tNoPart mNoPart := fun C s σ F H Q e m p => p F H (Sub.refl F) m
def mPart (a : Fm → Rs Sto Val) : Fm → Rs Sto (Option Int) := fun s => (a s).bind fun w st => match w.d with
  | .int i => .ok (some i) st
  | _ => .no
theorem sim_part {t : TE} {a : Fm → Rs Sto Val} (ha : SimE K W t a) : SimO K W (tPart t) (mPart a) := fun C s σ F H Q e m p => by
  unfold mPart at p
  refine ha.then (β := Unit) e m (fun x st q v F1 H1 s1 m1 r1 => ?_) (fun c fs st q => by rw [q] at p; exact p) (fun q => by rw [q] at p; exact p)
  rw [q, Rs.bind_ok] at p
  obtain ⟨k, d⟩ := x
  cases d with
  | int i =>
    have z : v = .int i := r1.rh m1
    exact ⟨i, z, p F1 H1 s1 m1⟩
  | _ => exact p.elim
def SSl (K : PySem.W.Frag) (r : V → Option Int → Option Int → Hp → VK → Prop) (f : D → Option Int → Option Int → Option Val) : Prop :=
  ∀ (a0 : Addr) (F H : Hp) (x : V) (d : D) (lo hi : Option Int) (w : Val) (Q : VK), Sub F H → RH K a0 F H x d → f d lo hi = some w → (∀ v H', Res K a0 F H w v H' → Q v H') → r x lo hi H Q
def mSl (f : D → Option Int → Option Int → Option Val) (a : Fm → Rs Sto Val) (l u : Fm → Rs Sto (Option Int)) : Fm → Rs Sto Val := fun s => (a s).bind fun w st => (l ⟨s.env, st⟩).bind fun lo st => (u ⟨s.env, st⟩).bind fun hi st => ofO (f w.d lo hi) st
theorem PostO.mono {C : Cn} {s : Fm} {st : Sto} {σ : L2.St} {F F1 : Hp} {r : Rs Sto (Option Int)} {Q : Option Int → Hp → Prop} (z : Sub F F1) (p : PostO C s σ F W r Q) : PostO C ⟨s.env, st⟩ σ F1 W r Q := by
  cases r with
  | no => exact p
  | ex c fs st => exact fun cls d F' H' y => p cls d F' H' (z.trans y)
  | ok b st => exact fun F' H' y => p F' H' (z.trans y)
theorem sim_sl {r : V → Option Int → Option Int → Hp → VK → Prop} {f : D → Option Int → Option Int → Option Val} {ta : TE} {tl tu : TO} {a : Fm → Rs Sto Val} {l u : Fm → Rs Sto (Option Int)} (hr : SSl K r f) (ha : SimE K W ta a) (hl : SimO K W tl l) (hu : SimO K W tu u) :
    SimE K W (tSl r ta tl tu) (mSl f a l u) := fun C s σ F H Q e m p => by
  unfold mSl at p
  refine ha.then (β := Unit) e m (fun x st q v F1 H1 s1 m1 r1 => ?_) (fun c fs st q => by rw [q] at p; exact p) (fun q => by rw [q] at p; exact p)
  rw [q, Rs.bind_ok] at p
  refine hl C ⟨s.env, st⟩ σ F1 H1 _ e m1 ?_
  cases q2 : l ⟨s.env, st⟩ with
  | no => rw [q2] at p; exact p
  | ex c fs st' => rw [q2] at p; exact fun cls d F' H' z => p cls d F' H' (s1.trans z)
  | ok lo st' =>
    rw [q2, Rs.bind_ok] at p
    intro F2 H2 s2 m2
    refine hu C ⟨s.env, st'⟩ σ F2 H2 _ e m2 ?_
    cases q3 : u ⟨s.env, st'⟩ with
    | no => rw [q3] at p; exact p
    | ex c fs st' => rw [q3] at p; exact fun cls d F' H' z => p cls d F' H' (s1.trans (s2.trans z))
    | ok hi st3 =>
      rw [q3, Rs.bind_ok] at p
      intro F3 H3 s3 m3
      cases q4 : f x.d lo hi with
      | none => rw [q4] at p; exact p.elim
      | some w =>
        rw [q4] at p
        subst e
        refine hr C.a0 F3 H3 v x.d lo hi w Q m3.hd.sub ((r1.mono (s2.trans s3)).rh m3) q4 fun v' H' rs => ?_
        obtain ⟨F4, s4, m4, r4⟩ := rs.go m3
        exact p v' F4 H' (s1.trans (s2.trans (s3.trans s4))) m4 r4
/-- the items of xs[lo:hi] -/
def cut {α : Type} (xs : List α) (lo hi : Option Int) : List α := (xs.drop (HT.sIx xs.length 0 lo)).take (HT.sIx xs.length xs.length hi - HT.sIx xs.length 0 lo)
theorem RepL.drop {a0 : Addr} {F : Hp} : ∀ {vs : List V} {ds : List D} (n : Nat), RepL K a0 F vs ds → RepL K a0 F (vs.drop n) (ds.drop n)
  | _, _, 0, r => r
  | [], [], _ + 1, _ => trivial
  | [], _ :: _, _ + 1, h => h.elim
  | _ :: _, [], _ + 1, h => h.elim
  | _ :: _, _ :: _, n + 1, ⟨_, r⟩ => RepL.drop n r
theorem RepL.take {a0 : Addr} {F : Hp} : ∀ {vs : List V} {ds : List D} (n : Nat), RepL K a0 F vs ds → RepL K a0 F (vs.take n) (ds.take n)
  | _, _, 0, r => by simp; trivial
  | [], [], _ + 1, _ => trivial
  | [], _ :: _, _ + 1, h => h.elim
  | _ :: _, [], _ + 1, h => h.elim
  | _ :: _, _ :: _, n + 1, ⟨h, r⟩ => ⟨h, RepL.take n r⟩
theorem RepL.cut {a0 : Addr} {F : Hp} {vs : List V} {ds : List D} (r : RepL K a0 F vs ds) (lo hi : Option Int) : RepL K a0 F (cutV vs lo hi) (RX.cut ds lo hi) := by
  unfold cutV RX.cut
  rw [r.len]
  exact (r.drop _).take _
def dSl : D → Option Int → Option Int → Option Val
  | .lst ds, lo, hi => some ⟨.fr, .lst (cut ds lo hi)⟩
  | .tup ds, lo, hi => shV (.tup (cut ds lo hi))
  | .str z, lo, hi => if z.length ≤ line then shV (.str (cutS z lo hi)) else none
  | _, _, _ => none
def rSlAny (K : PySem.W.Frag) : V → Option Int → Option Int → Hp → VK → Prop := fun x lo hi H Q => rSlL K x lo hi H Q ∨ rSlA K x lo hi H Q ∨ rSlS x lo hi H Q
theorem sl_any : SlR X (rSlAny X.K) := SlR.or sl_list (SlR.or sl_tupA sl_str)
theorem ssl_any : SSl K (rSlAny K) dSl := fun a0 F H x d lo hi w Q s rx q k => by
  unfold dSl at q
  split at q
  · cases q
    obtain ⟨p, vs, rfl, hp, rl⟩ := rx
    exact .inl ⟨p, vs, rfl, SqL.of hp, fun t ht => k _ _ (.new ht ⟨_, rfl, rl.cut lo hi⟩)⟩
  · cases q
    obtain ⟨p, vs, rfl, hp, rl⟩ := rx
    refine .inr (.inl ⟨p, vs, rfl, s.sqT hp, fun ⟨h1, h2⟩ => ?_, fun _ t ht => k _ _ (.tup ht (rl.cut lo hi))⟩)
    refine k _ H (.old ⟨p, vs, rfl, hp, ?_⟩)
    have e : cutV vs lo hi = vs := by
      unfold cutV
      rw [h1, h2]
      simp
    rw [← e]
    exact rl.cut lo hi
  · split at q
    · next hl =>
      cases q
      exact .inr (.inr ⟨_, rx, line_ok hl, k _ H (.old rfl)⟩)
    · cases q
  · cases q
/-! ### built-ins -/
theorem SCall.or {r r' : List V → Hp → VK → Prop} {f g h : List D → Option Val} (a : SCall K r f) (b : SCall K r' g) (e : ∀ x w, h x = some w → f x = some w ∨ g x = some w) : SCall K (fun xs H Q => r xs H Q ∨ r' xs H Q) h := fun a0 F H xs ds w Q s rx q k => by
  rcases e ds w q with q | q
  · exact .inl (a a0 F H xs ds w Q s rx q k)
  · exact .inr (b a0 F H xs ds w Q s rx q k)
theorem CallR.or {f : Value} {r r' : List V → Hp → VK → Prop} (h : CallR X f r) (h' : CallR X f r') : CallR X f (fun xs H Q => r xs H Q ∨ r' xs H Q) := by
  intro pins s σ H xs us Q I r q
  rcases q with q | q
  · exact h pins s σ H xs us Q I r q
  · exact h' pins s σ H xs us Q I r q
def rLenA (K : PySem.W.Frag) : List V → Hp → VK → Prop := fun xs H Q => (∃ x n, xs = [x] ∧ LenV K x H n ∧ Q (.int n) H) ∨ ∃ a kvs, xs = [.ref a] ∧ Rd H a (.dK kvs) ∧ Q (.int (kvs.length : Nat)) H
theorem call_lenA : CallR X (.builtin "len") (rLenA X.K) := by
  refine CallR.or call_len ?_
  intro pins s σ H xs us Q I r h
  obtain ⟨a, kvs, rfl, e, q⟩ := h
  obtain ⟨u, eu, rx⟩ := vals1 r
  subst eu
  cases rx
  exact d_len I e fun t s' I' => ⟨.int (kvs.length : Nat), H, I', ⟨t, rfl⟩, q⟩
theorem RepK.len {a0 : Addr} {F : Hp} : ∀ {kvs : List (Key × V)} {kds : List (Key × D)}, RepK K a0 F kvs kds → kvs.length = kds.length
  | [], [], _ => rfl
  | [], _ :: _, h => h.elim
  | _ :: _, [], h => h.elim
  | (_, _) :: vs, (_, _) :: ds, ⟨_, _, r⟩ => by simp [RepK.len r]
def dLen : List D → Option Val
  | [.lst ds] => shI ds.length
  | [.tup ds] => shI ds.length
  | [.dic ds] => shI ds.length
  | [.str z] => if z.length ≤ line then shI z.length else none
  | _ => none
theorem sc_len : SCall K (rLenA K) dLen := fun a0 F H xs ds w Q s rx q k => by
  unfold dLen at q
  split at q
  · cases q
    obtain ⟨v, rfl, p, vs, rfl, hp, rl⟩ := rhl1 rx
    exact .inl ⟨_, _, rfl, .inl ⟨vs, SqL.of hp, rfl⟩, k _ H (.old (by rw [rl.len]; rfl))⟩
  · cases q
    obtain ⟨v, rfl, p, vs, rfl, hp, rl⟩ := rhl1 rx
    exact .inl ⟨_, _, rfl, .inr ⟨vs, s.sqT hp, rfl⟩, k _ H (.old (by rw [rl.len]; rfl))⟩
  · cases q
    obtain ⟨v, rfl, p, vs, rfl, hp, rl⟩ := rhl1 rx
    exact .inr ⟨_, _, rfl, hp, k _ H (.old (by rw [rl.len]; rfl))⟩
  · split at q
    · next hl =>
      cases q
      obtain ⟨v, rfl, h⟩ := rhl1 rx
      cases (show v = _ from h)
      exact .inl ⟨_, _, rfl, ⟨line_ok hl, rfl⟩, k _ H (.old rfl)⟩
    · cases q
  · cases q
def rIntA : List V → Hp → VK → Prop := fun xs H Q => (∃ i, xs = [.int i] ∧ Q (.int i) H) ∨ ∃ k, xs = [.bl k] ∧ Q (.int (if k then 1 else 0)) H
theorem call_intA : CallR X (.type "int") rIntA := call_int1
def dInt : List D → Option Val
  | [.int i] => shI i
  | [.bl b] => shI (if b then 1 else 0)
  | _ => none
theorem sc_int : SCall K rIntA dInt := fun a0 F H xs ds w Q s rx q k => by
  unfold dInt at q
  split at q
  · cases q
    obtain ⟨v, rfl, h⟩ := rhl1 rx
    cases (show v = _ from h)
    exact .inl ⟨_, rfl, k _ H (.old rfl)⟩
  · cases q
    obtain ⟨v, rfl, h⟩ := rhl1 rx
    cases (show v = _ from h)
    exact .inr ⟨_, rfl, k _ H (.old rfl)⟩
  · cases q
def rAbsA : List V → Hp → VK → Prop := fun xs H Q => ∃ i, xs = [.int i] ∧ Q (.int (if i < 0 then -i else i)) H
theorem call_absA : CallR X (.builtin "abs") rAbsA := call_abs
def dAbs : List D → Option Val
  | [.int i] => shI (if i < 0 then -i else i)
  | _ => none
theorem sc_abs : SCall K rAbsA dAbs := fun a0 F H xs ds w Q s rx q k => by
  unfold dAbs at q
  split at q
  · cases q
    obtain ⟨v, rfl, h⟩ := rhl1 rx
    cases (show v = _ from h)
    exact ⟨_, rfl, k _ H (.old rfl)⟩
  · cases q
/-- ints only -/
def intsD : List D → Option (List Int)
  | [] => some []
  | .int i :: ds => (intsD ds).map (i :: ·)
  | _ :: _ => none
theorem intsD_rep {a0 : Addr} {F : Hp} : ∀ {vs : List V} {ds : List D} {ns : List Int}, RepL K a0 F vs ds → intsD ds = some ns → vs = ns.map V.int
  | [], [], _, _, e => by cases e; rfl
  | [], _ :: _, _, h, _ => h.elim
  | _ :: _, [], _, h, _ => h.elim
  | v :: vs, d :: ds, ns, ⟨h, r⟩, e => by
    cases d with
    | int i =>
      cases q : intsD ds with
      | none => simp [intsD, q] at e
      | some ms =>
        simp [intsD, q] at e
        subst e
        cases (show v = .int i from h)
        rw [intsD_rep r q]
        rfl
    | _ => simp [intsD] at e
def maxI : List Int → Int
  | [] => 0
  | i :: is => is.foldl (fun a b => if b > a then b else a) i
def minI : List Int → Int
  | [] => 0
  | i :: is => is.foldl (fun a b => if b < a then b else a) i
theorem foldl_max : ∀ (is : List Int) (i : Int), (is.foldl (fun a b => if b > a then b else a) i = i ∨ is.foldl (fun a b => if b > a then b else a) i ∈ is) ∧ i ≤ is.foldl (fun a b => if b > a then b else a) i ∧ ∀ j ∈ is, j ≤ is.foldl (fun a b => if b > a then b else a) i
  | [], i => ⟨.inl rfl, Int.le_refl _, fun _ h => by cases h⟩
  | j :: is, i => by
    rw [List.foldl_cons]
    obtain ⟨h1, h2, h3⟩ := foldl_max is (if j > i then j else i)
    refine ⟨?_, ?_, fun k hk => ?_⟩
    · rcases h1 with h | h
      · rw [h]
        split
        · exact .inr List.mem_cons_self
        · exact .inl rfl
      · exact .inr (List.mem_cons_of_mem _ h)
    · refine Int.le_trans ?_ h2
      split <;> omega
    · rcases List.mem_cons.mp hk with e | hk
      · subst e
        refine Int.le_trans ?_ h2
        split <;> omega
      · exact h3 k hk
theorem foldl_min : ∀ (is : List Int) (i : Int), (is.foldl (fun a b => if b < a then b else a) i = i ∨ is.foldl (fun a b => if b < a then b else a) i ∈ is) ∧ is.foldl (fun a b => if b < a then b else a) i ≤ i ∧ ∀ j ∈ is, is.foldl (fun a b => if b < a then b else a) i ≤ j
  | [], i => ⟨.inl rfl, Int.le_refl _, fun _ h => by cases h⟩
  | j :: is, i => by
    rw [List.foldl_cons]
    obtain ⟨h1, h2, h3⟩ := foldl_min is (if j < i then j else i)
    refine ⟨?_, ?_, fun k hk => ?_⟩
    · rcases h1 with h | h
      · rw [h]
        split
        · exact .inr List.mem_cons_self
        · exact .inl rfl
      · exact .inr (List.mem_cons_of_mem _ h)
    · refine Int.le_trans h2 ?_
      split <;> omega
    · rcases List.mem_cons.mp hk with e | hk
      · subst e
        refine Int.le_trans h2 ?_
        split <;> omega
      · exact h3 k hk
def rMaxA (K : PySem.W.Frag) : List V → Hp → VK → Prop := fun xs H Q => (∃ i j, xs = [.int i, .int j] ∧ Q (.int (if j > i then j else i)) H) ∨ rMax K xs H Q
theorem call_maxA (hc : X.calm = true) : CallR X (.builtin "max") (rMaxA X.K) := CallR.or (call_max2 hc) (cr_max hc)
def dMax : List D → Option Val
  | [.int i, .int j] => shI (if j > i then j else i)
  | [.lst ds] => (intsD ds).bind fun ns => if ns = [] then none else shI (maxI ns)
  | _ => none
theorem sc_max : SCall K (rMaxA K) dMax := fun a0 F H xs ds w Q s rx q k => by
  unfold dMax at q
  split at q
  · cases q
    obtain ⟨v, u, rfl, h, h'⟩ := rhl2 rx
    cases (show v = _ from h)
    cases (show u = _ from h')
    exact .inl ⟨_, _, rfl, k _ H (.old rfl)⟩
  · next es =>
    cases h : intsD es with
    | none => rw [h] at q; cases q
    | some ns =>
      rw [h] at q
      have q : (if ns = [] then none else shI (maxI ns)) = some w := q
      split at q
      · cases q
      · next hne =>
        cases q
        obtain ⟨v, rfl, p, vs, rfl, hp, rl⟩ := rhl1 rx
        refine .inr ⟨p, ns, rfl, SqL.of (by rw [← intsD_rep rl h]; exact hp), List.length_pos_iff.mpr hne, fun m h1 h2 => ?_⟩
        refine k _ H (.old ?_)
        match ns, hne with
        | i :: is, _ =>
          obtain ⟨a, b, c⟩ := foldl_max is i
          show V.int m = V.int (is.foldl (fun a b => if b > a then b else a) i)
          congr 1
          refine Int.le_antisymm ?_ ?_
          · rcases List.mem_cons.mp h1 with e | h1
            · rw [e]; exact b
            · exact c m h1
          · rcases a with e | e
            · rw [e]; exact h2 i List.mem_cons_self
            · exact h2 _ (List.mem_cons_of_mem _ e)
  · cases q
def rMinA (K : PySem.W.Frag) : List V → Hp → VK → Prop := fun xs H Q => (∃ i j, xs = [.int i, .int j] ∧ Q (.int (if j < i then j else i)) H)
theorem call_minA (hc : X.calm = true) : CallR X (.builtin "min") (rMinA X.K) := call_min2 hc
def dMin : List D → Option Val
  | [.int i, .int j] => shI (if j < i then j else i)
  | _ => none
theorem sc_min : SCall K (rMinA K) dMin := fun a0 F H xs ds w Q s rx q k => by
  unfold dMin at q
  split at q
  · cases q
    obtain ⟨v, u, rfl, h, h'⟩ := rhl2 rx
    cases (show v = _ from h)
    cases (show u = _ from h')
    exact ⟨_, _, rfl, k _ H (.old rfl)⟩
  · cases q
def dSum : List D → Option Val
  | [.lst ds] => (intsD ds).map fun ns => ⟨.sh, .int ns.sum⟩
  | _ => none
theorem sc_sum : SCall K (rSum K) dSum := fun a0 F H xs ds w Q s rx q k => by
  unfold dSum at q
  split at q
  · next es =>
    cases h : intsD es with
    | none => rw [h] at q; cases q
    | some ns =>
      rw [h] at q
      cases q
      obtain ⟨v, rfl, p, vs, rfl, hp, rl⟩ := rhl1 rx
      exact ⟨p, ns, rfl, SqL.of (by rw [← intsD_rep rl h]; exact hp), k _ H (.old rfl)⟩
  · cases q
/-! ### list(..), tuple(..) -/
def rListA (K : PySem.W.Frag) : List V → Hp → VK → Prop := fun xs H Q => (∃ p ys, xs = [.ref p] ∧ (SqL K H p ys ∨ SqT K H p ys) ∧ ∀ l, H l = none → Q (.ref l) (upd H l (.lst ys)))
theorem call_listA : CallR X (.type "list") (rListA X.K) := call_list_of
def dList : List D → Option Val
  | [.lst ds] => some ⟨.fr, .lst ds⟩
  | [.tup ds] => some ⟨.fr, .lst ds⟩
  | _ => none
theorem sc_list : SCall K (rListA K) dList := fun a0 F H xs ds w Q s rx q k => by
  unfold dList at q
  split at q
  · cases q
    obtain ⟨v, rfl, p, vs, rfl, hp, rl⟩ := rhl1 rx
    exact ⟨p, vs, rfl, .inl (SqL.of hp), fun l hl => k _ _ (.new hl ⟨_, rfl, rl⟩)⟩
  · cases q
    obtain ⟨v, rfl, p, vs, rfl, hp, rl⟩ := rhl1 rx
    exact ⟨p, vs, rfl, .inr (s.sqT hp), fun l hl => k _ _ (.new hl ⟨_, rfl, rl⟩)⟩
  · cases q
def rTupleA (K : PySem.W.Frag) : List V → Hp → VK → Prop := fun xs H Q => ∃ p ys, xs = [.ref p] ∧ ((SqL K H p ys ∧ ∀ l, H l = none → Q (.ref l) (upd H l (.tup ys))) ∨ (SqT K H p ys ∧ Q (.ref p) H))
theorem call_tupleA : CallR X (.type "tuple") (rTupleA X.K) := call_tuple_of
def dTuple : List D → Option Val
  | [.lst ds] => shV (.tup ds)
  | [.tup ds] => shV (.tup ds)
  | _ => none
theorem sc_tuple : SCall K (rTupleA K) dTuple := fun a0 F H xs ds w Q s rx q k => by
  unfold dTuple at q
  split at q
  · cases q
    obtain ⟨v, rfl, p, vs, rfl, hp, rl⟩ := rhl1 rx
    exact ⟨p, vs, rfl, .inl ⟨SqL.of hp, fun l hl => k _ _ (.tup hl rl)⟩⟩
  · cases q
    obtain ⟨v, rfl, p, vs, rfl, hp, rl⟩ := rhl1 rx
    exact ⟨p, vs, rfl, .inr ⟨s.sqT hp, k _ H (.old ⟨p, vs, rfl, hp, rl⟩)⟩⟩
  · cases q
/-! ### str of an int -/
def rStrA : List V → Hp → VK → Prop := fun xs H Q => ∃ i, xs = [.int i] ∧ i.natAbs.log2 < 1920 ∧ Q (.str (toString i)) H
theorem call_strA : CallR X (.type "str") rStrA := call_str_int
def dStr : List D → Option Val
  | [.int i] => if i.natAbs.log2 < 1920 then shV (.str (toString i)) else none
  | _ => none
theorem sc_str : SCall K rStrA dStr := fun a0 F H xs ds w Q s rx q k => by
  unfold dStr at q
  split at q
  · split at q
    · next h =>
      cases q
      obtain ⟨v, rfl, h'⟩ := rhl1 rx
      cases (show v = _ from h')
      exact ⟨_, rfl, h, k _ H (.old rfl)⟩
    · cases q
  · cases q
end
end RX

set_option Elab.async false
set_option linter.all false
set_option maxRecDepth 100000
set_option maxHeartbeats 1000000
/-! RX: what changes a slot's own container. -/
namespace RX
open PySem PySem.Spec PyProof.Rows L2
section
variable {C : Cn} {s : Fm} {σ : L2.St} {F H : Hp}
/-- a slot's own container is changed -/
theorem Mt.setOwn (m : Mt C s σ F H) {i : Nat} {d d' : D} {a : Addr} {ho : HO} (e : s.env[i]? = some (.own d)) (z : σ[i]? = some (some (V.ref a))) (c : COf C.K C.a0 F ho d') :
    Mt C ⟨s.env.set i (.own d'), s.sto⟩ σ F (upd H a ho) := by
  obtain ⟨b, z', f, ne, nh, _, _, _⟩ := m.ow i d e
  have : V.ref a = V.ref b := by simpa using z.symm.trans z'
  cases this
  have hi : i < s.env.length := (List.getElem?_eq_some_iff.mp e).1
  have m' : Mt C s σ F H := m
  obtain ⟨⟨h1, h2, h3, h4, h5, h6, h7, h8, h9⟩, m2, m3, m4, m5⟩ := m
  refine ⟨⟨fun b u q => ?_, h2, fun b u q zn => ?_, h4, h5, ?_, h7, h8, h9⟩, ⟨by simp [m2.1], m2.2⟩, fun j x q => ?_, fun j x q => ?_, fun j k x x' b q q' y y' => ?_⟩
  · rw [upd_ne (ne_of_none q f)]; exact h1 b u q
  · rw [upd_ne (ne_of_none q nh)]; exact h3 b u q zn
  · rw [upd_ne (fun q => ne q.symm)]; exact h6
  · dsimp only at q
    rw [List.getElem?_set] at q
    by_cases hj : i = j
    · rw [if_pos hj] at q
      split at q <;> cases q
    · rw [if_neg hj] at q
      exact m3 j x q
  · dsimp only at q
    rw [List.getElem?_set] at q
    by_cases hj : i = j
    · subst hj
      rw [if_pos rfl, if_pos hi] at q
      cases q
      exact ⟨a, z, f, ne, nh, ho, upd_same, c⟩
    · rw [if_neg hj] at q
      obtain ⟨b, y, x1, x2, x3, ho', x4, x5⟩ := m4 j x q
      have hba : b ≠ a := by
        rintro rfl
        exact hj (m5 i j d x b e q z y)
      exact ⟨b, y, x1, x2, x3, ho', by rw [upd_ne hba]; exact x4, x5⟩
  · have go : ∀ {j : Nat} {x : D}, (s.env.set i (.own d'))[j]? = some (.own x) → ∃ x0, s.env[j]? = some (.own x0) := fun {j x} q => by
      rw [List.getElem?_set] at q
      by_cases hj : i = j
      · subst hj
        exact ⟨d, e⟩
      · rw [if_neg hj] at q
        exact ⟨x, q⟩
    obtain ⟨x0, q0⟩ := go q
    obtain ⟨x1, q1⟩ := go q'
    exact m5 j k x0 x1 b q0 q1 y y'
end
section
variable {K : PySem.W.Frag} {W : WX} {X : Cx}
/-- a statement that hands a told value to a change of slot i -/
def ownL (env : List Slot) (i : Nat) : Option (List D) := match env[i]? with
  | some (.own (.lst ds)) => some ds
  | _ => none
theorem ownL_some {env : List Slot} {i : Nat} {ds : List D} (h : ownL env i = some ds) : env[i]? = some (.own (.lst ds)) := by
  unfold ownL at h
  split at h
  · next q => cases h; exact q
  · cases h
def ownK (env : List Slot) (i : Nat) : Option (List (Key × D)) := match env[i]? with
  | some (.own (.dic ds)) => some ds
  | _ => none
theorem ownK_some {env : List Slot} {i : Nat} {ds : List (Key × D)} (h : ownK env i = some ds) : env[i]? = some (.own (.dic ds)) := by
  unfold ownK at h
  split at h
  · next q => cases h; exact q
  · cases h
/-- the list of slot i, as it lies -/
theorem Mt.atL {C : Cn} {s : Fm} {σ : L2.St} {F H : Hp} (m : Mt C s σ F H) {i : Nat} {ds : List D} (h : s.env[i]? = some (.own (.lst ds))) :
    ∃ a vs, σ[i]? = some (some (V.ref a)) ∧ H a = some (.lst vs) ∧ RepL C.K C.a0 F vs ds := by
  obtain ⟨a, z, _, _, _, ho, e, vs, eh, r⟩ := m.ow i _ h
  subst eh
  exact ⟨a, vs, z, e, r⟩
theorem Mt.atK {C : Cn} {s : Fm} {σ : L2.St} {F H : Hp} (m : Mt C s σ F H) {i : Nat} {ds : List (Key × D)} (h : s.env[i]? = some (.own (.dic ds))) :
    ∃ a vs, σ[i]? = some (some (V.ref a)) ∧ H a = some (.dK vs) ∧ RepK C.K C.a0 F vs ds := by
  obtain ⟨a, z, _, _, _, ho, e, vs, eh, r⟩ := m.ow i _ h
  subst eh
  exact ⟨a, vs, z, e, r⟩
/-- a method that changes its list: new items, the value handed back -/
def SMut (K : PySem.W.Frag) (r : V → List V → Hp → VK → Prop) (f : List D → List D → Option (List D × D)) : Prop :=
  ∀ (a0 : Addr) (F H : Hp) (a : Addr) (vs us : List V) (ds es ds' : List D) (d : D), Sub F H → H a = some (.lst vs) → RepL K a0 F vs ds → RepL K a0 F us es → f ds es = some (ds', d) →
    ∃ vs' v, RepL K a0 F vs' ds' ∧ Rep K a0 F v d ∧ ∀ Q : VK, Q v (upd H a (.lst vs')) → r (.ref a) us H Q
/-- .. of slot i; g goes on with the value -/
def mMutG {β : Type} (i : Nat) (f : List D → List D → Option (List D × D)) (as : Fm → Rs Sto (List Val)) (g : D → Fm → Rs Fm β) : Fm → Rs Fm β := fun s => match ownL s.env i with
  | none => .no
  | some ds => match as s with
    | .ok ws st => (match allSh ws with
      | none => .no
      | some es => match f ds es with
        | none => .no
        | some (ds', d) => g d ⟨s.env.set i (.own (.lst ds')), st⟩)
    | .ex c fs st => .ex c fs ⟨s.env, st⟩
    | .no => .no
theorem tyV_lst {H : Hp} {a : Addr} {vs : List V} (h : H a = some (.lst vs)) : tyV K "list" (.ref a) H := .inl ⟨rfl, vs, SqL.of h⟩
theorem mut_go {β : Type} {i : Nat} {r : V → List V → Hp → VK → Prop} {f : List D → List D → Option (List D × D)} {ta : TA} {as : Fm → Rs Sto (List Val)} {g : D → Fm → Rs Fm β} {C : Cn} {s : Fm} {σ : L2.St} {F H : Hp} {Q : VK} {P : Rs Fm β → Hp → Prop}
    (hr : SMut K r f) (ha : SimA K W ta as) (e : C.K = K) (m : Mt C s σ F H) (hno : ∀ F, ¬ P .no F) (hex : ∀ c fs s' F, P (.ex c fs s') F → ∀ cls d F' H', Sub F F' → Mt C s' σ F' H' → Exn C F' H' c fs cls d → W cls d σ H')
    (hmono : ∀ x F F', Sub F F' → P x F → P x F') (p : P (mMutG i f as g s) F)
    (k : ∀ d s' F' H' v, Sub F F' → Mt C s' σ F' H' → Rep C.K C.a0 F' v d → P (g d s') F' → Q v H') : tBM K "list" r (tVar i) ta σ H Q := by
  unfold mMutG at p
  cases q : ownL s.env i with
  | none => rw [q] at p; exact absurd p (hno F)
  | some ds =>
    rw [q] at p
    dsimp only at p
    have ei := ownL_some q
    obtain ⟨a, vs, z, hl, rl⟩ := m.atL ei
    refine ⟨.ref a, z, tyV_lst hl, ?_⟩
    refine ha C s σ F H _ e m ?_
    cases q2 : as s with
    | no => rw [q2] at p; exact absurd p (hno F)
    | ex c fs st => rw [q2] at p; exact fun cls d F' H' s1 m1 x => hex c fs _ F p cls d F' H' s1 m1 x
    | ok ws st =>
      rw [q2] at p
      dsimp only at p
      intro us F1 H1 s1 m1 r1
      obtain ⟨a', vs', z', hl', rl'⟩ := Mt.atL (s := ⟨s.env, st⟩) m1 ei
      have : V.ref a = V.ref a' := by simpa using z.symm.trans z'
      cases this
      cases q3 : allSh ws with
      | none => rw [q3] at p; exact absurd p (hno F)
      | some es =>
        rw [q3] at p
        dsimp only at p
        cases q4 : f ds es with
        | none => rw [q4] at p; exact absurd p (hno F)
        | some y =>
          obtain ⟨ds', d⟩ := y
          rw [q4] at p
          subst e
          obtain ⟨ws', v, rl2, rv, go⟩ := hr C.a0 F1 H1 a vs' us ds es ds' d m1.hd.sub hl' rl' (allSh_rep q3 r1) q4
          refine go Q ?_
          exact k d _ F1 _ v s1 (Mt.setOwn (s := ⟨s.env, st⟩) (d' := .lst ds') m1 ei z ⟨ws', rfl, rl2⟩) rv (hmono _ _ _ s1 p)
/-- x.m(..) as a statement -/
def mMut (i : Nat) (f : List D → List D → Option (List D × D)) (as : Fm → Rs Sto (List Val)) : Fm → Rs Fm Fl := mMutG i f as fun _ s => .ok .nx s
theorem sim_mut {i : Nat} {r : V → List V → Hp → VK → Prop} {f : List D → List D → Option (List D × D)} {ta : TA} {as : Fm → Rs Sto (List Val)} (hr : SMut K r f) (ha : SimA K W ta as) : SimS K W (tDrop (tBM K "list" r (tVar i) ta)) (mMut i f as) := fun C s σ F H D e m p =>
  mut_go (P := fun x F => PostS C F W x D) hr ha e m (fun _ h => h) (fun c fs s' F p cls d F' H' s1 m1 x => p cls d σ F' H' s1 m1 x) (fun x F F' z p => PostS.mono z p) p fun d s' F' H' v s1 m1 rv po => po σ F' H' (Sub.refl F') m1
/-- y = x.m(..) -/
def mSetMut (j i : Nat) (f : List D → List D → Option (List D × D)) (as : Fm → Rs Sto (List Val)) : Fm → Rs Fm Fl := mMutG i f as fun d s => .ok .nx ⟨s.env.set j (.v d), s.sto⟩
theorem sim_setMut {j i : Nat} (hj0 : j ≠ 0) {r : V → List V → Hp → VK → Prop} {f : List D → List D → Option (List D × D)} {ta : TA} {as : Fm → Rs Sto (List Val)} (hr : SMut K r f) (ha : SimA K W ta as) : SimS K W (tAsg (tBM K "list" r (tVar i) ta) (gName j)) (mSetMut j i f as) := fun C s σ F H D e m p =>
  mut_go (P := fun x F => PostS C F W x D) hr ha e m (fun _ h => h) (fun c fs s' F p cls d F' H' s1 m1 x => p cls d σ F' H' s1 m1 x) (fun x F F' z p => PostS.mono z p) p fun d s' F' H' v s1 m1 rv po => po _ F' H' (Sub.refl F') (m1.putV (i := j) hj0 rv)
/-- the methods -/
def fAppend : List D → List D → Option (List D × D) := fun ds es => match es with
  | [d] => if ds.length < line then some (ds ++ [d], .non) else none
  | _ => none
theorem smut_append : SMut K rAppend fAppend := fun a0 F H a vs us ds es ds' d sub hl rl ra q => by
  unfold fAppend at q
  split at q
  · split at q
    · next h =>
      cases q
      match us, ra with
      | [u], ⟨ru, _⟩ => exact ⟨vs ++ [u], .non, rl.snoc ru, rfl, fun Q k => ⟨a, vs, u, rfl, rfl, hl, by rw [rl.len]; exact line_lt h, k⟩⟩
    · cases q
  · cases q
def fExtend : List D → List D → Option (List D × D) := fun ds es => match es with
  | [.lst d] => if ds.length + d.length ≤ line then some (ds ++ d, .non) else none
  | _ => none
theorem smut_extend : SMut K rExtend fExtend := fun a0 F H a vs us ds es ds' d sub hl rl ra q => by
  unfold fExtend at q
  split at q
  · split at q
    · next h =>
      cases q
      match us, ra with
      | [u], ⟨⟨b, zs, eu, hb, rb⟩, _⟩ =>
        subst eu
        exact ⟨vs ++ zs, .non, rl.append rb, rfl, fun Q k => ⟨a, b, vs, zs, rfl, rfl, hl, sub _ _ hb, by rw [rl.len, rb.len]; exact line_ok h, k⟩⟩
    · cases q
  · cases q
theorem RepL.erase {a0 : Addr} {F : Hp} : ∀ {vs : List V} {ds : List D} (n : Nat), RepL K a0 F vs ds → RepL K a0 F (vs.eraseIdx n) (ds.eraseIdx n)
  | [], [], _, _ => trivial
  | [], _ :: _, _, h => h.elim
  | _ :: _, [], _, h => h.elim
  | _ :: _, _ :: _, 0, ⟨_, r⟩ => r
  | _ :: _, _ :: _, n + 1, ⟨h, r⟩ => ⟨h, RepL.erase n r⟩
def fPopAt : List D → List D → Option (List D × D) := fun ds es => match es with
  | [.int i] => (ixN ds.length i).bind fun k => if -big < i ∧ i < big then (ds[k]?).map fun d => (ds.eraseIdx k, d) else none
  | _ => none
theorem smut_popAt : SMut K rPopAt fPopAt := fun a0 F H a vs us ds es ds' d sub hl rl ra q => by
  unfold fPopAt at q
  split at q
  · next i =>
    cases h : ixN ds.length i with
    | none => rw [h] at q; cases q
    | some k =>
      rw [h] at q
      have q : (if -big < i ∧ i < big then (ds[k]?).map fun d => (ds.eraseIdx k, d) else none) = some (ds', d) := q
      split at q
      · next hb =>
        cases h2 : ds[k]? with
        | none => rw [h2] at q; cases q
        | some d0 =>
          rw [h2] at q
          cases q
          match us, ra with
          | [u], ⟨ru, _⟩ =>
            cases (show u = .int i from ru)
            obtain ⟨v, hv, rv⟩ := rl.get h2
            have hs := (ixN_seq h).1
            rw [← rl.len] at hs
            unfold big at hb
            exact ⟨vs.eraseIdx k, v, rl.erase k, rv, fun Q kk => ⟨a, vs, i, k, v, rfl, rfl, hl, by omega, by omega, hs, hv, kk⟩⟩
      · cases q
  · cases q
/-- x.append(y.pop(..)) -/
def mAppendPop (i j : Nat) (as : Fm → Rs Sto (List Val)) : Fm → Rs Fm Fl := fun s => match ownL s.env i with
  | none => .no
  | some _ => mMutG j fPopAt as (fun d s1 => match ownL s1.env i with
    | some ds => if ds.length < line then .ok .nx ⟨s1.env.set i (.own (.lst (ds ++ [d]))), s1.sto⟩ else .no
    | none => .no) s
theorem sim_appendPop {i j : Nat} {ta : TA} {as : Fm → Rs Sto (List Val)} (ha : SimA K W ta as) : SimS K W (tDrop (tBM K "list" rAppend (tVar i) (tCons (tBM K "list" rPopAt (tVar j) ta) tNil))) (mAppendPop i j as) := fun C s σ F H D e m p => by
  unfold mAppendPop at p
  cases q : ownL s.env i with
  | none => rw [q] at p; exact p.elim
  | some ds0 =>
    rw [q] at p
    dsimp only at p
    obtain ⟨a, vs, z, hl, rl⟩ := m.atL (ownL_some q)
    refine ⟨.ref a, z, tyV_lst hl, ?_⟩
    refine mut_go (P := fun x F => PostS C F W x D) smut_popAt ha e m (fun _ h => h) (fun c fs s' F p cls d F' H' s1 m1 x => p cls d σ F' H' s1 m1 x) (fun x F F' z p => PostS.mono z p) p fun d s' F' H' v s1 m1 rv po => ?_
    cases q2 : ownL s'.env i with
    | none => rw [q2] at po; exact po.elim
    | some ds =>
      rw [q2] at po
      dsimp only at po
      have ei := ownL_some q2
      obtain ⟨a', vs', z', hl', rl'⟩ := m1.atL ei
      have : V.ref a = V.ref a' := by simpa using z.symm.trans z'
      cases this
      by_cases hlen : ds.length < line
      · rw [if_pos hlen] at po
        refine ⟨a, vs', v, rfl, rfl, hl', by rw [rl'.len]; exact line_lt hlen, ?_⟩
        exact po σ F' _ (Sub.refl F') (m1.setOwn (d' := .lst (ds ++ [d])) ei z ⟨_, rfl, rl'.snoc rv⟩)
      · rw [if_neg hlen] at po
        exact po.elim
/-! ### x[i] = v -/
def rSetA : TSet := fun o i v H Q => rSetL o i v H Q ∨ rSetD o i v H Q
theorem PSet.or {r r' : TSet} (h : PSet X r) (h' : PSet X r') : PSet X (fun o i v H Q => r o i v H Q ∨ r' o i v H Q) := by
  intro pins s σ H o i v ov iv u Q I ro ri rv q
  rcases q with q | q
  · exact h pins s σ H o i v ov iv u Q I ro ri rv q
  · exact h' pins s σ H o i v ov iv u Q I ro ri rv q
theorem set_any (hu : X.A.units + 64 < cLine) : PSet X rSetA := PSet.or set_list (set_dict (by omega))
theorem RepL.set {a0 : Addr} {F : Hp} {v : V} {d : D} (h : Rep K a0 F v d) : ∀ {vs : List V} {ds : List D} (n : Nat), RepL K a0 F vs ds → RepL K a0 F (vs.set n v) (ds.set n d)
  | [], [], _, _ => trivial
  | [], _ :: _, _, h => h.elim
  | _ :: _, [], _, h => h.elim
  | _ :: _, _ :: _, 0, ⟨_, r⟩ => ⟨h, r⟩
  | _ :: _, _ :: _, n + 1, ⟨h', r⟩ => ⟨h', RepL.set h n r⟩
theorem putK_cons {j : Key} {v : V} {r : List (Key × V)} {k : Key} {x : V} : putK ((j, v) :: r) k x = if j = k then (if (r.any fun kv => decide (kv.1 = k)) = true then (j, x) :: (r.map fun kv => if kv.1 = k then (kv.1, x) else kv) else (j, x) :: r.map fun kv => if kv.1 = k then (kv.1, x) else kv) else (j, v) :: putK r k x := by
  unfold putK
  by_cases h : j = k
  · simp [h]
  · simp only [List.any_cons, h, decide_false, Bool.false_or, if_false, List.map_cons]
    split <;> rfl
theorem map_no {k : Key} {x : V} : ∀ {r : List (Key × V)}, valV r k = none → (r.map fun kv => if kv.1 = k then (kv.1, x) else kv) = r
  | [], _ => rfl
  | (j, v) :: r, h => by
    by_cases e : j = k
    · rw [valV_pos e] at h; cases h
    · rw [valV_neg e] at h
      rw [List.map_cons, map_no h]
      simp [e]
end
end RX

set_option Elab.async false
set_option linter.all false
set_option maxRecDepth 100000
set_option maxHeartbeats 1000000
/-! RX: dicts written, chains, truth, isinstance. -/
namespace RX
open PySem PySem.Spec PyProof.Rows L2
section
variable {K : PySem.W.Frag} {W : WX} {X : Cx}
/-- a dict's store -/
def kPut {α : Type} (r : List (Key × α)) (k : Key) (x : α) : List (Key × α) :=
  if (r.any fun kv => decide (kv.1 = k)) = true then r.map (fun kv => if kv.1 = k then (kv.1, x) else kv) else r ++ [(k, x)]
def kDrop {α : Type} (r : List (Key × α)) (k : Key) : List (Key × α) := r.filter fun kv => decide (kv.1 ≠ k)
theorem RepK.any {a0 : Addr} {F : Hp} (p : Key → Bool) : ∀ {vs : List (Key × V)} {ds : List (Key × D)}, RepK K a0 F vs ds → (vs.any fun kv => p kv.1) = ds.any fun kv => p kv.1
  | [], [], _ => rfl
  | [], _ :: _, h => h.elim
  | _ :: _, [], h => h.elim
  | (j, v) :: vs, (j', d) :: ds, ⟨e, h, r⟩ => by subst e; simp only [List.any_cons]; rw [RepK.any p r]
theorem RepK.mapK {a0 : Addr} {F : Hp} {k : Key} {x : V} {d : D} (hx : Rep K a0 F x d) : ∀ {vs : List (Key × V)} {ds : List (Key × D)}, RepK K a0 F vs ds →
    RepK K a0 F (vs.map fun kv => if kv.1 = k then (kv.1, x) else kv) (ds.map fun kv => if kv.1 = k then (kv.1, d) else kv)
  | [], [], _ => trivial
  | [], _ :: _, h => h.elim
  | _ :: _, [], h => h.elim
  | (j, v) :: vs, (j', e) :: ds, ⟨q, h, r⟩ => by
    subst q
    have := RepK.mapK (k := k) hx r
    simp only [List.map_cons]
    by_cases hk : j = k
    · simp only [hk, if_true]; exact ⟨rfl, hx, this⟩
    · simp only [hk, if_false]; exact ⟨rfl, h, this⟩
theorem RepK.snoc {a0 : Addr} {F : Hp} {k : Key} {x : V} {d : D} (hx : Rep K a0 F x d) : ∀ {vs : List (Key × V)} {ds : List (Key × D)}, RepK K a0 F vs ds → RepK K a0 F (vs ++ [(k, x)]) (ds ++ [(k, d)])
  | [], [], _ => ⟨rfl, hx, trivial⟩
  | [], _ :: _, h => h.elim
  | _ :: _, [], h => h.elim
  | (_, _) :: _, (_, _) :: _, ⟨q, h, r⟩ => ⟨q, h, RepK.snoc hx r⟩
theorem RepK.put {a0 : Addr} {F : Hp} {k : Key} {x : V} {d : D} (hx : Rep K a0 F x d) {vs : List (Key × V)} {ds : List (Key × D)} (r : RepK K a0 F vs ds) : RepK K a0 F (putK vs k x) (kPut ds k d) := by
  unfold putK kPut
  rw [RepK.any (fun j => decide (j = k)) r]
  split
  · exact RepK.mapK hx r
  · exact RepK.snoc hx r
theorem RepK.drop {a0 : Addr} {F : Hp} {k : Key} : ∀ {vs : List (Key × V)} {ds : List (Key × D)}, RepK K a0 F vs ds → RepK K a0 F (dropK vs k) (kDrop ds k)
  | [], [], _ => trivial
  | [], _ :: _, h => h.elim
  | _ :: _, [], h => h.elim
  | (j, v) :: vs, (j', d) :: ds, ⟨e, h, r⟩ => by
    subst e
    have := RepK.drop (k := k) r
    unfold dropK kDrop at this ⊢
    simp only [List.filter_cons]
    split
    · exact ⟨rfl, h, this⟩
    · exact this
/-- the container of slot j with d put at i -/
def putIx (c : D) (i d : D) : Option D := match c, i with
  | .lst ds, .int k => (ixN ds.length k).map fun j => .lst (ds.set j d)
  | .dic kds, i => (dKey i).bind fun k => if kds.length < line then some (.dic (kPut kds k d)) else none
  | _, _ => none
def mPut (j : Nat) (ei ev : Fm → Rs Sto Val) : Fm → Rs Fm Fl := fun s => liftS (ev s) s.env fun w s1 => match w.k with
  | .ow _ => .no
  | _ => match s1.env[j]? with
    | some (.own c) => liftS (ei s1) s1.env fun i s2 => match putIx c i.d w.d with
        | some c' => .ok .nx ⟨s2.env.set j (.own c'), s2.sto⟩
        | none => .no
    | _ => .no
theorem sim_put {j : Nat} {ti te : TE} {ei ev : Fm → Rs Sto Val} (hi : SimE K W ti ei) (he : SimE K W te ev) : SimS K W (tAsg te (gSub (tVar j) ti rSetA)) (mPut j ei ev) := fun C s σ F H Dn e m p => by
  unfold mPut liftS at p
  refine he.then (β := Unit) e m (fun w st q v F1 H1 s1 m1 r1 => ?_) (fun c fs st q => by rw [q] at p; exact fun cls d F' H' s1 m1 x => p cls d σ F' H' s1 m1 x) (fun q => by rw [q] at p; exact p)
  rw [q] at p
  dsimp only at p
  have nk : ∃ d, w.d = d ∧ Rep C.K C.a0 F1 v d ∧ (match s.env[j]? with
    | some (.own c) => (match ei ⟨s.env, st⟩ with
      | .ok i st2 => (match putIx c i.d d with
        | some c' => (Rs.ok Fl.nx ⟨s.env.set j (.own c'), st2⟩ : Rs Fm Fl)
        | none => .no)
      | .ex c fs st2 => .ex c fs ⟨s.env, st2⟩
      | .no => .no)
    | _ => .no) = (match s.env[j]? with
    | some (.own c) => (match ei ⟨s.env, st⟩ with
      | .ok i st2 => (match putIx c i.d w.d with
        | some c' => (Rs.ok Fl.nx ⟨s.env.set j (.own c'), st2⟩ : Rs Fm Fl)
        | none => .no)
      | .ex c fs st2 => .ex c fs ⟨s.env, st2⟩
      | .no => .no)
    | _ => .no) ∧ PostS C F W (match s.env[j]? with
    | some (.own c) => (match ei ⟨s.env, st⟩ with
      | .ok i st2 => (match putIx c i.d w.d with
        | some c' => (Rs.ok Fl.nx ⟨s.env.set j (.own c'), st2⟩ : Rs Fm Fl)
        | none => .no)
      | .ex c fs st2 => .ex c fs ⟨s.env, st2⟩
      | .no => .no)
    | _ => .no) Dn := by
    obtain ⟨k, d⟩ := w
    cases k with
    | ow i => exact p.elim
    | sh => exact ⟨d, rfl, r1, rfl, p⟩
    | fr => exact ⟨d, rfl, r1, rfl, p⟩
  obtain ⟨d, ed, rd, _, p⟩ := nk
  rw [ed] at p
  cases q1 : s.env[j]? with
  | none => rw [q1] at p; exact p.elim
  | some sl =>
    rw [q1] at p
    cases sl with
    | emp => exact p.elim
    | v _ => exact p.elim
    | own c =>
      dsimp only at p
      obtain ⟨a, z, _⟩ := Mt.ow (s := ⟨s.env, st⟩) m1 j c q1
      refine ⟨.ref a, z, ?_⟩
      refine hi.then (β := Unit) e m1 (fun i st2 q2 u F2 H2 s2 m2 r2 => ?_) (fun c fs st q2 => by rw [q2] at p; exact fun cls d F' H' z1 m1 x => p cls d σ F' H' (s1.trans z1) m1 x) (fun q2 => by rw [q2] at p; exact p)
      rw [q2] at p
      dsimp only at p
      have ri := r2.rh m2
      cases q3 : putIx c i.d d with
      | none => rw [q3] at p; exact p.elim
      | some c' =>
        rw [q3] at p
        unfold putIx at q3
        split at q3
        · next _ _ ds k hix _ =>
          rw [hix] at ri
          cases q4 : ixN ds.length k with
          | none => rw [q4] at q3; cases q3
          | some n =>
            rw [q4] at q3
            cases q3
            obtain ⟨a', vs, z', hl, rl⟩ := Mt.atL (s := ⟨s.env, st2⟩) m2 q1
            have : V.ref a = V.ref a' := by simpa using z.symm.trans z'
            cases this
            refine .inl ⟨a, vs, k, n, rfl, ri, hl, by rw [rl.len]; exact q4, ?_⟩
            exact p σ F2 _ (s1.trans s2) (Mt.setOwn (s := ⟨s.env, st2⟩) (d' := RX.D.lst (ds.set n d)) m2 q1 z ⟨_, rfl, RepL.set (rd.mono s2) n rl⟩)
        · next kds i' =>
          cases q4 : dKey i.d with
          | none => rw [q4] at q3; cases q3
          | some k =>
            rw [q4] at q3
            have q3 : (if kds.length < line then some (D.dic (kPut kds k d)) else none) = some c' := q3
            split at q3
            · next hl =>
              cases q3
              obtain ⟨a', vs, z', hk, rk⟩ := Mt.atK (s := ⟨s.env, st2⟩) m2 q1
              have : V.ref a = V.ref a' := by simpa using z.symm.trans z'
              cases this
              have eu := dKey_rh q4 ri
              subst eu
              refine .inr ⟨a, _, rfl, DPut.k hk (by rw [rk.len]; exact line_lt hl), ?_⟩
              exact p σ F2 _ (s1.trans s2) (Mt.setOwn (s := ⟨s.env, st2⟩) (d' := RX.D.dic (kPut kds k d)) m2 q1 z ⟨_, rfl, RepK.put (rd.mono s2) rk⟩)
            · cases q3
        · cases q3
/-! ### {} -/
def mDNew : Fm → Rs Sto Val := fun s => .ok ⟨.fr, .dic []⟩ s.sto
theorem sim_dnew : SimE K W tDNewK mDNew := fun C s σ F H Q e m p => by
  intro t ht
  obtain ⟨F3, s3, m3, r3⟩ := (Res.new (K := C.K) (a0 := C.a0) (F := F) (d := .dic []) ht ⟨[], rfl, trivial⟩).go m
  exact p _ F3 _ s3 m3 r3
/-! ### d.get -/
theorem RB.isD {C : Cn} {s : Fm} {σ : L2.St} {F H : Hp} {w : Val} {v : V} {kds : List (Key × D)} (m : Mt C s σ F H) (r : RB C s.env σ F w v) (h : w.d = .dic kds) : ∃ a kvs, v = .ref a ∧ Rd H a (.dK kvs) ∧ RepK C.K C.a0 F kvs kds := by
  have := r.rh m
  rw [h] at this
  exact this
def mGet2 (a k x : Fm → Rs Sto Val) : Fm → Rs Sto Val := fun s => (a s).bind fun w st => match w.d with
  | .dic kds => (k ⟨s.env, st⟩).bind fun y st => (x ⟨s.env, st⟩).bind fun z st => (match z.k with
    | .ow _ => .no
    | _ => match dKey y.d with
      | some j => .ok ⟨.sh, (kGet kds j).getD z.d⟩ st
      | none => .no)
  | _ => .no
theorem sim_get2 {ta tk tx : TE} {a k x : Fm → Rs Sto Val} (ha : SimE K W ta a) (hk : SimE K W tk k) (hx : SimE K W tx x) : SimE K W (tDGet2 ta tk tx) (mGet2 a k x) := fun C s σ F H Q e m p => by
  unfold mGet2 at p
  refine ha.then (β := Unit) e m (fun w st q v F1 H1 s1 m1 r1 => ?_) (fun c fs st q => by rw [q] at p; exact p) (fun q => by rw [q] at p; exact p)
  rw [q, Rs.bind_ok] at p
  cases hd : w.d with
  | dic kds =>
    rw [hd] at p
    dsimp only at p
    obtain ⟨b, kvs, ev, hr, rk⟩ := r1.isD m1 hd
    refine ⟨b, ev, .inl ⟨kvs, hr⟩, ?_⟩
    refine hk.then (β := Unit) e m1 (fun y st2 q2 u F2 H2 s2 m2 r2 => ?_) (fun c fs st' q2 => by rw [q2] at p; exact fun cls d F' H' z => p cls d F' H' (s1.trans z)) (fun q2 => by rw [q2] at p; exact p)
    rw [q2, Rs.bind_ok] at p
    refine hx.then (β := Unit) e m2 (fun y3 st3 q3 u3 F3 H3 s3 m3 r3 => ?_) (fun c fs st' q3 => by rw [q3] at p; exact fun cls d F' H' z => p cls d F' H' (s1.trans (s2.trans z))) (fun q3 => by rw [q3] at p; exact p)
    rw [q3, Rs.bind_ok] at p
    have fin : Rep C.K C.a0 F3 u3 y3.d → PostE C s σ F W (match dKey y.d with
      | some j => .ok ⟨.sh, (kGet kds j).getD y3.d⟩ st3
      | none => .no) Q → ∃ o, DGet H3 b u o ∧ Q (o.getD u3) H3 := fun r3 p => by
      cases q4 : dKey y.d with
      | none => rw [q4] at p; exact p.elim
      | some j =>
        rw [q4] at p
        dsimp only at p
        have eu := dKey_rh q4 ((r2.mono s3).rh m3)
        subst eu
        obtain ⟨b', kvs', ev', hr', rk'⟩ := ((r1.mono s2).mono s3).isD m3 hd
        subst ev
        cases ev'
        refine ⟨valV kvs' j, .inl ⟨kvs', j, hr', rfl, rfl⟩, ?_⟩
        rcases rk'.val j with ⟨e1, e2⟩ | ⟨v', d', e1, e2, e3⟩
        · rw [e2] at p
          rw [e1]
          exact p _ F3 H3 (s1.trans (s2.trans s3)) m3 r3
        · rw [e2] at p
          rw [e1]
          exact p _ F3 H3 (s1.trans (s2.trans s3)) m3 e3
    obtain ⟨k3, d3⟩ := y3
    cases k3 with
    | ow i => exact p.elim
    | sh => exact fin r3 p
    | fr => exact fin r3 p
  | _ => rw [hd] at p; exact p.elim
/-! ### a chain of two comparisons -/
def mChain (f g : D → D → Option Val) (a b c : Fm → Rs Sto Val) : Fm → Rs Sto Val := fun s => (a s).bind fun x st => (b ⟨s.env, st⟩).bind fun y st => match f x.d y.d with
  | some ⟨.sh, .bl true⟩ => (c ⟨s.env, st⟩).bind fun z st => ofO (g y.d z.d) st
  | some ⟨.sh, .bl false⟩ => .ok ⟨.sh, .bl false⟩ st
  | _ => .no
theorem sim_chain {r r' : R2} {f g : D → D → Option Val} {ta tb tc : TE} {a b c : Fm → Rs Sto Val} (hr : SOp K r f) (hr' : SOp K r' g) (ha : SimE K W ta a) (hb : SimE K W tb b) (hc : SimE K W tc c) : SimE K W (tChain r r' ta tb tc) (mChain f g a b c) := fun C s σ F H Q e m p => by
  unfold mChain at p
  refine ha.then (β := Unit) e m (fun x st q v F1 H1 s1 m1 r1 => ?_) (fun c fs st q => by rw [q] at p; exact p) (fun q => by rw [q] at p; exact p)
  rw [q, Rs.bind_ok] at p
  refine hb.then (β := Unit) e m1 (fun y st2 q2 u F2 H2 s2 m2 r2 => ?_) (fun c fs st' q2 => by rw [q2] at p; exact fun cls d F' H' z => p cls d F' H' (s1.trans z)) (fun q2 => by rw [q2] at p; exact p)
  rw [q2, Rs.bind_ok] at p
  cases q3 : f x.d y.d with
  | none => rw [q3] at p; exact p.elim
  | some w =>
    rw [q3] at p
    obtain ⟨kw, dw⟩ := w
    cases kw with
    | ow i => exact p.elim
    | fr => exact p.elim
    | sh =>
      cases dw with
      | bl bb =>
        subst e
        refine hr C.a0 F2 H2 v u x.d y.d _ _ m2.hd.sub ((r1.mono s2).rh m2) (r2.rh m2) q3 fun v' H' rs => ?_
        obtain ⟨F3, s3, m3, r3⟩ := rs.go m2
        refine ⟨bb, r3, ?_⟩
        cases bb with
        | false =>
          rw [if_neg Bool.false_ne_true]
          exact p _ F3 H' ((s1.trans s2).trans s3) m3 rfl
        | true =>
          rw [if_pos rfl]
          dsimp only at p
          refine hc.then (β := Unit) rfl m3 (fun z st4 q4 u4 F4 H4 s4 m4 r4 => ?_) (fun c fs st' q4 => by rw [q4] at p; exact fun cls d F' H' z => p cls d F' H' (((s1.trans s2).trans s3).trans z)) (fun q4 => by rw [q4] at p; exact p)
          rw [q4, Rs.bind_ok] at p
          cases q5 : g y.d z.d with
          | none => rw [q5] at p; exact p.elim
          | some w =>
            rw [q5] at p
            refine hr' C.a0 F4 H4 u u4 y.d z.d w Q m4.hd.sub (((r2.mono s3).mono s4).rh m4) (r4.rh m4) q5 fun v5 H5 rs => ?_
            obtain ⟨F5, s5, m5, r5⟩ := rs.go m4
            exact p v5 F5 H5 ((((s1.trans s2).trans s3).trans s4).trans s5) m5 r5
      | _ => exact p.elim
/-! ### truth -/
theorem truD_rh {a0 : Addr} {F H : Hp} (s : Sub F H) {d : D} {v : V} {b : Bool} (h : truD d = some b) (hz : ∀ z, d = .str z → z.length ≤ line) (hk : ∀ ds, d ≠ .dic ds) (r : RH K a0 F H v d) : ∃ bb, TruV K v H bb ∧ bb = b := by
  cases d with
  | non => cases h; cases (show v = .non from r); exact ⟨_, rfl, rfl⟩
  | bl bx => exact ⟨_, by rw [show v = .bl bx from r]; rfl, Option.some.inj h⟩
  | int i => cases h; cases (show v = .int i from r); exact ⟨_, rfl, rfl⟩
  | str z =>
    cases h; cases (show v = .str z from r)
    refine ⟨_, ⟨line_ok (hz z rfl), rfl⟩, ?_⟩
    rcases Nat.eq_zero_or_pos z.length with h0 | h0
    · rw [h0]; rfl
    · rw [show (z.length != 0) = true from by simp; omega]
      simp; omega
  | lst ds =>
    cases h
    obtain ⟨a, vs, e, hl, rl⟩ := r
    subst e
    exact ⟨_, .inl ⟨vs, SqL.of hl, rfl⟩, by rw [rl.empty]⟩
  | tup ds =>
    cases h
    obtain ⟨a, vs, e, hl, rl⟩ := r
    subst e
    exact ⟨_, .inr (.inl ⟨vs, s.sqT hl, rfl⟩), by rw [rl.empty]⟩
  | dic ds => exact absurd rfl (hk ds)
  | _ => cases h
def truD' (d : D) : Option Bool := match d with
  | .str z => if z.length ≤ line then truD d else none
  | .dic _ => none
  | d => truD d
def mTru' (a : Fm → Rs Sto Val) : Fm → Rs Sto Bool := fun s => (a s).bind fun w st => match truD' w.d with
  | some b => .ok b st
  | none => .no
theorem sim_tru {ta : TE} {a : Fm → Rs Sto Val} (ha : SimE K W ta a) : SimT K W (tTru K ta) (mTru' a) := fun C s σ F H Q e m p => by
  unfold mTru' at p
  refine ha.then (β := Unit) e m (fun x st q v F1 H1 s1 m1 r1 => ?_) (fun c fs st q => by rw [q] at p; exact p) (fun q => by rw [q] at p; exact p)
  rw [q, Rs.bind_ok] at p
  cases q2 : truD' x.d with
  | none => rw [q2] at p; exact p.elim
  | some b =>
    rw [q2] at p
    subst e
    have h1 : truD x.d = some b ∧ (∀ z, x.d = .str z → z.length ≤ line) ∧ ∀ ds, x.d ≠ .dic ds := by
      unfold truD' at q2
      split at q2
      · next z hz =>
        split at q2
        · next hl => exact ⟨q2, fun z' e => by cases hz.symm.trans e; exact hl, fun ds e => by cases hz.symm.trans e⟩
        · cases q2
      · cases q2
      · next h1 h2 => exact ⟨q2, fun z e => absurd e (h1 z), fun ds e => h2 ds e⟩
    obtain ⟨bb, t, e⟩ := truD_rh m1.hd.sub h1.1 h1.2.1 h1.2.2 (r1.rh m1)
    subst e
    exact ⟨bb, t, p F1 H1 s1 m1⟩
end
end RX

set_option Elab.async false
set_option linter.all false
set_option maxRecDepth 100000
set_option maxHeartbeats 1000000
/-! RX: isinstance, min of three, sorted, lists of dicts, index. -/
namespace RX
open PySem PySem.Spec PyProof.Rows L2
section
variable {K : PySem.W.Frag} {W : WX} {X : Cx}
/-! ### isinstance -/
abbrev TyN := String ⊕ Str
def tyQ (okc : Str → Bool) : D → Option TyN
  | .non => some (.inl "NoneType")
  | .bl _ => some (.inl "bool")
  | .int _ => some (.inl "int")
  | .str _ => some (.inl "str")
  | .lst _ => some (.inl "list")
  | .tup _ => some (.inl "tuple")
  | .dic _ => some (.inl "dict")
  | .obj c _ => if okc c = true then some (.inr c) else none
  | _ => none
def clsQ : D → Option TyN
  | .ty n => some (.inl n)
  | .cls c => some (.inr c)
  | _ => none
def clsQL : List D → Option (List TyN)
  | [] => some []
  | d :: ds => (clsQ d).bind fun t => (clsQL ds).map fun ts => t :: ts
def tyW (K : PySem.W.Frag) : TyN → Value
  | .inl n => .type n
  | .inr c => .ref (cl K c)
/-- what the fragment must say of an own class whose instances are asked -/
structure IsiC (K : PySem.W.Frag) (C : Addr) : Prop where
  cls : Cls K C
  ha : PySem.W.findIn K (.ref C) "__class__" = some (some (.builtin "object.__class__"))
  hn : PySem.W.specialIn K (.builtin "object.__class__") "__get__" = some (some (.builtin "getset_descriptor.__get__"))
  htk : PySem.W.takesIn K (.builtin "object.__class__") = some true
  hm : PySem.W.mroIn K C (.type "object") = some true
def rIsiS (K : PySem.W.Frag) : List V → Hp → VK → Prop := fun xs H Q => ∃ (x : V) (tp : Addr) (cs : List V) (t : Value) (us : List Value) (b : Bool), xs = [x, .ref tp] ∧ SqT K H tp cs ∧ Paired ClsV cs us ∧ TyX K H x t ∧ PySem.W.kitAny K t us = some b ∧ Q (.bl b) H
theorem call_isiS : CallR X (.builtin "isinstance") (rIsiS X.K) := by
  intro pins s σ H xs us Q I r h
  obtain ⟨x, tp, cs, t, ws, b, rfl, hT, k, ty, e, q⟩ := h
  obtain ⟨u1, u2, rfl, r1, r2⟩ := vals2 r
  cases (show u2 = Value.ref tp from r2)
  obtain ⟨P, Z, p, hx⟩ := kit_of I r1 ty
  obtain ⟨its, rv, ⟨o, h1, h2, n, h3⟩, _⟩ := I.tuple hT
  have e3 := ClsV.all k rv
  subst e3
  obtain ⟨oc, od, dt, sl⟩ := o
  simp only at h2 h3
  subst h2 h3
  exact PySem.W.kia_tup Z I.kIn p h1 e hx fun tk => ⟨.bl b, H, I.tok tk, rfl, q⟩
def rIsiA (K : PySem.W.Frag) : List V → Hp → VK → Prop := fun xs H Q => rIsi K xs H Q ∨ rIsiS K xs H Q
theorem call_isiA : CallR X (.builtin "isinstance") (rIsiA X.K) := CallR.or call_isi call_isiS
theorem tyX_of {okc : Str → Bool} (ho : ∀ c, okc c = true → IsiC K (cl K c)) {a0 : Addr} {F H : Hp} (s : Sub F H) {v : V} {d : D} {t : TyN} (r : RH K a0 F H v d) (h : tyQ okc d = some t) : TyX K H v (tyW K t) := by
  cases d with
  | non => cases h; cases (show v = .non from r); exact .base .non
  | bl b => cases h; rw [show v = .bl b from r]; exact .base (.bl b)
  | int i => cases h; rw [show v = .int i from r]; exact .base (.int i)
  | str z => cases h; rw [show v = .str z from r]; exact .base (.str z)
  | lst ds =>
    cases h
    obtain ⟨a, vs, e, hl, rl⟩ := r
    subst e
    exact .base (.lst hl)
  | tup ds =>
    cases h
    obtain ⟨a, vs, e, hl, rl⟩ := r
    subst e
    rcases s.sqT hl with (hl | ⟨ob, hl⟩) | ⟨o, its, n, hk, hc, _⟩
    · exact .base (.tup hl)
    · exact .fTuple hl
    · exact .kTuple hk hc
  | dic ds =>
    cases h
    obtain ⟨a, vs, e, hl, rl⟩ := r
    subst e
    rcases hl with hl | ⟨ob, hl⟩
    · exact .base (.dK hl)
    · exact .fDict hl
  | obj c fs =>
    have h : (if okc c = true then some (Sum.inr c : TyN) else none) = some t := h
    by_cases hc : okc c = true
    · rw [if_pos hc] at h
      cases h
      obtain ⟨a, dx, vs, e, hl, rl⟩ := r
      subst e
      have I := ho c hc
      exact .base (.ins hl I.cls I.ha I.hn I.htk I.hm)
    · rw [if_neg hc] at h
      cases h
  | _ => cases h
theorem clsQ_v {a0 : Addr} {F : Hp} {v : V} {d : D} {t : TyN} (r : Rep K a0 F v d) (h : clsQ d = some t) : ClsV v (tyW K t) := by
  cases d with
  | ty n => cases h; rw [show v = .ty n from r]; exact .ty n
  | cls c => cases h; rw [show v = .ref (cl K c) from r]; exact .own _
  | _ => cases h
theorem clsQL_v {a0 : Addr} {F : Hp} : ∀ {vs : List V} {ds : List D} {ts : List TyN}, RepL K a0 F vs ds → clsQL ds = some ts → Paired ClsV vs (ts.map (tyW K))
  | [], [], _, _, h => by cases h; exact .nil
  | [], _ :: _, _, h, _ => h.elim
  | _ :: _, [], _, h, _ => h.elim
  | v :: vs, d :: ds, ts, ⟨h, r⟩, e => by
    unfold clsQL at e
    cases q : clsQ d with
    | none => rw [q] at e; cases e
    | some t =>
      rw [q] at e
      cases q2 : clsQL ds with
      | none => rw [q2] at e; cases e
      | some us =>
        rw [q2] at e
        cases e
        exact .cons (clsQ_v h q) (clsQL_v r q2)
def kAny (tb : TyN → TyN → Option Bool) (t : TyN) : List TyN → Option Bool
  | [] => some false
  | c :: r => match tb t c with
    | some true => some true
    | some false => kAny tb t r
    | none => none
theorem kAny_ok {tb : TyN → TyN → Option Bool} (ht : ∀ a b r, tb a b = some r → PySem.W.kitOne K (tyW K a) (tyW K b) = some r) {t : TyN} : ∀ {cs : List TyN} {b : Bool}, kAny tb t cs = some b → PySem.W.kitAny K (tyW K t) (cs.map (tyW K)) = some b
  | [], _, h => h
  | c :: r, b, h => by
    unfold kAny at h
    rw [List.map_cons]
    unfold PySem.W.kitAny
    cases q : tb t c with
    | none => rw [q] at h; cases h
    | some x =>
      rw [q] at h
      rw [ht _ _ _ q]
      cases x with
      | true => exact h
      | false => exact kAny_ok ht h
def dIsi (tb : TyN → TyN → Option Bool) (okc : Str → Bool) : List D → Option Val := fun ds => match ds with
  | [d, .tup cs] => (tyQ okc d).bind fun t => (clsQL cs).bind fun us => (kAny tb t us).map fun b => ⟨.sh, .bl b⟩
  | [d, c] => (tyQ okc d).bind fun t => (clsQ c).bind fun u => (tb t u).map fun b => ⟨.sh, .bl b⟩
  | _ => none
theorem sc_isi {tb : TyN → TyN → Option Bool} {okc : Str → Bool} (ht : ∀ a b r, tb a b = some r → PySem.W.kitOne K (tyW K a) (tyW K b) = some r) (ho : ∀ c, okc c = true → IsiC K (cl K c)) : SCall K (rIsiA K) (dIsi tb okc) := fun a0 F H xs ds w Q s rx q k => by
  unfold dIsi at q
  split at q
  · next d cs =>
    obtain ⟨v, u, rfl, h, h'⟩ := rhl2 rx
    cases q1 : tyQ okc d with
    | none => rw [q1] at q; cases q
    | some t =>
      rw [q1] at q
      cases q2 : clsQL cs with
      | none => rw [q2] at q; cases q
      | some us =>
        rw [q2] at q
        cases q3 : kAny tb t us with
        | none => rw [Option.bind_some, Option.bind_some, q3] at q; cases q
        | some b =>
          rw [Option.bind_some, Option.bind_some, q3] at q
          cases q
          obtain ⟨a, vs, rfl, hl, rl⟩ := h'
          exact .inr ⟨v, a, vs, _, _, b, rfl, s.sqT hl, clsQL_v rl q2, tyX_of ho s h q1, kAny_ok ht q3, k _ H (.old rfl)⟩
  · next d c _ =>
    obtain ⟨v, u, rfl, h, h'⟩ := rhl2 rx
    cases q1 : tyQ okc d with
    | none => rw [q1] at q; cases q
    | some t =>
      rw [q1] at q
      cases q2 : clsQ c with
      | none => rw [q2] at q; cases q
      | some u' =>
        rw [q2] at q
        cases q3 : tb t u' with
        | none => rw [Option.bind_some, Option.bind_some, q3] at q; cases q
        | some b =>
          rw [Option.bind_some, Option.bind_some, q3] at q
          cases q
          have rc : Rep K a0 F u c := by
            cases c with
            | ty n => exact h'
            | cls n => exact h'
            | _ => cases q2
          exact .inl ⟨v, u, _, _, b, rfl, clsQ_v rc q2, tyX_of ho s h q1, ht _ _ _ q3, k _ H (.old rfl)⟩
  · cases q
/-- the answers among built-in types -/
def tbB : TyN → TyN → Option Bool
  | .inl a, .inl b => kitB a b
  | .inr c, .inr c' => if c = c' then some true else none
  | _, _ => none
theorem tbB_ok : ∀ a b r, tbB a b = some r → PySem.W.kitOne K (tyW K a) (tyW K b) = some r
  | .inl a, .inl b, r, h => kit_ty h
  | .inr c, .inr c', r, h => by
    have h : (if c = c' then some true else none) = some r := h
    by_cases e : c = c'
    · rw [if_pos e] at h
      cases h
      subst e
      unfold PySem.W.kitOne
      rw [if_pos (beq_self_eq_true _)]
    · rw [if_neg e] at h
      cases h
  | .inl _, .inr _, _, h => by cases h
  | .inr _, .inl _, _, h => by cases h
/-! ### min of three -/
def rMinB (K : PySem.W.Frag) : List V → Hp → VK → Prop := fun xs H Q => rMinA K xs H Q ∨ rNuC3 nuMin3 xs H Q
theorem call_minB (hc : X.calm = true) : CallR X (.builtin "min") (rMinB X.K) := CallR.or (call_minA hc) (call_min3Nu hc)
def dMinB : List D → Option Val
  | [.int i, .int j] => shI (if j < i then j else i)
  | [.int i, .int j, .int k] => shI (if k < (if j < i then j else i) then k else (if j < i then j else i))
  | _ => none
theorem sc_minB : SCall K (rMinB K) dMinB := fun a0 F H xs ds w Q s rx q k => by
  unfold dMinB at q
  split at q
  · exact .inl (sc_min a0 F H xs _ w Q s rx q k)
  · next i j l =>
    cases q
    obtain ⟨v, u, z, rfl, h, h', h''⟩ := rhl3 rx
    cases (show v = _ from h)
    cases (show u = _ from h')
    cases (show z = _ from h'')
    refine .inr ⟨_, _, _, V.int (if l < (if j < i then j else i) then l else (if j < i then j else i)), rfl, ?_, k _ H (.old rfl)⟩
    have e1 : nuMin2 (.int i) (.int j) = some (V.int (if j < i then j else i)) := by
      show some (if decide (j < i) = true then V.int j else V.int i) = _
      by_cases h : j < i <;> simp [h]
    unfold nuMin3
    rw [e1, Option.bind_some]
    show some (if decide (l < (if j < i then j else i)) = true then V.int l else V.int (if j < i then j else i)) = _
    by_cases h : l < (if j < i then j else i) <;> simp [h]
  · cases q
/-! ### sorted -/
open PySem.W in
def rSortD (K : PySem.W.Frag) : List V → Hp → VK → Prop := fun xs H Q => ∃ (a : Addr) (bs : List (V × PyData)), xs = [.ref a] ∧ SqL K H a (bs.map Prod.fst) ∧ (∀ b ∈ bs, Dp K H b.1 b.2) ∧ AllAlike (bs.map Prod.snd) ∧ Sortable (bs.map Prod.snd) ∧ (∀ b ∈ bs, b.2.depth ≤ 60) ∧
  ∀ p, H p = none → Q (.ref p) (upd H p (.lst ((bs.mergeSort (dataLe false Prod.snd)).map Prod.fst)))
theorem each_of {s : Shared} {H : Hp} {σ : L2.St} {pins : List (Addr × Obj)} (I : Inv X pins σ H s) : ∀ {bs : List (V × PyData)} {its : List Value}, Vals (bs.map Prod.fst) its → (∀ b ∈ bs, Dp X.K H b.1 b.2) →
    PySem.W.EachIs (fun (v : Value) (b : V × PyData) => RelV b.1 v) its bs ∧ PySem.W.EachIs (fun (v : Value) (b : V × PyData) => ∃ as, Reads s.heap v b.2 as) its bs
  | [], its, r, _ => by
    rw [List.map_nil] at r
    cases r
    exact ⟨.nil, .nil⟩
  | b :: bs, its, r, h => by
    rw [List.map_cons] at r
    cases r with
    | cons r1 r2 =>
      obtain ⟨x, y⟩ := each_of I r2 fun c hc => h c (List.mem_cons_of_mem _ hc)
      exact ⟨.cons r1 x, .cons (Dp.reads I _ _ _ (h b List.mem_cons_self) r1) y⟩
theorem vals_of_each : ∀ {bs : List (V × PyData)} {out : List Value}, PySem.W.EachIs (fun (v : Value) (b : V × PyData) => RelV b.1 v) out bs → Vals (bs.map Prod.fst) out
  | _, _, .nil => .nil
  | _, _, .cons h t => .cons h (vals_of_each t)
theorem call_sortD (hu : X.A.units + 64 < cLine) : CallR X (.builtin "sorted") (rSortD X.K) := by
  intro pins s σ H vs us Q I r h
  obtain ⟨a, bs, rfl, hs, hd, hal, hk, hdp, q⟩ := h
  obtain ⟨its, rv, hl, hz⟩ := I.list hs
  rw [Vals.ref1 r]
  obtain ⟨e1, e2⟩ := each_of I rv hd
  have hlen : bs.length ≤ sizeLine := by rw [List.length_map] at hz; exact hz
  refine PySem.W.sorted_data (enc := Prod.snd) hl.isList e1 e2 hal hk hlen (fun b hb => by have := hdp b hb; omega) fun out ho eo => ?_
  obtain ⟨ep, he'⟩ := PyProof.Rows.sortedAll_at s.heap its out.toArray
  have hm : ((bs.mergeSort (PySem.W.dataLe false Prod.snd)).map Prod.fst).length ≤ sizeLine := by
    rw [List.length_map, List.length_mergeSort]; exact hlen
  exact ⟨.ref _, upd H (s.heap.objs.size + 1) (.lst _), I.laid (t' := s.toks) (fun _ _ => PyProof.Rows.sortedAll_old) (Nat.le_succ _) ⟨hm, out, ep, vals_of_each eo, he'⟩, rfl, q _ (I.hok.fresh (Nat.le_succ _))⟩
def alikeB (ds : List PyData) : Bool := ds.all fun a => ds.all fun b => PySem.W.alike a b
def sortableB (ds : List PyData) : Bool := (ds.all fun d => match d with
  | .tuple (_ :: _) => true
  | _ => false) || ds.all fun d => match d with
  | .none => false
  | .tuple _ => false
  | _ => true
theorem alikeB_ok {ds : List PyData} (h : alikeB ds = true) : PySem.W.AllAlike ds := fun d hd e he => List.all_eq_true.mp (List.all_eq_true.mp h d hd) e he
theorem sortableB_ok {ds : List PyData} (h : sortableB ds = true) : PySem.W.Sortable ds := by
  rcases Bool.or_eq_true_iff.mp h with h | h
  · refine .inl fun d hd => ?_
    have := List.all_eq_true.mp h d hd
    split at this
    · next x r => exact ⟨x, r, rfl⟩
    · cases this
  · refine .inr fun d hd => ?_
    have := List.all_eq_true.mp h d hd
    split at this
    · cases this
    · cases this
    · next h1 h2 => exact ⟨h1, h2⟩
theorem toPL_map : ∀ ds : List D, toPL ds = ds.map toP
  | [] => rfl
  | d :: ds => by unfold toPL; rw [toPL_map ds]; rfl
def leD (d e : D) : Bool := PySem.W.dataLe false toP d e
def dSortL (ds : List D) : Option Val := if (fitL deep ds && alikeB (ds.map toP) && sortableB (ds.map toP)) = true then some ⟨.fr, .lst (ds.mergeSort leD)⟩ else none
def dSort : List D → Option Val
  | [.lst ds] => dSortL ds
  | _ => none
theorem RepL.zipped {a0 : Addr} {F : Hp} : ∀ {vs : List V} {ds : List D}, RepL K a0 F vs ds → ∃ T : List (V × D), T.map Prod.fst = vs ∧ T.map Prod.snd = ds ∧ ∀ t ∈ T, Rep K a0 F t.1 t.2
  | [], [], _ => ⟨[], rfl, rfl, fun t h => nomatch h⟩
  | [], _ :: _, h => h.elim
  | _ :: _, [], h => h.elim
  | v :: vs, d :: ds, ⟨h, r⟩ => by
    obtain ⟨T, a, b, c⟩ := RepL.zipped r
    refine ⟨(v, d) :: T, by simp [a], by simp [b], fun t ht => ?_⟩
    rcases List.mem_cons.mp ht with e | ht
    · subst e; exact h
    · exact c t ht
theorem RepL.of_zip {a0 : Addr} {F : Hp} : ∀ {T : List (V × D)}, (∀ t ∈ T, Rep K a0 F t.1 t.2) → RepL K a0 F (T.map Prod.fst) (T.map Prod.snd)
  | [], _ => trivial
  | t :: T, h => ⟨h t List.mem_cons_self, RepL.of_zip fun u hu => h u (List.mem_cons_of_mem _ hu)⟩
theorem fitL_mem : ∀ {ds : List D} {n : Nat}, fitL n ds = true → ∀ d ∈ ds, fitD n d = true
  | d :: ds, n, h, e, he => by
    unfold fitL at h
    rw [Bool.and_eq_true] at h
    rcases List.mem_cons.mp he with q | q
    · subst q; exact h.1
    · exact fitL_mem h.2 e q
theorem sc_sort : SCall K (rSortD K) dSort := fun a0 F H xs ds w Q s rx q k => by
  unfold dSort at q
  split at q
  · next es =>
    unfold dSortL at q
    split at q
    · next hh =>
      cases q
      rw [Bool.and_eq_true, Bool.and_eq_true] at hh
      obtain ⟨v, rfl, p, vs, rfl, hp, rl⟩ := rhl1 rx
      obtain ⟨T, e1, e2, hT⟩ := rl.zipped
      have m1 : (T.map fun t => (t.1, toP t.2)).map Prod.fst = vs := by rw [List.map_map, ← e1]; rfl
      have m2 : (T.map fun t => (t.1, toP t.2)).map Prod.snd = es.map toP := by rw [List.map_map, ← e2, List.map_map]; rfl
      have fit : ∀ t ∈ T, fitD deep t.2 = true := fun t ht => fitL_mem hh.1.1 _ (by rw [← e2]; exact List.mem_map_of_mem ht)
      refine ⟨p, T.map fun t => (t.1, toP t.2), rfl, by rw [m1]; exact SqL.of hp, fun b hb => ?_, by rw [m2]; exact alikeB_ok hh.1.2, by rw [m2]; exact sortableB_ok hh.2, fun b hb => ?_, fun r hr => ?_⟩
      · obtain ⟨t, ht, rfl⟩ := List.mem_map.mp hb
        exact rep_dp s _ _ deep (fit t ht) (hT t ht)
      · obtain ⟨t, ht, rfl⟩ := List.mem_map.mp hb
        exact Nat.le_trans (fit_plain _ deep (fit t ht)).2 (by decide)
      · have k1 : ((T.map fun t => (t.1, toP t.2)).mergeSort (PySem.W.dataLe false Prod.snd)) = (T.mergeSort (fun a b => leD a.2 b.2)).map fun t => (t.1, toP t.2) :=
          (List.map_mergeSort (f := fun t : V × D => (t.1, toP t.2)) (r := fun a b => leD a.2 b.2) (s := PySem.W.dataLe false Prod.snd) fun a _ b _ => rfl).symm
        have k2 : es.mergeSort leD = (T.mergeSort (fun a b => leD a.2 b.2)).map Prod.snd := by
          rw [← e2]
          exact (List.map_mergeSort (f := fun t : V × D => t.2) (r := fun a b => leD a.2 b.2) (s := leD) fun a _ b _ => rfl).symm
        rw [k1, List.map_map]
        refine k _ _ (.new hr ⟨_, rfl, ?_⟩)
        rw [k2]
        exact RepL.of_zip fun t ht => hT t ((List.mergeSort_perm _ _).mem_iff.mp ht)
    · cases q
  · cases q
end
end RX

set_option Elab.async false
set_option linter.all false
set_option maxRecDepth 100000
set_option maxHeartbeats 1000000
/-! RX: sorted of a dict, list of a dict, its values, index, dict comprehensions. -/
namespace RX
open PySem PySem.Spec PyProof.Rows L2
section
variable {K : PySem.W.Frag} {W : WX} {X : Cx}
/-! ### sorted(d) -/
theorem leD_str (a b : Str) : leD (.str a) (.str b) = decide (a.cps.toList ≤ b.cps.toList) := by
  show PySem.W.dataLe false toP (.str a) (.str b) = _
  have := congrFun (congrFun (PySem.W.dataLe_str (β := Str) id) a) b
  exact this
theorem rising_pw : ∀ {ys : List Str} {p : Str}, risingS p ys = true → (p :: ys).Pairwise fun a b => a.cps.toList ≤ b.cps.toList
  | [], p, _ => by simp
  | x :: r, p, h => by
    unfold risingS at h
    rw [Bool.and_eq_true] at h
    have ih := rising_pw h.2
    have hpx : p.cps.toList ≤ x.cps.toList := by
      have := h.1
      rw [ltCps_eq] at this
      have h2 : ¬ x.cps.toList < p.cps.toList := by simpa using this
      exact List.not_lt.mp h2
    refine List.pairwise_cons.mpr ⟨fun y hy => ?_, ih⟩
    rcases List.mem_cons.mp hy with e | hy
    · subst e; exact hpx
    · exact List.le_trans hpx ((List.pairwise_cons.mp ih).1 y hy)
theorem sortedS_pw : ∀ {ys : List Str}, sortedS ys = true → ys.Pairwise fun a b => a.cps.toList ≤ b.cps.toList
  | [], _ => .nil
  | _ :: _, h => rising_pw h
theorem leD_strs (ks : List Str) : ((ks.map D.str).mergeSort leD).Pairwise fun a b => leD a b = true := by
  have e : (ks.map D.str).mergeSort leD = (ks.mergeSort fun a b => decide (a.cps.toList ≤ b.cps.toList)).map D.str :=
    (List.map_mergeSort (f := D.str) (r := fun a b => decide (a.cps.toList ≤ b.cps.toList)) (s := leD) fun a _ b _ => (leD_str a b).symm).symm
  rw [e, List.pairwise_map]
  refine (List.pairwise_mergeSort (le := fun a b : Str => decide (a.cps.toList ≤ b.cps.toList)) (fun a b c h1 h2 => ?_) (fun a b => ?_) ks).imp fun {a b} h => by rw [leD_str]; exact h
  · exact decide_eq_true (List.le_trans (of_decide_eq_true h1) (of_decide_eq_true h2))
  · rcases List.le_total a.cps.toList b.cps.toList with h | h
    · simp [h]
    · simp [h]
theorem sortedS_is {ys ks : List Str} (hp : ys.Perm ks) (hs : sortedS ys = true) : ys.map D.str = (ks.map D.str).mergeSort leD := by
  refine List.Perm.eq_of_pairwise (le := fun a b => leD a b = true) (fun a b ha hb h1 h2 => ?_) ?_ (leD_strs ks) ((hp.map D.str).trans (List.mergeSort_perm _ _).symm)
  · obtain ⟨x, _, rfl⟩ := List.mem_map.mp ha
    have hb' := (List.mergeSort_perm (ks.map D.str) leD).mem_iff.mp hb
    obtain ⟨y, _, rfl⟩ := List.mem_map.mp hb'
    rw [leD_str] at h1 h2
    have e := List.le_antisymm (of_decide_eq_true h1) (of_decide_eq_true h2)
    congr 1
    obtain ⟨⟨x⟩⟩ := x
    obtain ⟨⟨y⟩⟩ := y
    simpa using e
  · rw [List.pairwise_map]
    exact (sortedS_pw hs).imp fun {a b} h => by rw [leD_str]; exact decide_eq_true h
def rSortK (K : PySem.W.Frag) : List V → Hp → VK → Prop := fun xs H Q => ∃ (a : Addr) (kvs : List (Key × V)) (ks : List Str), xs = [.ref a] ∧ Rd H a (.dK kvs) ∧ kvs.map (·.1) = ks.map Sum.inr ∧ ks.length < 64 ∧
    ∀ ys p, ys.Perm ks → sortedS ys = true → H p = none → Q (.ref p) (upd H p (.lst (ys.map V.str)))
def rSortB (K : PySem.W.Frag) : List V → Hp → VK → Prop := fun xs H Q => rSortD K xs H Q ∨ rSortK K xs H Q
theorem call_sortB (hc : X.calm = true) (hu : X.A.units + 64 < cLine) : CallR X (.builtin "sorted") (rSortB X.K) := CallR.or (call_sortD hu) (call_sortedD hc)
def keyStrs {α : Type} : List (Key × α) → Option (List Str)
  | [] => some []
  | (.inr k, _) :: r => (keyStrs r).map (k :: ·)
  | _ => none
theorem keyStrs_rep {a0 : Addr} {F : Hp} : ∀ {vs : List (Key × V)} {ds : List (Key × D)} {ks : List Str}, RepK K a0 F vs ds → keyStrs ds = some ks → vs.map (·.1) = ks.map Sum.inr
  | [], [], _, _, h => by cases h; rfl
  | [], _ :: _, _, h, _ => h.elim
  | _ :: _, [], _, h, _ => h.elim
  | (j, v) :: vs, (j', d) :: ds, ks, ⟨e, h, r⟩, q => by
    subst e
    cases j with
    | inl i => cases q
    | inr k =>
      have q : (keyStrs ds).map (k :: ·) = some ks := q
      cases q2 : keyStrs ds with
      | none => rw [q2] at q; cases q
      | some ks' =>
        rw [q2] at q
        cases q
        simp [keyStrs_rep r q2]
def dSortB : List D → Option Val
  | [.lst ds] => dSortL ds
  | [.dic kds] => (keyStrs kds).bind fun ks => if ks.length < 64 then some ⟨.fr, .lst ((ks.map D.str).mergeSort leD)⟩ else none
  | _ => none
theorem repL_strs {a0 : Addr} {F : Hp} : ∀ (ks : List Str), RepL K a0 F (ks.map V.str) (ks.map D.str)
  | [] => trivial
  | k :: ks => ⟨rfl, repL_strs ks⟩
theorem sc_sortB : SCall K (rSortB K) dSortB := fun a0 F H xs ds w Q s rx q k => by
  unfold dSortB at q
  split at q
  · exact .inl (sc_sort a0 F H xs _ w Q s rx q k)
  · next kds =>
    cases q2 : keyStrs kds with
    | none => rw [q2] at q; cases q
    | some ks =>
      rw [q2] at q
      have q : (if ks.length < 64 then some (⟨.fr, .lst ((ks.map D.str).mergeSort leD)⟩ : Val) else none) = some w := q
      split at q
      · next hl =>
        cases q
        obtain ⟨v, rfl, p, vs, rfl, hp, rk⟩ := rhl1 rx
        refine .inr ⟨p, vs, ks, rfl, hp, keyStrs_rep rk q2, hl, fun ys r hy hs hr => k _ _ (.new hr ⟨_, rfl, ?_⟩)⟩
        rw [← sortedS_is hy hs]
        exact repL_strs ys
      · cases q
  · cases q
/-! ### list(d) -/
def rListK : List V → Hp → VK → Prop := fun xs H Q => ∃ p kvs, xs = [.ref p] ∧ Rd H p (.dK kvs) ∧ ∀ q, H q = none → Q (.ref q) (upd H q (.lst (kvs.map fun kv => kV kv.1)))
theorem call_listK (hc : X.calm = true) : CallR X (.type "list") rListK := by
  intro pins s σ H xs us Q I r h
  obtain ⟨p, kvs, e, hk, q⟩ := h
  subst e
  obtain ⟨u, eu, rx⟩ := vals1 r
  subst eu
  obtain rfl : u = Value.ref p := rx
  obtain ⟨z, lo, vs, rk, hd⟩ := dk_rd I.hok hk
  obtain ⟨ep, hat⟩ := hd.dictAt
  have hl : kvs.length = vs.length := Paired.length rk
  refine PySem.W.kdl_call (PySem.W.kdl_dict (knd := mixKind X.prog X.w) (kvs := vs) (ep := ep) lo) (I.ok.hd hc) hat (by rw [← hl]; exact z) fun h' tk acc' c' hkeep hS hacc => ?_
  refine ⟨.ref s.heap.objs.size, upd H s.heap.objs.size (.lst (kvs.map fun kv => kV kv.1)), I.laid hkeep (Nat.le_refl _) (show ObjOk X.prog X.w _ _ _ (.lst (kvs.map fun kv => kV kv.1)) from ⟨?_, acc'.toList, c', ?_, ?_⟩), rfl, q _ (I.hok.fresh (Nat.le_refl _))⟩
  · rw [List.length_map]; exact z
  · have el : acc'.toList.length = acc'.size := by simp
    refine vals_of_at (by rw [List.length_map, el, hacc.1, hl]) fun j x w h1 h2 => ?_
    obtain ⟨k, y, hky, hi⟩ := hacc.2 j w (by rw [← Array.getElem?_toList]; exact h2)
    have e1 : (kvs.map (·.1))[j]? = some k := by
      rw [KV.keys rk, List.getElem?_map, hky] <;> rfl
    have e2 : (kvs.map fun kv => kV kv.1)[j]? = some (kV k) := by
      have e3 : (kvs.map fun kv => kV kv.1) = (kvs.map (·.1)).map kV := by rw [List.map_map] <;> rfl
      rw [e3, List.getElem?_map, e1] <;> rfl
    rw [e2] at h1
    cases h1
    exact keyIs_rel hi
  · rw [Array.toArray_toList]; exact hS
def rListB (K : PySem.W.Frag) : List V → Hp → VK → Prop := fun xs H Q => rListA K xs H Q ∨ rListK xs H Q
theorem call_listB (hc : X.calm = true) : CallR X (.type "list") (rListB X.K) := CallR.or call_listA (call_listK hc)
def kD : Key → D
  | .inl i => .int i
  | .inr s => .str s
def dListB : List D → Option Val
  | [.dic kds] => some ⟨.fr, .lst (kds.map fun kv => kD kv.1)⟩
  | ds => dList ds
theorem repL_keys {a0 : Addr} {F : Hp} : ∀ {vs : List (Key × V)} {ds : List (Key × D)}, RepK K a0 F vs ds → RepL K a0 F (vs.map fun kv => kV kv.1) (ds.map fun kv => kD kv.1)
  | [], [], _ => trivial
  | [], _ :: _, h => h.elim
  | _ :: _, [], h => h.elim
  | (j, v) :: vs, (j', d) :: ds, ⟨e, h, r⟩ => by
    subst e
    refine ⟨?_, repL_keys r⟩
    cases j <;> rfl
theorem sc_listB : SCall K (rListB K) dListB := fun a0 F H xs ds w Q s rx q k => by
  unfold dListB at q
  split at q
  · next kds =>
    cases q
    obtain ⟨v, rfl, p, vs, rfl, hp, rk⟩ := rhl1 rx
    exact .inr ⟨p, vs, rfl, hp, fun r hr => k _ _ (.new hr ⟨_, rfl, repL_keys rk⟩)⟩
  · exact .inl (sc_list a0 F H xs _ w Q s rx q k)
/-! ### list(d.values()) -/
def tListVals (td : TE) : TE := fun σ H Q => td σ H fun x H1 => ∃ a kvs, x = V.ref a ∧ Rd H1 a (.dK kvs) ∧ ∀ q, H1 q = none → Q (.ref q) (upd H1 q (.lst (kvs.map (·.2))))
theorem pe_listVals {o : Expr} {p pos apos mpos : Pos} {td : TE} (hc : X.calm = true) (hg : Gl X "list") (hm : X.mg "list" = none) (hd : PE X o td) (hbase : attributeBase o "values" X.env (eval o X.env) = eval o X.env := by rfl) (hline : (apos.endLine == mpos.line) = true := by rfl)
    (hse : starEach [Expr.Call (.Attribute o "values" apos) [] [] mpos] X.env = [(false, eval (Expr.Call (.Attribute o "values" apos) [] [] mpos) X.env)] := by rfl) :
    PE X (.Call (.Name "list" p) [.Call (.Attribute o "values" apos) [] [] mpos] [] pos) (tListVals td) := by
  refine ⟨fun pins s σ H Q I h => ?_⟩
  refine wpAny_Call_Name_kw (ld_blt I hg hm (u := .type "list") (by first | rfl | decide +kernel) ?_ (by first | decide +kernel | decide) (by first | decide +kernel | decide))
  rw [hse]
  refine PySem.callWith_type1 (wpAny_Call_method0_late hbase hline (thn (hd.run pins s σ H _ I h) fun v s1 ⟨x, H1, I1, r1, a, kvs, ex, ha, q⟩ => ?_))
  subst ex
  obtain rfl : v = Value.ref a := r1
  obtain ⟨hz, hsys, vs, rel, dof⟩ := dk_rd I1.hok ha
  obtain ⟨ep, dat⟩ := dof.dictAt
  have dat' := dat
  obtain ⟨ob, es, ho, ex, hdat, hko, hpr, hnd⟩ := dat'
  refine ⟨"dict", "dict.values", F.plainAttrs_dict, F.slot_dict_values, F.type_dict_values, ⟨ob, ho, ex.1⟩, fun b e => ?_, Calls.callWith_builtin rfl (PySem.evalArgs_none ?_)⟩
  · cases e
    exact ⟨ob, ho, ex.2.1⟩
  refine call_meetsIn F.slot_dict_values ⟨ob, ho, ex.1⟩ F.entry_dict_values (F.args_dict_values_1 _) (meets_dict_values (mixKind X.prog X.w) a hsys) ⟨⟨vs, dof⟩, ?_⟩
  have k1 : ∀ b u, s1.heap.get? b = some u → (s1.heap.push { cls := .type "dict_values", data := .fields #[.ref a] }).get? b = some u := fun b u e => Heap.get?_push_of_some _ e
  have dat1 : (s1.heap.push { cls := .type "dict_values", data := .fields #[.ref a] }).DictAt (mixKind X.prog X.w) a vs ep := dat.keep k1
  have hl : kvs.length = vs.length := Paired.length rel
  have I2 : Inv X pins σ H1 { s1 with heap := s1.heap.push { cls := .type "dict_values", data := .fields #[.ref a] } } := I1.kept (t' := s1.toks) k1
  have hlt : a < s1.heap.objs.size := Heap.lt_size ho
  refine PySem.W.kdl_call (s := { s1 with heap := s1.heap.push { cls := .type "dict_values", data := .fields #[.ref a] } }) (PySem.W.kdl_values (knd := mixKind X.prog X.w) (r := s1.heap.objs.size) (d := a) (kvs := vs) (ep := ep)) (I.ok.hd hc) ⟨⟨_, Heap.get?_push_size _ rfl, rfl, rfl⟩, dat1⟩ (by rw [← hl]; exact hz) fun h' tk acc' c' hkeep hS hacc => ?_
  refine ⟨.ref _, upd H1 _ (.lst (kvs.map (·.2))), I2.laid hkeep (Nat.le_refl _) (show ObjOk X.prog X.w _ _ _ (.lst (kvs.map (·.2))) from ⟨?_, acc'.toList, c', ?_, ?_⟩), rfl, q _ (I2.hok.fresh (Nat.le_refl _))⟩
  · rw [List.length_map]; exact hz
  · have el : acc'.toList.length = acc'.size := by simp
    refine vals_of_at (by rw [List.length_map, el, hacc.1, hl]) fun j x w h1 h2 => ?_
    obtain ⟨k, hky⟩ := hacc.2 j w (by rw [← Array.getElem?_toList]; exact h2)
    obtain ⟨y, h3, h4⟩ := KV.at' rel hky
    rw [List.getElem?_map, h3] at h1
    cases h1
    exact h4
  · rw [Array.toArray_toList]; exact hS
theorem repL_vals {a0 : Addr} {F : Hp} : ∀ {vs : List (Key × V)} {ds : List (Key × D)}, RepK K a0 F vs ds → RepL K a0 F (vs.map (·.2)) (ds.map (·.2))
  | [], [], _ => trivial
  | [], _ :: _, h => h.elim
  | _ :: _, [], h => h.elim
  | (j, v) :: vs, (j', d) :: ds, ⟨e, h, r⟩ => ⟨h, repL_vals r⟩
def dVals : D → Option Val
  | .dic kds => some ⟨.fr, .lst (kds.map (·.2))⟩
  | _ => none
def mListVals (a : Fm → Rs Sto Val) : Fm → Rs Sto Val := mUn dVals a
def rVals : V → Hp → VK → Prop := fun x H1 Q => ∃ (a : Addr) (kvs : List (Key × V)), x = V.ref a ∧ Rd H1 a (.dK kvs) ∧ ∀ q, H1 q = none → Q (.ref q) (upd H1 q (.lst (kvs.map (·.2))))
theorem sun_vals : SUn K rVals dVals := fun a0 F H x d w Q s rx q k => by
    unfold dVals at q
    split at q
    · cases q
      obtain ⟨p, vs, rfl, hp, rk⟩ := rx
      exact ⟨p, vs, rfl, hp, fun r hr => k _ _ (.new hr ⟨_, rfl, repL_vals rk⟩)⟩
    · cases q
theorem sim_listVals {t : TE} {a : Fm → Rs Sto Val} (ha : SimE K W t a) : SimE K W (tListVals t) (mListVals a) :=
  sim_un (K := K) (W := W) (r := rVals) (f := dVals) sun_vals ha
/-! ### a list's method that only reads -/
def SMe (K : PySem.W.Frag) (T : String) (r : V → List V → Hp → VK → Prop) (f : D → List D → Option Val) : Prop :=
  ∀ (a0 : Addr) (F H : Hp) (x : V) (xs : List V) (d : D) (ds : List D) (w : Val) (Q : VK), Sub F H → RH K a0 F H x d → RHL K a0 F H xs ds → f d ds = some w → (∀ v H', Res K a0 F H w v H' → Q v H') → r x xs H Q
def isT (T : String) : D → Bool
  | .lst _ => T == "list"
  | .str _ => T == "str"
  | _ => false
def mBM (T : String) (f : D → List D → Option Val) (a : Fm → Rs Sto Val) (as : Fm → Rs Sto (List Val)) : Fm → Rs Sto Val := fun s => (a s).bind fun w st => if isT T w.d = true then (as ⟨s.env, st⟩).bind fun ws st => ofO (f w.d (ws.map Val.d)) st else .no
theorem sim_bm {T : String} {r : V → List V → Hp → VK → Prop} {f : D → List D → Option Val} {to : TE} {ta : TA} {a : Fm → Rs Sto Val} {as : Fm → Rs Sto (List Val)} (hr : SMe K T r f) (ho : SimE K W to a) (ha : SimA K W ta as) : SimE K W (tBM K T r to ta) (mBM T f a as) := fun C s σ F H Q e m p => by
  unfold mBM at p
  refine ho.then (β := Unit) e m (fun w st q v F1 H1 s1 m1 r1 => ?_) (fun c fs st q => by rw [q] at p; exact p) (fun q => by rw [q] at p; exact p)
  rw [q, Rs.bind_ok] at p
  by_cases hT : isT T w.d = true
  · rw [if_pos hT] at p
    refine ⟨?_, ?_⟩
    · have rh := r1.rh m1
      unfold isT at hT
      split at hT
      · next hd =>
        rw [hd] at rh
        obtain ⟨b, vs, ev, hl, _⟩ := rh
        subst ev
        exact .inl ⟨by simpa using hT, vs, SqL.of hl⟩
      · next hd =>
        rw [hd] at rh
        rw [show v = _ from rh]
        show T = "str"
        simpa using hT
      · cases hT
    · refine ha C ⟨s.env, st⟩ σ F1 H1 _ e m1 ?_
      cases q2 : as ⟨s.env, st⟩ with
      | no => rw [q2] at p; exact p.elim
      | ex c fs st => rw [q2] at p; exact fun cls d F' H' z => p cls d F' H' (s1.trans z)
      | ok ws st2 =>
        rw [q2, Rs.bind_ok] at p
        intro us F2 H2 s2 m2 r2
        cases q3 : f w.d (ws.map Val.d) with
        | none => rw [q3] at p; exact p.elim
        | some y =>
          rw [q3] at p
          subst e
          refine hr C.a0 F2 H2 v us w.d _ y Q m2.hd.sub ((r1.mono s2).rh m2) (r2.rh m2) q3 fun v' H' rs => ?_
          obtain ⟨F3, s3, m3, r3⟩ := rs.go m2
          exact p v' F3 H' ((s1.trans s2).trans s3) m3 r3
  · rw [if_neg hT] at p
    exact p.elim
def strsD : List D → Option (List Str)
  | [] => some []
  | .str s :: r => (strsD r).map (s :: ·)
  | _ => none
theorem strsD_v {a0 : Addr} {F : Hp} : ∀ {vs : List V} {ds : List D} {ks : List Str}, RepL K a0 F vs ds → strsD ds = some ks → vs = ks.map V.str
  | [], [], _, _, h => by cases h; rfl
  | [], _ :: _, _, h, _ => h.elim
  | _ :: _, [], _, h, _ => h.elim
  | v :: vs, d :: ds, ks, ⟨h, r⟩, q => by
    cases d with
    | str z =>
      have q : (strsD ds).map (z :: ·) = some ks := q
      cases q2 : strsD ds with
      | none => rw [q2] at q; cases q
      | some ks' =>
        rw [q2] at q
        cases q
        rw [show v = V.str z from h, strsD_v r q2]
        rfl
    | _ => cases q
/-- l.index(s), texts -/
def dIndex : D → List D → Option Val
  | .lst ds, [.str z] => (strsD ds).bind fun ks => if z ∈ ks then some ⟨.sh, .int ((ks.idxOf z : Nat) : Int)⟩ else none
  | _, _ => none
theorem sme_index : SMe K "list" (rIndex K) dIndex := fun a0 F H x xs d ds w Q s rx rxs q k => by
  unfold dIndex at q
  split at q
  · next es z =>
    cases q2 : strsD es with
    | none => rw [q2] at q; cases q
    | some ks =>
      rw [q2] at q
      have q : (if z ∈ ks then some (⟨.sh, .int ((ks.idxOf z : Nat) : Int)⟩ : Val) else none) = some w := q
      split at q
      · next hm =>
        cases q
        obtain ⟨a, vs, rfl, hl, rl⟩ := rx
        obtain ⟨v, rfl, h⟩ := rhl1 rxs
        cases (show v = _ from h)
        have ev := strsD_v rl q2
        subst ev
        have hlt : ks.idxOf z < ks.length := List.idxOf_lt_length_of_mem hm
        refine ⟨a, _, .str z, ks.idxOf z, .str z, rfl, rfl, SqL.of hl, rfl, List.all_eq_true.mpr fun x hx => ?_, ?_, beq_self_eq_true _, fun m z' hml hz' => ?_, k _ H (.old rfl)⟩
        · obtain ⟨y, _, rfl⟩ := List.mem_map.mp hx
          rfl
        · rw [List.getElem?_map, List.getElem?_eq_getElem hlt, List.getElem_idxOf]
          rfl
        · rw [List.getElem?_map] at hz'
          cases q5 : ks[m]? with
          | none => rw [q5] at hz'; cases hz'
          | some y =>
            rw [q5] at hz'
            cases hz'
            show (y == z) = false
            have := List.not_of_lt_findIdx (p := (· == z)) (xs := ks) (i := m) hml
            have hy : ks[m]'(Nat.lt_trans hml hlt) = y := (List.getElem?_eq_some_iff.mp q5).2
            simpa [hy] using this
      · cases q
  · cases q
end
end RX

set_option Elab.async false
set_option linter.all false
set_option maxRecDepth 100000
set_option maxHeartbeats 1000000
/-! RX: dict comprehensions. -/
namespace RX
open PySem L2
section
variable {K : PySem.W.Frag} {W : WX}
/-- the turns of a dict comprehension -/
def dcD (tg : D → Fm → Option Fm) (tt : Fm → Rs Sto Bool) (kx vx : Fm → Rs Sto Val) (env : List Slot) : List D → Sto → List (Key × D) → Rs Sto (List (Key × D))
  | [], st, acc => .ok acc st
  | d :: ds, st, acc => match tg d ⟨env, st⟩ with
    | none => .no
    | some s1 => match tt s1 with
      | .ok false st' => dcD tg tt kx vx env ds st' acc
      | .ok true st' => (match kx ⟨s1.env, st'⟩ with
        | .ok y st2 => (match dKey y.d with
          | none => .no
          | some k => match vx ⟨s1.env, st2⟩ with
            | .ok ⟨.ow _, _⟩ _ => .no
            | .ok ⟨_, z⟩ st3 => dcD tg tt kx vx env ds st3 (kPut acc k z)
            | _ => .no)
        | _ => .no)
      | _ => .no
def mDc (src : Fm → Rs Sto (List D)) (tg : D → Fm → Option Fm) (tt : Fm → Rs Sto Bool) (kx vx : Fm → Rs Sto Val) (vs : List Nat) : Fm → Rs Sto Val := fun s => (src s).bind fun ds st =>
  if ds.length ≤ line ∧ noOwn s.env vs = true then (dcD tg tt kx vx (wipeE s.env vs) ds st []).bind fun ys st' => .ok ⟨.fr, .dic ys⟩ st' else .no
theorem length_kPut {α : Type} (r : List (Key × α)) (k : Key) (x : α) : (kPut r k x).length ≤ r.length + 1 := by
  unfold kPut
  split
  · rw [List.length_map]; exact Nat.le_succ _
  · simp
theorem sim_dc {is vs : List Nat} {wi : TI} {src : Fm → Rs Sto (List D)} {g : TG} {tg : D → Fm → Option Fm} {tt : TT} {tk tv : TE} {ct : Fm → Rs Sto Bool} {kx vx : Fm → Rs Sto Val} (hi : SimI K W wi src) (hg : SimG K is g tg) (hv : ∀ i ∈ is, i ∈ vs)
    (ht : SimT K noX tt ct) (hk : SimE K noX tk kx) (he : SimE K noX tv vx) (h0 : 0 ∉ vs := by decide) : SimE K W (tDc wi g tt tk tv vs) (mDc src tg ct kx vx vs) := fun C s σ F H Q e m p => by
  unfold mDc at p
  refine hi C s σ F H _ e m ?_
  cases q : src s with
  | no => rw [q] at p; exact p
  | ex c fs st => rw [q] at p; exact p
  | ok ds st =>
    rw [q, Rs.bind_ok] at p
    by_cases hl : ds.length ≤ line ∧ noOwn s.env vs = true
    · rw [if_pos hl] at p
      obtain ⟨hl, hno⟩ := hl
      have hno := noOwn_ok hno
      intro J F1 H1 s1 m1 wk L nL
      obtain ⟨fL, neL, nhL⟩ := m1.hd.fresh nL
      have nfL : C.F0 L = none := by
        cases q0 : C.F0 L with
        | none => rfl
        | some o => rw [m1.hd.base L o q0] at fL; cases fL
      let Pv : Nat → Hp → Prop := fun i H => ∃ st' F' acc vacc, Sub F1 F' ∧ Mt (C.with L (.dK vacc)) ⟨s.env, st'⟩ σ F' H ∧ RepK C.K C.a0 F' vacc acc ∧ acc.length ≤ i ∧
        PostE C s σ F W ((dcD tg ct kx vx (wipeE s.env vs) (ds.drop i) st' acc).bind fun ys st' => .ok ⟨.fr, .dic ys⟩ st') Q
      have own1 := m1.own_ne nL
      refine ⟨fun i k H => k = ds.length - i ∧ i ≤ ds.length ∧ Pv i H, ⟨ds.length, by simp, Nat.zero_le _, st, F1, [], [], Sub.refl F1, (m1.laid nL).push upd_same fL neL own1, trivial, Nat.le_refl _, by simpa using p⟩, ?_⟩
      rintro i k H' ⟨rfl, hle, st', F', acc, vacc, sub, mt, rl, hal, po⟩
      obtain ⟨mt0, hL, fL', noL⟩ := mt.pop neL nhL nfL
      by_cases hlt : i < ds.length
      · refine .inr ⟨wk.go i H' F' sub mt0.hd.sub hlt, Pv (i + 1), fun H2 z => ⟨ds.length - (i + 1), by omega, rfl, hlt, z⟩, fun x H2 y => ?_⟩
        obtain ⟨d, hd, rs⟩ := wk.yld i H' F' x H2 sub mt0.hd.sub hlt y
        obtain ⟨F2, s2, m2, rv⟩ := Res.go (C := C.with L (.dK vacc)) mt rs
        rw [drop_cons hd] at po
        unfold dcD at po
        cases q2 : tg d ⟨wipeE s.env vs, st'⟩ with
        | none => rw [q2] at po; exact po.elim
        | some s3 =>
          rw [q2] at po
          dsimp only at po
          refine hg (C.with L (.dK vacc)) ⟨wipeE s.env vs, st'⟩ s3 (L2.wipe σ vs) F2 H2 x d _ e (m2.wipe vs h0) rv q2 fun σ3 m3 w3 => ⟨(w3.wipe hv).trans ?_, ?_⟩
          · apply List.ext_getElem?
            intro j
            rw [wipe_get, wipe_get, wipe_length]
            by_cases hj : j ∈ vs ∧ j < σ.length
            · rw [if_pos hj, if_pos hj]
            · rw [if_neg hj, if_neg hj]
          · have eS : ∀ j, j ∉ vs → σ3[j]? = σ[j]? := fun j hj => (w3.slot j fun z => hj (hv j z)).trans (by rw [wipe_get, if_neg fun z => hj z.1])
            have eE : ∀ j, j ∉ vs → s3.env[j]? = s.env[j]? := fun j hj => (w3.env j fun z => hj (hv j z)).trans (by rw [wipeE_get, if_neg fun z => hj z.1])
            refine ht (C.with L (.dK vacc)) s3 σ3 F2 H2 _ e m3 ?_
            cases q3 : ct s3 with
            | no => rw [q3] at po; exact po
            | ex c fs st4 => rw [q3] at po; exact po.elim
            | ok b st4 =>
              rw [q3] at po
              intro F3 H3 s4 m4
              cases b with
              | false =>
                rw [if_neg Bool.false_ne_true]
                exact ⟨st4, F3, acc, vacc, sub.trans (s2.trans s4), m2.back m4 s4 eE eS hno, rl.mono (s2.trans s4), Nat.le_succ_of_le hal, po⟩
              | true =>
                rw [if_pos rfl]
                dsimp only at po
                refine hk.then (β := Unit) (C := C.with L (.dK vacc)) e m4 (fun w st5 q4 u F5 H5 s5 m5 r5 => ?_) (fun c fs st q4 => by rw [q4] at po; exact po.elim) (fun q4 => by rw [q4] at po; exact po)
                rw [q4] at po
                dsimp only at po
                cases q6 : dKey w.d with
                | none => rw [q6] at po; exact po.elim
                | some key =>
                  rw [q6] at po
                  dsimp only at po
                  have eu := dKey_rh q6 (r5.rh m5)
                  refine he (C.with L (.dK vacc)) ⟨s3.env, st5⟩ σ3 F5 H5 _ e m5 ?_
                  cases q5 : vx ⟨s3.env, st5⟩ with
                  | no => rw [q5] at po; exact po
                  | ex c fs st5 => rw [q5] at po; exact po.elim
                  | ok w st6 =>
                    rw [q5] at po
                    intro v F6 H6 s6 m6 r6
                    obtain ⟨kw, dw⟩ := w
                    have fin : ∀ {F7 : Hp}, Sub F6 F7 → Mt (C.with L (.dK vacc)) ⟨s3.env, st6⟩ σ3 F7 H6 → Rep C.K C.a0 F7 v dw →
                        PostE C s σ F W ((dcD tg ct kx vx (wipeE s.env vs) (ds.drop (i + 1)) st6 (kPut acc key dw)).bind fun ys st' => .ok ⟨.fr, .dic ys⟩ st') Q →
                        ∃ kvs k, u = kV k ∧ H6 L = some (.dK kvs) ∧ kvs.length < sizeLine ∧ Pv (i + 1) (upd H6 L (.dK (putK kvs k v))) := fun {F7} s7 m7 r7 po => by
                      have sall := s4.trans (s5.trans (s6.trans s7))
                      have mb := m2.back m7 sall eE eS hno
                      obtain ⟨mb0, hL5, fL5, noL5⟩ := mb.pop neL nhL nfL
                      have rl6 := rl.mono (s2.trans sall)
                      refine ⟨vacc, key, eu, hL5, ?_, st6, F7, kPut acc key dw, putK vacc key v, sub.trans (s2.trans sall), ?_, RepK.put r7 rl6, ?_, po⟩
                      · rw [rl6.len]
                        exact line_lt (Nat.lt_of_le_of_lt hal (Nat.lt_of_lt_of_le hlt hl))
                      · exact (mb0.rewr fL5 neL nhL noL5).push upd_same fL5 neL noL5
                      · have := length_kPut acc key dw
                        omega
                    cases kw with
                    | ow j => exact po.elim
                    | sh => exact fin (Sub.refl F6) m6 r6 po
                    | fr =>
                      obtain ⟨F7, s7, m7, r7⟩ := m6.freezeV r6
                      exact fin s7 m7 r7 po
      · have ei : i = ds.length := by omega
        subst ei
        refine .inl ⟨wk.stop H' F' sub mt0.hd.sub, ?_⟩
        rw [List.drop_length] at po
        exact po (.ref L) F' H' (s1.trans sub) mt0 ⟨L, rfl, ⟨fL', neL, nhL, _, hL, vacc, rfl, rl⟩, noL⟩
    · rw [if_neg hl] at p
      exact p.elim
end
end RX

set_option Elab.async false
set_option linter.all false
set_option maxRecDepth 100000
set_option maxHeartbeats 1000000
/-! RX: instances: attributes, constants, making, methods, len. -/
namespace RX
open PySem PySem.Spec PyProof.Rows L2
section
variable {K : PySem.W.Frag} {W : WX} {X : Cx}
/-! ### fields -/
def fPut {α : Type} (f : Str) (v : α) : List (Str × α) → List (Str × α)
  | [] => [(f, v)]
  | (g, x) :: r => if g = f then (g, v) :: r else (g, x) :: fPut f v r
theorem RepF.put {a0 : Addr} {F : Hp} {f : Str} {v : V} {d : D} (h : Rep K a0 F v d) : ∀ {vs : List (Str × V)} {ds : List (Str × D)}, RepF K a0 F vs ds → RepF K a0 F (putF f v vs) (fPut f d ds)
  | [], [], _ => ⟨rfl, h, trivial⟩
  | [], _ :: _, h => h.elim
  | _ :: _, [], h => h.elim
  | (g, x) :: vs, (g', e) :: ds, ⟨q, r, t⟩ => by
    subst q
    unfold putF fPut
    by_cases hg : g = f
    · rw [if_pos hg, if_pos hg]; exact ⟨rfl, h, t⟩
    · rw [if_neg hg, if_neg hg]; exact ⟨rfl, r, RepF.put h t⟩
theorem RepF.len {a0 : Addr} {F : Hp} : ∀ {vs : List (Str × V)} {ds : List (Str × D)}, RepF K a0 F vs ds → vs.length = ds.length
  | [], [], _ => rfl
  | [], _ :: _, h => h.elim
  | _ :: _, [], h => h.elim
  | (_, _) :: _, (_, _) :: _, ⟨_, _, t⟩ => congrArg Nat.succ (RepF.len t)
theorem RepF.look {a0 : Addr} {F : Hp} {f : Str} : ∀ {vs : List (Str × V)} {ds : List (Str × D)}, RepF K a0 F vs ds → (vs.lookup f = none ∧ ds.lookup f = none) ∨ ∃ v d, vs.lookup f = some v ∧ ds.lookup f = some d ∧ Rep K a0 F v d
  | [], [], _ => .inl ⟨rfl, rfl⟩
  | [], _ :: _, h => h.elim
  | _ :: _, [], h => h.elim
  | (g, x) :: vs, (g', e) :: ds, ⟨q, r, t⟩ => by
    subst q
    by_cases hg : f = g
    · subst hg
      exact .inr ⟨x, e, by simp [List.lookup], by simp [List.lookup], r⟩
    · have hb : (f == g) = false := beq_eq_false_iff_ne.mpr hg
      rw [List.lookup_cons, List.lookup_cons, hb]
      exact RepF.look t
def rFld (K : PySem.W.Frag) (f : Str) : V → Hp → VK → Prop := fun x H1 Q => ∃ a C dx fs v, x = .ref a ∧ H1 a = some (.ins C dx fs) ∧ Cls K C ∧ NoAttr K C f ∧ fs.lookup f = some v ∧ Q v H1
def dFld (c f : Str) : D → Option Val
  | .obj c' fs => if c' = c then (fs.lookup f).map fun d => ⟨.sh, d⟩ else none
  | _ => none
theorem sun_fld {c f : Str} (hc : Cls K (cl K c)) (hn : NoAttr K (cl K c) f) : SUn K (rFld K f) (dFld c f) := fun a0 F H x d w Q s rx q k => by
  unfold dFld at q
  split at q
  · next c' fs =>
    split at q
    · next e =>
      subst e
      obtain ⟨a, dx, vs, rfl, hp, rf⟩ := rx
      rcases rf.look (f := f) with ⟨_, e2⟩ | ⟨v, d, e1, e2, e3⟩
      · rw [e2] at q; cases q
      · rw [e2] at q
        cases q
        exact ⟨a, _, dx, vs, v, rfl, hp, hc, hn, e1, k _ H (.old e3)⟩
    · cases q
  · cases q
/-- e.f -/
def mFld (c f : Str) (a : Fm → Rs Sto Val) : Fm → Rs Sto Val := mUn (dFld c f) a
theorem sim_fld {c f : Str} {t : TE} {a : Fm → Rs Sto Val} (hc : Cls K (cl K c)) (hn : NoAttr K (cl K c) f) (ha : SimE K W t a) : SimE K W (tFld K t f) (mFld c f a) :=
  sim_un (r := rFld K f) (sun_fld hc hn) ha
def rCon (K : PySem.W.Frag) (f : Str) : V → Hp → VK → Prop := fun x H1 Q => ∃ a C dx fs v u, x = .ref a ∧ H1 a = some (.ins C dx fs) ∧ Cls K C ∧ Con K C f v u ∧ fs.lookup f = none ∧ Q v H1
def dCon (c f : Str) (d : D) : D → Option Val
  | .obj c' fs => if c' = c ∧ fs.lookup f = none then some ⟨.sh, d⟩ else none
  | _ => none
/-- e.F, a constant of e's class -/
def mCon (c f : Str) (d : D) (a : Fm → Rs Sto Val) : Fm → Rs Sto Val := mUn (dCon c f d) a
theorem sim_con {c f : Str} {d : D} {v : V} {u : Value} {t : TE} {a : Fm → Rs Sto Val} (hc : Cls K (cl K c)) (hn : Con K (cl K c) f v u) (hr : ∀ a0 F, Rep K a0 F v d) (ha : SimE K W t a) : SimE K W (tCon K t f) (mCon c f d a) :=
  sim_un (r := rCon K f) (fun a0 F H x e w Q s rx q k => by
    unfold dCon at q
    split at q
    · next c' fs =>
      split at q
      · next e =>
        obtain ⟨e, el⟩ := e
        subst e
        cases q
        obtain ⟨a, dx, vs, rfl, hp, rf⟩ := rx
        rcases rf.look (f := f) with ⟨e1, _⟩ | ⟨v, d, e1, e2, e3⟩
        · exact ⟨a, _, dx, vs, v, u, rfl, hp, hc, hn, e1, k _ H (.old (hr _ _))⟩
        · rw [e2] at el; cases el
      · cases q
    · cases q) ha
/-- C.F, a constant of the class -/
def mCVal (d : D) : Fm → Rs Sto Val := fun s => .ok ⟨.sh, d⟩ s.sto
theorem sim_cval {C : Addr} {mc : Value} {f : Str} {d : D} {v : V} {u : Value} (hr : ClX.CRead K C mc) (hv : ClX.CVal K C mc f v u) (hd : ∀ a0 F, Rep K a0 F v d) : SimE K W (ClX.tCVal K (tC (.ref C)) f) (mCVal d) := fun C' s σ F H Q e m p =>
  ⟨C, mc, v, u, rfl, hr, hv, p v F H (Sub.refl F) m (by subst e; exact hd _ _)⟩
/-- self.f = e, in __init__ (slot i) -/
def mSetF (i : Nat) (c f : Str) (a : Fm → Rs Sto Val) : Fm → Rs Fm Fl := fun s => liftS (a s) s.env fun w s1 => match w.k with
  | .ow _ => .no
  | _ => match s1.env[i]? with
    | some (.own (.obj c' fs)) => if c' = c ∧ fs.length < 900 then .ok .nx ⟨s1.env.set i (.own (.obj c (fPut f w.d fs))), s1.sto⟩ else .no
    | _ => .no
theorem sim_setF {i : Nat} {c f : Str} {t : TE} {a : Fm → Rs Sto Val} (hc : Cls K (cl K c)) (hn : NoAttr K (cl K c) f) (ha : SimE K W t a) : SimS K W (sFld K (tVar i) t f) (mSetF i c f a) := fun C s σ F H Dn e m p => by
  unfold mSetF liftS at p
  refine ha.then (β := Unit) e m (fun w st q v F1 H1 s1 m1 r1 => ?_) (fun c fs st q => by rw [q] at p; exact fun cls d F' H' s1 m1 x => p cls d σ F' H' s1 m1 x) (fun q => by rw [q] at p; exact p)
  rw [q] at p
  dsimp only at p
  have fin : ∀ d, Rep C.K C.a0 F1 v d → PostS C F W (match s.env[i]? with
    | some (.own (.obj c' fs)) => if c' = c ∧ fs.length < 900 then (Rs.ok Fl.nx ⟨s.env.set i (.own (.obj c (fPut f d fs))), st⟩ : Rs Fm Fl) else .no
    | _ => .no) Dn → tVar i σ H1 fun x H2 => ∃ a C dx fs, x = .ref a ∧ H2 a = some (.ins C dx fs) ∧ Cls K C ∧ NoAttr K C f ∧ fs.length < 1000 ∧ Dn.nx σ (upd H2 a (.ins C dx (putF f v fs))) := fun d rd p => by
    cases q1 : s.env[i]? with
    | none => rw [q1] at p; exact p.elim
    | some sl =>
      rw [q1] at p
      cases sl with
      | emp => exact p.elim
      | v _ => exact p.elim
      | own o =>
        cases o with
        | obj c' fs =>
          dsimp only at p
          by_cases hc' : c' = c ∧ fs.length < 900
          · rw [if_pos hc'] at p
            obtain ⟨hc1, hl⟩ := hc'
            subst hc1
            obtain ⟨b, z, _, _, _, ho, hb, dx, vs, eh, rf⟩ := Mt.ow (s := ⟨s.env, st⟩) m1 i _ q1
            subst eh
            refine ⟨.ref b, z, b, cl K c', dx, vs, rfl, by subst e; exact hb, hc, hn, by rw [rf.len]; omega, ?_⟩
            exact p σ F1 _ s1 (Mt.setOwn (s := ⟨s.env, st⟩) (d' := RX.D.obj c' (fPut f d fs)) m1 q1 z ⟨dx, _, by subst e; rfl, RepF.put rd rf⟩)
          · rw [if_neg hc'] at p
            exact p.elim
        | _ => exact p.elim
  obtain ⟨k, d⟩ := w
  cases k with
  | ow j => exact p.elim
  | sh => exact fin d r1 p
  | fr => exact fin d r1 p
/-! ### an instance is made -/
def cutA (H : Hp) (x : Addr) : Hp := fun a => if a = x then none else H a
/-- what __init__ promises: the object's end -/
def spI (K : PySem.W.Frag) (c : Str) (f : List D → Sto → Rs Sto D) : Sp := fun vs H Q E => ∃ (C : Cn) (F : Hp) (x dx : Addr) (us : List V) (ds : List D) (st : Sto), vs = .ref x :: us ∧ C.K = K ∧ C.F0 = F ∧ C.H0 = cutA H x ∧ C.s0 = some (some (.ref x)) ∧ Hd C st F H ∧ RepL K C.a0 F us ds ∧
  H x = some (.ins (cl K c) dx []) ∧ F x = none ∧ x ≠ C.a0 ∧ match f ds st with
    | .ok d st' => ∀ F' H', Sub F F' → Hd C st' F' H' → OwnAt C F' H' x d → Q .non H'
    | .ex c fs st' => ∀ cls d F' H', Sub F F' → Hd C st' F' H' → Exn C F' H' c fs cls d → E cls d H'
    | .no => False
def own0 (s : Fm) : Option D := match s.env[0]? with
  | some (Slot.own d) => some d
  | _ => none
def outI (r : Rs Fm Fl) : Rs Sto D := match r with
  | .ok .nx s => (match own0 s with
    | some d => .ok d s.sto
    | none => .no)
  | .ok _ _ => .no
  | .ex c fs s => .ex c fs s.sto
  | .no => .no
/-- np parameters (self among them), n names -/
def fnI (c : Str) (np n : Nat) (m : Fm → Rs Fm Fl) : List D → Sto → Rs Sto D := fun ds st => if ds.length + 1 = np then outI (m ⟨.own (.obj c []) :: startE (n - 1) ds, st⟩) else .no
theorem spI_body {c : Str} {N : List Str} {np : Nat} {m : Fm → Rs Fm Fl} {t : TS} {vs : List V} {H : Hp} {Q : VK} {E : XK} (h : SimS K (fun cls d _ H => E cls d H) t m) (hN : 0 < N.length) (hsp : spI K c (fnI c np N.length m) vs H Q E) :
    t { nx := fun _ H' => Q .non H', rt := Q } (L2.start N vs) H := by
  obtain ⟨C, F, x, dx, us, ds, st, ev, e, ef, eh, hz, hd, r, hx, fx, nx, p⟩ := hsp
  subst ev
  unfold fnI at p
  by_cases hl : ds.length + 1 = np
  · rw [if_pos hl] at p
    subst e
    have hst : L2.start N (.ref x :: us) = some (.ref x) :: (us.map some ++ List.replicate (N.length - 1 - us.length) none) := by
      unfold L2.start
      rw [List.map_cons, List.cons_append, List.length_cons]
      congr 3
      omega
    have mt : Mt C ⟨.own (.obj c []) :: startE (N.length - 1) ds, st⟩ (L2.start N (.ref x :: us)) F H := by
      refine ⟨hd, ⟨?_, ?_⟩, fun i d q => ?_, fun i d q => ?_, fun i j d d' a q q' => ?_⟩
      · rw [hst]
        unfold startE
        simp [r.len]
      · rw [hst, hz]; rfl
      · cases i with
        | zero => cases q
        | succ i =>
          rw [List.getElem?_cons_succ] at q
          rcases startE_get q with ⟨d', e, z⟩ | z
          · cases z
            obtain ⟨v, e', hr⟩ := r.get e
            refine ⟨v, ?_, hr⟩
            rw [hst, List.getElem?_cons_succ]
            have hi : i < us.length := (List.getElem?_eq_some_iff.mp e').1
            rw [List.getElem?_append_left (by simpa using hi), List.getElem?_map, e']
            rfl
          · cases z
      · cases i with
        | zero =>
          cases q
          exact ⟨x, by rw [hst]; rfl, fx, nx, by rw [eh]; exact if_pos rfl, _, hx, dx, [], rfl, trivial⟩
        | succ i =>
          rw [List.getElem?_cons_succ] at q
          rcases startE_get q with ⟨d', e, z⟩ | z <;> cases z
      · have z : ∀ {i : Nat} {d : RX.D}, (Slot.own (.obj c []) :: startE (N.length - 1) ds)[i]? = some (.own d) → i = 0 := fun {i d} q => by
          cases i with
          | zero => rfl
          | succ i =>
            rw [List.getElem?_cons_succ] at q
            rcases startE_get q with ⟨d', e, z⟩ | z <;> cases z
        intros
        rw [z q, z q']
    refine h C _ (L2.start N (.ref x :: us)) F H _ rfl mt ?_
    unfold outI at p
    cases q : m ⟨.own (.obj c []) :: startE (N.length - 1) ds, st⟩ with
    | no => rw [q] at p; exact p
    | ex c fs s' => rw [q] at p; exact fun cls d σ' F' H' s1 m1 x => p cls d F' H' s1 m1.hd x
    | ok fl s' =>
      rw [q] at p
      cases fl with
      | nx =>
        intro σ' F' H' s1 m1
        dsimp only at p
        cases q1 : own0 s' with
        | none => rw [q1] at p; exact p.elim
        | some d =>
          rw [q1] at p
          have q2 : s'.env[0]? = some (.own d) := by
            unfold own0 at q1
            split at q1
            · next h => cases q1; exact h
            · cases q1
          obtain ⟨a, z, o⟩ := m1.ow 0 d q2
          have := m1.ln.2
          rw [hz, z] at this
          cases this
          exact p F' H' s1 m1.hd o
      | bk => exact p.elim
      | ct => exact p.elim
      | ret w => exact p.elim
  · rw [if_neg hl] at p
    exact p.elim
theorem spI_len {c : Str} {np n : Nat} {m : Fm → Rs Fm Fl} {vs : List V} {H : Hp} {Q : VK} {E : XK} (h : spI K c (fnI c np n m) vs H Q E) : vs.length = np := by
  obtain ⟨C, F, x, dx, us, ds, st, ev, e, ef, eh, hz, hd, r, hx, fx, nx, p⟩ := h
  subst ev
  unfold fnI at p
  by_cases hl : ds.length + 1 = np
  · rw [List.length_cons, r.len, hl]
  · rw [if_neg hl] at p
    exact p.elim
theorem fn_okI {CX : CXT} {P : Program} {w : PySem.World} {K : PySem.W.Frag} {mg : Str → Option Value} {base : Heap} {x qual c : Str} {params : Arguments} {body : List Stmt} {scope : Scope} {dvs : List V} {kws : List (Str × V)} {f : Addr} {fd : FuncData} {N ps : List Str} {k : Nat} {m : Fm → Rs Fm Fl}
    (F : FunD K x qual params body scope dvs kws f fd) (S : FnScope N ps scope) (hN : 0 < N.length)
    (hb : ∀ (cdv : Value) (A : Around) (outer : List Env) (s : Shared) (H : Hp) (E : XK), Room k (A.deeper (envOfC qual scope s.heap.objs.size f cdv)) →
      ∃ t, PSs (cxOf CX P w K mg base N qual scope f cdv A outer s H E) body t ∧ SimS K (fun cls d _ H => E cls d H) t m) :
    FnOk P w K mg base CX (k + 1) f fd ps (spI K c (fnI c ps.length N.length m)) := by
  refine F.ok S (fun vs H Q E h => spI_len h) fun cdv A outer s H vs Q E hr h => ?_
  obtain ⟨t, ht, hs⟩ := hb cdv A outer s H E hr
  exact ⟨t, ht, spI_body hs hN h⟩
/-- what __init__ makes, as a value told -/
def mkV (f : List D → Sto → Rs Sto D) : List D → Sto → Rs Sto Val := fun ds st => match f ds st with
  | .ok d st' => .ok ⟨.fr, d⟩ st'
  | .ex c fs st' => .ex c fs st'
  | .no => .no
theorem spI_of {c : Str} {f : List D → Sto → Rs Sto D} {vs : List V} {H : Hp} {Q : VK} {E : XK} (h : spF K (mkV f) vs H Q E) {x dx : Addr} (nx : H x = none) (ndx : H dx = none) (dne : dx ≠ x) :
    spI K c f (.ref x :: vs) (upd (upd H dx (.own x)) x (.ins (cl K c) dx [])) (fun v H2 => v = .non ∧ Q (.ref x) H2) E := by
  obtain ⟨C, F, ds, st, e, ef, eh, hz, hd, r, p⟩ := h
  subst e
  obtain ⟨fx, nex, _⟩ := hd.fresh nx
  have old : ∀ a o, H a = some o → cutA (upd (upd H dx (.own x)) x (.ins (cl C.K c) dx [])) x a = some o := fun a o z => by
    have n1 : a ≠ x := ne_of_none z nx
    have n2 : a ≠ dx := ne_of_none z ndx
    unfold cutA
    rw [if_neg n1, upd_ne n1, upd_ne n2]
    exact z
  have hd2 := (hd.laid (o := .own x) ndx).laid (p := x) (o := .ins (cl C.K c) dx []) (by rw [upd_ne (fun z => dne z.symm)]; exact nx)
  have hdg : Hd { C with F0 := F, H0 := cutA (upd (upd H dx (.own x)) x (.ins (cl C.K c) dx [])) x, s0 := some (some (.ref x)) } st F (upd (upd H dx (.own x)) x (.ins (cl C.K c) dx [])) := by
    obtain ⟨h1, h2, h3, h4, h5, h6, h7, h8, h9⟩ := hd2
    refine ⟨h1, Sub.refl F, fun a o z _ => ?_, fun a o z => .inl z, h5, h6, h7, (h2.sqL h8 : SqL C.K F C.c0 _), ?_⟩
    · have z : cutA (upd (upd H dx (.own x)) x (.ins (cl C.K c) dx [])) x a = some o := z
      unfold cutA at z
      split at z
      · cases z
      · exact z
    · exact ⟨stoL C.c0 st, (if_neg (fun z => nex z.symm) : cutA _ x C.a0 = _).trans h6⟩
  have conv : ∀ {st' : Sto} {F' H' : Hp}, Sub F F' → Hd { C with F0 := F, H0 := cutA (upd (upd H dx (.own x)) x (.ins (cl C.K c) dx [])) x, s0 := some (some (.ref x)) } st' F' H' → Hd C st' F' H' := fun {st' F' H'} sub hd' => by
    have fr' : ∀ a o, H a = some o → a ≠ C.a0 → H' a = some o := fun a o z zn => hd'.fr a o (old a o z) zn
    refine ⟨hd'.sub, fun a o z => sub a o (hd.base a o z), fun a o z zn => ?_, fun a o z => ?_, hd'.f0, hd'.sto, hd'.cells, hd.cel, hd.z0⟩
    · exact fr' a o (hd.fr a o z zn) zn
    · rcases hd'.nw a o z with y | y
      · exact hd.nw a o y
      · refine .inr ?_
        cases q0 : C.H0 a with
        | none => rfl
        | some u =>
          rw [eh] at q0
          have := old a u q0
          have y' : cutA (upd (upd H dx (.own x)) x (.ins (cl C.K c) dx [])) x a = none := y
          rw [this] at y'; cases y'
  refine ⟨{ C with F0 := F, H0 := cutA (upd (upd H dx (.own x)) x (.ins (cl C.K c) dx [])) x, s0 := some (some (.ref x)) }, F, x, dx, vs, ds, st, rfl, rfl, rfl, rfl, rfl, hdg, r, upd_same, fx, nex, ?_⟩
  unfold mkV PostF at p
  cases q : f ds st with
  | no => rw [q] at p; exact p
  | ex c' fs st' => rw [q] at p; exact fun cls d F' H' sub hd' ex => p cls d F' H' sub (conv sub hd') ex
  | ok d st' =>
    rw [q] at p
    exact fun F' H' sub hd' ow => ⟨rfl, p (.ref x) F' H' sub (conv sub hd') ⟨x, rfl, ow.nf, nex, by rw [eh]; exact nx, ow.at_⟩⟩
/-- C(..) -/
def mMake (f : List D → Sto → Rs Sto D) (dds : List D) (a : Fm → Rs Sto (List Val)) : Fm → Rs Sto Val := fun s => (a s).bind fun ws st => callW (mkV f) ws dds st
theorem sim_make {c : Str} {f : List D → Sto → Rs Sto D} {dvs : List V} {dds : List D} {E : XK} {ta : TA} {a : Fm → Rs Sto (List Val)} (ha : SimA K W ta a) (hd : ∀ a0 F, RepL K a0 F dvs dds) (hE : ∀ cls d σ H, W cls d σ H → E cls d H) :
    SimE K W (tMake (cl K c) (spI K c f) dvs E ta) (mMake f dds a) := fun C s σ F H Q e m p => by
  unfold mMake at p
  refine ha C s σ F H _ e m ?_
  cases q : a s with
  | no => rw [q] at p; exact p
  | ex c fs st => rw [q] at p; exact p
  | ok ws st =>
    rw [q, Rs.bind_ok] at p
    exact fun vs F1 H1 s1 m1 r1 x dx nx ndx dne => spI_of (call_go (E := E) e s1 m1 r1 hd (fun cls d H => hE cls d σ H) p) nx ndx dne
/-! ### methods -/
def mMeth (c mn : Str) (f : List D → Sto → Rs Sto Val) (dds : List D) (o : Fm → Rs Sto Val) (a : Fm → Rs Sto (List Val)) : Fm → Rs Sto Val := fun s => (o s).bind fun w st => match w.d with
  | .obj c' fs => if c' = c ∧ fs.lookup mn = none then (a ⟨s.env, st⟩).bind fun ws st => callW f (settle w :: ws) dds st else .no
  | _ => .no
theorem sim_meth {c mn : Str} {f : List D → Sto → Rs Sto Val} {dvs : List V} {dds : List D} {E : XK} {to : TE} {ta : TA} {o : Fm → Rs Sto Val} {a : Fm → Rs Sto (List Val)} (ho : SimE K W to o) (ha : SimA K W ta a) (hd : ∀ a0 F, RepL K a0 F dvs dds) (hE : ∀ cls d σ H, W cls d σ H → E cls d H) :
    SimE K W (tMeth (cl K c) mn (spF K f) dvs E to ta) (mMeth c mn f dds o a) := fun C s σ F H Q e m p => by
  unfold mMeth at p
  refine ho.then (β := Unit) e m (fun w st q v F1 H1 s1 m1 r1 => ?_) (fun c fs st q => by rw [q] at p; exact p) (fun q => by rw [q] at p; exact p)
  rw [q, Rs.bind_ok] at p
  cases hw : w.d with
  | obj c' fs =>
    rw [hw] at p
    dsimp only at p
    by_cases hc : c' = c ∧ fs.lookup mn = none
    · rw [if_pos hc] at p
      obtain ⟨hc, hl⟩ := hc
      subst hc
      have rh := r1.rh m1
      rw [hw] at rh
      obtain ⟨b, dx, vs, ev, hb, rf⟩ := rh
      refine ⟨b, dx, vs, ev, by subst e; exact hb, ?_, ?_⟩
      · rcases rf.look (f := mn) with ⟨e1, _⟩ | ⟨_, _, _, e2, _⟩
        · exact e1
        · rw [e2] at hl; cases hl
      · refine ha C ⟨s.env, st⟩ σ F1 H1 _ e m1 ?_
        cases q2 : a ⟨s.env, st⟩ with
        | no => rw [q2] at p; exact p.elim
        | ex c fs st => rw [q2] at p; exact fun cls d F' H' z => p cls d F' H' (s1.trans z)
        | ok ws st2 =>
          rw [q2, Rs.bind_ok] at p
          exact fun us F2 H2 s2 m2 r2 => call_go (ws := settle w :: ws) (vs := v :: us) (E := E) (F := F) e (s1.trans s2) m2 ⟨(r1.mono s2).settled, r2⟩ hd (fun cls d H => hE cls d σ H) p
    · rw [if_neg hc] at p
      exact p.elim
  | _ => rw [hw] at p; exact p.elim
end
end RX

set_option Elab.async false
set_option linter.all false
set_option maxRecDepth 100000
set_option maxHeartbeats 2000000
/-! RX: exceptions with fields: isinstance, made. -/
namespace RX
open PySem PySem.W PySem.Spec PyProof.Rows Builtin
section
variable {prog : Program} {w : PySem.World} {A : Around} {E : Value → Shared → Prop} {s : Shared} {K : PySem.W.Frag} {x D : Addr} {ox od : Obj}
/-- `__class__` of an own exception that has its dict -/
theorem class_excD (C : L2.ExcC K D) {Q : Option Value → Shared → Prop} (X : K.In s.heap) (I : InstAt s.heap x ox D (some od)) (h : Q (some (.ref D)) { s with toks := s.toks + 1 }) : wpAny (model prog w) A (getAttr? (.ref x) "__class__") Q E s := by
  have ic : (clsIn K D).isSome = true := by obtain ⟨cd, hc, _⟩ := any_some C.hd; rw [hc]; rfl
  have hf := findObj_data (od := od) ic C.ha C.hn C.ht
  obtain ⟨hp, g, dr, t, os⟩ := s
  have l0 := I.type (M := model prog w)
  have l1 := looks_findIn (M := model prog w) X C.hg
  have l2 := looks_findIn (M := model prog w) X C.hk
  have l3 := looks_find (M := model prog w) X I hf
  have isE : Looks (model prog w) hp (isInstance (.ref x) (.type "BaseException")) true := l0.andThen (looks_subIn X C.hs)
  have ne : (onTheHeap (Value.ref D) && Value.builtin "BaseException.__getattribute__" == Value.builtin "object.__getattribute__") = false := by
    have : (Value.builtin "BaseException.__getattribute__" == Value.builtin "object.__getattribute__") = false := by decide +kernel
    rw [this]; rfl
  unfold getAttr? getAttrBy? getAttrBy
  refine wpAny_bind (wpAny_mkText (wpAny_bind (wpAny_attempt (wpAny_holding (wpAny_bind (l0.at (wpAny_bind (l1.at ?_))))))))
  refine PySem.W.KFB.if_not ne ?_
  unfold getAttrByItsOwn hookBefore
  refine wpAny_bind ?_
  rw [if_pos (show onTheHeap (Value.ref D) = true from rfl)]
  refine l2.at ?_
  refine wpAny_bind (wpAny_attempt (wpAny_holding ?_))
  unfold callGetattribute
  refine PySem.W.KFB.if_not (show (false && onTheHeap (Value.builtin "BaseException.__getattribute__")) = false from rfl) ?_
  unfold boundAndCalled
  rw [PySem.F.excAttr_ValueError.ga.bind (.ref x)]
  refine wpAny_bind (wpAny_pure ?_)
  refine wpAny_call (codeAny_call_builtin PySem.F.excAttr_ValueError.ga.plain PySem.F.entry_bexc_ga ?_)
  refine @check_slot (model prog w) _ _ ⟨hp, g, dr, t + 1, os⟩ "BaseException.__getattribute__" "BaseException" "__getattribute__" (.ref x) [.str "__class__" t] [] _ (by decide +kernel) (by decide +kernel) isE (PySem.F.args_bexc_ga (.ref x) (.str "__class__" t)) ?_
  unfold Builtin.«object.__getattribute__»
  refine wpAny_bind (wpAny_of_eq (a := ((Value.ref x : Value), [Value.str "__class__" t])) (by first | rfl | (simp only [slotArgs]; rfl)) ?_)
  refine wpAny_bind (wpAny_pure (wpAny_bind (l0.at (wpAny_bind (l3.at ?_)))))
  show wpAny _ _ (holding [Value.builtin "object.__class__"] (call (.builtin "getset_descriptor.__get__") [.builtin "object.__class__", .ref x, .ref D]) >>= ret) _ _ _
  refine wpAny_bind (wpAny_holding (wpAny_call (class_get (s := ⟨hp, g, dr, t + 1, os⟩) (ox := ox) (od := some od) X I C.hm ?_)))
  refine wpAny_pure ?_
  show wpAny _ _ (handedOut (.ref D)) _ _ _
  rw [handedOut_of (v := .ref D) rfl]
  first
    | exact wpAny_pure (wpAny_pure h)
    | exact wpAny_pure h
    | exact wpAny_pure (wpAny_bind (wpAny_pure (wpAny_pure h)))
theorem kitx_excD (C : L2.ExcC K D) : KitX K (.ref x) (.ref D) (fun h => InstAt h x ox D (some od)) where
  ty := fun _ _ _ I => I.type
  it := fun _ _ X _ => by
    obtain ⟨cd, hc, _⟩ := any_some C.hd
    unfold clsIn at hc
    split at hc
    · rename_i ho
      intro A' Q' E' s' k q
      unfold isType loadHead
      exact wpAny_bind (wpAny_loadPart (k _ _ (X _ _ ho)) (wpAny_pure q))
    · cases hc
  ne := fun h tp dd its n sl X htp => by
    cases q : (Value.ref D == Value.ref tp) with
    | false => rfl
    | true =>
      cases Value.ref.inj (beq_iff_eq.mp q)
      obtain ⟨cd, hc, _⟩ := any_some C.hd
      unfold clsIn at hc
      split at hc
      · rename_i ho
        cases (X _ _ ho).symm.trans htp
      · cases hc
  ca := fun X I k => class_excD C X I k
end
end RX

set_option Elab.async false
set_option linter.all false
set_option maxRecDepth 100000
set_option maxHeartbeats 2000000
/-! RX: raise, try, the suite behind except. -/
namespace RX
open PySem PySem.Spec PyProof.Rows L2
section
variable {K : PySem.W.Frag} {W : WX} {X : Cx}
/-- isinstance(e, c), e the caught exception (with its dict) -/
def rIsX (K : PySem.W.Frag) (a : Addr) (cls : Value) (d : Option Addr) : List V → Hp → VK → Prop := fun xs H Q => ∃ (D dd : Addr) (fs : List (Str × V)) (c : V) (b : Bool), cls = .ref D ∧ ExcC K D ∧ d = some dd ∧ H dd = some (.xd fs) ∧ xs = [.ref a, c] ∧
  ((∃ cv, ClsV c cv ∧ PySem.W.kitOne K (.ref D) cv = some b) ∨ ∃ tp cs us, c = .ref tp ∧ SqT K H tp cs ∧ Paired ClsV cs us ∧ PySem.W.kitAny K (.ref D) us = some b) ∧ Q (.bl b) H
theorem call_isX {a : Addr} {oe : Obj} {cls : Value} {d : Option Addr} {pn : List (Addr × Obj)} (hz : Zc cls d oe) (hf : ∃ vs, oe.data = .fields vs) : CallR (X.suite a ((a, oe) :: pn)) (.builtin "isinstance") (rIsX X.K a cls d) := by
  intro pins s σ H xs us Q I r h
  obtain ⟨D, dd, fs, c, b, rfl, C, rfl, hx, rfl, ans, q⟩ := h
  obtain ⟨u1, u2, rfl, r1, r2⟩ := vals2 r
  cases (show u1 = Value.ref a from r1)
  obtain ⟨ha, _⟩ := I.pin (a, oe) (List.mem_append_left _ List.mem_cons_self)
  obtain ⟨vs, hv⟩ := hf
  obtain ⟨mA, hns, hr⟩ := (show ObjOk X.prog X.w H s.heap dd (.xd fs) from I.hok dd _ hx)
  obtain ⟨od, ho, hl⟩ := lookIn_ns hns
  have J : PySem.W.InstAt s.heap a oe D (some od) := ⟨ha, hz.1, by unfold PySem.W.notCls; rw [hv] <;> rfl, by rw [hz.2]; exact ho⟩
  rcases ans with ⟨cv, k, e⟩ | ⟨tp, cs, us, rfl, hT, k, e⟩
  · have := k.eq r2
    subst this
    exact PySem.W.kia_one (kitx_excD C) I.kIn J e (fun z => nomatch z) fun tk => ⟨.bl b, H, I.kept (t' := tk) fun _ _ z => z, rfl, q⟩
  · cases (show u2 = Value.ref tp from r2)
    obtain ⟨its, rv, ⟨o, h1, h2, n, h3⟩, _⟩ := I.tuple hT
    have e3 := ClsV.all k rv
    subst e3
    obtain ⟨oc, odd, dt, sl⟩ := o
    simp only at h2 h3
    subst h2 h3
    exact PySem.W.kia_tup (kitx_excD C) I.kIn J h1 e (fun z => nomatch z) fun tk => ⟨.bl b, H, I.kept (t' := tk) fun _ _ z => z, rfl, q⟩
/-! ### the suite -/
theorem Exn.mono {C : Cn} {F F' H H' : Hp} {c : Str} {fs : List (Str × D)} {cls : Value} {d : Option Addr} (s : Sub F F') (h : Exn C F H c fs cls d) : Exn C F' H' c fs cls d := by
  obtain ⟨e, h⟩ := h
  refine ⟨e, h.imp id fun ⟨dd, vfs, a, b, r⟩ => ⟨dd, vfs, a, s _ _ b, r.mono s⟩⟩
/-- slot i holds the exception -/
def XH (a : Addr) (cls : Value) (d : Option Addr) (i : Nat) (c : Str) (fs : List (Str × D)) (C : Cn) (σ : L2.St) (F H : Hp) : Prop := σ[i]? = some (some (V.ref a)) ∧ Exn C F H c fs cls d
section
variable {a : Addr} {cls : Value} {d : Option Addr} {i : Nat}
def XimE (K : PySem.W.Frag) (W : WX) (a : Addr) (cls : Value) (d : Option Addr) (i : Nat) (t : TE) (m : Str → List (Str × D) → Fm → Rs Sto Val) : Prop :=
  ∀ (C : Cn) (s : Fm) (σ : L2.St) (F H : Hp) (Q : VK) (c : Str) (fs : List (Str × D)), C.K = K → Mt C s σ F H → XH a cls d i c fs C σ F H → PostE C s σ F W (m c fs s) Q → t σ H Q
def XimA (K : PySem.W.Frag) (W : WX) (a : Addr) (cls : Value) (d : Option Addr) (i : Nat) (t : TA) (m : Str → List (Str × D) → Fm → Rs Sto (List Val)) : Prop :=
  ∀ (C : Cn) (s : Fm) (σ : L2.St) (F H : Hp) (Q : List V → Hp → Prop) (c : Str) (fs : List (Str × D)), C.K = K → Mt C s σ F H → XH a cls d i c fs C σ F H → PostA C s σ F W (m c fs s) Q → t σ H Q
def XimT (K : PySem.W.Frag) (W : WX) (a : Addr) (cls : Value) (d : Option Addr) (i : Nat) (t : TT) (m : Str → List (Str × D) → Fm → Rs Sto Bool) : Prop :=
  ∀ (C : Cn) (s : Fm) (σ : L2.St) (F H : Hp) (Q : Bool → Hp → Prop) (c : Str) (fs : List (Str × D)), C.K = K → Mt C s σ F H → XH a cls d i c fs C σ F H → PostT C s σ F W (m c fs s) Q → t σ H Q
def XimS (K : PySem.W.Frag) (W : WX) (a : Addr) (cls : Value) (d : Option Addr) (i : Nat) (t : TS) (m : Str → List (Str × D) → Fm → Rs Fm Fl) : Prop :=
  ∀ (C : Cn) (s : Fm) (σ : L2.St) (F H : Hp) (D : Ends) (c : Str) (fs : List (Str × RX.D)), C.K = K → Mt C s σ F H → XH a cls d i c fs C σ F H → PostS C F W (m c fs s) D → t D σ H
theorem xE {t : TE} {m : Fm → Rs Sto Val} (h : SimE K W t m) : XimE K W a cls d i t fun _ _ => m := fun C s σ F H Q c fs e mt _ p => h C s σ F H Q e mt p
theorem xA {t : TA} {m : Fm → Rs Sto (List Val)} (h : SimA K W t m) : XimA K W a cls d i t fun _ _ => m := fun C s σ F H Q c fs e mt _ p => h C s σ F H Q e mt p
theorem xT {t : TT} {m : Fm → Rs Sto Bool} (h : SimT K W t m) : XimT K W a cls d i t fun _ _ => m := fun C s σ F H Q c fs e mt _ p => h C s σ F H Q e mt p
theorem xS {t : TS} {m : Fm → Rs Fm Fl} (h : SimS K W t m) : XimS K W a cls d i t fun _ _ => m := fun C s σ F H D c fs e mt _ p => h C s σ F H D e mt p
theorem XimE.then {t : TE} {m : Str → List (Str × D) → Fm → Rs Sto Val} (h : XimE K W a cls d i t m) {C : Cn} {s : Fm} {σ : L2.St} {F H : Hp} {Q : VK} {c : Str} {fs : List (Str × D)} (e : C.K = K) (mt : Mt C s σ F H) (x : XH a cls d i c fs C σ F H)
    (hok : ∀ w st, m c fs s = .ok w st → ∀ v F' H', Sub F F' → Mt C ⟨s.env, st⟩ σ F' H' → RB C s.env σ F' w v → Q v H')
    (hex : ∀ c' fs' st, m c fs s = .ex c' fs' st → ∀ cls d F' H', Sub F F' → Mt C ⟨s.env, st⟩ σ F' H' → Exn C F' H' c' fs' cls d → W cls d σ H')
    (hno : m c fs s ≠ .no) : t σ H Q := by
  refine h C s σ F H Q c fs e mt x ?_
  unfold PostE
  cases q : m c fs s with
  | ok w st =>
    intro v F' H' sub mt' rv
    obtain ⟨F2, s2, m2, rb⟩ := rv.settle mt'
    exact hok w st q v F2 H' (sub.trans s2) m2 rb
  | ex c' fs' st => exact hex c' fs' st q
  | no => exact hno q
/-- e.f -/
def mXf (cN f : Str) (c : Str) (fs : List (Str × D)) : Fm → Rs Sto Val := fun s => if c = cN then match fs.lookup f with
  | some d => .ok ⟨.sh, d⟩ s.sto
  | none => .no
  else .no
theorem x_xf {cN f : Str} : XimE K W a cls d i (tXf a cls d (cl K cN) f (tVar i)) (mXf cN f) := fun C s σ F H Q c fs e mt x p => by
  unfold mXf at p
  obtain ⟨hσ, ec, x⟩ := x
  by_cases hc : c = cN
  · rw [if_pos hc] at p
    subst hc
    rcases x with ⟨ef, _⟩ | ⟨dd, vfs, ed, hF, r⟩
    · subst ef; exact p.elim
    · rcases r.look (f := f) with ⟨_, e2⟩ | ⟨v, d', e1, e2, e3⟩
      · rw [e2] at p; exact p.elim
      · rw [e2] at p
        exact ⟨.ref a, hσ, rfl, by subst e; exact ec, dd, vfs, v, ed, mt.hd.sub _ _ hF, e1, p v F H (Sub.refl F) mt e3⟩
  · rw [if_neg hc] at p; exact p.elim
def mXcons (x : Str → List (Str × D) → Fm → Rs Sto Val) (y : Str → List (Str × D) → Fm → Rs Sto (List Val)) (c : Str) (fs : List (Str × D)) : Fm → Rs Sto (List Val) := mCons (x c fs) (y c fs)
theorem x_cons {ta : TE} {tb : TA} {x : Str → List (Str × D) → Fm → Rs Sto Val} {y : Str → List (Str × D) → Fm → Rs Sto (List Val)} (ha : XimE K W a cls d i ta x) (hb : XimA K W a cls d i tb y) : XimA K W a cls d i (tCons ta tb) (mXcons x y) := fun C s σ F H Q c fs e m xh p => by
  unfold mXcons mCons at p
  refine ha.then e m xh (fun w st q v F1 H1 s1 m1 r1 => ?_) (fun c' fs' st q => by rw [q] at p; exact p) (fun q => by rw [q] at p; exact p)
  rw [q, Rs.bind_ok] at p
  refine hb C ⟨s.env, st⟩ σ F1 H1 _ c fs e m1 ⟨xh.1, xh.2.mono s1⟩ ?_
  cases q2 : y c fs ⟨s.env, st⟩ with
  | no => rw [q2] at p; exact p.elim
  | ex c' fs' st' => rw [q2] at p; exact fun cls d F' H' z => p cls d F' H' (s1.trans z)
  | ok ys st' =>
    rw [q2, Rs.bind_ok] at p
    exact fun vs F2 H2 s2 m2 r2 => p (v :: vs) F2 H2 (s1.trans s2) m2 ⟨(r1.mono s2).settled, r2⟩
/-- a call in the suite -/
def mXcall (f : List D → Sto → Rs Sto Val) (y : Str → List (Str × D) → Fm → Rs Sto (List Val)) (c : Str) (fs : List (Str × D)) : Fm → Rs Sto Val := mCall f [] (y c fs)
theorem x_call {f : List D → Sto → Rs Sto Val} {ta : TA} {E : L2.St → XK} {y : Str → List (Str × D) → Fm → Rs Sto (List Val)} (ha : XimA K W a cls d i ta y) (hE : ∀ cls d σ H, W cls d σ H → E σ cls d H) : XimE K W a cls d i (tCallS (spF K f) E ta) (mXcall f y) := fun C s σ F H Q c fs e m xh p => by
  unfold mXcall mCall at p
  refine ha C s σ F H _ c fs e m xh ?_
  cases q : y c fs s with
  | no => rw [q] at p; exact p
  | ex c' fs' st => rw [q] at p; exact p
  | ok ws st =>
    rw [q, Rs.bind_ok] at p
    intro vs F1 H1 s1 m1 r1
    have := call_go (E := E σ) (dvs := []) (dds := []) e s1 m1 r1 (fun _ _ => trivial) (fun cls d H => hE cls d σ H) p
    rw [List.append_nil] at this
    exact this
def mXB (x : Str → List (Str × D) → Fm → Rs Sto Val) (c : Str) (fs : List (Str × D)) : Fm → Rs Sto Bool := mB (x c fs)
theorem x_B {t : TE} {x : Str → List (Str × D) → Fm → Rs Sto Val} (ha : XimE K W a cls d i t x) : XimT K W a cls d i (tB t) (mXB x) := fun C s σ F H Q c fs e m xh p => by
  unfold mXB mB at p
  refine ha.then e m xh (fun x st q v F1 H1 s1 m1 r1 => ?_) (fun c fs st q => by rw [q] at p; exact p) (fun q => by rw [q] at p; exact p)
  rw [q, Rs.bind_ok] at p
  obtain ⟨k, dd⟩ := x
  unfold asB at p
  cases dd with
  | bl b =>
    have z : v = .bl b := r1.rh m1
    exact ⟨b, z, p F1 H1 s1 m1⟩
  | _ => exact p.elim
/-- isinstance(e, C), isinstance(e, (C, ..)) -/
def isxD (tb : TyN → TyN → Option Bool) (c : Str) : D → Option Bool
  | .tup cs => (clsQL cs).bind fun us => kAny tb (.inr c) us
  | u => (clsQ u).bind fun u => tb (.inr c) u
def mXis (tb : TyN → TyN → Option Bool) (okx : Str → Bool) (mc : Fm → Rs Sto Val) (c : Str) (fs : List (Str × D)) : Fm → Rs Sto Val := fun s => if okx c = true ∧ fs ≠ [] then (mc s).bind fun w st => match isxD tb c w.d with
  | some b => .ok ⟨.sh, .bl b⟩ st
  | none => .no
  else .no
theorem x_is {tb : TyN → TyN → Option Bool} {okx : Str → Bool} {tc : TE} {mc : Fm → Rs Sto Val} (ht : ∀ a b r, tb a b = some r → PySem.W.kitOne K (tyW K a) (tyW K b) = some r) (hx : ∀ c, okx c = true → ExcC K (cl K c)) (hc : SimE K W tc mc) :
    XimE K W a cls d i (tCB (rIsX K a cls d) (tCons (tVar i) (tCons tc tNil))) (mXis tb okx mc) := fun C s σ F H Q c fs e m xh p => by
  unfold mXis at p
  obtain ⟨hσ, ec, x⟩ := xh
  by_cases ho : okx c = true ∧ fs ≠ []
  · rw [if_pos ho] at p
    rcases x with ⟨ef, _⟩ | ⟨dd, vfs, ed, hF, r⟩
    · exact absurd ef ho.2
    · refine ⟨.ref a, hσ, ?_⟩
      refine hc.then (β := Unit) e m (fun w st q v F1 H1 s1 m1 r1 => ?_) (fun c fs st q => by rw [q] at p; exact p) (fun q => by rw [q] at p; exact p)
      rw [q, Rs.bind_ok] at p
      cases q2 : isxD tb c w.d with
      | none => rw [q2] at p; exact p.elim
      | some b =>
        rw [q2] at p
        subst e
        have rh := r1.rh m1
        refine ⟨cl C.K c, dd, vfs, v, b, ec, hx c ho.1, ed, m1.hd.sub _ _ (s1 _ _ hF), rfl, ?_, p _ F1 H1 s1 m1 rfl⟩
        unfold isxD at q2
        split at q2
        · next cs hw =>
          rw [hw] at rh
          obtain ⟨tp, vs, ev, hT, rl⟩ := rh
          cases q3 : clsQL cs with
          | none => rw [q3] at q2; cases q2
          | some us =>
            rw [q3] at q2
            exact .inr ⟨tp, vs, _, ev, m1.hd.sub.sqT hT, clsQL_v rl q3, kAny_ok ht (t := .inr c) q2⟩
        · next u hne =>
          cases q3 : clsQ w.d with
          | none => rw [q3] at q2; cases q2
          | some u' =>
            rw [q3] at q2
            have rc : Rep C.K C.a0 F1 v w.d := by
              cases hw : w.d with
              | ty n => rw [hw] at rh; exact rh
              | cls n => rw [hw] at rh; exact rh
              | _ => rw [hw] at q3; cases q3
            exact .inl ⟨_, clsQ_v rc q3, ht (.inr c) u' b q2⟩
  · rw [if_neg ho] at p; exact p.elim
def mXnot (x : Str → List (Str × D) → Fm → Rs Sto Bool) (c : Str) (fs : List (Str × D)) : Fm → Rs Sto Bool := mNot (x c fs)
def mXor (x y : Str → List (Str × D) → Fm → Rs Sto Bool) (c : Str) (fs : List (Str × D)) : Fm → Rs Sto Bool := mOr (x c fs) (y c fs)
theorem x_not {t : TT} {x : Str → List (Str × D) → Fm → Rs Sto Bool} (h : XimT K W a cls d i t x) : XimT K W a cls d i (tNot t) (mXnot x) := fun C s σ F H Q c fs e m xh p => by
  unfold mXnot mNot at p
  refine h C s σ F H _ c fs e m xh ?_
  cases q : x c fs s with
  | no => rw [q] at p; exact p
  | ex c fs st => rw [q] at p; exact p
  | ok x st =>
    rw [q, Rs.bind_ok] at p
    exact fun F1 H1 s1 m1 => p F1 H1 s1 m1
theorem x_or {t u : TT} {x y : Str → List (Str × D) → Fm → Rs Sto Bool} (h : XimT K W a cls d i t x) (h' : XimT K W a cls d i u y) : XimT K W a cls d i (tOr t u) (mXor x y) := fun C s σ F H Q c fs e m xh p => by
  unfold mXor mOr at p
  refine h C s σ F H _ c fs e m xh ?_
  cases q : x c fs s with
  | no => rw [q] at p; exact p
  | ex c fs st => rw [q] at p; exact p
  | ok b st =>
    rw [q, Rs.bind_ok] at p
    intro F1 H1 s1 m1
    cases b with
    | true =>
      rw [if_pos rfl] at p ⊢
      exact p F1 H1 s1 m1
    | false =>
      rw [if_neg Bool.false_ne_true] at p ⊢
      exact h' C ⟨s.env, st⟩ σ F1 H1 Q c fs e m1 ⟨xh.1, xh.2.mono s1⟩ (PostT.mono s1 p)
/-- if .. : (no falling through) ; then the rest -/
def mXif (x : Str → List (Str × D) → Fm → Rs Sto Bool) (y : Fm → Rs Fm Fl) (z : Str → List (Str × D) → Fm → Rs Fm Fl) (c : Str) (fs : List (Str × D)) : Fm → Rs Fm Fl := fun s => match x c fs s with
  | .ok true st => (match y ⟨s.env, st⟩ with
    | .ok .nx _ => .no
    | r => r)
  | .ok false st => z c fs ⟨s.env, st⟩
  | .ex c' fs' st => .ex c' fs' ⟨s.env, st⟩
  | .no => .no
theorem x_if {t : TT} {u v : TS} {x : Str → List (Str × D) → Fm → Rs Sto Bool} {y : Fm → Rs Fm Fl} {z : Str → List (Str × D) → Fm → Rs Fm Fl} (h : XimT K W a cls d i t x) (hy : SimS K W u y) (hz : XimS K W a cls d i v z) : XimS K W a cls d i (tSeq (tIfS t u tNext) v) (mXif x y z) := fun C s σ F H D c fs e m xh p => by
  unfold mXif at p
  show tIfS t u tNext { D with nx := v D } σ H
  refine h C s σ F H _ c fs e m xh ?_
  cases q : x c fs s with
  | no => rw [q] at p; exact p
  | ex c fs st => rw [q] at p; exact fun cls d F' H' s1 m1 x => p cls d σ F' H' s1 m1 x
  | ok b st =>
    rw [q] at p
    intro F1 H1 s1 m1
    cases b with
    | true =>
      rw [if_pos rfl]
      refine hy C _ σ F1 H1 _ e m1 ?_
      dsimp only at p
      cases q2 : y ⟨s.env, st⟩ with
      | no => rw [q2] at p; exact p
      | ex c fs st => rw [q2] at p; exact PostS.mono s1 p
      | ok fl s2 =>
        rw [q2] at p
        cases fl with
        | nx => exact p.elim
        | bk => exact PostS.mono s1 p
        | ct => exact PostS.mono s1 p
        | ret w => exact PostS.mono s1 p
    | false =>
      rw [if_neg Bool.false_ne_true]
      exact hz C ⟨s.env, st⟩ σ F1 H1 D c fs e m1 ⟨xh.1, xh.2.mono s1⟩ (PostS.mono s1 p)
end
/-! ### try -/
def clearX (i : Nat) (r : Rs Fm Fl) : Rs Fm Fl := match r with
  | .ok (.ret w) s => .ok (.ret w) s
  | .ok fl s => .ok fl ⟨s.env.set i .emp, s.sto⟩
  | .ex _ _ _ => .no
  | .no => .no
/-- try: body except C as e: suite; isA: is the class one of C's -/
def mTry (i : Nat) (isA : Str → Option Bool) (body : Fm → Rs Fm Fl) (suite : Str → List (Str × D) → Fm → Rs Fm Fl) : Fm → Rs Fm Fl := fun s => match body s with
  | .ex c fs s1 => (match isA c with
    | some true => if i < s1.env.length then clearX i (suite c fs ⟨s1.env.set i .emp, s1.sto⟩) else .no
    | some false => .ex c fs s1
    | none => .no)
  | r => r
theorem sim_try {cv : Value} {i : Nat} {isA : Str → Option Bool} {tb : WX → TS} {ts : Addr → Value → Option Addr → TS} {Ws : WX} {body : Fm → Rs Fm Fl} {suite : Str → List (Str × D) → Fm → Rs Fm Fl} (hb : ∀ W, SimS K W (tb W) body) (hs : ∀ a cls d, XimS K Ws a cls d i (ts a cls d) suite)
    (hA : ∀ c b, isA c = some b → PySem.W.exmOne K (.ref (cl K c)) cv = some b) (hi0 : i ≠ 0 := by decide) : SimS K W (fun D σ H => tb (wAs K cv i ts W D) D σ H) (mTry i isA body suite) := fun C s σ F H D e m p => by
  unfold mTry at p
  refine hb _ C s σ F H D e m ?_
  cases q : body s with
  | no => rw [q] at p; exact p
  | ok fl s1 => rw [q] at p; cases fl <;> exact p
  | ex c fs s1 =>
    rw [q] at p
    dsimp only at p
    intro cls d σ' F' H' sub m1 ex
    cases q2 : isA c with
    | none => rw [q2] at p; exact p.elim
    | some b =>
      rw [q2] at p
      have hcls : cls = .ref (cl K c) := by rw [← e]; exact ex.1
      refine ⟨b, by rw [hcls]; exact hA c b q2, fun eb a na => ?_, fun eb => ?_⟩
      · subst eb
        dsimp only at p
        by_cases hlen : i < s1.env.length
        · rw [if_pos hlen] at p
          have hlt : i < σ'.length := by rw [← m1.len]; exact hlen
          have m2 := m1.drop1 i hi0 (some (.ref a))
          cases q3 : suite c fs ⟨s1.env.set i .emp, s1.sto⟩ with
          | no => rw [q3] at p; exact p.elim
          | ex c' fs' s2 => rw [q3] at p; exact p.elim
          | ok fl s2 =>
            rw [q3] at p
            refine hs a cls d C ⟨s1.env.set i .emp, s1.sto⟩ (σ'.set i (some (.ref a))) F' H' _ c fs e m2 ⟨List.getElem?_set_self hlt, ex⟩ ?_
            rw [q3]
            cases fl with
            | nx => exact fun σ2 F2 H2 s3 m3 => p _ F2 H2 (sub.trans s3) (m3.drop1 i hi0 none)
            | bk => exact fun σ2 F2 H2 s3 m3 => p _ F2 H2 (sub.trans s3) (m3.drop1 i hi0 none)
            | ct => exact fun σ2 F2 H2 s3 m3 => p _ F2 H2 (sub.trans s3) (m3.drop1 i hi0 none)
            | ret w => exact fun v σ2 F2 H2 s3 m3 r => p v σ2 F2 H2 (sub.trans s3) m3 r
        · rw [if_neg hlen] at p; exact p.elim
      · subst eb
        exact p cls d σ' F' H' sub m1 ex
end
end RX

set_option Elab.async false
set_option linter.all false
set_option maxRecDepth 100000
set_option maxHeartbeats 2000000
/-! RX: raise, the exceptions' own __init__, len of an instance. -/
namespace RX
open PySem PySem.Spec PyProof.Rows L2
section
variable {K : PySem.W.Frag} {W : WX} {X : Cx}
/-! ### what the __init__ of an exception promises -/
/-- the fields are stored one by one, the first of them makes the dict -/
def xdH (H : Hp) (a C dx : Addr) : List (Str × V) → Hp
  | [] => H
  | [p] => upd (upd H dx (exd dx [p])) a (exo a C (some dx))
  | p :: q :: r => upd (xdH H a C dx (q :: r)) dx (exd dx (p :: q :: r))
def spX (K : PySem.W.Frag) (c : Str) (fl : List Str) : Sp := fun vs H Q E => ∃ (a : Addr) (xs : List V), vs = .ref a :: xs ∧ xs.length = fl.length ∧ H a = some (exo a (cl K c) none) ∧ ∀ dx, H dx = none → dx ≠ a → Q .non (xdH H a (cl K c) dx (fl.zip xs).reverse)
theorem xdH_at {H : Hp} {a C dx : Addr} (ne : dx ≠ a) : ∀ {ps : List (Str × V)}, ps ≠ [] → xdH H a C dx ps a = some (exo a C (some dx)) ∧ xdH H a C dx ps dx = some (exd dx ps) ∧ ∀ b, b ≠ a → b ≠ dx → xdH H a C dx ps b = H b
  | [], h => absurd rfl h
  | [p], _ => ⟨upd_same, by unfold xdH; rw [upd_ne ne, upd_same], fun b h1 h2 => by unfold xdH; rw [upd_ne h1, upd_ne h2]⟩
  | p :: q :: r, _ => by
    obtain ⟨h1, h2, h3⟩ := xdH_at (H := H) (C := C) ne (ps := q :: r) (by simp)
    exact ⟨by unfold xdH; rw [upd_ne (Ne.symm ne)]; exact h1, by unfold xdH; exact upd_same, fun b e1 e2 => by unfold xdH; rw [upd_ne e2]; exact h3 b e1 e2⟩
/-- one field -/
theorem spX_run1 {c f : Str} {N : List Str} {vs : List V} {H : Hp} {Q : VK} {E : XK} (T : OexC K (cl K c)) (hf : PySem.W.findIn K (.ref (cl K c)) f = some none) (h : spX K c [f] vs H Q E) :
    tSeq (tOst K f (tVar 0) (tVar 1)) tNext { nx := fun _ H' => Q .non H', rt := Q } (L2.start N vs) H := by
  obtain ⟨a, xs, rfl, hl, ha, q⟩ := h
  match xs, hl with
  | [x], _ =>
    exact ⟨x, rfl, .ref a, rfl, a, cl K c, rfl, T, hf, .inl ⟨ha, fun dx h1 h2 => q dx h1 h2⟩⟩
/-- two fields -/
theorem spX_run2 {c f g : Str} {N : List Str} {vs : List V} {H : Hp} {Q : VK} {E : XK} (T : OexC K (cl K c)) (hf : PySem.W.findIn K (.ref (cl K c)) f = some none) (hg : PySem.W.findIn K (.ref (cl K c)) g = some none) (h : spX K c [f, g] vs H Q E) :
    tSeq (tOst K f (tVar 0) (tVar 1)) (tSeq (tOst K g (tVar 0) (tVar 2)) tNext) { nx := fun _ H' => Q .non H', rt := Q } (L2.start N vs) H := by
  obtain ⟨a, xs, rfl, hl, ha, q⟩ := h
  match xs, hl with
  | [x, y], _ =>
    refine ⟨x, rfl, .ref a, rfl, a, cl K c, rfl, T, hf, .inl ⟨ha, fun dx h1 h2 => ?_⟩⟩
    refine ⟨y, rfl, .ref a, rfl, a, cl K c, rfl, T, hg, .inr ⟨dx, [(f, x)], upd_same, by rw [upd_ne h2, upd_same], by simp, ?_⟩⟩
    exact q dx h1 h2
theorem spX_len {c : Str} {fl : List Str} {vs : List V} {H : Hp} {Q : VK} {E : XK} (h : spX K c fl vs H Q E) : vs.length = fl.length + 1 := by
  obtain ⟨a, xs, rfl, hl, _⟩ := h
  rw [List.length_cons, hl]
/-- the reading of raise C(..) -/
def tRaise (K : PySem.W.Frag) (c : Str) (fl : List Str) (ta : TA) (W : WX) : TS := fun _ σ H => tMkO (cl K c) (spX K c fl) [] ta σ H fun cls d H' => W cls d σ H'
def mRaise (c : Str) (fl : List Str) (a : Fm → Rs Sto (List Val)) : Fm → Rs Fm Fl := fun s => match a s with
  | .ok ws st => (match allSh ws with
    | some ds => if ds.length = fl.length ∧ ds.length < 10 ∧ ds ≠ [] then .ex c (fl.zip ds).reverse ⟨s.env, st⟩ else .no
    | none => .no)
  | .ex c' fs st => .ex c' fs ⟨s.env, st⟩
  | .no => .no
theorem RepF.append {a0 : Addr} {F : Hp} : ∀ {vs us : List (Str × V)} {ds es : List (Str × D)}, RepF K a0 F vs ds → RepF K a0 F us es → RepF K a0 F (vs ++ us) (ds ++ es)
  | [], _, [], _, _, k => k
  | [], _, _ :: _, _, h, _ => h.elim
  | _ :: _, _, [], _, h, _ => h.elim
  | (_, _) :: _, _, (_, _) :: _, _, ⟨e, h, r⟩, k => ⟨e, h, RepF.append r k⟩
theorem repF_zip {a0 : Addr} {F : Hp} : ∀ {fl : List Str} {vs : List V} {ds : List D}, RepL K a0 F vs ds → RepF K a0 F (fl.zip vs).reverse (fl.zip ds).reverse
  | [], _, _, _ => trivial
  | f :: fl, [], [], _ => trivial
  | f :: fl, [], _ :: _, h => h.elim
  | f :: fl, _ :: _, [], h => h.elim
  | f :: fl, v :: vs, d :: ds, ⟨h, r⟩ => by
    simp only [List.zip_cons_cons, List.reverse_cons]
    exact RepF.append (repF_zip r) ⟨rfl, h, trivial⟩
theorem sim_raise {c : Str} {fl : List Str} {ta : TA} {a : Fm → Rs Sto (List Val)} (ha : SimA K W ta a) : SimS K W (tRaise K c fl ta W) (mRaise c fl a) := fun C s σ F H D e m p => by
  unfold mRaise at p
  refine ha C s σ F H _ e m ?_
  cases q : a s with
  | no => rw [q] at p; exact p
  | ex c' fs st => rw [q] at p; exact fun cls d F' H' s1 m1 x => p cls d σ F' H' s1 m1 x
  | ok ws st =>
    rw [q] at p
    intro vs F1 H1 s1 m1 r1
    dsimp only at p
    cases q2 : allSh ws with
    | none => rw [q2] at p; exact p.elim
    | some ds =>
      rw [q2] at p
      dsimp only at p
      by_cases hl : ds.length = fl.length ∧ ds.length < 10 ∧ ds ≠ []
      · rw [if_pos hl] at p
        have rl := allSh_rep q2 r1
        have hlen := rl.len
        refine ⟨by omega, fun b nb => ⟨b, vs ++ [], rfl, by rw [List.append_nil]; omega, upd_same, fun dx n1 n2 => ⟨rfl, dx, (fl.zip (vs ++ [])).reverse, ?_⟩⟩⟩
        rw [List.append_nil]
        have hne : (fl.zip vs).reverse ≠ [] := by
          intro z
          have := congrArg List.length z
          simp only [List.length_reverse, List.length_zip, List.length_nil] at this
          have : ds.length ≠ 0 := fun z => hl.2.2 (List.length_eq_zero_iff.mp z)
          omega
        obtain ⟨h1, h2, h3⟩ := xdH_at (H := upd H1 b (exo b (cl K c) none)) (C := cl K c) n2 hne
        have nd : H1 dx = none := by rw [upd_ne n2] at n1; exact n1
        refine ⟨h1, h2, nd, ?_⟩
        have eH : upd (del (xdH (upd H1 b (exo b (cl K c) none)) b (cl K c) dx (fl.zip vs).reverse) b) dx (.xd (fl.zip vs).reverse) = upd H1 dx (.xd (fl.zip vs).reverse) := by
          funext z
          by_cases e1 : z = dx
          · rw [e1, upd_same, upd_same]
          · rw [upd_ne e1, upd_ne e1]
            by_cases e2 : z = b
            · rw [e2, del_same, nb]
            · rw [del_ne e2, h3 z e2 e1, upd_ne e2]
        rw [eH]
        obtain ⟨f, ne, nh⟩ := m1.hd.fresh nd
        have m2 := (m1.laid (o := .xd (fl.zip vs).reverse) nd).freeze upd_same f ne nh (m1.own_ne nd)
        have sub : Sub F1 (upd F1 dx (.xd (fl.zip vs).reverse)) := Sub.upd f
        refine p _ _ σ _ _ (s1.trans sub) m2 ⟨by rw [e], .inr ⟨dx, _, rfl, upd_same, ?_⟩⟩
        exact repF_zip (rl.mono sub)
      · rw [if_neg hl] at p
        exact p.elim
/-! ### len of an instance with an own __len__ -/
def rLenO (C : Addr) (sp : Sp) (E : XK) : List V → Hp → VK → Prop := fun xs H Q => ∃ a dx fs, xs = [.ref a] ∧ H a = some (.ins C dx fs) ∧ sp [.ref a] H (fun v H2 => ∃ n : Int, v = .int n ∧ 0 ≤ n ∧ n < 2 ^ 63 ∧ Q (.int n) H2) E
theorem call_lenO {CX : CXT} {k : Nat} {C f : Addr} {fd : FuncData} {ps : List Str} {sp : Sp} {E : XK} (hs : PySem.W.findIn X.K (.ref C) "__len__" = some (some (.ref f))) (hf : PySem.W.isFn X.K (.ref f) = true) (F : FnOk X.prog X.w X.K X.mg X.base CX k f fd ps sp) (hb : Binds X.K fd ps [])
    (hr : Room (k + 1) X.A) (hx : Passes CX X E) : CallR X (.builtin "len") (rLenO C sp E) := by
  intro pins s σ H xs us Q I r h
  obtain ⟨a, dx, fs, rfl, ha, q⟩ := h
  obtain ⟨u, rfl, ru⟩ := vals1 r
  cases (show u = Value.ref a from ru)
  obtain ⟨mA, O, _⟩ := ins_get I.hok ha
  obtain ⟨od, J, _⟩ := O.look
  have hl : ([Value.ref a] ++ []).length = ps.length := (F.len _ _ _ _ q : [V.ref a].length = ps.length)
  refine Calls.call_function_entry kind_len plain_len entry_len (args_len1 _) ?_
  unfold Builtin.«len»
  refine wpAny_bind (m := oneArg "len" _) (wpAny_pure ?_)
  refine wpAny_bind (m := callSpecial? (.ref a) (Str.ofString "__len__")) (PySem.W.special_fn I.kIn J hs (beq_iff_eq.mp hf) ?_)
  refine wpAny_call (codeAny_mono (F.run X.A.in1 X.stack s H ⟨[.ref a], []⟩ ([Value.ref a] ++ []) [V.ref a] _ E hr.in1 I.env0.in1 (hb s [Value.ref a] I.kIn hl) (show Vals [V.ref a] [Value.ref a] from .cons rfl .nil) q) fun r s' hq => ?_)
  cases r with
  | error e => exact hx pins σ H s e s' I hq
  | ok fl =>
    cases fl with
    | ret u =>
      obtain ⟨v, H', I2, rv, n, ev, h0, h1, qn⟩ := I.after hq
      subst ev
      obtain ⟨t, rfl⟩ := (show ∃ t, u = Value.int n t from rv)
      refine wpAny_bind (wpAny_holding (wpAny_pure ?_))
      refine wpAny_bind (wpAny_letGo ?_)
      show wpAny _ _ (if n < 0 then _ else _) _ _ _
      rw [if_neg (by omega)]
      show wpAny _ _ (if n ≥ 2 ^ 63 then _ else _) _ _ _
      rw [if_neg (by omega)]
      exact wpAny_bind (wpAny_mkInt (wpAny_pure ⟨_, rfl, ⟨.int n, H', I2.tok _, ⟨_, rfl⟩, qn⟩⟩))
    | next => exact False.elim hq
    | brk => exact False.elim hq
    | cont => exact False.elim hq
def mLenO (c : Str) (f : List D → Sto → Rs Sto Val) (a : Fm → Rs Sto (List Val)) : Fm → Rs Sto Val := fun s => (a s).bind fun ws st => match ws with
  | [w] => (match w.d with
    | .obj c' _ => if c' = c then (callW f ws [] st).bind fun r st' => (match r.d with
      | .int n => if 0 ≤ n ∧ smR n = true then .ok ⟨.sh, .int n⟩ st' else .no
      | _ => .no) else .no
    | _ => .no)
  | _ => .no
theorem sim_lenO {c : Str} {f : List D → Sto → Rs Sto Val} {E : XK} {ta : TA} {a : Fm → Rs Sto (List Val)} (ha : SimA K W ta a) (hE : ∀ cls d σ H, W cls d σ H → E cls d H) : SimE K W (tCB (rLenO (cl K c) (spF K f) E) ta) (mLenO c f a) := fun C s σ F H Q e m p => by
  unfold mLenO at p
  refine ha C s σ F H _ e m ?_
  cases q : a s with
  | no => rw [q] at p; exact p
  | ex c' fs st => rw [q] at p; exact p
  | ok ws st =>
    rw [q, Rs.bind_ok] at p
    intro vs F1 H1 s1 m1 r1
    match ws, vs, p, r1 with
    | [], _, p1, _ => exact p1.elim
    | _ :: _ :: _, _, p1, _ => exact p1.elim
    | [w], [], _, r1 => exact r1.elim
    | [w], _ :: _ :: _, _, r1 => exact r1.2.elim
    | [w], [v], p1, r1 =>
      dsimp only at p1
      cases hw : w.d with
      | obj c' fs =>
        rw [hw] at p1
        dsimp only at p1
        by_cases hc : c' = c
        · rw [if_pos hc] at p1
          subst hc
          have rh := r1.1.rh m1
          rw [hw] at rh
          obtain ⟨b, dx, vs, ev, hb, rf⟩ := rh
          subst ev
          refine ⟨b, dx, vs, rfl, by subst e; exact hb, ?_⟩
          have := call_go (ws := [w]) (vs := [V.ref b]) (E := E) (F := F) (f := f) (dvs := []) (dds := []) (Q := fun v H2 => ∃ n : Int, v = .int n ∧ 0 ≤ n ∧ n < 2 ^ 63 ∧ Q (.int n) H2) e s1 m1 r1 (fun _ _ => trivial) (fun cls d H => hE cls d σ H) ?_
          · exact this
          · cases q2 : callW f [w] [] st with
            | no => rw [q2] at p1; exact p1
            | ex c' fs st => rw [q2] at p1; exact p1
            | ok r st' =>
              rw [q2, Rs.bind_ok] at p1
              intro v F' H' s2 m2 r2
              cases hr : r.d with
              | int n =>
                rw [hr] at p1
                dsimp only at p1
                by_cases hn : 0 ≤ n ∧ smR n = true
                · rw [if_pos hn] at p1
                  have rv := r2.rh m2
                  rw [hr] at rv
                  refine ⟨n, rv, hn.1, Int.lt_of_lt_of_le (Int.lt_of_le_of_lt (by have := Nat.le_of_ble_eq_true hn.2; omega : n ≤ 1000000) (by decide : (1000000 : Int) < 1000000000000)) (by decide), p1 _ F' H' s2 m2 rfl⟩
                · rw [if_neg hn] at p1; exact p1.elim
              | _ => rw [hr] at p1; exact p1.elim
        · rw [if_neg hc] at p1; exact p1.elim
      | _ => rw [hw] at p1; exact p1.elim
end
end RX

set_option Elab.async false
set_option linter.all false
set_option maxRecDepth 100000
set_option maxHeartbeats 4000000
/-! RX: an own exception is made, its context None; the store of draws. -/
namespace RX
open PySem PySem.Spec PyProof.Rows L2
section
variable {X : Cx} {CX : CXT} {x : Str} {C fI : Addr} {k : Nat} {fd : FuncData} {ps : List Str} {sp : Sp} {e : Expr} {es : List Expr} {ta : TA} {p pos : Pos}
/-- C(e, ..) is made, C with an own __init__; nothing is handled, so its context is None -/
theorem pmkN_oex (T : OexC X.K C) (iC : PySem.W.findIn X.K (.ref C) "__init__" = some (some (.ref fI))) (tI : PySem.W.typeIn X.K (.ref fI) = some (.type "function"))
    (F1 : FnOk X.prog X.w X.K X.mg X.base CX k fI fd ps sp) (hr : Room (k + 1) X.A) (hb : Binds X.K fd ps []) (hx : Passes CX X (fun _ _ _ => False)) (hg : Gl X x) (hm : X.mg x = some (.ref C)) (ha : PA X (e :: es) ta)
    (hdb : (x == ("__debug__" : Str)) = false := by decide) (he : starEach (e :: es) X.env = (false, eval e X.env) :: starEach es X.env := by rfl) (hpl : (backTo pos (starEach es X.env)).any (·.1) = false := by rfl) :
    L2N.PMk X (.Call (.Name x p) (e :: es) [] pos) (tMkO C sp [] ta) := by
  intro pins s σ H Q I h
  obtain ⟨nm, q, N, bs, bm, sn, sub, ab, col, dd, k0, k1, k2, k3, k5, hC, hbm⟩ := T.cls
  refine wpAny_Call_Name_kw (ld_glob I hg hm ?_ hdb)
  refine PySem.W.callWith_K (h₀ := X.base) I.ok.mod.kin T.kC (thn (ha.run pos pins s σ H _ I h) fun us s1 hh => ?_) he hpl
  obtain ⟨vs, H1, I1, r1, hz, q1⟩ := hh
  refine ⟨I1.kIn, ?_⟩
  show wpAny _ _ (call (.ref C) us) _ _ _
  obtain ⟨hp, g, dr, tk, os⟩ := s1
  have grow : hp.objs.size ≤ hp.objs.size + 1 := Nat.le_succ _
  have q2 := q1 (hp.objs.size + 1) (I1.hok.fresh grow)
  rw [List.append_nil] at q2
  generalize hG : ((hp.push (PySem.W.kdv_tup us)).push (PySem.HandSPX.excO C hp.objs.size)) = G
  have old : ∀ b o, hp.get? b = some o → G.get? b = some o := fun b o z => by rw [← hG]; exact Heap.get?_push_of_some _ (Heap.get?_push_of_some _ z)
  have there : G.get? (hp.objs.size + 1) = some (PySem.HandSPX.excO C hp.objs.size) := by rw [← hG]; heap_get
  have I2 : Inv X pins σ (upd H1 (hp.objs.size + 1) (exo (hp.objs.size + 1) C none)) ⟨G, g, dr, tk, os⟩ := I1.laid (t' := tk) (a := hp.objs.size + 1) old grow (exo_ok there)
  have r2 : Vals (V.ref (hp.objs.size + 1) :: vs) (Value.ref (hp.objs.size + 1) :: us) := .cons rfl r1
  have hl : ((Value.ref (hp.objs.size + 1) :: us) ++ []).length = ps.length := by
    rw [List.append_nil, ← r2.length]
    exact F1.len _ _ _ _ q2
  have bnd := hb _ (Value.ref (hp.objs.size + 1) :: us) I2.kIn hl
  rw [List.append_nil] at bnd
  have few : us.length ≤ sizeLine := by
    rw [← Paired.length r1, sizeLine_eq]
    omega
  refine wpAny_call (PySem.HandSPX.call_own F.excBase_ValueError (fun Y => PySem.HandSPX.refsVE_contains Y bm hbm) (I1.kIn _ _ hC) (PySem.W.looks_findIn I1.kIn iC) (fun self => PySem.W.bind_fn I1.kIn self tI) few ?_)
  rw [hG]
  refine codeAny_mono (F1.run _ X.stack _ _ ⟨Value.ref (hp.objs.size + 1) :: us, []⟩ (Value.ref (hp.objs.size + 1) :: us) _ _ (fun _ _ _ => False) (hr.make C us []) (I2.env0.make C us []) bnd r2 q2) fun r s' hq' => ?_
  cases r with
  | error er => exact hx pins σ _ _ er s' I2 hq'
  | ok fl =>
    cases fl with
    | ret u =>
      obtain ⟨v, H2, os2, bare2, un2, hok2, rv, ev, d, fs, ea, ed, hd1, q3⟩ := hq'
      subst ev
      obtain ⟨h2, g2, d2, t2, os'⟩ := s'
      obtain ⟨t0, G0, J, kG, ge, hoe, na⟩ := mk_end0 (d2 := d2) (t2 := t2) I1 grow old un2 hok2 os2 bare2 ea ed hd1
      exact ⟨rv, hp.objs.size + 1, _, _, ⟨G0, g2, d2, t2, os'⟩, _, .ref C, some d, rfl, J, kG, ge, hoe, ⟨rfl, rfl, fun ws hv => by cases hv; rfl⟩, rfl, rfl, na, rfl, bare2, raises_own T.exC T.tyC, q3⟩
    | next => exact False.elim hq'
    | brk => exact False.elim hq'
    | cont => exact False.elim hq'
end
end RX

set_option Elab.async false
set_option linter.all false
set_option maxRecDepth 100000
set_option maxHeartbeats 2000000
/-! RX: the law's store of draws, great ints. -/
namespace RX
open PySem PySem.Spec PyProof.Rows L2
section
variable {K : PySem.W.Frag} {W : WX} {X : Cx}
/-! ### // by great ints -/
def dFdivW : D → D → Option Val := fI2 (fun _ j => decide (0 < j ∧ j < 1073741824) || decide (0 < j ∧ j.natAbs.log2 < 9000)) fun i j => .int (i / j)
theorem sop_fdivW : SOp K (rI CDivW fun i j => .int (i / j)) dFdivW := sop_I (c := fun _ j => decide (0 < j ∧ j < 1073741824) || decide (0 < j ∧ j.natAbs.log2 < 9000)) (fun i j h => by
  rcases Bool.or_eq_true_iff.mp h with h | h
  · have h := of_decide_eq_true h
    exact wide_div (b := 30) h.1 (by omega) (by decide) (by decide)
  · have h := of_decide_eq_true h
    exact ⟨h.1, h.2⟩) fun _ _ _ _ => rfl
/-! ### the store -/
def stoGet (st : Sto) : Int → Option Int
  | 1 => some st.p
  | 2 => some st.q
  | 3 => some st.r
  | 4 => some st.s
  | 5 => some st.t
  | _ => none
def stoPut (st : Sto) (v : Int) : Int → Option Sto
  | 1 => some { st with p := v }
  | 2 => some { st with q := v }
  | 3 => some { st with r := v }
  | 4 => some { st with s := v }
  | 5 => some { st with t := v }
  | _ => none
def isSto (env : List Slot) : Bool := match env[0]? with
  | some (Slot.v D.sto) => true
  | _ => false
theorem isSto_ok {env : List Slot} (h : isSto env = true) : env[0]? = some (.v .sto) := by
  unfold isSto at h
  split at h
  · next q => exact q
  · cases h
theorem Mt.sto0 {C : Cn} {s : Fm} {σ : L2.St} {F H : Hp} (m : Mt C s σ F H) (h : isSto s.env = true) : σ[0]? = some (some (V.ref C.a0)) ∧ H C.a0 = some (stoL C.c0 s.sto) := by
  obtain ⟨v, z, r⟩ := m.sh 0 _ (isSto_ok h)
  cases (show v = V.ref C.a0 from r)
  exact ⟨z, m.hd.sto⟩
theorem stoL_at {c : Addr} {st : Sto} {i v : Int} (h : stoGet st i = some v) : L2.atI [V.ref c, V.int st.p, V.int st.q, V.int st.r, V.int st.s, V.int st.t] i = some (.int v) := by
  unfold stoGet at h
  split at h <;> cases h <;> rfl
theorem stoGet_pos {st : Sto} {i v : Int} (h : stoGet st i = some v) : 0 ≤ i := by
  unfold stoGet at h
  split at h <;> first | decide | cases h
/-- store[i] -/
def mStoGet (i : Int) : Fm → Rs Sto Val := fun s => if isSto s.env = true then match stoGet s.sto i with
  | some v => .ok ⟨.sh, .int v⟩ s.sto
  | none => .no
  else .no
theorem sim_stoGet (i : Int) : SimE K W (tOp (rIxA K) (tVar 0) (tC (.int i))) (mStoGet i) := fun C s σ F H Q e m p => by
  unfold mStoGet at p
  by_cases h : isSto s.env = true
  · rw [if_pos h] at p
    obtain ⟨z, hs⟩ := m.sto0 h
    cases q : stoGet s.sto i with
    | none => rw [q] at p; exact p.elim
    | some v =>
      rw [q] at p
      exact ⟨V.ref C.a0, z, Or.inl (Or.inl ⟨C.a0, _, i, _, rfl, rfl, SqL.of hs, stoL_at q, p _ F H (Sub.refl F) m rfl⟩)⟩
  · rw [if_neg h] at p; exact p.elim
theorem Mt.cells {C : Cn} {s : Fm} {σ : L2.St} {F H : Hp} (m : Mt C s σ F H) : SqL C.K H C.c0 (s.sto.cells.map V.int) := by
  rw [m.hd.cells]
  exact m.hd.sub.sqL (m.hd.base.sqL m.hd.cel)
/-- store[0][store[1]] -/
def mStoCell : Fm → Rs Sto Val := fun s => if isSto s.env = true then match L2.atI s.sto.cells s.sto.p with
  | some v => .ok ⟨.sh, .int v⟩ s.sto
  | none => .no
  else .no
theorem atI_map {α β : Type} (f : α → β) {xs : List α} {i : Int} {v : α} (h : L2.atI xs i = some v) : L2.atI (xs.map f) i = some (f v) := by
  unfold L2.atI at h ⊢
  rw [List.length_map]
  cases q : ixN xs.length i with
  | none => rw [q] at h; cases h
  | some j =>
    rw [q] at h
    have h : xs[j]? = some v := h
    show (xs.map f)[j]? = some (f v)
    rw [List.getElem?_map, h]
    rfl
theorem sim_stoCell : SimE K W (tOp (rIxA K) (tOp (rIxA K) (tVar 0) (tC (.int 0))) (tOp (rIxA K) (tVar 0) (tC (.int 1)))) mStoCell := fun C s σ F H Q e m p => by
  unfold mStoCell at p
  by_cases h : isSto s.env = true
  · rw [if_pos h] at p
    obtain ⟨z, hs⟩ := m.sto0 h
    cases q : L2.atI s.sto.cells s.sto.p with
    | none => rw [q] at p; exact p.elim
    | some v =>
      rw [q] at p
      have hc := m.cells
      subst e
      refine ⟨V.ref C.a0, z, Or.inl (Or.inl ⟨C.a0, _, 0, V.ref C.c0, rfl, rfl, SqL.of hs, rfl, ?_⟩)⟩
      refine ⟨V.ref C.a0, z, Or.inl (Or.inl ⟨C.a0, _, 1, V.int s.sto.p, rfl, rfl, SqL.of hs, rfl, ?_⟩)⟩
      exact Or.inl (Or.inl ⟨C.c0, _, _, _, rfl, rfl, hc, atI_map V.int q, p _ F H (Sub.refl F) m rfl⟩)
  · rw [if_neg h] at p; exact p.elim
/-- len(store[0]) -/
def mStoLen : Fm → Rs Sto Val := fun s => if isSto s.env = true then .ok ⟨.sh, .int (s.sto.cells.length : Nat)⟩ s.sto else .no
theorem sim_stoLen : SimE K W (tCB (rLenA K) (tCons (tOp (rIxA K) (tVar 0) (tC (.int 0))) tNil)) mStoLen := fun C s σ F H Q e m p => by
  unfold mStoLen at p
  by_cases h : isSto s.env = true
  · rw [if_pos h] at p
    obtain ⟨z, hs⟩ := m.sto0 h
    have hc := m.cells
    subst e
    refine ⟨V.ref C.a0, z, Or.inl (Or.inl ⟨C.a0, _, 0, V.ref C.c0, rfl, rfl, SqL.of hs, rfl, ?_⟩)⟩
    exact .inl ⟨_, _, rfl, .inl ⟨_, hc, rfl⟩, by rw [List.length_map]; exact p _ F H (Sub.refl F) m rfl⟩
  · rw [if_neg h] at p; exact p.elim
/-- the store's object is written -/
theorem Mt.setSto {C : Cn} {s : Fm} {σ : L2.St} {F H : Hp} (m : Mt C s σ F H) {st' : Sto} (hc : st'.cells = s.sto.cells) : Mt C ⟨s.env, st'⟩ σ F (upd H C.a0 (stoL C.c0 st')) := by
  obtain ⟨⟨h1, h2, h3, h4, h5, h6, h7, h8, h9⟩, m2, m3, m4, m5⟩ := m
  refine ⟨⟨fun a u z => ?_, h2, fun a u z zn => ?_, h4, h5, upd_same, hc.trans h7, h8, h9⟩, m2, m3, fun i d z => ?_, m5⟩
  · rw [upd_ne (ne_of_none z h5)]; exact h1 a u z
  · rw [upd_ne zn]; exact h3 a u z zn
  · obtain ⟨a, z', x1, x2, x3, ho, x4, x5⟩ := m4 i d z
    exact ⟨a, z', x1, x2, x3, ho, by rw [upd_ne x2]; exact x4, x5⟩
theorem stoPut_ok {st st' : Sto} {v i : Int} (h : stoPut st v i = some st') : st'.cells = st.cells ∧ ∀ c : Addr, ∃ j, ixN 6 i = some j ∧ HO.lst ([V.ref c, V.int st.p, V.int st.q, V.int st.r, V.int st.s, V.int st.t].set j (.int v)) = stoL c st' := by
  unfold stoPut at h
  split at h <;> cases h <;> exact ⟨rfl, fun c => ⟨_, rfl, rfl⟩⟩
/-- store[i] = e -/
def mStoSet (i : Int) (a : Fm → Rs Sto Val) : Fm → Rs Fm Fl := fun s => if isSto s.env = true then liftS (a s) s.env fun w s1 => match w.d with
    | .int v => (match stoPut s1.sto v i with
      | some st => .ok .nx ⟨s1.env, st⟩
      | none => .no)
    | _ => .no
  else .no
theorem sim_stoSet {i : Int} {te : TE} {a : Fm → Rs Sto Val} (ha : SimE K W te a) : SimS K W (tAsg te (gSub (tVar 0) (tC (.int i)) rSetA)) (mStoSet i a) := fun C s σ F H Dn e m p => by
  unfold mStoSet at p
  by_cases h : isSto s.env = true
  · rw [if_pos h] at p
    unfold liftS at p
    refine ha.then (β := Unit) e m (fun w st q v F1 H1 s1 m1 r1 => ?_) (fun c fs st q => by rw [q] at p; exact fun cls d F' H' s1 m1 x => p cls d σ F' H' s1 m1 x) (fun q => by rw [q] at p; exact p)
    rw [q] at p
    dsimp only at p
    have rh := r1.rh m1
    obtain ⟨kw, dw⟩ := w
    cases dw with
    | int n =>
      dsimp only at p
      cases q2 : stoPut st n i with
      | none => rw [q2] at p; exact p.elim
      | some st' =>
        rw [q2] at p
        cases (show v = .int n from rh)
        obtain ⟨z, hs⟩ := Mt.sto0 (s := ⟨s.env, st⟩) m1 h
        obtain ⟨hc, hj⟩ := stoPut_ok q2
        obtain ⟨j, hj1, hj2⟩ := hj C.c0
        refine ⟨V.ref C.a0, z, Or.inl ⟨C.a0, _, i, j, rfl, rfl, hs, hj1, ?_⟩⟩
        rw [hj2]
        exact p σ F1 _ s1 (Mt.setSto (s := ⟨s.env, st⟩) m1 hc)
    | _ => exact p.elim
  · rw [if_neg h] at p; exact p.elim
/-- store[i] += e -/
def rGetA (K : PySem.W.Frag) : V → V → Hp → VK → Prop := fun o i H Q => ∃ p xs k v, o = .ref p ∧ i = .int k ∧ 0 ≤ k ∧ SqL K H p xs ∧ L2.atI xs k = some v ∧ Q v H
def mStoAug (i : Int) (a : Fm → Rs Sto Val) : Fm → Rs Fm Fl := fun s => if isSto s.env = true then match stoGet s.sto i with
    | some old => liftS (a s) s.env fun w s1 => (match w.d with
      | .int v => (match stoPut s1.sto (old + v) i with
        | some st => .ok .nx ⟨s1.env, st⟩
        | none => .no)
      | _ => .no)
    | none => .no
  else .no
theorem sim_stoAug {i : Int} {te : TE} {a : Fm → Rs Sto Val} (ha : SimE K W te a) : SimS K W (tAugS (tVar 0) (tC (.int i)) te (rGetA K) (ipI fun i j => i + j) rSetA) (mStoAug i a) := fun C s σ F H Dn e m p => by
  unfold mStoAug at p
  by_cases h : isSto s.env = true
  · rw [if_pos h] at p
    cases q0 : stoGet s.sto i with
    | none => rw [q0] at p; exact p.elim
    | some old =>
      rw [q0] at p
      unfold liftS at p
      dsimp only at p
      obtain ⟨z, hs⟩ := m.sto0 h
      refine ⟨V.ref C.a0, z, C.a0, _, i, V.int old, rfl, rfl, stoGet_pos q0, SqL.of hs, stoL_at q0, ?_⟩
      refine ha.then (β := Unit) e m (fun w st q v F1 H1 s1 m1 r1 => ?_) (fun c fs st q => by rw [q] at p; exact fun cls d F' H' s1 m1 x => p cls d σ F' H' s1 m1 x) (fun q => by rw [q] at p; exact p)
      rw [q] at p
      dsimp only at p
      have rh := r1.rh m1
      obtain ⟨kw, dw⟩ := w
      cases dw with
      | int n =>
        dsimp only at p
        cases q2 : stoPut st (old + n) i with
        | none => rw [q2] at p; exact p.elim
        | some st' =>
          rw [q2] at p
          cases (show v = .int n from rh)
          obtain ⟨z', hs'⟩ := Mt.sto0 (s := ⟨s.env, st⟩) m1 h
          obtain ⟨hc, hj⟩ := stoPut_ok q2
          obtain ⟨j, hj1, hj2⟩ := hj C.c0
          refine ⟨old, n, rfl, rfl, .inl ⟨C.a0, _, i, j, rfl, rfl, hs', hj1, ?_⟩⟩
          rw [hj2]
          exact p σ F1 _ s1 (Mt.setSto (s := ⟨s.env, st⟩) m1 hc)
      | _ => exact p.elim
  · rw [if_neg h] at p; exact p.elim
/-- o[i], a list's, by values -/
theorem get_listA : PGet X (rGetA X.K) := by
  intro pins s σ H o i ov iv Q I ro ri h
  obtain ⟨p, xs, k, v, rfl, rfl, h0, hs, hv, q⟩ := h
  cases ro
  obtain ⟨t, rfl⟩ := ri
  obtain ⟨its, r, pl, hz⟩ := I.list hs
  obtain ⟨j, h1, h2, h3, h4, h5⟩ := atI_get hv
  obtain ⟨w, ew, rw'⟩ := r.get h2
  have hn := line63
  have hj : k.toNat = j := by
    rw [seqIndex_of h0 h5] at h1
    exact Option.some.inj h1
  exact wpAny_getItem_list pl.isList h0 (by omega) (by rw [hj]; simpa using ew) ⟨v, H, I, rw', q⟩
end
end RX

set_option Elab.async false
set_option linter.all false
set_option maxRecDepth 100000
set_option maxHeartbeats 2000000
/-! RX: what the printed walks lean on. -/
namespace RX
open PySem PySem.Spec PyProof.Rows L2
section
variable {K : PySem.W.Frag} {W : WX} {X : Cx}
/-! ### what is not reached -/
def tF3 : TS := fun _ _ _ => False
def tF2 : TE := fun _ _ _ => False
theorem ps_never {s : Stmt} : PS X s tF3 := ⟨fun _ _ _ _ _ _ h => h.elim⟩
theorem pss_no {ss : List Stmt} : PSs X ss tF3 := ⟨fun _ _ _ _ _ _ h => h.elim⟩
theorem pe_never {e : Expr} : PE X e tF2 := ⟨fun _ _ _ _ _ _ h => h.elim⟩
def mNo : Fm → Rs Fm Fl := fun _ => .no
def mNoE : Fm → Rs Sto Val := fun _ => .no
theorem sim_no : SimS K W tF3 mNo := fun C s σ F H D e m p => p.elim
theorem sim_noE : SimE K W tF2 mNoE := fun C s σ F H Q e m p => p.elim
/-! ### module constants -/
theorem pe_gint {x : Str} {i : Int} {pos : Pos} (h : ∃ t, X.mg x = some (.int i t)) (hg : Gl X x) (hd : (x == ("__debug__" : Str)) = false := by decide) : PE X (.Name x pos) (tC (.int i)) := by
  obtain ⟨t, h⟩ := h
  exact pe_glob hg h ⟨t, rfl⟩ hd
theorem pe_gstr {x z : Str} {pos : Pos} (h : ∃ t, X.mg x = some (.str z t)) (hg : Gl X x) (hd : (x == ("__debug__" : Str)) = false := by decide) : PE X (.Name x pos) (tC (.str z)) := by
  obtain ⟨t, h⟩ := h
  exact pe_glob hg h ⟨t, rfl⟩ hd
theorem pe_gcls {x : Str} {C : Addr} {pos : Pos} (h : X.mg x = some (.ref C)) (hg : Gl X x) (hd : (x == ("__debug__" : Str)) = false := by decide) : PE X (.Name x pos) (tC (.ref C)) := pe_glob hg h rfl hd
theorem sim_cls (c : Str) : SimE K W (tC (.ref (cl K c))) (mC (.cls c)) := fun C s σ F H Q e m p => p _ F H (Sub.refl F) m (by subst e; rfl)
theorem sim_ty (n : String) : SimE K W (tC (.ty n)) (mC (.ty n)) := sim_c fun _ _ => rfl
/-! ### calls -/
def Good (P : Program) (w : PySem.World) (K : PySem.W.Frag) (mg : Str → Option Value) (base : Heap) (CX : CXT) (k : Nat) (f : Addr) (ps : List Str) (sp : Sp) : Prop :=
  ∃ fd : FuncData, FnOk P w K mg base CX k f fd ps sp ∧ Binds K fd ps [] ∧ PySem.W.keepIn K (.ref f) = true
theorem Good.mono {P : Program} {w : PySem.World} {K : PySem.W.Frag} {mg : Str → Option Value} {base : Heap} {CX : CXT} {j k : Nat} {f : Addr} {ps : List Str} {sp : Sp} (G : Good P w K mg base CX j f ps sp) (h : j ≤ k) : Good P w K mg base CX k f ps sp := by
  obtain ⟨fd, a, b, c⟩ := G
  exact ⟨fd, a.mono h, b, c⟩
theorem pe_callG {CX : CXT} {k : Nat} {f : Addr} {ps : List Str} {sp : Sp} {E : XK} {x : Str} {p pos : Pos} {e : Expr} {es : List Expr} {t : TA} (G : Good X.prog X.w X.K X.mg X.base CX k f ps sp) (hr : Room k X.A) (hm : X.mg x = some (.ref f)) (hx : Passes CX X E)
    (ha : PA X (e :: es) t) (hg : Gl X x := by rfl) (hdb : (x == ("__debug__" : Str)) = false := by decide) (he : starEach (e :: es) X.env = (false, eval e X.env) :: starEach es X.env := by rfl) (hpl : (backTo pos (starEach es X.env)).any (·.1) = false := by rfl) :
    PE X (.Call (.Name x p) (e :: es) [] pos) (tCall sp [] E t) := by
  obtain ⟨fd, a, b, c⟩ := G
  exact pe_call a hr hg hm c b .nil hx ha hdb he hpl
theorem passN : Passes (L2N.CX X.prog X.w) X E0 := fun _ _ _ _ _ _ _ h => by
  obtain ⟨_, _, _, _, _, _, _, _, _, _, _, _, z⟩ := h
  exact z.elim
def noEx (r : Rs Sto Val) : Rs Sto Val := match r with
  | .ok w s => .ok w s
  | _ => .no
theorem PostE.noEx {C : Cn} {s : Fm} {σ : L2.St} {F : Hp} {r : Rs Sto Val} {Q : VK} {W' : WX} (p : PostE C s σ F W (RX.noEx r) Q) : PostE C s σ F W' r Q := by
  cases r with
  | no => exact p
  | ex c fs st => exact p.elim
  | ok w st => exact p
/-- a call that lets nothing out -/
def mCall0 (f : List D → Sto → Rs Sto Val) (a : Fm → Rs Sto (List Val)) : Fm → Rs Sto Val := fun s => (a s).bind fun ws st => noEx (callW f ws [] st)
theorem sim_call0 {f : List D → Sto → Rs Sto Val} {ta : TA} {a : Fm → Rs Sto (List Val)} (ha : SimA K W ta a) : SimE K W (tCall (spF K f) [] E0 ta) (mCall0 f a) := fun C s σ F H Q e m p => by
  unfold mCall0 at p
  refine ha C s σ F H _ e m ?_
  cases q : a s with
  | no => rw [q] at p; exact p
  | ex c fs st => rw [q] at p; exact p
  | ok ws st =>
    rw [q, Rs.bind_ok] at p
    exact fun vs F1 H1 s1 m1 r1 => call_go (W := noX) (E := E0) (dvs := []) (dds := []) e s1 m1 r1 (fun _ _ => trivial) (fun cls d H h => h) p.noEx
def mMeth0 (c mn : Str) (f : List D → Sto → Rs Sto Val) (o : Fm → Rs Sto Val) (a : Fm → Rs Sto (List Val)) : Fm → Rs Sto Val := fun s => (o s).bind fun w st => match w.d with
  | .obj c' fs => if c' = c ∧ fs.lookup mn = none then (a ⟨s.env, st⟩).bind fun ws st => noEx (callW f (settle w :: ws) [] st) else .no
  | _ => .no
theorem sim_meth0 {c mn : Str} {f : List D → Sto → Rs Sto Val} {to : TE} {ta : TA} {o : Fm → Rs Sto Val} {a : Fm → Rs Sto (List Val)} (ho : SimE K W to o) (ha : SimA K W ta a) :
    SimE K W (tMeth (cl K c) mn (spF K f) [] E0 to ta) (mMeth0 c mn f o a) := fun C s σ F H Q e m p => by
  unfold mMeth0 at p
  refine ho.then (β := Unit) e m (fun w st q v F1 H1 s1 m1 r1 => ?_) (fun c fs st q => by rw [q] at p; exact p) (fun q => by rw [q] at p; exact p)
  rw [q, Rs.bind_ok] at p
  cases hw : w.d with
  | obj c' fs =>
    rw [hw] at p
    dsimp only at p
    by_cases hc : c' = c ∧ fs.lookup mn = none
    · rw [if_pos hc] at p
      obtain ⟨hc, hl⟩ := hc
      subst hc
      have rh := r1.rh m1
      rw [hw] at rh
      obtain ⟨b, dx, vs, ev, hb, rf⟩ := rh
      refine ⟨b, dx, vs, ev, by subst e; exact hb, ?_, ?_⟩
      · rcases rf.look (f := mn) with ⟨e1, _⟩ | ⟨_, _, _, e2, _⟩
        · exact e1
        · rw [e2] at hl; cases hl
      · refine ha C ⟨s.env, st⟩ σ F1 H1 _ e m1 ?_
        cases q2 : a ⟨s.env, st⟩ with
        | no => rw [q2] at p; exact p.elim
        | ex c fs st => rw [q2] at p; exact fun cls d F' H' z => p cls d F' H' (s1.trans z)
        | ok ws st2 =>
          rw [q2, Rs.bind_ok] at p
          exact fun us F2 H2 s2 m2 r2 => call_go (ws := settle w :: ws) (vs := v :: us) (W := noX) (E := E0) (F := F) (dvs := []) (dds := []) e (s1.trans s2) m2 ⟨(r1.mono s2).settled, r2⟩ (fun _ _ => trivial) (fun cls d H h => h) p.noEx
    · rw [if_neg hc] at p
      exact p.elim
  | _ => rw [hw] at p; exact p.elim
theorem pe_methG {CX : CXT} {k : Nat} {C f : Addr} {ps : List Str} {sp : Sp} {E : XK} {m : Str} {pos apos : Pos} {o e : Expr} {es : List Expr} {ta : TE} {t : TA} {pl : Sem Bool} (G : Good X.prog X.w X.K X.mg X.base CX k f ps sp) (he : PE X o ta) (c : Cls X.K C) (hm : Meth X.K C m f) (hr : Room k X.A) (hx : Passes CX X E) (ha : PA X (e :: es) t)
    (hst : starEach (e :: es) X.env = (false, eval e X.env) :: starEach es X.env := by rfl) (hpl : (backTo pos (starEach es X.env)).any (·.1) = false := by rfl)
    (ht : eval (.Call (.Attribute o m apos) (e :: es) [] pos) X.env = (do
      let ov ← eval o X.env
      standAt apos.atName
      let (f, first) ← holding [ov] (getMethod ov m pl)
      callWith pos f first (backTo pos (starEach (e :: es) X.env)) (backToKw pos (keywordEach [] X.env))) := by rfl) :
    PE X (.Call (.Attribute o m apos) (e :: es) [] pos) (tMeth C m sp [] E ta t) := by
  obtain ⟨fd, a, b, _⟩ := G
  exact pe_meth (pl := pl) he c hm a hr b .nil hx ha hst hpl ht
theorem pe_methG0 {CX : CXT} {k : Nat} {C f : Addr} {ps : List Str} {sp : Sp} {E : XK} {m : Str} {pos apos : Pos} {o : Expr} {ta : TE} {pl : Sem Bool} (G : Good X.prog X.w X.K X.mg X.base CX k f ps sp) (he : PE X o ta) (c : Cls X.K C) (hm : Meth X.K C m f) (hr : Room k X.A) (hx : Passes CX X E)
    (ht : eval (.Call (.Attribute o m apos) [] [] pos) X.env = (do
      let ov ← eval o X.env
      standAt apos.atName
      let (f, first) ← holding [ov] (getMethod ov m pl)
      callWith pos f first (backTo pos (starEach [] X.env)) (backToKw pos (keywordEach [] X.env))) := by rfl) :
    PE X (.Call (.Attribute o m apos) [] [] pos) (tMeth C m sp [] E ta tNil) := by
  obtain ⟨fd, a, b, _⟩ := G
  exact pe_meth0 (pl := pl) he c hm a hr b .nil hx ht
/-- C(..) that lets nothing out -/
def mMake0 (f : List D → Sto → Rs Sto D) (a : Fm → Rs Sto (List Val)) : Fm → Rs Sto Val := fun s => noEx (mMake f [] a s)
theorem sim_make0 {c : Str} {f : List D → Sto → Rs Sto D} {ta : TA} {a : Fm → Rs Sto (List Val)} (ha : SimA K noX ta a) : SimE K W (tMake (cl K c) (spI K c f) [] E0 ta) (mMake0 f a) := fun C s σ F H Q e m p =>
  sim_make (W := noX) (E := E0) (dvs := []) (dds := []) ha (fun _ _ => trivial) (fun _ _ _ _ h => h) C s σ F H Q e m p.noEx
/-- a built-in type as a value -/
theorem pe_bty {x : Str} {T : String} {pos : Pos} (hg : Gl X x) (hm : X.mg x = none) (hv : bootBuiltins x = some (.type T)) (hn : x ≠ "__name__" := by decide) (hd : (x == ("__debug__" : Str)) = false := by decide) : PE X (.Name x pos) (tC (.ty T)) :=
  ⟨fun pins s σ H Q I h => ld_blt I hg hm hv ⟨.ty T, H, I, rfl, h⟩ hn hd⟩
/-- name = {..: .. for ..} on one line, the name a local -/
theorem swD_true {k v : Expr} {gs : List Comprehension} {scope : Scope} {pos py : Pos} {y : Str} {l : Nat} {env : Env} (hk : env.scope.kind = .function) (hy : env.scope.names.lookup y = some .local) (hl : (py.line == pos.line) = true)
    (ha : (scope.names.any fun (n, k) => n == y && (k == .local || k == .cell)) = false) : swapsWith (.DictComp k v gs scope pos) (some (.Name y py)) l env = pure true := by
  have ky : env.kindOf y = some .local := hy
  have hb : env.blockKind = .function := by unfold Env.blockKind; rw [hk]; rfl
  unfold swapsWith
  simp only [hb, ky, ha, Expr.pos, hl]
  rfl
theorem ps_setDc {i : Nat} {y : Str} {py : Pos} {kx vx tg iter : Expr} {ifs : List Expr} {scope : Scope} {own : List (Str × Nat)} {pos spos : Pos} {wi : TI} {g : TG} {tt : TT} {tk tv : TE} (hc : X.calm = true) (hN : X.N.Nodup) (hy : X.N[i]? = some y) (hyl : X.env.scope.names.lookup y = some .local)
    (hsw : swapsWith (.DictComp kx vx [⟨tg, iter, ifs, 0⟩] scope pos) (some (.Name y py)) spos.line X.env = pure true) (hi : PI X tg iter wi) (ok : BlkOk X.N X.env.scope scope own)
    (hg : ∀ (s : Shared) (H : Hp) (C : Addr) (cl : List (Str × Addr)) (fp : List Addr), PG (X.blk s H scope (compEnvC scope cl C X.env) fp) tg g) (ht : ∀ (s : Shared) (H : Hp) (C : Addr) (cl : List (Str × Addr)) (fp : List Addr), PTs (X.blk s H scope (compEnvC scope cl C X.env) fp) ifs tt)
    (hk : ∀ (s : Shared) (H : Hp) (C : Addr) (cl : List (Str × Addr)) (fp : List Addr), PE (X.blk s H scope (compEnvC scope cl C X.env) fp) kx tk)
    (he : ∀ (s : Shared) (H : Hp) (C : Addr) (cl : List (Str × Addr)) (fp : List Addr), PE (X.blk s H scope (compEnvC scope cl C X.env) fp) vx tv) (hs : ∀ x, foldedSetIterable iter X.env x = pure x := by intro _; rfl) :
    PS X (.Assign [.Name y py] (.DictComp kx vx [⟨tg, iter, ifs, 0⟩] scope pos) spos) (tAsg (tDc wi g tt tk tv (own.map (·.2))) (gName i)) := by
  refine ⟨fun pins s σ H Dn I h => ?_⟩
  rw [exec_Assign_Name_used _ _ _ _ hsw]
  refine wpAny_bind (wpAny_standAt (wpAny_bind ?_))
  show wpAny _ X.A (do let _ ← comprehension (.DictComp kx vx [⟨tg, iter, ifs, 0⟩] scope pos) scope X.env (firstIterPos [⟨tg, iter, ifs, 0⟩] pos) newDict false (eval iter X.env) (some (assign (.Name y py) X.env))) _ _ s
  have h : tDc wi g tt tk tv (own.map (·.2)) σ H (fun x H1 => gName i x σ H1 Dn.nx) := h
  refine wpAny_bind (thn (dc_core (Qf := fun _ s' => SP X pins Dn .next s') hc hN I hi ok hg ht hk he hs h fun L C s' m H' I' q hn f => ?_) fun _ s' hq => wpAny_pure (wpAny_pure hq))
  show wpAny _ _ (assign (.Name y py) X.env (.ref L)) _ _ _
  refine wpAny_assign_Name (store_ok2 (v := V.ref L) I' hN hy (.inl hyl) rfl (fun s2 I2 hs2 => ?_) (.inr hyl))
  obtain ⟨a, sb, ha⟩ := hs2
  obtain ⟨f0, f1, f2, f3, f4, f5⟩ := f
  have haC : C ≠ a := by
    rcases ha with z | z
    · rw [z]; exact f1
    · exact fun e => f4 y a z e.symm
  exact ⟨m, hn.sameBut sb haC, fun h3 sb3 => ⟨_, H', I2.turned (t' := s2.toks) (fun b o hb e => (sb3.2 b hb).trans e) f0 f1 f3 f4 f5, q⟩⟩
theorem len1 {W : WX} {x : Fm → Rs Sto Val} : ∀ (s : Fm) (ws : List Val) (st : Sto), mCons x mNil s = .ok ws st → ws.length = 1 := fun s ws st h => by
  unfold mCons mNil at h
  cases q : x s with
  | ok w st => rw [q] at h; cases h; rfl
  | ex c fs st => rw [q] at h; cases h
  | no => rw [q] at h; cases h
theorem len2 {W : WX} {x y : Fm → Rs Sto Val} : ∀ (s : Fm) (ws : List Val) (st : Sto), mCons x (mCons y mNil) s = .ok ws st → ws.length = 2 := fun s ws st h => by
  have h : (x s).bind (fun a st => (mCons y mNil ⟨s.env, st⟩).bind fun ys st' => .ok (settle a :: ys) st') = .ok ws st := h
  cases q : x s with
  | ok w st =>
    rw [q, Rs.bind_ok] at h
    cases q2 : mCons y mNil ⟨s.env, st⟩ with
    | ok us st2 =>
      rw [q2] at h
      cases h
      rw [List.length_cons, len1 (W := W) _ _ _ q2]
    | ex c fs st => rw [q2] at h; cases h
    | no => rw [q2] at h; cases h
  | ex c fs st => rw [q] at h; cases h
  | no => rw [q] at h; cases h
/-- isinstance .. try: calls of what may raise -/
theorem pe_callSG {CX : CXT} {k : Nat} {f : Addr} {ps : List Str} {sp : Sp} {E : L2.St → XK} {x : Str} {p pos : Pos} {e : Expr} {es : List Expr} {t : TA} (G : Good X.prog X.w X.K X.mg X.base CX k f ps sp) (hr : Room k X.A) (hm : X.mg x = some (.ref f)) (hx : ∀ σ, PassesAt CX X σ (E σ))
    (ha : PA X (e :: es) t) (hg : Gl X x := by rfl) (hdb : (x == ("__debug__" : Str)) = false := by decide) (he : starEach (e :: es) X.env = (false, eval e X.env) :: starEach es X.env := by rfl) (hpl : (backTo pos (starEach es X.env)).any (·.1) = false := by rfl) :
    PE X (.Call (.Name x p) (e :: es) [] pos) (tCallS sp E t) := by
  obtain ⟨fd, a, b, c⟩ := G
  exact pe_callS a hr hg hm c b hx ha hdb he hpl
def mLenO0 (c : Str) (f : List D → Sto → Rs Sto Val) (a : Fm → Rs Sto (List Val)) : Fm → Rs Sto Val := fun s => noEx (mLenO c f a s)
theorem sim_lenO0 {c : Str} {f : List D → Sto → Rs Sto Val} {ta : TA} {a : Fm → Rs Sto (List Val)} (ha : SimA K noX ta a) : SimE K W (tCB (rLenO (cl K c) (spF K f) E0) ta) (mLenO0 c f a) := fun C s σ F H Q e m p =>
  sim_lenO (W := noX) (E := E0) ha (fun _ _ _ _ h => h) C s σ F H Q e m p.noEx
end
end RX

set_option Elab.async false
set_option linter.all false
set_option maxRecDepth 100000
set_option maxHeartbeats 2000000
/-! RX: calls within try and within its suite. -/
namespace RX
open PySem PySem.Spec PyProof.Rows L2
section
variable {K : PySem.W.Frag} {W : WX} {X : Cx}
/-- o.m(..) whose exceptions are wished for at the slots -/
def tMethW (C : Addr) (m : Str) (sp : Sp) (E : L2.St → XK) (ta : TE) (t : TA) : TE := fun σ H Q => ta σ H fun x H1 => ∃ a dx fs, x = .ref a ∧ H1 a = some (.ins C dx fs) ∧ fs.lookup m = none ∧ t σ H1 fun vs H2 => sp (x :: vs) H2 Q (E σ)
theorem pe_methW0 {CX : CXT} {k : Nat} {C f : Addr} {ps : List Str} {sp : Sp} {E : L2.St → XK} {m : Str} {pos apos : Pos} {o : Expr} {ta : TE} {pl : Sem Bool} (G : Good X.prog X.w X.K X.mg X.base CX k f ps sp) (he : PE X o ta) (c : Cls X.K C) (hm : Meth X.K C m f) (hr : Room k X.A) (hx : ∀ σ, PassesAt CX X σ (E σ))
    (ht : eval (.Call (.Attribute o m apos) [] [] pos) X.env = (do
      let ov ← eval o X.env
      standAt apos.atName
      let (f, first) ← holding [ov] (getMethod ov m pl)
      callWith pos f first (backTo pos (starEach [] X.env)) (backToKw pos (keywordEach [] X.env))) := by rfl) :
    PE X (.Call (.Attribute o m apos) [] [] pos) (tMethW C m sp E ta tNil) := by
  obtain ⟨fd, F, hb, _⟩ := G
  refine ⟨fun pins s σ H Q I h => ?_⟩
  refine PySem.W.methodCall_KW (pl := pl) (thn (he.run pins s σ H _ I h) fun u s1 hh => ?_) ht
  obtain ⟨x, H1, I1, rx, a, dx, fs, ex, ea, l, q⟩ := hh
  subst ex
  obtain rfl : u = Value.ref a := rx
  refine getmeth_ok I1 ea c hm l ?_
  exact PySem.W.callWith_K0 (first := [.ref a]) I1.kIn hm.kp (run_fnS (us := [.ref a]) (vs := [.ref a]) F hr hb (hx σ) I1 (.cons rfl .nil) q)
theorem sim_methW {c mn : Str} {f : List D → Sto → Rs Sto Val} {to : TE} {ta : TA} {o : Fm → Rs Sto Val} {a : Fm → Rs Sto (List Val)} (ho : SimE K W to o) (ha : SimA K W ta a) :
    SimE K W (tMethW (cl K c) mn (spF K f) (WE W) to ta) (mMeth c mn f [] o a) := fun C s σ F H Q e m p => by
  have := sim_meth (W := W) (E := WE W σ) (c := c) (mn := mn) (f := f) (dvs := []) (dds := []) ho ha (fun _ _ => trivial)
  unfold mMeth at p
  refine ho.then (β := Unit) e m (fun w st q v F1 H1 s1 m1 r1 => ?_) (fun c fs st q => by rw [q] at p; exact p) (fun q => by rw [q] at p; exact p)
  rw [q, Rs.bind_ok] at p
  cases hw : w.d with
  | obj c' fs =>
    rw [hw] at p
    dsimp only at p
    by_cases hc : c' = c ∧ fs.lookup mn = none
    · rw [if_pos hc] at p
      obtain ⟨hc, hl⟩ := hc
      subst hc
      have rh := r1.rh m1
      rw [hw] at rh
      obtain ⟨b, dx, vs, ev, hb, rf⟩ := rh
      refine ⟨b, dx, vs, ev, by subst e; exact hb, ?_, ?_⟩
      · rcases rf.look (f := mn) with ⟨e1, _⟩ | ⟨_, _, _, e2, _⟩
        · exact e1
        · rw [e2] at hl; cases hl
      · refine ha C ⟨s.env, st⟩ σ F1 H1 _ e m1 ?_
        cases q2 : a ⟨s.env, st⟩ with
        | no => rw [q2] at p; exact p.elim
        | ex c fs st => rw [q2] at p; exact fun cls d F' H' z => p cls d F' H' (s1.trans z)
        | ok ws st2 =>
          rw [q2, Rs.bind_ok] at p
          intro us F2 H2 s2 m2 r2
          have := call_go (ws := settle w :: ws) (vs := v :: us) (W := W) (E := WE W σ) (F := F) (dvs := []) (dds := []) e (s1.trans s2) m2 ⟨(r1.mono s2).settled, r2⟩ (fun _ _ => trivial) (fun cls d H h => h) p
          rw [List.append_nil] at this
          exact this
    · rw [if_neg hc] at p
      exact p.elim
  | _ => rw [hw] at p; exact p.elim
/-! ### defs called while an exception is handled -/
def GoodH (P : Program) (w : PySem.World) (K : PySem.W.Frag) (mg : Str → Option Value) (base : Heap) (CX : CXT) (k : Nat) (f : Addr) (ps : List Str) (sp : Sp) : Prop :=
  ∃ fd : FuncData, L2H.FnH P w K mg base CX k f fd ps sp ∧ Binds K fd ps [] ∧ PySem.W.keepIn K (.ref f) = true
theorem pe_callHG {CX : CXT} {k : Nat} {f : Addr} {ps : List Str} {sp : Sp} {E : L2.St → XK} {x : Str} {p pos : Pos} {e : Expr} {es : List Expr} {t : TA} (G : GoodH X.prog X.w X.K X.mg X.base CX k f ps sp) (hr : L2H.RoomH k X.A) (hc : L2H.HotC X) (hm : X.mg x = some (.ref f)) (hx : ∀ σ, PassesAt CX X σ (E σ))
    (ha : PA X (e :: es) t) (hg : Gl X x := by rfl) (hdb : (x == ("__debug__" : Str)) = false := by decide) (he : starEach (e :: es) X.env = (false, eval e X.env) :: starEach es X.env := by rfl) (hpl : (backTo pos (starEach es X.env)).any (·.1) = false := by rfl) :
    PE X (.Call (.Name x p) (e :: es) [] pos) (tCallS sp E t) := by
  obtain ⟨fd, a, b, c⟩ := G
  exact L2H.pe_callH a hr hc hg hm c b hx ha hdb he hpl
theorem passNS (σ : L2.St) : PassesAt (L2N.CX X.prog X.w) X σ E0 := fun _ _ _ _ _ _ h => by
  obtain ⟨_, _, _, _, _, _, _, _, _, _, _, _, z⟩ := h
  exact z.elim
theorem hotC {a : Addr} {oe : Obj} {cls : Value} {d : Option Addr} {pn : List (Addr × Obj)} (hz : L2N.Zn cls d oe) (hf : ∃ vs, oe.data = .fields vs) : L2H.HotC (X.suite a ((a, oe) :: pn)) := by
  obtain ⟨vs, hv⟩ := hf
  exact ⟨(a, oe), ⟨rfl, vs, hv, hz.2.2 vs hv⟩, List.mem_cons_self⟩
/-- a def's promise there, of its body -/
theorem fn_okH {CX : CXT} {P : Program} {w : PySem.World} {K : PySem.W.Frag} {mg : Str → Option Value} {base : Heap} {x qual : Str} {params : Arguments} {body : List Stmt} {scope : Scope} {dvs : List V} {kws : List (Str × V)} {f : Addr} {fd : FuncData} {N ps : List Str} {k : Nat} {m : Fm → Rs Fm Fl}
    (F : FunD K x qual params body scope dvs kws f fd) (S : FnScope N ps scope) (hnp : 0 < ps.length)
    (hb : ∀ (cdv : Value) (A : Around) (outer : List Env) (s : Shared) (H : Hp) (E : XK) (p : Addr × Obj), L2H.Hot1 A p → L2H.RoomH k (A.deeper (envOfC qual scope s.heap.objs.size f cdv)) →
      ∃ t, PSs (L2H.cxH CX P w K mg base N qual scope f cdv A outer s H E p) body t ∧ SimS K (fun cls d _ H => E cls d H) t m) :
    L2H.FnH P w K mg base CX (k + 1) f fd ps (spF K (fnM ps.length N.length m)) := by
  obtain ⟨oc, od, dV, kV, doc, pm, an, cdv, ct, osl, rfl, lk, hcd, _, _⟩ := F.ex
  refine L2H.fn_ofH lk hcd S (fun vs H Q E h => spF_len h) fun A outer s H vs Q E p hot hr h => ?_
  obtain ⟨t, ht, hs⟩ := hb cdv A outer s H E p hot hr
  exact ⟨t, ht, spF_body hs hnp h⟩
theorem huH {A : Around} {k : Nat} (r : L2H.RoomH k A) : A.units + 64 < cLine := by have := r.un; omega
/-! ### tables -/
def isA1 (x : Str) (c : Str) : Option Bool := if c = x then some true else none
theorem isA1_ok {x : Str} {cv : Value} (h : PySem.W.exmOne K (.ref (cl K x)) cv = some true) : ∀ c b, isA1 x c = some b → PySem.W.exmOne K (.ref (cl K c)) cv = some b := fun c b e => by
  unfold isA1 at e
  split at e
  · next q => cases e; rw [q]; exact h
  · cases e
def tbL (L : List (Str × Str × Bool)) : TyN → TyN → Option Bool
  | .inr a, .inr b => (L.find? fun p => decide (p.1 = a ∧ p.2.1 = b)).map fun p => p.2.2
  | _, _ => none
theorem tbL_ok {L : List (Str × Str × Bool)} (h : ∀ p ∈ L, PySem.W.kitOne K (.ref (cl K p.1)) (.ref (cl K p.2.1)) = some p.2.2) : ∀ a b r, tbL L a b = some r → PySem.W.kitOne K (tyW K a) (tyW K b) = some r
  | .inr a, .inr b, r, e => by
    have e : (L.find? fun p => decide (p.1 = a ∧ p.2.1 = b)).map (fun p => p.2.2) = some r := e
    obtain ⟨p, e1, e2⟩ := Option.map_eq_some_iff.mp e
    have h1 := List.find?_some e1
    have h2 := h p (List.mem_of_find?_eq_some e1)
    have h1 := of_decide_eq_true h1
    rw [← e2, ← h2]
    show PySem.W.kitOne K (.ref (cl K a)) (.ref (cl K b)) = _
    rw [h1.1, h1.2]
  | .inl _, _, _, e => by cases e
  | .inr _, .inl _, _, e => by cases e
def okx1 (x : Str) (c : Str) : Bool := decide (c = x)
theorem okx1_ok {x : Str} (h : ExcC K (cl K x)) : ∀ c, okx1 x c = true → ExcC K (cl K c) := fun c e => by
  rw [of_decide_eq_true e]; exact h
end
end RX

set_option Elab.async false
set_option linter.all false
set_option maxRecDepth 100000
set_option maxHeartbeats 2000000
/-! RX: the law's start. -/
namespace RX
open PySem PySem.Spec PyProof.Rows L2
section
variable {K : PySem.W.Frag} {W : WX} {X : Cx}
/-- what the def that makes the store promises -/
def spStore (K : PySem.W.Frag) : Sp := fun vs H Q _ => ∃ (a : Addr) (ns : List Int), vs = [.ref a] ∧ SqL K H a (ns.map V.int) ∧ ∀ c p, H c = none → (upd H c (.lst (ns.map V.int))) p = none →
  Q (.ref p) (upd (upd H c (.lst (ns.map V.int))) p (.lst [.ref c, .int 0, .int 0, .int 0, .int 1, .int 0]))
def tStore (K : PySem.W.Frag) : TS := tRet (tLst (tCons (tCB (rListA K) (tCons (tVar 0) tNil)) (tCons (tC (.int 0)) (tCons (tC (.int 0)) (tCons (tC (.int 0)) (tCons (tC (.int 1)) (tCons (tC (.int 0)) tNil)))))))
theorem store_run {N : List Str} {vs : List V} {H : Hp} {Q : VK} {E : XK} (h : spStore K vs H Q E) : tStore K { nx := fun _ H' => Q .non H', rt := Q } (L2.start N vs) H := by
  obtain ⟨a, ns, rfl, hs, q⟩ := h
  refine ⟨.ref a, rfl, a, _, rfl, .inl hs, fun c hc => ?_⟩
  exact ⟨(by decide : 6 ≤ sizeLine), fun p hp => q c p hc hp⟩
theorem spStore_len {vs : List V} {H : Hp} {Q : VK} {E : XK} (h : spStore K vs H Q E) : vs.length = 1 := by
  obtain ⟨a, ns, rfl, _⟩ := h
  rfl
/-- what the law promises -/
def spLaw (K : PySem.W.Frag) : Sp := fun vs H Q _ => ∃ (a : Addr) (ns : List Int), vs = [.ref a] ∧ SqL K H a (ns.map V.int) ∧ ∀ H', Q (.bl true) H'
theorem spLaw_len {vs : List V} {H : Hp} {Q : VK} {E : XK} (h : spLaw K vs H Q E) : vs.length = 1 := by
  obtain ⟨a, ns, rfl, _⟩ := h
  rfl
def lawS (n : Nat) (cells : List Int) : Fm := ⟨.emp :: .v .sto :: List.replicate (n - 2) .emp, ⟨cells, 0, 0, 0, 1, 0⟩⟩
theorem law_run {N : List Str} {t : TS} {m : Fm → Rs Fm Fl} {vs : List V} {H : Hp} {Q : VK} {E : XK} (hs : SimS K (fun cls d _ H => E cls d H) t m) (hN : 2 ≤ N.length)
    (hm : ∀ cells : List Int, ∃ k s', m (lawS N.length cells) = .ok (.ret ⟨k, .bl true⟩) s') (h : spLaw K vs H Q E) :
    tSeq (tAsg (tCall (spStore K) [] E0 (tCons (tVar 0) tNil)) (gName 1)) t { nx := fun _ H' => Q .non H', rt := Q } (L2.start N vs) H := by
  obtain ⟨a, ns, rfl, hq, q⟩ := h
  refine ⟨.ref a, rfl, a, ns, rfl, hq, fun c p hc hp => ?_⟩
  obtain ⟨k, s', e⟩ := hm ns
  have hst : (L2.start N [V.ref a]).set 1 (some (.ref p)) = some (.ref a) :: some (.ref p) :: List.replicate (N.length - 2) none := by
    unfold L2.start
    obtain ⟨n, hn⟩ : ∃ n, N.length = n + 2 := ⟨N.length - 2, by omega⟩
    rw [hn]
    rfl
  show t _ ((L2.start N [V.ref a]).set 1 (some (.ref p))) _
  rw [hst]
  have npc : p ≠ c := fun z => by rw [z, upd_same] at hp; cases hp
  have pc : ∀ {o : HO}, (upd (upd H c (.lst (ns.map V.int))) p o) c = some (.lst (ns.map V.int)) := fun {o} => by rw [upd_ne (Ne.symm npc), upd_same]
  let F0 : Hp := upd (fun _ => none) c (.lst (ns.map V.int))
  have hF : ∀ b o, F0 b = some o → b = c ∧ o = .lst (ns.map V.int) := fun b o z => by
    by_cases hb : b = c
    · subst hb
      have : some (HO.lst (ns.map V.int)) = some o := upd_same.symm.trans z
      cases this
      exact ⟨rfl, rfl⟩
    · have : F0 b = none := upd_ne hb
      rw [this] at z; cases z
  let C : Cn := ⟨K, p, c, ns, F0, upd (upd H c (.lst (ns.map V.int))) p (.lst [.ref c, .int 0, .int 0, .int 0, .int 1, .int 0]), some (some (.ref a))⟩
  refine hs C (lawS N.length ns) _ F0 _ _ rfl ⟨⟨fun b o z => ?_, Sub.refl F0, fun b o z _ => z, fun b o z => .inl z, ?_, upd_same, rfl, SqL.of (show upd (fun _ => none) c (HO.lst (ns.map V.int)) c = some (.lst (ns.map V.int)) from upd_same), ⟨_, upd_same⟩⟩, ⟨by simp [lawS], rfl⟩, fun i d z => ?_, fun i d z => ?_, fun i j d d' b z => ?_⟩ ?_
  · obtain ⟨e1, e2⟩ := hF b o z
    subst e1 e2
    exact pc
  · exact upd_ne npc
  · match i with
    | 0 => cases z
    | 1 => cases z; exact ⟨_, rfl, rfl⟩
    | i + 2 =>
      have z : (List.replicate (N.length - 2) Slot.emp)[i]? = some (.v d) := z
      rw [List.getElem?_replicate] at z
      split at z <;> cases z
  · match i with
    | 0 => cases z
    | 1 => cases z
    | i + 2 =>
      have z : (List.replicate (N.length - 2) Slot.emp)[i]? = some (.own d) := z
      rw [List.getElem?_replicate] at z
      split at z <;> cases z
  · match i with
    | 0 => cases z
    | 1 => cases z
    | i + 2 =>
      have z : (List.replicate (N.length - 2) Slot.emp)[i]? = some (.own d) := z
      rw [List.getElem?_replicate] at z
      split at z <;> cases z
  · rw [e]
    intro v σ' F' H' s1 m1 rv
    have : v = .bl true := rv.rh m1
    rw [this]
    exact q H'
end
end RX

set_option Elab.async false
set_option linter.all false
set_option maxRecDepth 100000
set_option maxHeartbeats 2000000
/-! RX: what the head tells, by Bools of the fragment. -/
namespace RX
open PySem PySem.Spec PyProof.Rows L2
section
variable {K : PySem.W.Frag}
abbrev pA (a b : Bool) : Bool := a && b
/-- an own exception class whose __init__ is a def -/
def oexShape (K : PySem.W.Frag) (C : Addr) : Bool := match K.lookup C with
  | some ⟨.type "type", _, .cls cd, sl⟩ => (match cd.mro, sl.toList with
    | .ref C' :: bm, [_, _, _, _, some (.builtin n), _] => C' == C && n == "ValueError.__new__" && !cd.hasDel && cd.hasDict && PySem.HandSPX.refsVE bm
    | _, _ => false)
  | _ => false
def oexB (K : PySem.W.Frag) (C fi : Addr) : Bool := oexShape K C && (He.eqO (PySem.W.findIn K (.ref C) "__setattr__") (some (some (.builtin "object.__setattr__"))) && (decide (PySem.W.subIn K (.ref C) (.type "BaseException") = some true) &&
  (decide (PySem.W.typeIn K (.ref C) = some (.type "type")) && (PySem.W.keepIn K (.ref C) && (He.eqO (PySem.W.findIn K (.ref C) "__init__") (some (some (.ref fi))) && decide (PySem.W.typeIn K (.ref fi) = some (.type "function")))))))
theorem oexShape_ok {C : Addr} (h : oexShape K C = true) : ∃ nm q N bs bm sn sub ab col dd k0 k1 k2 k3 k5, K.lookup C = some (excClassObj nm q C N bs bm true sn sub ab col dd k0 k1 k2 k3 k5 "ValueError.__new__") ∧ PySem.HandSPX.refsVE bm = true := by
  unfold oexShape at h
  split at h
  · rename_i dd cd sl ho
    split at h
    · rename_i C' bm k0 k1 k2 k3 n k5 hm hs
      simp only [Bool.and_eq_true, beq_iff_eq, Bool.not_eq_true'] at h
      obtain ⟨⟨⟨⟨e1, e2⟩, e3⟩, e4⟩, e5⟩ := h
      subst e1 e2
      obtain ⟨nm, bs, mro, ns, qn, hd, sn, sub, ab, col, del⟩ := cd
      dsimp only at hm e3 e4
      subst hm e3 e4
      obtain ⟨l⟩ := sl
      dsimp only at hs
      subst hs
      exact ⟨nm, qn, ns, bs, bm, sn, sub, ab, col, dd, k0, k1, k2, k3, k5, ho, e5⟩
    · cases h
  · cases h
theorem oexB_ok {C fi : Addr} (h : oexB K C fi = true) : OexC K C ∧ PySem.W.findIn K (.ref C) "__init__" = some (some (.ref fi)) ∧ PySem.W.typeIn K (.ref fi) = some (.type "function") := by
  obtain ⟨h1, h⟩ := He.ba h
  obtain ⟨h2, h⟩ := He.ba h
  obtain ⟨h3, h⟩ := He.ba h
  obtain ⟨h4, h⟩ := He.ba h
  obtain ⟨h5, h⟩ := He.ba h
  obtain ⟨h6, h7⟩ := He.ba h
  exact ⟨⟨oexShape_ok h1, He.eqO_ok h2, of_decide_eq_true h3, of_decide_eq_true h4, h5⟩, He.eqO_ok h6, of_decide_eq_true h7⟩
def excCB (K : PySem.W.Frag) (D : Addr) : Bool := He.eqO (PySem.W.findIn K (.ref D) "__getattribute__") (some (some (.builtin "BaseException.__getattribute__"))) && (He.eqO (PySem.W.findIn K (.ref D) "__getattr__") (some none) && (decide (PySem.W.subIn K (.ref D) (.type "BaseException") = some true) &&
  (PySem.W.hasDictIn K D && (He.eqO (PySem.W.findIn K (.ref D) "__class__") (some (some (.builtin "object.__class__"))) && (He.eqO (PySem.W.specialIn K (.builtin "object.__class__") "__get__") (some (some (.builtin "getset_descriptor.__get__"))) &&
  (decide (PySem.W.takesIn K (.builtin "object.__class__") = some true) && decide (PySem.W.mroIn K D (.type "object") = some true)))))))
theorem excCB_ok {D : Addr} (h : excCB K D = true) : ExcC K D := by
  obtain ⟨h1, h⟩ := He.ba h
  obtain ⟨h2, h⟩ := He.ba h
  obtain ⟨h3, h⟩ := He.ba h
  obtain ⟨h4, h⟩ := He.ba h
  obtain ⟨h5, h⟩ := He.ba h
  obtain ⟨h6, h⟩ := He.ba h
  obtain ⟨h7, h8⟩ := He.ba h
  exact ⟨He.eqO_ok h1, He.eqO_ok h2, of_decide_eq_true h3, h4, He.eqO_ok h5, He.eqO_ok h6, of_decide_eq_true h7, of_decide_eq_true h8⟩
def cvalB (K : PySem.W.Frag) (C : Addr) (f : Str) (i : Int) : Bool := PySem.W.readsIn K C (.type "type") && (He.eqO (PySem.W.specialIn K (.ref C) "__getattribute__") (some (some (.builtin "type.__getattribute__"))) && (match PySem.W.findCls K (.ref C) (.type "type") f with
  | some (.val (.int j _)) => decide (j = i)
  | _ => false))
theorem cvalB_ok {C : Addr} {f : Str} {i : Int} (h : cvalB K C f i = true) : ∃ mc u, ClX.CRead K C mc ∧ ClX.CVal K C mc f (.int i) u := by
  obtain ⟨h1, h⟩ := He.ba h
  obtain ⟨h2, h3⟩ := He.ba h
  split at h3
  · next j t e =>
    cases of_decide_eq_true h3
    exact ⟨.type "type", _, ⟨h1, He.eqO_ok h2⟩, ⟨e, t, rfl⟩⟩
  · cases h3
def kitB1 (K : PySem.W.Frag) (p : Str × Str × Bool) : Bool := decide (PySem.W.kitOne K (.ref (cl K p.1)) (.ref (cl K p.2.1)) = some p.2.2)
theorem kitB1_ok {L : List (Str × Str × Bool)} (h : L.all (kitB1 K) = true) : ∀ p ∈ L, PySem.W.kitOne K (.ref (cl K p.1)) (.ref (cl K p.2.1)) = some p.2.2 := fun p hp => of_decide_eq_true (List.all_eq_true.mp h p hp)
theorem cx_end : ∀ (P : Program) (w : PySem.World) (H : Hp) (s : Shared) (e : Value) (s' : Shared), L2N.CX P w [] H s (fun _ _ _ => False) e s' → False := fun _ _ _ _ _ _ h => by
  obtain ⟨_, _, _, _, _, _, _, _, _, _, _, _, z⟩ := h
  exact z
theorem walk_W {l : PySem.W.OpenLaw} {n k : Nat} {q : Program} {loose : List Str} {XP : (Str → Option Value) → Heap → Prop} {YP : PySem.World → Heap → Prop} {d : DefRec} {x : Str}
    (hn : l.most = some n) (hn2 : n ≤ sizeLine) (hdf : d.params.defaults = []) (hr : Room k callerA)
    (F : ∀ (w : PySem.World) (mg : Str → Option Value) (fa : Addr) (h : Heap), YP w h → h.Ns mainGlobals mg → mg d.name = some (.ref fa) →
      ∃ (K : PySem.W.Frag) (fd : FuncData) (sp : Sp), K.In h ∧ (∀ (s : Shared) (u : Value), BindsTo s fd ⟨[u], []⟩ [(x, u)]) ∧
        (∀ (H : Hp) (a : Addr) (ns : List Int), ns.length ≤ n → SqL K H a (ns.map V.int) → sp [.ref a] H (fun v _ => v = .bl true) fun _ _ _ => False) ∧
        ∀ base : Heap, K.In base → base.Ns mainGlobals mg → FnOk l.prog w K mg base (L2N.CX l.prog w) k fa fd [x] sp) :
    PySem.W.WalkO q loose XP YP l.row.toRowW d [] (fun f vs => PySem.call f vs) := by
  refine Att.attach_call hn hdf fun w s₀ s₁ mg mb fa o pm cd doc a vs ns G Y ho hd hcd hmg hobj hints hlen hg => ?_
  obtain ⟨K, fd, sp, KX, hb, hsp, hF⟩ := F w mg fa _ Y G.T.g hmg
  exact law_call KX G.T.g G.T.b G.T.builtins G.T.nolimit hg hobj hints (Nat.le_trans hlen hn2) hr hF hb (fun H _ hS => hsp H a ns hlen hS) fun H e s' => cx_end _ _ H s₁ e s'
/-! ### the Hook: the head's facts, a Bool more, the interpreter's statics looked at, too -/
def asY (g : Addr → Option Obj) (n : Nat) : List Addr := He.asD g n ++ [cStatics]
abbrev AlY : Type := He.AlD × Bool
def obsY (n : Nat) (fa : List He.Fa) (fn : List He.DefD) (ex : PySem.W.Frag → Bool) (g : Addr → Option Obj) : AlY := (He.obsD fa fn (He.frT g (asY g n)), ex (He.frT g (asY g n)))
def hookY (n : Nat) (fa : List He.Fa) (fn : List He.DefD) (ex : PySem.W.Frag → Bool) : PySem.W.Hook where
  α := AlY
  obs := fun s => obsY n fa fn ex s.heap.get?
  val := fun _ => (He.valD fn, true)
  says := fun _ h => ∃ K : PySem.W.Frag, K.In h ∧ He.SaysD fa fn K ∧ ex K = true
  of := fun _ _ e => ⟨_, He.frT_in, congrArg (fun z : AlY => z.1) e, congrArg (fun z : AlY => z.2) e⟩
  keeps := fun _ _ _ ⟨K, hK, c⟩ k => ⟨K, PySem.W.Frag.In.keeps hK k, c⟩
theorem obsY_eq {n : Nat} {fa : List He.Fa} {fn : List He.DefD} {ex : PySem.W.Frag → Bool} {g : Addr → Option Obj} {s : Shared} (h : ∀ a, g a = s.heap.get? a) : obsY n fa fn ex g = (hookY n fa fn ex).obs s := by
  have e : g = s.heap.get? := funext h
  rw [e] <;> rfl
end
end RX

set_option Elab.async false
set_option linter.all false
set_option maxRecDepth 100000
set_option maxHeartbeats 2000000
/-! RX: evaluation of the combinators by simp: each is opened only where it is applied. -/
namespace RX
open PySem PySem.Spec PyProof.Rows L2
variable {s : Fm} {st : Sto} {env : List Slot}
@[simp] theorem ap_seq {a b : Fm → Rs Fm Fl} : mSeq a b s = (match a s with | .ok .nx s' => b s' | r => r) := rfl
@[simp] theorem ap_next : mNext s = .ok .nx s := rfl
@[simp] theorem ap_break : mBreak s = .ok .bk s := rfl
@[simp] theorem ap_cont : mCont s = .ok .ct s := rfl
@[simp] theorem ap_if {c : Fm → Rs Sto Bool} {a b : Fm → Rs Fm Fl} : mIf c a b s = (match c s with | .ok true st => a ⟨s.env, st⟩ | .ok false st => b ⟨s.env, st⟩ | .ex c fs st => .ex c fs ⟨s.env, st⟩ | .no => .no) := rfl
@[simp] theorem ap_ret {a : Fm → Rs Sto Val} : mRet a s = (match a s with | .ok w st => .ok (.ret w) ⟨s.env, st⟩ | .ex c fs st => .ex c fs ⟨s.env, st⟩ | .no => .no) := rfl
@[simp] theorem ap_retN : mRetN s = .ok (.ret ⟨.sh, .non⟩) s := rfl
@[simp] theorem ap_drop {a : Fm → Rs Sto Val} : mDrop a s = (match a s with | .ok _ st => .ok .nx ⟨s.env, st⟩ | .ex c fs st => .ex c fs ⟨s.env, st⟩ | .no => .no) := rfl
@[simp] theorem ap_set {i : Nat} {a : Fm → Rs Sto Val} : mSet i a s = (match a s with | .ok w st => storeV i w ⟨s.env, st⟩ | .ex c fs st => .ex c fs ⟨s.env, st⟩ | .no => .no) := rfl
@[simp] theorem ap_setO {i : Nat} {a : Fm → Rs Sto Val} : mSetO i a s = (match a s with | .ok w st => storeW i w ⟨s.env, st⟩ | .ex c fs st => .ex c fs ⟨s.env, st⟩ | .no => .no) := rfl
@[simp] theorem ap_storeV {i : Nat} {d : D} : storeV i ⟨.sh, d⟩ s = .ok .nx ⟨s.env.set i (.v d), s.sto⟩ := rfl
@[simp] theorem ap_storeVf {i : Nat} {d : D} : storeV i ⟨.fr, d⟩ s = .ok .nx ⟨s.env.set i (.v d), s.sto⟩ := rfl
@[simp] theorem ap_storeW {i : Nat} {d : D} : storeW i ⟨.sh, d⟩ s = .ok .nx ⟨s.env.set i (.v d), s.sto⟩ := rfl
@[simp] theorem ap_storeWf {i : Nat} {d : D} : storeW i ⟨.fr, d⟩ s = .ok .nx ⟨s.env.set i (.own d), s.sto⟩ := rfl
theorem ap_var {i : Nat} : mVar i s = (match s.env[i]? with | some (.v d) => .ok ⟨.sh, d⟩ s.sto | some (.own d) => .ok ⟨.ow i, d⟩ s.sto | _ => .no) := rfl
@[simp] theorem ap_var0 {d : D} {e : List Slot} : mVar 0 ⟨.v d :: e, st⟩ = .ok ⟨.sh, d⟩ st := rfl
@[simp] theorem ap_var1 {a : Slot} {d : D} {e : List Slot} : mVar 1 ⟨a :: .v d :: e, st⟩ = .ok ⟨.sh, d⟩ st := rfl
@[simp] theorem ap_var2 {a b : Slot} {d : D} {e : List Slot} : mVar 2 ⟨a :: b :: .v d :: e, st⟩ = .ok ⟨.sh, d⟩ st := rfl
@[simp] theorem ap_var3 {a b c : Slot} {d : D} {e : List Slot} : mVar 3 ⟨a :: b :: c :: .v d :: e, st⟩ = .ok ⟨.sh, d⟩ st := rfl
@[simp] theorem ap_var4 {a b c x : Slot} {d : D} {e : List Slot} : mVar 4 ⟨a :: b :: c :: x :: .v d :: e, st⟩ = .ok ⟨.sh, d⟩ st := rfl
@[simp] theorem ap_var5 {a b c x y : Slot} {d : D} {e : List Slot} : mVar 5 ⟨a :: b :: c :: x :: y :: .v d :: e, st⟩ = .ok ⟨.sh, d⟩ st := rfl
@[simp] theorem ap_var6 {a b c x y z : Slot} {d : D} {e : List Slot} : mVar 6 ⟨a :: b :: c :: x :: y :: z :: .v d :: e, st⟩ = .ok ⟨.sh, d⟩ st := rfl
@[simp] theorem ap_var7 {a b c x y z u : Slot} {d : D} {e : List Slot} : mVar 7 ⟨a :: b :: c :: x :: y :: z :: u :: .v d :: e, st⟩ = .ok ⟨.sh, d⟩ st := rfl
@[simp] theorem ap_var8 {a b c x y z u v : Slot} {d : D} {e : List Slot} : mVar 8 ⟨a :: b :: c :: x :: y :: z :: u :: v :: .v d :: e, st⟩ = .ok ⟨.sh, d⟩ st := rfl
@[simp] theorem ap_var9 {a b c x y z u v w : Slot} {d : D} {e : List Slot} : mVar 9 ⟨a :: b :: c :: x :: y :: z :: u :: v :: w :: .v d :: e, st⟩ = .ok ⟨.sh, d⟩ st := rfl
@[simp] theorem ap_own1 {a : Slot} {d : D} {e : List Slot} : mVar 1 ⟨a :: .own d :: e, st⟩ = .ok ⟨.ow 1, d⟩ st := rfl
@[simp] theorem ap_own2 {a b : Slot} {d : D} {e : List Slot} : mVar 2 ⟨a :: b :: .own d :: e, st⟩ = .ok ⟨.ow 2, d⟩ st := rfl
@[simp] theorem ap_own3 {a b c : Slot} {d : D} {e : List Slot} : mVar 3 ⟨a :: b :: c :: .own d :: e, st⟩ = .ok ⟨.ow 3, d⟩ st := rfl
@[simp] theorem ap_own4 {a b c x : Slot} {d : D} {e : List Slot} : mVar 4 ⟨a :: b :: c :: x :: .own d :: e, st⟩ = .ok ⟨.ow 4, d⟩ st := rfl
@[simp] theorem ap_own5 {a b c x y : Slot} {d : D} {e : List Slot} : mVar 5 ⟨a :: b :: c :: x :: y :: .own d :: e, st⟩ = .ok ⟨.ow 5, d⟩ st := rfl
@[simp] theorem ap_own6 {a b c x y z : Slot} {d : D} {e : List Slot} : mVar 6 ⟨a :: b :: c :: x :: y :: z :: .own d :: e, st⟩ = .ok ⟨.ow 6, d⟩ st := rfl
@[simp] theorem ap_own7 {a b c x y z u : Slot} {d : D} {e : List Slot} : mVar 7 ⟨a :: b :: c :: x :: y :: z :: u :: .own d :: e, st⟩ = .ok ⟨.ow 7, d⟩ st := rfl
@[simp] theorem ap_c {d : D} : mC d s = .ok ⟨.sh, d⟩ s.sto := rfl
@[simp] theorem ap_op {f : D → D → Option Val} {a b : Fm → Rs Sto Val} : mOp f a b s = ((a s).bind fun x st => (b ⟨s.env, st⟩).bind fun y st' => ofO (f x.d y.d) st') := rfl
@[simp] theorem ap_un {f : D → Option Val} {a : Fm → Rs Sto Val} : mUn f a s = ((a s).bind fun x st => ofO (f x.d) st) := rfl
@[simp] theorem ap_ofO {w : Val} : ofO (some w) st = .ok w st := rfl
@[simp] theorem ap_ofN : ofO none st = .no := rfl
@[simp] theorem ap_nil : mNil s = .ok [] s.sto := rfl
@[simp] theorem ap_cons {a : Fm → Rs Sto Val} {b : Fm → Rs Sto (List Val)} : mCons a b s = ((a s).bind fun x st => (b ⟨s.env, st⟩).bind fun ys st' => .ok (settle x :: ys) st') := rfl
@[simp] theorem ap_settle {d : D} : settle ⟨.sh, d⟩ = ⟨.sh, d⟩ := rfl
@[simp] theorem ap_settleF {d : D} : settle ⟨.fr, d⟩ = ⟨.sh, d⟩ := rfl
@[simp] theorem ap_settleO {i : Nat} {d : D} : settle ⟨.ow i, d⟩ = ⟨.ow i, d⟩ := rfl
@[simp] theorem ap_cb {f : List D → Option Val} {a : Fm → Rs Sto (List Val)} : mCB f a s = ((a s).bind fun xs st => ofO (f (xs.map Val.d)) st) := rfl
@[simp] theorem ap_tup {a : Fm → Rs Sto (List Val)} : mTup a s = ((a s).bind fun xs st => match allSh xs with | some ds => if ds.length ≤ line then .ok ⟨.sh, .tup ds⟩ st else .no | none => .no) := rfl
@[simp] theorem ap_lst {a : Fm → Rs Sto (List Val)} : mLst a s = ((a s).bind fun xs st => match allSh xs with | some ds => if ds.length ≤ line then .ok ⟨.fr, .lst ds⟩ st else .no | none => .no) := rfl
@[simp] theorem allSh_nil : allSh [] = some [] := rfl
@[simp] theorem allSh_cons {d : D} {ws : List Val} : allSh (⟨.sh, d⟩ :: ws) = (allSh ws).map (d :: ·) := rfl
@[simp] theorem ap_b {a : Fm → Rs Sto Val} : mB a s = (a s).bind asB := rfl
@[simp] theorem ap_asB {k : Kd} {b : Bool} : asB ⟨k, .bl b⟩ st = .ok b st := rfl
@[simp] theorem ap_and {a b : Fm → Rs Sto Bool} : mAnd a b s = ((a s).bind fun x st => if x = true then b ⟨s.env, st⟩ else .ok false st) := rfl
@[simp] theorem ap_or {a b : Fm → Rs Sto Bool} : mOr a b s = ((a s).bind fun x st => if x = true then .ok true st else b ⟨s.env, st⟩) := rfl
@[simp] theorem ap_not {a : Fm → Rs Sto Bool} : mNot a s = ((a s).bind fun x st => .ok (!x) st) := rfl
@[simp] theorem ap_andV {a b : Fm → Rs Sto Val} : mAndV a b s = ((a s).bind fun x st => match x.d with | .bl true => b ⟨s.env, st⟩ | .bl false => .ok ⟨.sh, .bl false⟩ st | _ => .no) := rfl
@[simp] theorem ap_orV {a b : Fm → Rs Sto Val} : mOrV a b s = ((a s).bind fun x st => match x.d with | .bl true => .ok ⟨.sh, .bl true⟩ st | .bl false => b ⟨s.env, st⟩ | _ => .no) := rfl
@[simp] theorem ap_notV {a : Fm → Rs Sto Val} : mNotV a s = ((a s).bind fun x st => match x.d with | .bl c => .ok ⟨.sh, .bl (!c)⟩ st | _ => .no) := rfl
@[simp] theorem ap_ifE {c : Fm → Rs Sto Bool} {a b : Fm → Rs Sto Val} : mIfE c a b s = ((c s).bind fun x st => if x = true then a ⟨s.env, st⟩ else b ⟨s.env, st⟩) := rfl
@[simp] theorem ap_chain {f g : D → D → Option Val} {a b c : Fm → Rs Sto Val} : mChain f g a b c s = ((a s).bind fun x st => (b ⟨s.env, st⟩).bind fun y st => match f x.d y.d with | some ⟨.sh, .bl true⟩ => (c ⟨s.env, st⟩).bind fun z st => ofO (g y.d z.d) st | some ⟨.sh, .bl false⟩ => .ok ⟨.sh, .bl false⟩ st | _ => .no) := rfl
@[simp] theorem ap_tru {a : Fm → Rs Sto Val} : mTru' a s = ((a s).bind fun w st => match truD' w.d with | some b => .ok b st | none => .no) := rfl
@[simp] theorem ap_call0 {f : List D → Sto → Rs Sto Val} {a : Fm → Rs Sto (List Val)} : mCall0 f a s = ((a s).bind fun ws st => noEx (callW f ws [] st)) := rfl
@[simp] theorem ap_call {f : List D → Sto → Rs Sto Val} {a : Fm → Rs Sto (List Val)} : mCall f [] a s = ((a s).bind fun ws st => callW f ws [] st) := rfl
@[simp] theorem noEx_ok {w : Val} : noEx (.ok w st) = .ok w st := rfl
@[simp] theorem isOw_sh {d : D} : isOw ⟨.sh, d⟩ = false := rfl
@[simp] theorem isOw_fr {d : D} : isOw ⟨.fr, d⟩ = false := rfl
@[simp] theorem isOw_ow {i : Nat} {d : D} : isOw ⟨.ow i, d⟩ = true := rfl
/-- a call of shared arguments -/
theorem callW_sh {f : List D → Sto → Rs Sto Val} {ws : List Val} {r : Rs Sto Val} (h : f (ws.map Val.d ++ []) st = r) (ho : ws.any isOw = false) : callW f ws [] st = r := by
  unfold callW
  rw [h, ho]
  cases r <;> simp
theorem callW_sh' {f : List D → Sto → Rs Sto Val} {ws : List Val} (ho : ws.any isOw = false) : callW f ws [] st = f (ws.map Val.d) st := by
  rw [callW_sh (r := f (ws.map Val.d) st) (by rw [List.append_nil]) ho]
@[simp] theorem ap_for {src : Fm → Rs Sto (List D)} {tg : D → Fm → Option Fm} {b : Fm → Rs Fm Fl} : mFor src tg b s = (match src s with | .ok ds st => forD tg b ds ⟨s.env, st⟩ | .ex c fs st => .ex c fs ⟨s.env, st⟩ | .no => .no) := rfl
@[simp] theorem ap_gN {i : Nat} {d : D} : gN i d s = some ⟨s.env.set i (.v d), s.sto⟩ := rfl
/-- the items of a range of told bounds -/
def rngR (ws : List Val) (st : Sto) : Rs Sto (List D) := match ws.map Val.d with
  | [.int j] => if smR j = true then .ok (rngD 0 j.toNat) st else .no
  | [.int i, .int j] => if smR i = true ∧ smR j = true then .ok (rngD i (j - i).toNat) st else .no
  | _ => .no
@[simp] theorem ap_rng {a : Fm → Rs Sto (List Val)} : mRng a s = ((a s).bind fun ws st => rngR ws st) := rfl
theorem smR_of {n : Int} (h0 : -1000 ≤ n) (h : n ≤ 1000000) : smR n = true := by
  unfold smR
  exact Nat.ble_eq_true_of_le (by omega)
@[simp] theorem rngR_1 {k : Kd} {n : Int} (h0 : -1000 ≤ n) (h : n ≤ 1000000) : rngR [⟨k, .int n⟩] st = .ok (rngD 0 n.toNat) st := by
  have b := smR_of h0 h
  show (if smR n = true then _ else _) = _
  rw [if_pos b]
@[simp] theorem rngR_2 {k k' : Kd} {i n : Int} (h0 : -1000 ≤ n) (h : n ≤ 1000000) (h1 : -1000 ≤ i) (h2 : i ≤ 1000000) : rngR [⟨k, .int i⟩, ⟨k', .int n⟩] st = .ok (rngD i (n - i).toNat) st := by
  have b := smR_of h0 h
  have b' := smR_of h1 h2
  show (if smR i = true ∧ smR n = true then _ else _) = _
  rw [if_pos ⟨b', b⟩]
@[simp] theorem ap_src {f : D → Option (List D)} {a : Fm → Rs Sto Val} : mSrc f a s = ((a s).bind fun w st => match w.k with
  | .ow _ => .no
  | _ => match f w.d with
    | some ds => .ok ds st
    | none => .no) := rfl
@[simp] theorem isSto_v {e : List Slot} : isSto (.v .sto :: e) = true := rfl
@[simp] theorem ap_stoGet {i : Int} : mStoGet i s = (if isSto s.env = true then match stoGet s.sto i with | some v => .ok ⟨.sh, .int v⟩ s.sto | none => .no else .no) := rfl
@[simp] theorem ap_stoCell : mStoCell s = (if isSto s.env = true then match L2.atI s.sto.cells s.sto.p with | some v => .ok ⟨.sh, .int v⟩ s.sto | none => .no else .no) := rfl
@[simp] theorem ap_stoLen : mStoLen s = (if isSto s.env = true then .ok ⟨.sh, .int (s.sto.cells.length : Nat)⟩ s.sto else .no) := rfl
@[simp] theorem ap_stoSet {i : Int} {a : Fm → Rs Sto Val} : mStoSet i a s = (if isSto s.env = true then match a s with | .ok w st => (match w.d with | .int v => (match stoPut st v i with | some st => .ok .nx ⟨s.env, st⟩ | none => .no) | _ => .no) | .ex c fs st => .ex c fs ⟨s.env, st⟩ | .no => .no else .no) := rfl
@[simp] theorem ap_stoAug {i : Int} {a : Fm → Rs Sto Val} : mStoAug i a s = (if isSto s.env = true then match stoGet s.sto i with | some old => (match a s with | .ok w st => (match w.d with | .int v => (match stoPut st (old + v) i with | some st => .ok .nx ⟨s.env, st⟩ | none => .no) | _ => .no) | .ex c fs st => .ex c fs ⟨s.env, st⟩ | .no => .no) | none => .no else .no) := rfl
@[simp] theorem stoGet1 : stoGet st 1 = some st.p := rfl
@[simp] theorem stoGet2 : stoGet st 2 = some st.q := rfl
@[simp] theorem stoGet3 : stoGet st 3 = some st.r := rfl
@[simp] theorem stoGet4 : stoGet st 4 = some st.s := rfl
@[simp] theorem stoGet5 : stoGet st 5 = some st.t := rfl
@[simp] theorem stoPut1 {v : Int} : stoPut st v 1 = some { st with p := v } := rfl
@[simp] theorem stoPut2 {v : Int} : stoPut st v 2 = some { st with q := v } := rfl
@[simp] theorem stoPut3 {v : Int} : stoPut st v 3 = some { st with r := v } := rfl
@[simp] theorem stoPut4 {v : Int} : stoPut st v 4 = some { st with s := v } := rfl
@[simp] theorem stoPut5 {v : Int} : stoPut st v 5 = some { st with t := v } := rfl
/-! ### operations on data -/
@[simp] theorem dAdd_ii {i j : Int} : dAdd (.int i) (.int j) = shI (i + j) := rfl
@[simp] theorem dSub_ii {i j : Int} : dSub (.int i) (.int j) = shI (i - j) := rfl
@[simp] theorem dLt_ii {i j : Int} : dLt (.int i) (.int j) = shB (decide (i < j)) := rfl
@[simp] theorem dLe_ii {i j : Int} : dLe (.int i) (.int j) = shB (decide (i ≤ j)) := rfl
@[simp] theorem dGt_ii {i j : Int} : dGt (.int i) (.int j) = shB (decide (j < i)) := rfl
@[simp] theorem dGe_ii {i j : Int} : dGe (.int i) (.int j) = shB (decide (j ≤ i)) := rfl
@[simp] theorem dEq_ii {i j : Int} : dEq (.int i) (.int j) = shB (decide (i = j)) := rfl
@[simp] theorem dNe_ii {i j : Int} : dNe (.int i) (.int j) = shB (!decide (i = j)) := rfl
theorem dMul_l {i j : Int} (h : small64 i = true) : dMul (.int i) (.int j) = shI (i * j) := by simp [dMul, h]
theorem dMul_r {i j : Int} (h : small64 j = true) : dMul (.int i) (.int j) = shI (i * j) := by simp [dMul, h]
theorem dMod_p {i j : Int} (h : 0 < j) : dMod (.int i) (.int j) = shI (i % j) := by simp [dMod, fI2, h]
theorem dFdiv_s {i j : Int} (h : 0 < j) (h' : j < 1073741824) : dFdivW (.int i) (.int j) = shI (i / j) := by simp [dFdivW, fI2, h, h']
theorem dFdiv_w {i j : Int} (h : 0 < j) (h' : j.natAbs.log2 < 9000) : dFdivW (.int i) (.int j) = shI (i / j) := by simp [dFdivW, fI2, h, h']
@[simp] theorem dInt_i {i : Int} : dInt [.int i] = shI i := rfl
@[simp] theorem dAbs_i {i : Int} : dAbs [.int i] = shI (if i < 0 then -i else i) := rfl
@[simp] theorem dMax_ii {i j : Int} : dMax [.int i, .int j] = shI (if j > i then j else i) := rfl
@[simp] theorem dMin_ii {i j : Int} : dMinB [.int i, .int j] = shI (if j < i then j else i) := rfl
@[simp] theorem startE_1 {d : D} {n : Nat} : startE (n + 1) [d] = .v d :: List.replicate n .emp := by simp [startE]
@[simp] theorem startE_2 {d e : D} {n : Nat} : startE (n + 2) [d, e] = .v d :: .v e :: List.replicate n .emp := by simp [startE]
@[simp] theorem startE_3 {d e f : D} {n : Nat} : startE (n + 3) [d, e, f] = .v d :: .v e :: .v f :: List.replicate n .emp := by simp [startE]
@[simp] theorem outF_ret {d : D} : outF (.ok (.ret ⟨.sh, d⟩) s) = .ok ⟨.sh, d⟩ s.sto := rfl
@[simp] theorem outF_retF {d : D} : outF (.ok (.ret ⟨.fr, d⟩) s) = .ok ⟨.fr, d⟩ s.sto := rfl
@[simp] theorem outF_retO {i : Nat} {d : D} : outF (.ok (.ret ⟨.ow i, d⟩) s) = .ok ⟨.fr, d⟩ s.sto := rfl
@[simp] theorem outF_nx : outF (.ok .nx s) = .ok ⟨.sh, .non⟩ s.sto := rfl
@[simp] theorem dLen_l {ds : List D} : dLen [.lst ds] = shI ds.length := rfl
@[simp] theorem dLen_t {ds : List D} : dLen [.tup ds] = shI ds.length := rfl
@[simp] theorem dLen_d {ds : List (Key × D)} : dLen [.dic ds] = shI ds.length := rfl
theorem dLen_s {z : Str} (h : z.length ≤ line) : dLen [.str z] = shI z.length := by simp [dLen, h]
@[simp] theorem dTuple_l {ds : List D} : dTuple [.lst ds] = shV (.tup ds) := rfl
@[simp] theorem dTuple_t {ds : List D} : dTuple [.tup ds] = shV (.tup ds) := rfl
@[simp] theorem dListB_l {ds : List D} : dListB [.lst ds] = some ⟨.fr, .lst ds⟩ := rfl
@[simp] theorem dListB_t {ds : List D} : dListB [.tup ds] = some ⟨.fr, .lst ds⟩ := rfl
@[simp] theorem dListB_d {ds : List (Key × D)} : dListB [.dic ds] = some ⟨.fr, .lst (ds.map fun kv => kD kv.1)⟩ := rfl
@[simp] theorem dIx_l {ds : List D} {i : Int} : dIx (.lst ds) (.int i) = (L2.atI ds i).map fun d => ⟨.sh, d⟩ := rfl
@[simp] theorem dIx_t {ds : List D} {i : Int} : dIx (.tup ds) (.int i) = (L2.atI ds i).map fun d => ⟨.sh, d⟩ := rfl
@[simp] theorem dSl_l {ds : List D} {lo hi : Option Int} : dSl (.lst ds) lo hi = some ⟨.fr, .lst (cut ds lo hi)⟩ := rfl
@[simp] theorem dSl_t {ds : List D} {lo hi : Option Int} : dSl (.tup ds) lo hi = shV (.tup (cut ds lo hi)) := rfl
theorem dSl_s {z : Str} {lo hi : Option Int} (h : z.length ≤ line) : dSl (.str z) lo hi = shV (.str (cutS z lo hi)) := by simp [dSl, h]
theorem dAdd_s {a b : Str} (h : a.length + b.length ≤ line) : dAdd (.str a) (.str b) = shV (.str (a ++ b)) := by simp [dAdd, h]
theorem dAdd_l {a b : List D} (h : a.length + b.length ≤ line) : dAdd (.lst a) (.lst b) = some ⟨.fr, .lst (a ++ b)⟩ := by simp [dAdd, h]
@[simp] theorem ap_sl {f : D → Option Int → Option Int → Option Val} {a : Fm → Rs Sto Val} {l u : Fm → Rs Sto (Option Int)} : mSl f a l u s = ((a s).bind fun w st => (l ⟨s.env, st⟩).bind fun lo st => (u ⟨s.env, st⟩).bind fun hi st => ofO (f w.d lo hi) st) := rfl
@[simp] theorem ap_noPart : mNoPart s = .ok none s.sto := rfl
@[simp] theorem ap_part {a : Fm → Rs Sto Val} : mPart a s = ((a s).bind fun w st => match w.d with | .int i => .ok (some i) st | _ => .no) := rfl
@[simp] theorem ap_mut {i : Nat} {f : List D → List D → Option (List D × D)} {as : Fm → Rs Sto (List Val)} : mMut i f as s = (match ownL s.env i with
  | none => .no
  | some ds => match as s with
    | .ok ws st => (match allSh ws with
      | none => .no
      | some es => match f ds es with
        | none => .no
        | some (ds', d) => .ok .nx ⟨s.env.set i (.own (.lst ds')), st⟩)
    | .ex c fs st => .ex c fs ⟨s.env, st⟩
    | .no => .no) := rfl
@[simp] theorem ownL_1 {a : Slot} {ds : List D} {e : List Slot} : ownL (a :: .own (.lst ds) :: e) 1 = some ds := rfl
@[simp] theorem ownL_2 {a b : Slot} {ds : List D} {e : List Slot} : ownL (a :: b :: .own (.lst ds) :: e) 2 = some ds := rfl
@[simp] theorem ownL_3 {a b c : Slot} {ds : List D} {e : List Slot} : ownL (a :: b :: c :: .own (.lst ds) :: e) 3 = some ds := rfl
@[simp] theorem ownL_4 {a b c x : Slot} {ds : List D} {e : List Slot} : ownL (a :: b :: c :: x :: .own (.lst ds) :: e) 4 = some ds := rfl
@[simp] theorem ownL_5 {a b c x y : Slot} {ds : List D} {e : List Slot} : ownL (a :: b :: c :: x :: y :: .own (.lst ds) :: e) 5 = some ds := rfl
@[simp] theorem ownL_6 {a b c x y z : Slot} {ds : List D} {e : List Slot} : ownL (a :: b :: c :: x :: y :: z :: .own (.lst ds) :: e) 6 = some ds := rfl
@[simp] theorem ownL_7 {a b c x y z u : Slot} {ds : List D} {e : List Slot} : ownL (a :: b :: c :: x :: y :: z :: u :: .own (.lst ds) :: e) 7 = some ds := rfl
theorem fAppend_ok {ds : List D} {d : D} (h : ds.length < line) : fAppend ds [d] = some (ds ++ [d], .non) := by simp [fAppend, h]
@[simp] theorem ap_appendPop {i j : Nat} {as : Fm → Rs Sto (List Val)} : mAppendPop i j as s = (match ownL s.env i with
  | none => .no
  | some _ => mMutG j fPopAt as (fun d s1 => match ownL s1.env i with
    | some ds => if ds.length < line then .ok .nx ⟨s1.env.set i (.own (.lst (ds ++ [d]))), s1.sto⟩ else .no
    | none => .no) s) := rfl
@[simp] theorem ap_mutG {β : Type} {i : Nat} {f : List D → List D → Option (List D × D)} {as : Fm → Rs Sto (List Val)} {g : D → Fm → Rs Fm β} : mMutG i f as g s = (match ownL s.env i with
  | none => .no
  | some ds => match as s with
    | .ok ws st => (match allSh ws with
      | none => .no
      | some es => match f ds es with
        | none => .no
        | some (ds', d) => g d ⟨s.env.set i (.own (.lst ds')), st⟩)
    | .ex c fs st => .ex c fs ⟨s.env, st⟩
    | .no => .no) := rfl
end RX

set_option Elab.async false
set_option linter.all false
set_option maxRecDepth 100000
set_option maxHeartbeats 1000000
/-! RX: any, all of a list of truth values. -/
namespace RX
open PySem PySem.Spec PyProof.Rows L2
section
variable {K : PySem.W.Frag}
def boolsD : List D → Option (List Bool)
  | [] => some []
  | .bl b :: ds => (boolsD ds).map (b :: ·)
  | _ :: _ => none
theorem boolsD_rep {a0 : Addr} {F : Hp} : ∀ {vs : List V} {ds : List D} {bs : List Bool}, RepL K a0 F vs ds → boolsD ds = some bs → vs = bs.map V.bl
  | [], [], _, _, e => by cases e; rfl
  | [], _ :: _, _, h, _ => h.elim
  | _ :: _, [], _, h, _ => h.elim
  | v :: vs, d :: ds, bs, ⟨h, r⟩, e => by
    cases d with
    | bl b =>
      have e : (boolsD ds).map (b :: ·) = some bs := e
      obtain ⟨cs, e1, e2⟩ := Option.map_eq_some_iff.mp e
      subst e2
      rw [List.map_cons, ← boolsD_rep r e1]
      cases (show v = .bl b from h)
      rfl
    | _ => cases e
@[simp] theorem boolsD_map : ∀ bs : List Bool, boolsD (bs.map D.bl) = some bs
  | [] => rfl
  | b :: bs => by rw [List.map_cons, boolsD, boolsD_map bs]; rfl
def dAny : List D → Option Val
  | [.lst ds] => (boolsD ds).map fun bs => ⟨.sh, .bl (bs.any id)⟩
  | _ => none
def dAll : List D → Option Val
  | [.lst ds] => (boolsD ds).map fun bs => ⟨.sh, .bl (bs.all id)⟩
  | _ => none
theorem sc_any : SCall K (rAny K) dAny := fun a0 F H xs ds w Q s rx q k => by
  unfold dAny at q
  split at q
  · next es =>
    cases h : boolsD es with
    | none => rw [h] at q; cases q
    | some bs =>
      rw [h] at q
      cases q
      obtain ⟨v, rfl, p, vs, rfl, hp, rl⟩ := rhl1 rx
      exact ⟨p, bs, rfl, SqL.of (by rw [← boolsD_rep rl h]; exact hp), k _ H (.old rfl)⟩
  · cases q
theorem sc_all : SCall K (rAll K) dAll := fun a0 F H xs ds w Q s rx q k => by
  unfold dAll at q
  split at q
  · next es =>
    cases h : boolsD es with
    | none => rw [h] at q; cases q
    | some bs =>
      rw [h] at q
      cases q
      obtain ⟨v, rfl, p, vs, rfl, hp, rl⟩ := rhl1 rx
      exact ⟨p, bs, rfl, SqL.of (by rw [← boolsD_rep rl h]; exact hp), k _ H (.old rfl)⟩
  · cases q
end
section
variable {X : Cx}
theorem pe_methW {CX : CXT} {k : Nat} {C f : Addr} {ps : List Str} {sp : Sp} {E : L2.St → XK} {m : Str} {pos apos : Pos} {o e : Expr} {es : List Expr} {ta : TE} {t : TA} {pl : Sem Bool} (G : Good X.prog X.w X.K X.mg X.base CX k f ps sp) (he : PE X o ta) (c : Cls X.K C) (hm : Meth X.K C m f) (hr : Room k X.A) (hx : ∀ σ, PassesAt CX X σ (E σ)) (ha : PA X (e :: es) t)
    (hst : starEach (e :: es) X.env = (false, eval e X.env) :: starEach es X.env := by rfl) (hpl : (backTo pos (starEach es X.env)).any (·.1) = false := by rfl)
    (ht : eval (.Call (.Attribute o m apos) (e :: es) [] pos) X.env = (do
      let ov ← eval o X.env
      standAt apos.atName
      let (f, first) ← holding [ov] (getMethod ov m pl)
      callWith pos f first (backTo pos (starEach (e :: es) X.env)) (backToKw pos (keywordEach [] X.env))) := by rfl) :
    PE X (.Call (.Attribute o m apos) (e :: es) [] pos) (tMethW C m sp E ta t) := by
  obtain ⟨fd, F, hb, _⟩ := G
  refine ⟨fun pins s σ H Q I h => ?_⟩
  refine PySem.W.methodCall_KW (pl := pl) (thn (he.run pins s σ H _ I h) fun u s1 hh => ?_) ht
  obtain ⟨x, H1, I1, rx, a, dx, fs, ex, ea, l, q⟩ := hh
  subst ex
  obtain rfl : u = Value.ref a := rx
  refine getmeth_ok I1 ea c hm l ?_
  refine PySem.W.callWith_K (first := [.ref a]) (h₀ := X.base) I1.ok.mod.kin hm.kp (thn (ha.run pos pins s1 σ H1 _ I1 q) fun us s2 ⟨vs, H2, I2, r, q2⟩ => ⟨I2.kIn, ?_⟩) hst hpl
  exact run_fnS (us := .ref a :: us) (vs := .ref a :: vs) F hr hb (hx σ) I2 (.cons rfl r) q2
end
end RX

set_option Elab.async false
set_option linter.all false
set_option maxRecDepth 100000
set_option maxHeartbeats 0
namespace Lk52
open PySem PySem.Spec PyProof.Rows L2 RX
def st (i : Nat) : Stmt := PySem.Challenge.pw_nestweigh_k52_spoilt_bounds.main.body.getD i (.Pass ⟨0, 0, 0, 0⟩)
def mst (i j : Nat) : Stmt := match st i with
  | .ClassDef _ _ _ b _ _ _ _ _ _ _ => b.getD j (.Pass ⟨0, 0, 0, 0⟩)
  | s => s
def tabX : List (Str × Str × Bool) := [("TooMany", "BadCount", false), ("TooMany", "BadNumber", false), ("TooMany", "NestError", true), ("TooMany", "Refusal", false)]
structure Ft (K : PySem.W.Frag) (mg : Str → Option Value) : Prop where
  cc_Web_MOST_SEARCHED : ∃ u, Con K (cl K "Web") "MOST_SEARCHED" (.int 6) u
  g_BadCount : mg "BadCount" = some (.ref (cl K "BadCount"))
  g_BadNumber : mg "BadNumber" = some (.ref (cl K "BadNumber"))
  g_NestError : mg "NestError" = some (.ref (cl K "NestError"))
  g_Refusal : mg "Refusal" = some (.ref (cl K "Refusal"))
  g_TooMany : mg "TooMany" = some (.ref (cl K "TooMany"))
  g_Web : mg "Web" = some (.ref (cl K "Web"))
  k_Web : Cls K (cl K "Web")
  c_LETTERS : ∃ t, mg "LETTERS" = some (.str "abcdefghijklmnopqrstuvwxyz" t)
  c_MOST_ARROWS : ∃ t, mg "MOST_ARROWS" = some (.int 12 t)
  c_MOST_SIGNS : ∃ t, mg "MOST_SIGNS" = some (.int 8 t)
  c_SIGNS : ∃ t, mg "SIGNS" = some (.str "abcdefghijklmnopqrstuvwxyz0123456789" t)
  d_TooManyd__initd_ : ∃ fd, FunD K "__init__" "TooMany.__init__" (defArgs (mst 10 0)) (defBody (mst 10 0)) (defScope (mst 10 0)) [] [] (He.fAd K ("TooMany", some "__init__")) fd
  d_Webd__initd_ : ∃ fd, FunD K "__init__" "Web.__init__" (defArgs (mst 27 1)) (defBody (mst 27 1)) (defScope (mst 27 1)) [] [] (He.fAd K ("Web", some "__init__")) fd
  d_Webd__lend_ : ∃ fd, FunD K "__len__" "Web.__len__" (defArgs (mst 27 4)) (defBody (mst 27 4)) (defScope (mst 27 4)) [] [] (He.fAd K ("Web", some "__len__")) fd
  d_Web_is_bound : ∃ fd, FunD K "is_bound" "Web.is_bound" (defArgs (mst 27 12)) (defBody (mst 27 12)) (defScope (mst 27 12)) [] [] (He.fAd K ("Web", some "is_bound")) fd
  d_l_agrees : ∃ fd, FunD K "_law_agrees" "_law_agrees" (defArgs (st 58)) (defBody (st 58)) (defScope (st 58)) [] [] (He.fAd K ("_law_agrees", none)) fd
  d_l_arrows : ∃ fd, FunD K "_law_arrows" "_law_arrows" (defArgs (st 48)) (defBody (st 48)) (defScope (st 48)) [] [] (He.fAd K ("_law_arrows", none)) fd
  d_l_base : ∃ fd, FunD K "_law_base" "_law_base" (defArgs (st 55)) (defBody (st 55)) (defScope (st 55)) [] [] (He.fAd K ("_law_base", none)) fd
  d_l_bent : ∃ fd, FunD K "_law_bent" "_law_bent" (defArgs (st 47)) (defBody (st 47)) (defScope (st 47)) [] [] (He.fAd K ("_law_bent", none)) fd
  d_l_circuit_sets : ∃ fd, FunD K "_law_circuit_sets" "_law_circuit_sets" (defArgs (st 50)) (defBody (st 50)) (defScope (st 50)) [] [] (He.fAd K ("_law_circuit_sets", none)) fd
  d_l_copy : ∃ fd, FunD K "_law_copy" "_law_copy" (defArgs (st 45)) (defBody (st 45)) (defScope (st 45)) [] [] (He.fAd K ("_law_copy", none)) fd
  d_l_is_bound : ∃ fd, FunD K "_law_is_bound" "_law_is_bound" (defArgs (st 52)) (defBody (st 52)) (defScope (st 52)) [] [] (He.fAd K ("_law_is_bound", none)) fd
  d_l_is_integer : ∃ fd, FunD K "_law_is_integer" "_law_is_integer" (defArgs (st 43)) (defBody (st 43)) (defScope (st 43)) [] [] (He.fAd K ("_law_is_integer", none)) fd
  d_l_is_trail : ∃ fd, FunD K "_law_is_trail" "_law_is_trail" (defArgs (st 49)) (defBody (st 49)) (defScope (st 49)) [] [] (He.fAd K ("_law_is_trail", none)) fd
  d_l_mix : ∃ fd, FunD K "_law_mix" "_law_mix" (defArgs (st 30)) (defBody (st 30)) (defScope (st 30)) [] [] (He.fAd K ("_law_mix", none)) fd
  d_l_name : ∃ fd, FunD K "_law_name" "_law_name" (defArgs (st 39)) (defBody (st 39)) (defScope (st 39)) [] [] (He.fAd K ("_law_name", none)) fd
  d_l_name_like : ∃ fd, FunD K "_law_name_like" "_law_name_like" (defArgs (st 41)) (defBody (st 41)) (defScope (st 41)) [] [] (He.fAd K ("_law_name_like", none)) fd
  d_l_name_of : ∃ fd, FunD K "_law_name_of" "_law_name_of" (defArgs (st 38)) (defBody (st 38)) (defScope (st 38)) [] [] (He.fAd K ("_law_name_of", none)) fd
  d_l_names : ∃ fd, FunD K "_law_names" "_law_names" (defArgs (st 42)) (defBody (st 42)) (defScope (st 42)) [] [] (He.fAd K ("_law_names", none)) fd
  d_l_number : ∃ fd, FunD K "_law_number" "_law_number" (defArgs (st 32)) (defBody (st 32)) (defScope (st 32)) [] [] (He.fAd K ("_law_number", none)) fd
  d_l_odd : ∃ fd, FunD K "_law_odd" "_law_odd" (defArgs (st 46)) (defBody (st 46)) (defScope (st 46)) [] [] (He.fAd K ("_law_odd", none)) fd
  d_l_pick : ∃ fd, FunD K "_law_pick" "_law_pick" (defArgs (st 33)) (defBody (st 33)) (defScope (st 33)) [] [] (He.fAd K ("_law_pick", none)) fd
  d_l_put : ∃ fd, FunD K "_law_put" "_law_put" (defArgs (st 36)) (defBody (st 36)) (defScope (st 36)) [] [] (He.fAd K ("_law_put", none)) fd
  d_l_refused : ∃ fd, FunD K "_law_refused" "_law_refused" (defArgs (st 57)) (defBody (st 57)) (defScope (st 57)) [] [] (He.fAd K ("_law_refused", none)) fd
  d_l_row_of : ∃ fd, FunD K "_law_row_of" "_law_row_of" (defArgs (st 35)) (defBody (st 35)) (defScope (st 35)) [] [] (He.fAd K ("_law_row_of", none)) fd
  d_l_rows : ∃ fd, FunD K "_law_rows" "_law_rows" (defArgs (st 53)) (defBody (st 53)) (defScope (st 53)) [] [] (He.fAd K ("_law_rows", none)) fd
  d_l_same : ∃ fd, FunD K "_law_same" "_law_same" (defArgs (st 44)) (defBody (st 44)) (defScope (st 44)) [] [] (He.fAd K ("_law_same", none)) fd
  d_l_shuffled : ∃ fd, FunD K "_law_shuffled" "_law_shuffled" (defArgs (st 34)) (defBody (st 34)) (defScope (st 34)) [] [] (He.fAd K ("_law_shuffled", none)) fd
  d_l_sign : ∃ fd, FunD K "_law_sign" "_law_sign" (defArgs (st 37)) (defBody (st 37)) (defScope (st 37)) [] [] (He.fAd K ("_law_sign", none)) fd
  d_l_spoilt : ∃ fd, FunD K "_law_spoilt" "_law_spoilt" (defArgs (st 56)) (defBody (st 56)) (defScope (st 56)) [] [] (He.fAd K ("_law_spoilt", none)) fd
  d_l_store : ∃ fd, FunD K "_law_store" "_law_store" (defArgs (st 29)) (defBody (st 29)) (defScope (st 29)) [] [] (He.fAd K ("_law_store", none)) fd
  d_l_take : ∃ fd, FunD K "_law_take" "_law_take" (defArgs (st 31)) (defBody (st 31)) (defScope (st 31)) [] [] (He.fAd K ("_law_take", none)) fd
  d_l_unlike : ∃ fd, FunD K "_law_unlike" "_law_unlike" (defArgs (st 40)) (defBody (st 40)) (defScope (st 40)) [] [] (He.fAd K ("_law_unlike", none)) fd
  d_l_web : ∃ fd, FunD K "_law_web" "_law_web" (defArgs (st 54)) (defBody (st 54)) (defScope (st 54)) [] [] (He.fAd K ("_law_web", none)) fd
  d_l_web_table : ∃ fd, FunD K "_law_web_table" "_law_web_table" (defArgs (st 51)) (defBody (st 51)) (defScope (st 51)) [] [] (He.fAd K ("_law_web_table", none)) fd
  d_is_name : ∃ fd, FunD K "is_name" "is_name" (defArgs (st 15)) (defBody (st 15)) (defScope (st 15)) [] [] (He.fAd K ("is_name", none)) fd
  d_is_whole : ∃ fd, FunD K "is_whole" "is_whole" (defArgs (st 19)) (defBody (st 19)) (defScope (st 19)) [] [] (He.fAd K ("is_whole", none)) fd
  d_law : ∃ fd, FunD K "law" "law" (defArgs (st 59)) (defBody (st 59)) (defScope (st 59)) [] [] (He.fAd K ("law", none)) fd
  d_require_arrow : ∃ fd, FunD K "require_arrow" "require_arrow" (defArgs (st 20)) (defBody (st 20)) (defScope (st 20)) [] [] (He.fAd K ("require_arrow", none)) fd
  d_require_balance : ∃ fd, FunD K "require_balance" "require_balance" (defArgs (st 21)) (defBody (st 21)) (defScope (st 21)) [] [] (He.fAd K ("require_balance", none)) fd
  d_require_searchable : ∃ fd, FunD K "require_searchable" "require_searchable" (defArgs (st 22)) (defBody (st 22)) (defScope (st 22)) [] [] (He.fAd K ("require_searchable", none)) fd
  d_ring_of : ∃ fd, FunD K "ring_of" "ring_of" (defArgs (st 23)) (defBody (st 23)) (defScope (st 23)) [] [] (He.fAd K ("ring_of", none)) fd
  d_rings_of : ∃ fd, FunD K "rings_of" "rings_of" (defArgs (st 24)) (defBody (st 24)) (defScope (st 24)) [] [] (He.fAd K ("rings_of", none)) fd
  d_valid_name : ∃ fd, FunD K "valid_name" "valid_name" (defArgs (st 16)) (defBody (st 16)) (defScope (st 16)) [] [] (He.fAd K ("valid_name", none)) fd
  xc_TooMany : ExcC K (cl K "TooMany")
  em_TooMany : PySem.W.exmOne K (.ref (cl K "TooMany")) (.ref (cl K "TooMany")) = some true
  n_abs : mg "abs" = none
  n_all : mg "all" = none
  n_any : mg "any" = none
  n_bool : mg "bool" = none
  n_dict : mg "dict" = none
  n_int : mg "int" = none
  n_isinstance : mg "isinstance" = none
  n_len : mg "len" = none
  n_list : mg "list" = none
  n_max : mg "max" = none
  n_min : mg "min" = none
  n_range : mg "range" = none
  n_sorted : mg "sorted" = none
  n_str : mg "str" = none
  n_tuple : mg "tuple" = none
  g__law_agrees : mg "_law_agrees" = some (.ref (He.fAd K ("_law_agrees", none)))
  g__law_arrows : mg "_law_arrows" = some (.ref (He.fAd K ("_law_arrows", none)))
  g__law_base : mg "_law_base" = some (.ref (He.fAd K ("_law_base", none)))
  g__law_bent : mg "_law_bent" = some (.ref (He.fAd K ("_law_bent", none)))
  g__law_circuit_sets : mg "_law_circuit_sets" = some (.ref (He.fAd K ("_law_circuit_sets", none)))
  g__law_copy : mg "_law_copy" = some (.ref (He.fAd K ("_law_copy", none)))
  g__law_is_bound : mg "_law_is_bound" = some (.ref (He.fAd K ("_law_is_bound", none)))
  g__law_is_integer : mg "_law_is_integer" = some (.ref (He.fAd K ("_law_is_integer", none)))
  g__law_is_trail : mg "_law_is_trail" = some (.ref (He.fAd K ("_law_is_trail", none)))
  g__law_mix : mg "_law_mix" = some (.ref (He.fAd K ("_law_mix", none)))
  g__law_name : mg "_law_name" = some (.ref (He.fAd K ("_law_name", none)))
  g__law_name_like : mg "_law_name_like" = some (.ref (He.fAd K ("_law_name_like", none)))
  g__law_name_of : mg "_law_name_of" = some (.ref (He.fAd K ("_law_name_of", none)))
  g__law_names : mg "_law_names" = some (.ref (He.fAd K ("_law_names", none)))
  g__law_number : mg "_law_number" = some (.ref (He.fAd K ("_law_number", none)))
  g__law_odd : mg "_law_odd" = some (.ref (He.fAd K ("_law_odd", none)))
  g__law_pick : mg "_law_pick" = some (.ref (He.fAd K ("_law_pick", none)))
  g__law_put : mg "_law_put" = some (.ref (He.fAd K ("_law_put", none)))
  g__law_refused : mg "_law_refused" = some (.ref (He.fAd K ("_law_refused", none)))
  g__law_row_of : mg "_law_row_of" = some (.ref (He.fAd K ("_law_row_of", none)))
  g__law_rows : mg "_law_rows" = some (.ref (He.fAd K ("_law_rows", none)))
  g__law_same : mg "_law_same" = some (.ref (He.fAd K ("_law_same", none)))
  g__law_shuffled : mg "_law_shuffled" = some (.ref (He.fAd K ("_law_shuffled", none)))
  g__law_sign : mg "_law_sign" = some (.ref (He.fAd K ("_law_sign", none)))
  g__law_spoilt : mg "_law_spoilt" = some (.ref (He.fAd K ("_law_spoilt", none)))
  g__law_store : mg "_law_store" = some (.ref (He.fAd K ("_law_store", none)))
  g__law_take : mg "_law_take" = some (.ref (He.fAd K ("_law_take", none)))
  g__law_unlike : mg "_law_unlike" = some (.ref (He.fAd K ("_law_unlike", none)))
  g__law_web : mg "_law_web" = some (.ref (He.fAd K ("_law_web", none)))
  g__law_web_table : mg "_law_web_table" = some (.ref (He.fAd K ("_law_web_table", none)))
  g_is_name : mg "is_name" = some (.ref (He.fAd K ("is_name", none)))
  g_is_whole : mg "is_whole" = some (.ref (He.fAd K ("is_whole", none)))
  g_law : mg "law" = some (.ref (He.fAd K ("law", none)))
  g_require_arrow : mg "require_arrow" = some (.ref (He.fAd K ("require_arrow", none)))
  g_require_balance : mg "require_balance" = some (.ref (He.fAd K ("require_balance", none)))
  g_require_searchable : mg "require_searchable" = some (.ref (He.fAd K ("require_searchable", none)))
  g_ring_of : mg "ring_of" = some (.ref (He.fAd K ("ring_of", none)))
  g_rings_of : mg "rings_of" = some (.ref (He.fAd K ("rings_of", none)))
  g_valid_name : mg "valid_name" = some (.ref (He.fAd K ("valid_name", none)))
  kx : ∀ p ∈ tabX, PySem.W.kitOne K (.ref (cl K p.1)) (.ref (cl K p.2.1)) = some p.2.2
  lo_Web : PySem.W.findIn K (.ref (cl K "Web")) "__len__" = some (some (.ref (He.fAd K ("Web", some "__len__"))))
  lf_Web : PySem.W.isFn K (.ref (He.fAd K ("Web", some "__len__"))) = true
  m_Web_is_bound : Meth K (cl K "Web") "is_bound" (He.fAd K ("Web", some "is_bound"))
  mk_Web : Mk K (cl K "Web") (He.fAd K ("Web", some "__init__"))
  na_TooMany_limit : NoAttr K (cl K "TooMany") "limit"
  na_TooMany_many : NoAttr K (cl K "TooMany") "many"
  na_Web_web_rows : NoAttr K (cl K "Web") "web_rows"
  ox_TooMany : OexC K (cl K "TooMany")
  oi_TooMany : PySem.W.findIn K (.ref (cl K "TooMany")) "__init__" = some (some (.ref (He.fAd K ("TooMany", some "__init__"))))
  ot_TooMany : PySem.W.typeIn K (.ref (He.fAd K ("TooMany", some "__init__"))) = some (.type "function")
  xf_TooMany : XfC K (cl K "TooMany")
section
variable {P : Program} {w : PySem.World} {K : PySem.W.Frag} {mg : Str → Option Value} {base : Heap}
theorem sc_l_store : FnScope ["_law_script"] ["_law_script"] (defScope (st 29)) := ⟨rfl, rfl, rfl, by decide +kernel, rfl, by decide +kernel, by decide +kernel⟩
theorem ok_l_store (T : Ft K mg) : Good P w K mg base (L2N.CX P w) 1 (He.fAd K ("_law_store", none)) ["_law_script"] (spStore K) := by
  obtain ⟨fd, F⟩ := T.d_l_store
  refine ⟨fd, F.ok sc_l_store (fun vs H Q E h => spStore_len h) (fun cdv A outer s H vs Q E hr h => ?_), F.bindsN fun _ _ _ _ _ _ us hl => match us, hl with | [_], _ => rfl, F.kp⟩
  have sc := sc_l_store
  exact ⟨tStore K, (pss_one (ps_ret (pe_lst (pa_cons (pe_callTy call_listA rfl T.n_list (by rfl) (pa_cons (pv 0) pa_nil)) (pa_cons pe_int (pa_cons pe_int (pa_cons pe_int (pa_cons pe_int (pa_cons pe_int pa_nil))))))))), store_run h⟩

theorem sc_l_mix : FnScope ["_law_seed", "_law_turn", "_law_one", "_law_two"] ["_law_seed", "_law_turn"] (defScope (st 30)) := ⟨rfl, rfl, rfl, by decide +kernel, rfl, by decide +kernel, by decide +kernel⟩
def m_l_mix : Fm → Rs Fm Fl := (mSeq (mSet 2 (mOp dMod (mOp dAdd (mOp dAdd (mOp dMul (mCB dInt (mCons (mVar 0) mNil)) (mC (.int 29))) (mOp dMul (mCB dInt (mCons (mVar 1) mNil)) (mC (.int 4001)))) (mC (.int 17))) (mC (.int 10007))))
    (mSeq (mSet 3 (mOp dMod (mOp dAdd (mOp dAdd (mOp dAdd (mOp dMul (mVar 2) (mVar 2)) (mVar 2)) (mCB dInt (mCons (mVar 0) mNil))) (mCB dInt (mCons (mVar 1) mNil))) (mC (.int 9973))))
    (mRet (mOp dMod (mOp dAdd (mOp dAdd (mOp dMul (mVar 3) (mVar 3)) (mOp dMul (mC (.int 3)) (mVar 3))) (mVar 2)) (mC (.int 9967))))))
theorem m_l_mix_ap (s : Fm) : m_l_mix s = (mSeq (mSet 2 (mOp dMod (mOp dAdd (mOp dAdd (mOp dMul (mCB dInt (mCons (mVar 0) mNil)) (mC (.int 29))) (mOp dMul (mCB dInt (mCons (mVar 1) mNil)) (mC (.int 4001)))) (mC (.int 17))) (mC (.int 10007))))
    (mSeq (mSet 3 (mOp dMod (mOp dAdd (mOp dAdd (mOp dAdd (mOp dMul (mVar 2) (mVar 2)) (mVar 2)) (mCB dInt (mCons (mVar 0) mNil))) (mCB dInt (mCons (mVar 1) mNil))) (mC (.int 9973))))
    (mRet (mOp dMod (mOp dAdd (mOp dAdd (mOp dMul (mVar 3) (mVar 3)) (mOp dMul (mC (.int 3)) (mVar 3))) (mVar 2)) (mC (.int 9967)))))) s := rfl
def f_l_mix : List D → Sto → Rs Sto Val := fnM 2 4 m_l_mix
theorem ok_l_mix (T : Ft K mg) : Good P w K mg base (L2N.CX P w) 1 (He.fAd K ("_law_mix", none)) ["_law_seed", "_law_turn"] (spF K f_l_mix) := by
  obtain ⟨fd, F⟩ := T.d_l_mix
  refine ⟨fd, fn_ok F sc_l_mix (by decide) fun cdv A outer s H E hr => ?_, F.bindsN fun _ _ _ _ _ _ us hl => match us, hl with | [_, _], _ => rfl, F.kp⟩
  have sc := sc_l_mix
  exact ⟨_, (pss_cons (ps_set (i := 2) sc.nd rfl (by first | exact Or.inl rfl | exact Or.inr rfl) (pe_op op_mod (pe_op op_addA (pe_op op_addA (pe_op op_mulA (pe_callTy call_intA rfl T.n_int (by rfl) (pa_cons (pv 0) pa_nil)) pe_int) (pe_op op_mulA (pe_callTy call_intA rfl T.n_int (by rfl) (pa_cons (pv 1) pa_nil)) pe_int)) pe_int) pe_int))
    (pss_cons (ps_set (i := 3) sc.nd rfl (by first | exact Or.inl rfl | exact Or.inr rfl) (pe_op op_mod (pe_op op_addA (pe_op op_addA (pe_op op_addA (pe_op op_mulA (pv 2) (pv 2)) (pv 2)) (pe_callTy call_intA rfl T.n_int (by rfl) (pa_cons (pv 0) pa_nil))) (pe_callTy call_intA rfl T.n_int (by rfl) (pa_cons (pv 1) pa_nil))) pe_int))
    (pss_one (ps_ret (pe_op op_mod (pe_op op_addA (pe_op op_addA (pe_op op_mulA (pv 3) (pv 3)) (pe_op op_mulA pe_int (pv 3))) (pv 2)) pe_int))))),
    (sim_seq (sim_set (i := 2) (sim_op sop_mod (sim_op sop_add (sim_op sop_add (sim_op sop_mul (sim_cb sc_int (sim_cons (sim_var 0) sim_nil)) (sim_int 29)) (sim_op sop_mul (sim_cb sc_int (sim_cons (sim_var 1) sim_nil)) (sim_int 4001))) (sim_int 17)) (sim_int 10007)))
    (sim_seq (sim_set (i := 3) (sim_op sop_mod (sim_op sop_add (sim_op sop_add (sim_op sop_add (sim_op sop_mul (sim_var 2) (sim_var 2)) (sim_var 2)) (sim_cb sc_int (sim_cons (sim_var 0) sim_nil))) (sim_cb sc_int (sim_cons (sim_var 1) sim_nil))) (sim_int 9973)))
    (sim_ret (sim_op sop_mod (sim_op sop_add (sim_op sop_add (sim_op sop_mul (sim_var 3) (sim_var 3)) (sim_op sop_mul (sim_int 3) (sim_var 3))) (sim_var 2)) (sim_int 9967)))))⟩

theorem sc_l_take : FnScope ["_law_store_here", "_law_many", "_law_cell", "_law_digits", "_law_number_here", "_law_room", "_law_k"] ["_law_store_here", "_law_many"] (defScope (st 31)) := ⟨rfl, rfl, rfl, by decide +kernel, rfl, by decide +kernel, by decide +kernel⟩
def m_l_take_b1 : Fm → Rs Fm Fl := (mSeq (mIf (mB (mOp dGe (mVar 5) (mVar 1))) mBreak mNext)
    (mSeq (mSet 4 (mOp dAdd (mOp dMul (mVar 4) (mC (.int 9967))) (mCall0 f_l_mix (mCons (mStoGet 4) (mCons (mOp dAdd (mStoGet 5) (mOp dMul (mC (.int 977)) (mVar 6))) mNil)))))
    (mSet 5 (mOp dMul (mVar 5) (mC (.int 9967))))))
theorem m_l_take_b1_ap (s : Fm) : m_l_take_b1 s = (mSeq (mIf (mB (mOp dGe (mVar 5) (mVar 1))) mBreak mNext)
    (mSeq (mSet 4 (mOp dAdd (mOp dMul (mVar 4) (mC (.int 9967))) (mCall0 f_l_mix (mCons (mStoGet 4) (mCons (mOp dAdd (mStoGet 5) (mOp dMul (mC (.int 977)) (mVar 6))) mNil)))))
    (mSet 5 (mOp dMul (mVar 5) (mC (.int 9967)))))) s := rfl
def m_l_take : Fm → Rs Fm Fl := (mSeq (mIf (mB (mOp dLt (mVar 1) (mC (.int 2)))) (mRet (mC (.int 0))) mNext)
    (mSeq (mIf (mAnd (mB (mOp dEq (mStoGet 2) (mC (.int 0)))) (mAnd (mB (mOp dEq (mStoGet 3) (mC (.int 0)))) (mB (mOp dLt (mStoGet 1) mStoLen)))) (mSeq (mSet 2 (mCB dInt (mCons mStoCell mNil)))
    (mSeq (mStoAug 1 (mC (.int 1)))
    (mSeq (mStoSet 4 (mOp dMod (mCB dInt (mCons (mOp dAdd (mOp dMul (mStoGet 4) (mC (.int 31))) (mVar 2)) mNil)) (mC (.int 100000007))))
    (mIf (mB (mOp dGe (mCB dAbs (mCons (mVar 2) mNil)) (mOp dPow (mC (.int 10)) (mC (.int 18))))) (mStoSet 2 (mCB dAbs (mCons (mVar 2) mNil))) (mStoSet 3 (mC (.int 2))))))) mNext)
    (mSeq (mStoAug 5 (mC (.int 1)))
    (mSeq (mIf (mB (mOp dGt (mStoGet 2) (mC (.int 0)))) (mSeq (mSet 3 (mCB dInt (mCons (mStoGet 2) mNil)))
    (mSeq (mStoSet 2 (mOp dFdivW (mVar 3) (mVar 1)))
    (mRet (mOp dMod (mVar 3) (mVar 1))))) mNext)
    (mSeq (mStoSet 3 (mCB dMax (mCons (mC (.int 0)) (mCons (mOp dSub (mStoGet 3) (mC (.int 1))) mNil))))
    (mSeq (mSet 4 (mC (.int 0)))
    (mSeq (mSet 5 (mC (.int 1)))
    (mSeq (mFor (mRng (mCons (mC (.int 60)) mNil)) (gN 6) m_l_take_b1)
    (mRet (mOp dMod (mCB dInt (mCons (mVar 4) mNil)) (mVar 1)))))))))))
theorem m_l_take_ap (s : Fm) : m_l_take s = (mSeq (mIf (mB (mOp dLt (mVar 1) (mC (.int 2)))) (mRet (mC (.int 0))) mNext)
    (mSeq (mIf (mAnd (mB (mOp dEq (mStoGet 2) (mC (.int 0)))) (mAnd (mB (mOp dEq (mStoGet 3) (mC (.int 0)))) (mB (mOp dLt (mStoGet 1) mStoLen)))) (mSeq (mSet 2 (mCB dInt (mCons mStoCell mNil)))
    (mSeq (mStoAug 1 (mC (.int 1)))
    (mSeq (mStoSet 4 (mOp dMod (mCB dInt (mCons (mOp dAdd (mOp dMul (mStoGet 4) (mC (.int 31))) (mVar 2)) mNil)) (mC (.int 100000007))))
    (mIf (mB (mOp dGe (mCB dAbs (mCons (mVar 2) mNil)) (mOp dPow (mC (.int 10)) (mC (.int 18))))) (mStoSet 2 (mCB dAbs (mCons (mVar 2) mNil))) (mStoSet 3 (mC (.int 2))))))) mNext)
    (mSeq (mStoAug 5 (mC (.int 1)))
    (mSeq (mIf (mB (mOp dGt (mStoGet 2) (mC (.int 0)))) (mSeq (mSet 3 (mCB dInt (mCons (mStoGet 2) mNil)))
    (mSeq (mStoSet 2 (mOp dFdivW (mVar 3) (mVar 1)))
    (mRet (mOp dMod (mVar 3) (mVar 1))))) mNext)
    (mSeq (mStoSet 3 (mCB dMax (mCons (mC (.int 0)) (mCons (mOp dSub (mStoGet 3) (mC (.int 1))) mNil))))
    (mSeq (mSet 4 (mC (.int 0)))
    (mSeq (mSet 5 (mC (.int 1)))
    (mSeq (mFor (mRng (mCons (mC (.int 60)) mNil)) (gN 6) m_l_take_b1)
    (mRet (mOp dMod (mCB dInt (mCons (mVar 4) mNil)) (mVar 1))))))))))) s := rfl
def f_l_take : List D → Sto → Rs Sto Val := fnM 2 7 m_l_take
theorem ok_l_take (T : Ft K mg) : Good P w K mg base (L2N.CX P w) 2 (He.fAd K ("_law_take", none)) ["_law_store_here", "_law_many"] (spF K f_l_take) := by
  obtain ⟨fd, F⟩ := T.d_l_take
  refine ⟨fd, fn_ok F sc_l_take (by decide) fun cdv A outer s H E hr => ?_, F.bindsN fun _ _ _ _ _ _ us hl => match us, hl with | [_, _], _ => rfl, F.kp⟩
  have sc := sc_l_take
  exact ⟨_, (pss_cons (ps_if (pt_cmpR op_ltA (pv 1) pe_int (nomark _)) (pss_one (ps_ret pe_int)) pss_nil)
    (pss_cons (ps_if (PW.pt (pw_and (pt_cmpR (op_eqP hr.units) (pe_ix (ix_any hr.units) (pv 0) pe_int (fun _ _ => rfl)) pe_int (nomark _)) (pw_and (pt_cmpR (op_eqP hr.units) (pe_ix (ix_any hr.units) (pv 0) pe_int (fun _ _ => rfl)) pe_int (nomark _)) (pw_and1 (pt_cmpR op_ltA (pe_ix (ix_any hr.units) (pv 0) pe_int (fun _ _ => rfl)) (pe_callB call_lenA rfl T.n_len (by rfl) (pa_cons (pe_ix (ix_any hr.units) (pv 0) pe_int (fun _ _ => rfl)) pa_nil)) (nomark _)))))) (pss_cons (ps_set (i := 2) sc.nd rfl (by first | exact Or.inl rfl | exact Or.inr rfl) (pe_callTy call_intA rfl T.n_int (by rfl) (pa_cons (pe_ix (ix_any hr.units) (pe_ix (ix_any hr.units) (pv 0) pe_int (fun _ _ => rfl)) (pe_ix (ix_any hr.units) (pv 0) pe_int (fun _ _ => rfl)) (fun _ _ => rfl)) pa_nil)))
    (pss_cons (ps_augS (pv 0) pe_int get_listA pe_int ip_add (set_any hr.units))
    (pss_cons (ps_asg (pe_op op_mod (pe_callTy call_intA rfl T.n_int (by rfl) (pa_cons (pe_op op_addA (pe_op op_mulA (pe_ix (ix_any hr.units) (pv 0) pe_int (fun _ _ => rfl)) pe_int) (pv 2)) pa_nil)) pe_int) (pg_sub (pv 0) pe_int (set_any hr.units) (by intros; rfl)))
    (pss_one (ps_if (pt_cmpR op_ge (pe_callB call_absA rfl T.n_abs (by rfl) (pa_cons (pv 2) pa_nil)) (pe_op op_pow pe_int pe_int) (nomark _)) (pss_one (ps_asg (pe_callB call_absA rfl T.n_abs (by rfl) (pa_cons (pv 2) pa_nil)) (pg_sub (pv 0) pe_int (set_any hr.units) (by intros; rfl)))) (pss_one (ps_asg pe_int (pg_sub (pv 0) pe_int (set_any hr.units) (by intros; rfl))))))))) pss_nil)
    (pss_cons (ps_augS (pv 0) pe_int get_listA pe_int ip_add (set_any hr.units))
    (pss_cons (ps_if (pt_cmpR op_gtA (pe_ix (ix_any hr.units) (pv 0) pe_int (fun _ _ => rfl)) pe_int (nomark _)) (pss_cons (ps_set (i := 3) sc.nd rfl (by first | exact Or.inl rfl | exact Or.inr rfl) (pe_callTy call_intA rfl T.n_int (by rfl) (pa_cons (pe_ix (ix_any hr.units) (pv 0) pe_int (fun _ _ => rfl)) pa_nil)))
    (pss_cons (ps_asg (pe_op op_fdivW (pv 3) (pv 1)) (pg_sub (pv 0) pe_int (set_any hr.units) (by intros; rfl)))
    (pss_one (ps_ret (pe_op op_mod (pv 3) (pv 1)))))) pss_nil)
    (pss_cons (ps_asg (pe_callB (call_maxA rfl) rfl T.n_max (by rfl) (pa_cons pe_int (pa_cons (pe_op op_sub (pe_ix (ix_any hr.units) (pv 0) pe_int (fun _ _ => rfl)) pe_int) pa_nil))) (pg_sub (pv 0) pe_int (set_any hr.units) (by intros; rfl)))
    (pss_cons (ps_set (i := 4) sc.nd rfl (by first | exact Or.inl rfl | exact Or.inr rfl) pe_int)
    (pss_cons (ps_set (i := 5) sc.nd rfl (by first | exact Or.inl rfl | exact Or.inr rfl) pe_int)
    (pss_cons (ps_for (passes_of rfl) rfl (pi_range1 rfl T.n_range (pa_cons pe_int pa_nil)) (pg_name sc.nd rfl (by first | exact Or.inl rfl | exact Or.inr rfl)) (pss_cons (ps_if (pt_cmpR op_ge (pv 5) (pv 1) (nomark _)) (pss_one ps_break) pss_nil)
    (pss_cons (ps_set (i := 4) sc.nd rfl (by first | exact Or.inl rfl | exact Or.inr rfl) (pe_op op_addA (pe_op op_mulA (pv 4) pe_int) (pe_callG (ok_l_mix T) (hr.mono (by decide)) T.g__law_mix passN (pa_cons (pe_ix (ix_any hr.units) (pv 0) pe_int (fun _ _ => rfl)) (pa_cons (pe_op op_addA (pe_ix (ix_any hr.units) (pv 0) pe_int (fun _ _ => rfl)) (pe_op op_mulA pe_int (pv 6))) pa_nil)))))
    (pss_one (ps_set (i := 5) sc.nd rfl (by first | exact Or.inl rfl | exact Or.inr rfl) (pe_op op_mulA (pv 5) pe_int))))))
    (pss_one (ps_ret (pe_op op_mod (pe_callTy call_intA rfl T.n_int (by rfl) (pa_cons (pv 4) pa_nil)) (pv 1)))))))))))),
    (sim_seq (sim_if (sim_test (sim_op sop_lt (sim_var 1) (sim_int 2))) (sim_ret (sim_int 0)) sim_next)
    (sim_seq (sim_if (sim_and (sim_test (sim_op sop_eq (sim_stoGet 2) (sim_int 0))) (sim_and (sim_test (sim_op sop_eq (sim_stoGet 3) (sim_int 0))) (sim_test (sim_op sop_lt (sim_stoGet 1) sim_stoLen)))) (sim_seq (sim_set (i := 2) (sim_cb sc_int (sim_cons sim_stoCell sim_nil)))
    (sim_seq (sim_stoAug (i := 1) (sim_int 1))
    (sim_seq (sim_stoSet (i := 4) (sim_op sop_mod (sim_cb sc_int (sim_cons (sim_op sop_add (sim_op sop_mul (sim_stoGet 4) (sim_int 31)) (sim_var 2)) sim_nil)) (sim_int 100000007)))
    (sim_if (sim_test (sim_op sop_ge (sim_cb sc_abs (sim_cons (sim_var 2) sim_nil)) (sim_op sop_pow (sim_int 10) (sim_int 18)))) (sim_stoSet (i := 2) (sim_cb sc_abs (sim_cons (sim_var 2) sim_nil))) (sim_stoSet (i := 3) (sim_int 2)))))) sim_next)
    (sim_seq (sim_stoAug (i := 5) (sim_int 1))
    (sim_seq (sim_if (sim_test (sim_op sop_gt (sim_stoGet 2) (sim_int 0))) (sim_seq (sim_set (i := 3) (sim_cb sc_int (sim_cons (sim_stoGet 2) sim_nil)))
    (sim_seq (sim_stoSet (i := 2) (sim_op sop_fdivW (sim_var 3) (sim_var 1)))
    (sim_ret (sim_op sop_mod (sim_var 3) (sim_var 1))))) sim_next)
    (sim_seq (sim_stoSet (i := 3) (sim_cb sc_max (sim_cons (sim_int 0) (sim_cons (sim_op sop_sub (sim_stoGet 3) (sim_int 1)) sim_nil))))
    (sim_seq (sim_set (i := 4) (sim_int 0))
    (sim_seq (sim_set (i := 5) (sim_int 1))
    (sim_seq (sim_for (sim_rng1 (sim_cons (sim_int 60) sim_nil) (len1 (W := noX))) (sim_gN 6) (sim_seq (sim_if (sim_test (sim_op sop_ge (sim_var 5) (sim_var 1))) sim_break sim_next)
    (sim_seq (sim_set (i := 4) (sim_op sop_add (sim_op sop_mul (sim_var 4) (sim_int 9967)) (sim_call0 (sim_cons (sim_stoGet 4) (sim_cons (sim_op sop_add (sim_stoGet 5) (sim_op sop_mul (sim_int 977) (sim_var 6))) sim_nil)))))
    (sim_set (i := 5) (sim_op sop_mul (sim_var 5) (sim_int 9967))))))
    (sim_ret (sim_op sop_mod (sim_cb sc_int (sim_cons (sim_var 4) sim_nil)) (sim_var 1)))))))))))⟩

theorem sc_l_number : FnScope ["_law_store_here", "_law_low", "_law_high", "_law_manner"] ["_law_store_here", "_law_low", "_law_high"] (defScope (st 32)) := ⟨rfl, rfl, rfl, by decide +kernel, rfl, by decide +kernel, by decide +kernel⟩
def m_l_number : Fm → Rs Fm Fl := (mSeq (mSet 3 (mCall0 f_l_take (mCons (mVar 0) (mCons (mC (.int 6)) mNil))))
    (mSeq (mIf (mOr (mB (mOp dEq (mVar 3) (mC (.int 0)))) (mB (mOp dLe (mVar 2) (mVar 1)))) (mRet (mVar 1)) mNext)
    (mSeq (mIf (mB (mOp dEq (mVar 3) (mC (.int 1)))) (mRet (mVar 2)) mNext)
    (mSeq (mIf (mB (mOp dEq (mVar 3) (mC (.int 2)))) (mRet (mCB dMinB (mCons (mVar 2) (mCons (mOp dAdd (mOp dAdd (mVar 1) (mC (.int 1))) (mCall0 f_l_take (mCons (mVar 0) (mCons (mC (.int 2)) mNil)))) mNil)))) mNext)
    (mSeq (mIf (mB (mOp dEq (mVar 3) (mC (.int 3)))) (mRet (mCB dMax (mCons (mVar 1) (mCons (mOp dSub (mOp dSub (mVar 2) (mC (.int 1))) (mCall0 f_l_take (mCons (mVar 0) (mCons (mC (.int 2)) mNil)))) mNil)))) mNext)
    (mRet (mOp dAdd (mVar 1) (mCall0 f_l_take (mCons (mVar 0) (mCons (mOp dAdd (mOp dSub (mVar 2) (mVar 1)) (mC (.int 1))) mNil))))))))))
theorem m_l_number_ap (s : Fm) : m_l_number s = (mSeq (mSet 3 (mCall0 f_l_take (mCons (mVar 0) (mCons (mC (.int 6)) mNil))))
    (mSeq (mIf (mOr (mB (mOp dEq (mVar 3) (mC (.int 0)))) (mB (mOp dLe (mVar 2) (mVar 1)))) (mRet (mVar 1)) mNext)
    (mSeq (mIf (mB (mOp dEq (mVar 3) (mC (.int 1)))) (mRet (mVar 2)) mNext)
    (mSeq (mIf (mB (mOp dEq (mVar 3) (mC (.int 2)))) (mRet (mCB dMinB (mCons (mVar 2) (mCons (mOp dAdd (mOp dAdd (mVar 1) (mC (.int 1))) (mCall0 f_l_take (mCons (mVar 0) (mCons (mC (.int 2)) mNil)))) mNil)))) mNext)
    (mSeq (mIf (mB (mOp dEq (mVar 3) (mC (.int 3)))) (mRet (mCB dMax (mCons (mVar 1) (mCons (mOp dSub (mOp dSub (mVar 2) (mC (.int 1))) (mCall0 f_l_take (mCons (mVar 0) (mCons (mC (.int 2)) mNil)))) mNil)))) mNext)
    (mRet (mOp dAdd (mVar 1) (mCall0 f_l_take (mCons (mVar 0) (mCons (mOp dAdd (mOp dSub (mVar 2) (mVar 1)) (mC (.int 1))) mNil)))))))))) s := rfl
def f_l_number : List D → Sto → Rs Sto Val := fnM 3 4 m_l_number
theorem ok_l_number (T : Ft K mg) : Good P w K mg base (L2N.CX P w) 3 (He.fAd K ("_law_number", none)) ["_law_store_here", "_law_low", "_law_high"] (spF K f_l_number) := by
  obtain ⟨fd, F⟩ := T.d_l_number
  refine ⟨fd, fn_ok F sc_l_number (by decide) fun cdv A outer s H E hr => ?_, F.bindsN fun _ _ _ _ _ _ us hl => match us, hl with | [_, _, _], _ => rfl, F.kp⟩
  have sc := sc_l_number
  exact ⟨_, (pss_cons (ps_set (i := 3) sc.nd rfl (by first | exact Or.inl rfl | exact Or.inr rfl) (pe_callG (ok_l_take T) (hr.mono (by decide)) T.g__law_take passN (pa_cons (pv 0) (pa_cons pe_int pa_nil))))
    (pss_cons (ps_if (PW.pt (pw_or (pt_cmpR (op_eqP hr.units) (pv 3) pe_int (nomark _)) (pw_or1 (pt_cmpR op_le (pv 2) (pv 1) (nomark _))))) (pss_one (ps_ret (pv 1))) pss_nil)
    (pss_cons (ps_if (pt_cmpR (op_eqP hr.units) (pv 3) pe_int (nomark _)) (pss_one (ps_ret (pv 2))) pss_nil)
    (pss_cons (ps_if (pt_cmpR (op_eqP hr.units) (pv 3) pe_int (nomark _)) (pss_one (ps_ret (pe_callB (call_minB rfl) rfl T.n_min (by rfl) (pa_cons (pv 2) (pa_cons (pe_op op_addA (pe_op op_addA (pv 1) pe_int) (pe_callG (ok_l_take T) (hr.mono (by decide)) T.g__law_take passN (pa_cons (pv 0) (pa_cons pe_int pa_nil)))) pa_nil))))) pss_nil)
    (pss_cons (ps_if (pt_cmpR (op_eqP hr.units) (pv 3) pe_int (nomark _)) (pss_one (ps_ret (pe_callB (call_maxA rfl) rfl T.n_max (by rfl) (pa_cons (pv 1) (pa_cons (pe_op op_sub (pe_op op_sub (pv 2) pe_int) (pe_callG (ok_l_take T) (hr.mono (by decide)) T.g__law_take passN (pa_cons (pv 0) (pa_cons pe_int pa_nil)))) pa_nil))))) pss_nil)
    (pss_one (ps_ret (pe_op op_addA (pv 1) (pe_callG (ok_l_take T) (hr.mono (by decide)) T.g__law_take passN (pa_cons (pv 0) (pa_cons (pe_op op_addA (pe_op op_sub (pv 2) (pv 1)) pe_int) pa_nil))))))))))),
    (sim_seq (sim_set (i := 3) (sim_call0 (sim_cons (sim_var 0) (sim_cons (sim_int 6) sim_nil))))
    (sim_seq (sim_if (sim_or (sim_test (sim_op sop_eq (sim_var 3) (sim_int 0))) (sim_test (sim_op sop_le (sim_var 2) (sim_var 1)))) (sim_ret (sim_var 1)) sim_next)
    (sim_seq (sim_if (sim_test (sim_op sop_eq (sim_var 3) (sim_int 1))) (sim_ret (sim_var 2)) sim_next)
    (sim_seq (sim_if (sim_test (sim_op sop_eq (sim_var 3) (sim_int 2))) (sim_ret (sim_cb sc_minB (sim_cons (sim_var 2) (sim_cons (sim_op sop_add (sim_op sop_add (sim_var 1) (sim_int 1)) (sim_call0 (sim_cons (sim_var 0) (sim_cons (sim_int 2) sim_nil)))) sim_nil)))) sim_next)
    (sim_seq (sim_if (sim_test (sim_op sop_eq (sim_var 3) (sim_int 3))) (sim_ret (sim_cb sc_max (sim_cons (sim_var 1) (sim_cons (sim_op sop_sub (sim_op sop_sub (sim_var 2) (sim_int 1)) (sim_call0 (sim_cons (sim_var 0) (sim_cons (sim_int 2) sim_nil)))) sim_nil)))) sim_next)
    (sim_ret (sim_op sop_add (sim_var 1) (sim_call0 (sim_cons (sim_var 0) (sim_cons (sim_op sop_add (sim_op sop_sub (sim_var 2) (sim_var 1)) (sim_int 1)) sim_nil))))))))))⟩

theorem sc_l_pick : FnScope ["_law_store_here", "_law_row"] ["_law_store_here", "_law_row"] (defScope (st 33)) := ⟨rfl, rfl, rfl, by decide +kernel, rfl, by decide +kernel, by decide +kernel⟩
def m_l_pick : Fm → Rs Fm Fl := (mRet (mOp dIx (mVar 1) (mCall0 f_l_take (mCons (mVar 0) (mCons (mCB dLen (mCons (mVar 1) mNil)) mNil)))))
theorem m_l_pick_ap (s : Fm) : m_l_pick s = (mRet (mOp dIx (mVar 1) (mCall0 f_l_take (mCons (mVar 0) (mCons (mCB dLen (mCons (mVar 1) mNil)) mNil))))) s := rfl
def f_l_pick : List D → Sto → Rs Sto Val := fnM 2 2 m_l_pick
theorem ok_l_pick (T : Ft K mg) : Good P w K mg base (L2N.CX P w) 3 (He.fAd K ("_law_pick", none)) ["_law_store_here", "_law_row"] (spF K f_l_pick) := by
  obtain ⟨fd, F⟩ := T.d_l_pick
  refine ⟨fd, fn_ok F sc_l_pick (by decide) fun cdv A outer s H E hr => ?_, F.bindsN fun _ _ _ _ _ _ us hl => match us, hl with | [_, _], _ => rfl, F.kp⟩
  have sc := sc_l_pick
  exact ⟨_, (pss_one (ps_ret (pe_ix (ix_any hr.units) (pv 1) (pe_callG (ok_l_take T) (hr.mono (by decide)) T.g__law_take passN (pa_cons (pv 0) (pa_cons (pe_callB call_lenA rfl T.n_len (by rfl) (pa_cons (pv 1) pa_nil)) pa_nil))) (fun _ _ => rfl)))),
    (sim_ret (sim_op sop_ix (sim_var 1) (sim_call0 (sim_cons (sim_var 0) (sim_cons (sim_cb sc_len (sim_cons (sim_var 1) sim_nil)) sim_nil)))))⟩

theorem sc_l_shuffled : FnScope ["_law_store_here", "_law_row", "_law_rest", "_law_found", "_law_k"] ["_law_store_here", "_law_row"] (defScope (st 34)) := ⟨rfl, rfl, rfl, by decide +kernel, rfl, by decide +kernel, by decide +kernel⟩
def m_l_shuffled_b1 : Fm → Rs Fm Fl := (mAppendPop 3 2 (mCons (mCall0 f_l_take (mCons (mVar 0) (mCons (mCB dLen (mCons (mVar 2) mNil)) mNil))) mNil))
theorem m_l_shuffled_b1_ap (s : Fm) : m_l_shuffled_b1 s = (mAppendPop 3 2 (mCons (mCall0 f_l_take (mCons (mVar 0) (mCons (mCB dLen (mCons (mVar 2) mNil)) mNil))) mNil)) s := rfl
def m_l_shuffled : Fm → Rs Fm Fl := (mSeq (mSetO 2 (mCB dListB (mCons (mVar 1) mNil)))
    (mSeq (mSetO 3 (mLst mNil))
    (mSeq (mFor (mRng (mCons (mCB dLen (mCons (mVar 1) mNil)) mNil)) (gN 4) m_l_shuffled_b1)
    (mRet (mVar 3)))))
theorem m_l_shuffled_ap (s : Fm) : m_l_shuffled s = (mSeq (mSetO 2 (mCB dListB (mCons (mVar 1) mNil)))
    (mSeq (mSetO 3 (mLst mNil))
    (mSeq (mFor (mRng (mCons (mCB dLen (mCons (mVar 1) mNil)) mNil)) (gN 4) m_l_shuffled_b1)
    (mRet (mVar 3))))) s := rfl
def f_l_shuffled : List D → Sto → Rs Sto Val := fnM 2 5 m_l_shuffled
theorem ok_l_shuffled (T : Ft K mg) : Good P w K mg base (L2N.CX P w) 3 (He.fAd K ("_law_shuffled", none)) ["_law_store_here", "_law_row"] (spF K f_l_shuffled) := by
  obtain ⟨fd, F⟩ := T.d_l_shuffled
  refine ⟨fd, fn_ok F sc_l_shuffled (by decide) fun cdv A outer s H E hr => ?_, F.bindsN fun _ _ _ _ _ _ us hl => match us, hl with | [_, _], _ => rfl, F.kp⟩
  have sc := sc_l_shuffled
  exact ⟨_, (pss_cons (ps_set (i := 2) sc.nd rfl (by first | exact Or.inl rfl | exact Or.inr rfl) (pe_callTy (call_listB rfl) rfl T.n_list (by rfl) (pa_cons (pv 1) pa_nil)))
    (pss_cons (ps_set (i := 3) sc.nd rfl (by first | exact Or.inl rfl | exact Or.inr rfl) (pe_lst pa_nil))
    (pss_cons (ps_for (passes_of rfl) rfl (pi_range1 rfl T.n_range (pa_cons (pe_callB call_lenA rfl T.n_len (by rfl) (pa_cons (pv 1) pa_nil)) pa_nil)) (pg_name sc.nd rfl (by first | exact Or.inl rfl | exact Or.inr rfl)) (pss_one (ps_expr (pe_bm PySem.F.plainAttrs_list PySem.F.slot_list_append PySem.F.type_list_append mt_append (pv 3) (pa_cons (pe_bm PySem.F.plainAttrs_list PySem.F.slot_list_pop PySem.F.type_list_pop mt_popAt (pv 2) (pa_cons (pe_callG (ok_l_take T) (hr.mono (by decide)) T.g__law_take passN (pa_cons (pv 0) (pa_cons (pe_callB call_lenA rfl T.n_len (by rfl) (pa_cons (pv 2) pa_nil)) pa_nil))) pa_nil)) pa_nil)))))
    (pss_one (ps_ret (pv 3)))))),
    (sim_seq (sim_setO (i := 2) (sim_cb sc_listB (sim_cons (sim_var 1) sim_nil)))
    (sim_seq (sim_setO (i := 3) (sim_lst sim_nil))
    (sim_seq (sim_for (sim_rng1 (sim_cons (sim_cb sc_len (sim_cons (sim_var 1) sim_nil)) sim_nil) (len1 (W := noX))) (sim_gN 4) (sim_appendPop (i := 3) (j := 2) (sim_cons (sim_call0 (sim_cons (sim_var 0) (sim_cons (sim_cb sc_len (sim_cons (sim_var 2) sim_nil)) sim_nil))) sim_nil)))
    (sim_ret (sim_var 3)))))⟩

theorem sc_l_row_of : FnScope ["_law_store_here", "_law_row"] ["_law_store_here", "_law_row"] (defScope (st 35)) := ⟨rfl, rfl, rfl, by decide +kernel, rfl, by decide +kernel, by decide +kernel⟩
def m_l_row_of : Fm → Rs Fm Fl := (mSeq (mIf (mB (mOp dEq (mCall0 f_l_take (mCons (mVar 0) (mCons (mC (.int 2)) mNil))) (mC (.int 0)))) (mRet (mCB dListB (mCons (mVar 1) mNil))) mNext)
    (mRet (mCB dTuple (mCons (mVar 1) mNil))))
theorem m_l_row_of_ap (s : Fm) : m_l_row_of s = (mSeq (mIf (mB (mOp dEq (mCall0 f_l_take (mCons (mVar 0) (mCons (mC (.int 2)) mNil))) (mC (.int 0)))) (mRet (mCB dListB (mCons (mVar 1) mNil))) mNext)
    (mRet (mCB dTuple (mCons (mVar 1) mNil)))) s := rfl
def f_l_row_of : List D → Sto → Rs Sto Val := fnM 2 2 m_l_row_of
theorem ok_l_row_of (T : Ft K mg) : Good P w K mg base (L2N.CX P w) 3 (He.fAd K ("_law_row_of", none)) ["_law_store_here", "_law_row"] (spF K f_l_row_of) := by
  obtain ⟨fd, F⟩ := T.d_l_row_of
  refine ⟨fd, fn_ok F sc_l_row_of (by decide) fun cdv A outer s H E hr => ?_, F.bindsN fun _ _ _ _ _ _ us hl => match us, hl with | [_, _], _ => rfl, F.kp⟩
  have sc := sc_l_row_of
  exact ⟨_, (pss_cons (ps_if (pt_cmpR (op_eqP hr.units) (pe_callG (ok_l_take T) (hr.mono (by decide)) T.g__law_take passN (pa_cons (pv 0) (pa_cons pe_int pa_nil))) pe_int (nomark _)) (pss_one (ps_ret (pe_callTy (call_listB rfl) rfl T.n_list (by rfl) (pa_cons (pv 1) pa_nil)))) pss_nil)
    (pss_one (ps_ret (pe_callTy call_tupleA rfl T.n_tuple (by rfl) (pa_cons (pv 1) pa_nil))))),
    (sim_seq (sim_if (sim_test (sim_op sop_eq (sim_call0 (sim_cons (sim_var 0) (sim_cons (sim_int 2) sim_nil))) (sim_int 0))) (sim_ret (sim_cb sc_listB (sim_cons (sim_var 1) sim_nil))) sim_next)
    (sim_ret (sim_cb sc_tuple (sim_cons (sim_var 1) sim_nil))))⟩

theorem sc_l_put : FnScope ["_law_row", "_law_at", "_law_item"] ["_law_row", "_law_at", "_law_item"] (defScope (st 36)) := ⟨rfl, rfl, rfl, by decide +kernel, rfl, by decide +kernel, by decide +kernel⟩
def m_l_put : Fm → Rs Fm Fl := (mRet (mOp dAdd (mOp dAdd (mSl dSl (mCB dListB (mCons (mVar 0) mNil)) mNoPart (mPart (mVar 1))) (mLst (mCons (mVar 2) mNil))) (mSl dSl (mCB dListB (mCons (mVar 0) mNil)) (mPart (mVar 1)) mNoPart)))
theorem m_l_put_ap (s : Fm) : m_l_put s = (mRet (mOp dAdd (mOp dAdd (mSl dSl (mCB dListB (mCons (mVar 0) mNil)) mNoPart (mPart (mVar 1))) (mLst (mCons (mVar 2) mNil))) (mSl dSl (mCB dListB (mCons (mVar 0) mNil)) (mPart (mVar 1)) mNoPart))) s := rfl
def f_l_put : List D → Sto → Rs Sto Val := fnM 3 3 m_l_put
theorem ok_l_put (T : Ft K mg) : Good P w K mg base (L2N.CX P w) 1 (He.fAd K ("_law_put", none)) ["_law_row", "_law_at", "_law_item"] (spF K f_l_put) := by
  obtain ⟨fd, F⟩ := T.d_l_put
  refine ⟨fd, fn_ok F sc_l_put (by decide) fun cdv A outer s H E hr => ?_, F.bindsN fun _ _ _ _ _ _ us hl => match us, hl with | [_, _, _], _ => rfl, F.kp⟩
  have sc := sc_l_put
  exact ⟨_, (pss_one (ps_ret (pe_op op_addA (pe_op op_addA (pe_slice sl_any (pe_callTy (call_listB rfl) rfl T.n_list (by rfl) (pa_cons (pv 0) pa_nil)) po_none (po_some (pv 1))) (pe_lst (pa_cons (pv 2) pa_nil))) (pe_slice sl_any (pe_callTy (call_listB rfl) rfl T.n_list (by rfl) (pa_cons (pv 0) pa_nil)) (po_some (pv 1)) po_none)))),
    (sim_ret (sim_op sop_add (sim_op sop_add (sim_sl ssl_any (sim_cb sc_listB (sim_cons (sim_var 0) sim_nil)) sim_noPart (sim_part (sim_var 1))) (sim_lst (sim_cons (sim_var 2) sim_nil))) (sim_sl ssl_any (sim_cb sc_listB (sim_cons (sim_var 0) sim_nil)) (sim_part (sim_var 1)) sim_noPart)))⟩

theorem sc_l_sign : FnScope ["_law_number_here"] ["_law_number_here"] (defScope (st 37)) := ⟨rfl, rfl, rfl, by decide +kernel, rfl, by decide +kernel, by decide +kernel⟩
def m_l_sign : Fm → Rs Fm Fl := (mRet (mOp dIx (mC (.str "abcdefghijklmnopqrstuvwxyz0123456789")) (mOp dMod (mCB dInt (mCons (mVar 0) mNil)) (mC (.int 36)))))
theorem m_l_sign_ap (s : Fm) : m_l_sign s = (mRet (mOp dIx (mC (.str "abcdefghijklmnopqrstuvwxyz0123456789")) (mOp dMod (mCB dInt (mCons (mVar 0) mNil)) (mC (.int 36))))) s := rfl
def f_l_sign : List D → Sto → Rs Sto Val := fnM 1 1 m_l_sign
theorem ok_l_sign (T : Ft K mg) : Good P w K mg base (L2N.CX P w) 1 (He.fAd K ("_law_sign", none)) ["_law_number_here"] (spF K f_l_sign) := by
  obtain ⟨fd, F⟩ := T.d_l_sign
  refine ⟨fd, fn_ok F sc_l_sign (by decide) fun cdv A outer s H E hr => ?_, F.bindsN fun _ _ _ _ _ _ us hl => match us, hl with | [_], _ => rfl, F.kp⟩
  have sc := sc_l_sign
  exact ⟨_, (pss_one (ps_ret (pe_ix (ix_any hr.units) pe_str (pe_op op_mod (pe_callTy call_intA rfl T.n_int (by rfl) (pa_cons (pv 0) pa_nil)) pe_int) (fun _ _ => rfl)))),
    (sim_ret (sim_op sop_ix (sim_str "abcdefghijklmnopqrstuvwxyz0123456789") (sim_op sop_mod (sim_cb sc_int (sim_cons (sim_var 0) sim_nil)) (sim_int 36))))⟩

theorem sc_l_name_of : FnScope ["_law_number_here", "_law_size", "_law_rest", "_law_name_here", "_law_k"] ["_law_number_here"] (defScope (st 38)) := ⟨rfl, rfl, rfl, by decide +kernel, rfl, by decide +kernel, by decide +kernel⟩
def m_l_name_of_b1 : Fm → Rs Fm Fl := (mSeq (mSet 3 (mOp dAdd (mVar 3) (mCall0 f_l_sign (mCons (mOp dMod (mVar 2) (mC (.int 36))) mNil))))
    (mSet 2 (mOp dFdivW (mVar 2) (mC (.int 36)))))
theorem m_l_name_of_b1_ap (s : Fm) : m_l_name_of_b1 s = (mSeq (mSet 3 (mOp dAdd (mVar 3) (mCall0 f_l_sign (mCons (mOp dMod (mVar 2) (mC (.int 36))) mNil))))
    (mSet 2 (mOp dFdivW (mVar 2) (mC (.int 36))))) s := rfl
def m_l_name_of : Fm → Rs Fm Fl := (mSeq (mSet 1 (mOp dMod (mCB dInt (mCons (mVar 0) mNil)) (mC (.int 8))))
    (mSeq (mSet 2 (mOp dFdivW (mCB dInt (mCons (mVar 0) mNil)) (mC (.int 8))))
    (mSeq (mSet 3 (mCall0 f_l_sign (mCons (mOp dMod (mVar 2) (mC (.int 26))) mNil)))
    (mSeq (mSet 2 (mOp dFdivW (mVar 2) (mC (.int 26))))
    (mSeq (mFor (mRng (mCons (mVar 1) mNil)) (gN 4) m_l_name_of_b1)
    (mRet (mVar 3)))))))
theorem m_l_name_of_ap (s : Fm) : m_l_name_of s = (mSeq (mSet 1 (mOp dMod (mCB dInt (mCons (mVar 0) mNil)) (mC (.int 8))))
    (mSeq (mSet 2 (mOp dFdivW (mCB dInt (mCons (mVar 0) mNil)) (mC (.int 8))))
    (mSeq (mSet 3 (mCall0 f_l_sign (mCons (mOp dMod (mVar 2) (mC (.int 26))) mNil)))
    (mSeq (mSet 2 (mOp dFdivW (mVar 2) (mC (.int 26))))
    (mSeq (mFor (mRng (mCons (mVar 1) mNil)) (gN 4) m_l_name_of_b1)
    (mRet (mVar 3))))))) s := rfl
def f_l_name_of : List D → Sto → Rs Sto Val := fnM 1 5 m_l_name_of
theorem ok_l_name_of (T : Ft K mg) : Good P w K mg base (L2N.CX P w) 2 (He.fAd K ("_law_name_of", none)) ["_law_number_here"] (spF K f_l_name_of) := by
  obtain ⟨fd, F⟩ := T.d_l_name_of
  refine ⟨fd, fn_ok F sc_l_name_of (by decide) fun cdv A outer s H E hr => ?_, F.bindsN fun _ _ _ _ _ _ us hl => match us, hl with | [_], _ => rfl, F.kp⟩
  have sc := sc_l_name_of
  exact ⟨_, (pss_cons (ps_set (i := 1) sc.nd rfl (by first | exact Or.inl rfl | exact Or.inr rfl) (pe_op op_mod (pe_callTy call_intA rfl T.n_int (by rfl) (pa_cons (pv 0) pa_nil)) pe_int))
    (pss_cons (ps_set (i := 2) sc.nd rfl (by first | exact Or.inl rfl | exact Or.inr rfl) (pe_op op_fdivW (pe_callTy call_intA rfl T.n_int (by rfl) (pa_cons (pv 0) pa_nil)) pe_int))
    (pss_cons (ps_set (i := 3) sc.nd rfl (by first | exact Or.inl rfl | exact Or.inr rfl) (pe_callG (ok_l_sign T) (hr.mono (by decide)) T.g__law_sign passN (pa_cons (pe_op op_mod (pv 2) pe_int) pa_nil)))
    (pss_cons (ps_set (i := 2) sc.nd rfl (by first | exact Or.inl rfl | exact Or.inr rfl) (pe_op op_fdivW (pv 2) pe_int))
    (pss_cons (ps_for (passes_of rfl) rfl (pi_range1 rfl T.n_range (pa_cons (pv 1) pa_nil)) (pg_name sc.nd rfl (by first | exact Or.inl rfl | exact Or.inr rfl)) (pss_cons (ps_set (i := 3) sc.nd rfl (by first | exact Or.inl rfl | exact Or.inr rfl) (pe_op op_addA (pv 3) (pe_callG (ok_l_sign T) (hr.mono (by decide)) T.g__law_sign passN (pa_cons (pe_op op_mod (pv 2) pe_int) pa_nil))))
    (pss_one (ps_set (i := 2) sc.nd rfl (by first | exact Or.inl rfl | exact Or.inr rfl) (pe_op op_fdivW (pv 2) pe_int)))))
    (pss_one (ps_ret (pv 3)))))))),
    (sim_seq (sim_set (i := 1) (sim_op sop_mod (sim_cb sc_int (sim_cons (sim_var 0) sim_nil)) (sim_int 8)))
    (sim_seq (sim_set (i := 2) (sim_op sop_fdivW (sim_cb sc_int (sim_cons (sim_var 0) sim_nil)) (sim_int 8)))
    (sim_seq (sim_set (i := 3) (sim_call0 (sim_cons (sim_op sop_mod (sim_var 2) (sim_int 26)) sim_nil)))
    (sim_seq (sim_set (i := 2) (sim_op sop_fdivW (sim_var 2) (sim_int 26)))
    (sim_seq (sim_for (sim_rng1 (sim_cons (sim_var 1) sim_nil) (len1 (W := noX))) (sim_gN 4) (sim_seq (sim_set (i := 3) (sim_op sop_add (sim_var 3) (sim_call0 (sim_cons (sim_op sop_mod (sim_var 2) (sim_int 36)) sim_nil))))
    (sim_set (i := 2) (sim_op sop_fdivW (sim_var 2) (sim_int 36)))))
    (sim_ret (sim_var 3)))))))⟩

theorem sc_l_name : FnScope ["_law_store_here"] ["_law_store_here"] (defScope (st 39)) := ⟨rfl, rfl, rfl, by decide +kernel, rfl, by decide +kernel, by decide +kernel⟩
def m_l_name : Fm → Rs Fm Fl := (mRet (mCall0 f_l_name_of (mCons (mCall0 f_l_take (mCons (mVar 0) (mCons (mOp dMul (mOp dMul (mC (.int 8)) (mC (.int 26))) (mOp dPow (mC (.int 36)) (mC (.int 7)))) mNil))) mNil)))
theorem m_l_name_ap (s : Fm) : m_l_name s = (mRet (mCall0 f_l_name_of (mCons (mCall0 f_l_take (mCons (mVar 0) (mCons (mOp dMul (mOp dMul (mC (.int 8)) (mC (.int 26))) (mOp dPow (mC (.int 36)) (mC (.int 7)))) mNil))) mNil))) s := rfl
def f_l_name : List D → Sto → Rs Sto Val := fnM 1 1 m_l_name
theorem ok_l_name (T : Ft K mg) : Good P w K mg base (L2N.CX P w) 3 (He.fAd K ("_law_name", none)) ["_law_store_here"] (spF K f_l_name) := by
  obtain ⟨fd, F⟩ := T.d_l_name
  refine ⟨fd, fn_ok F sc_l_name (by decide) fun cdv A outer s H E hr => ?_, F.bindsN fun _ _ _ _ _ _ us hl => match us, hl with | [_], _ => rfl, F.kp⟩
  have sc := sc_l_name
  exact ⟨_, (pss_one (ps_ret (pe_callG (ok_l_name_of T) (hr.mono (by decide)) T.g__law_name_of passN (pa_cons (pe_callG (ok_l_take T) (hr.mono (by decide)) T.g__law_take passN (pa_cons (pv 0) (pa_cons (pe_op op_mulA (pe_op op_mulA pe_int pe_int) (pe_op op_pow pe_int pe_int)) pa_nil))) pa_nil)))),
    (sim_ret (sim_call0 (sim_cons (sim_call0 (sim_cons (sim_var 0) (sim_cons (sim_op sop_mul (sim_op sop_mul (sim_int 8) (sim_int 26)) (sim_op sop_pow (sim_int 36) (sim_int 7))) sim_nil))) sim_nil)))⟩

theorem sc_l_unlike : FnScope ["_law_name_here", "_law_taken", "_law_k", "_law_other"] ["_law_name_here", "_law_taken"] (defScope (st 40)) := ⟨rfl, rfl, rfl, by decide +kernel, rfl, by decide +kernel, by decide +kernel⟩
def m_l_unlike_b1 : Fm → Rs Fm Fl := (mSeq (mSet 3 (mOp dAdd (mOp dAdd (mSl dSl (mVar 0) mNoPart (mPart (mC (.int 6)))) (mCall0 f_l_sign (mCons (mOp dMod (mOp dFdivW (mVar 2) (mC (.int 26))) (mC (.int 26))) mNil))) (mCall0 f_l_sign (mCons (mOp dMod (mVar 2) (mC (.int 26))) mNil))))
    (mIf (mB (mOp dNotIn (mVar 3) (mVar 1))) (mRet (mVar 3)) mNext))
theorem m_l_unlike_b1_ap (s : Fm) : m_l_unlike_b1 s = (mSeq (mSet 3 (mOp dAdd (mOp dAdd (mSl dSl (mVar 0) mNoPart (mPart (mC (.int 6)))) (mCall0 f_l_sign (mCons (mOp dMod (mOp dFdivW (mVar 2) (mC (.int 26))) (mC (.int 26))) mNil))) (mCall0 f_l_sign (mCons (mOp dMod (mVar 2) (mC (.int 26))) mNil))))
    (mIf (mB (mOp dNotIn (mVar 3) (mVar 1))) (mRet (mVar 3)) mNext)) s := rfl
def m_l_unlike : Fm → Rs Fm Fl := (mSeq (mIf (mB (mOp dNotIn (mVar 0) (mVar 1))) (mRet (mVar 0)) mNext)
    (mSeq (mFor (mRng (mCons (mOp dAdd (mCB dLen (mCons (mVar 1) mNil)) (mC (.int 1))) mNil)) (gN 2) m_l_unlike_b1)
    (mRet (mVar 0))))
theorem m_l_unlike_ap (s : Fm) : m_l_unlike s = (mSeq (mIf (mB (mOp dNotIn (mVar 0) (mVar 1))) (mRet (mVar 0)) mNext)
    (mSeq (mFor (mRng (mCons (mOp dAdd (mCB dLen (mCons (mVar 1) mNil)) (mC (.int 1))) mNil)) (gN 2) m_l_unlike_b1)
    (mRet (mVar 0)))) s := rfl
def f_l_unlike : List D → Sto → Rs Sto Val := fnM 2 4 m_l_unlike
theorem ok_l_unlike (T : Ft K mg) : Good P w K mg base (L2N.CX P w) 2 (He.fAd K ("_law_unlike", none)) ["_law_name_here", "_law_taken"] (spF K f_l_unlike) := by
  obtain ⟨fd, F⟩ := T.d_l_unlike
  refine ⟨fd, fn_ok F sc_l_unlike (by decide) fun cdv A outer s H E hr => ?_, F.bindsN fun _ _ _ _ _ _ us hl => match us, hl with | [_, _], _ => rfl, F.kp⟩
  have sc := sc_l_unlike
  exact ⟨_, (pss_cons (ps_if (pt_cmpR (op_notInP hr.units) (pv 0) (pv 1) (by rfl)) (pss_one (ps_ret (pv 0))) pss_nil)
    (pss_cons (ps_for (passes_of rfl) rfl (pi_range1 rfl T.n_range (pa_cons (pe_op op_addA (pe_callB call_lenA rfl T.n_len (by rfl) (pa_cons (pv 1) pa_nil)) pe_int) pa_nil)) (pg_name sc.nd rfl (by first | exact Or.inl rfl | exact Or.inr rfl)) (pss_cons (ps_set (i := 3) sc.nd rfl (by first | exact Or.inl rfl | exact Or.inr rfl) (pe_op op_addA (pe_op op_addA (pe_slice sl_any (pv 0) po_none (po_some pe_int)) (pe_callG (ok_l_sign T) (hr.mono (by decide)) T.g__law_sign passN (pa_cons (pe_op op_mod (pe_op op_fdivW (pv 2) pe_int) pe_int) pa_nil))) (pe_callG (ok_l_sign T) (hr.mono (by decide)) T.g__law_sign passN (pa_cons (pe_op op_mod (pv 2) pe_int) pa_nil))))
    (pss_one (ps_if (pt_cmpR (op_notInP hr.units) (pv 3) (pv 1) (by rfl)) (pss_one (ps_ret (pv 3))) pss_nil))))
    (pss_one (ps_ret (pv 0))))),
    (sim_seq (sim_if (sim_test (sim_op sop_notIn (sim_var 0) (sim_var 1))) (sim_ret (sim_var 0)) sim_next)
    (sim_seq (sim_for (sim_rng1 (sim_cons (sim_op sop_add (sim_cb sc_len (sim_cons (sim_var 1) sim_nil)) (sim_int 1)) sim_nil) (len1 (W := noX))) (sim_gN 2) (sim_seq (sim_set (i := 3) (sim_op sop_add (sim_op sop_add (sim_sl ssl_any (sim_var 0) sim_noPart (sim_part (sim_int 6))) (sim_call0 (sim_cons (sim_op sop_mod (sim_op sop_fdivW (sim_var 2) (sim_int 26)) (sim_int 26)) sim_nil))) (sim_call0 (sim_cons (sim_op sop_mod (sim_var 2) (sim_int 26)) sim_nil))))
    (sim_if (sim_test (sim_op sop_notIn (sim_var 3) (sim_var 1))) (sim_ret (sim_var 3)) sim_next)))
    (sim_ret (sim_var 0))))⟩

theorem sc_l_name_like : FnScope ["_law_store_here", "_law_manner", "_law_stem", "_law_at", "_law_words"] ["_law_store_here", "_law_manner", "_law_stem"] (defScope (st 41)) := ⟨rfl, rfl, rfl, by decide +kernel, rfl, by decide +kernel, by decide +kernel⟩
def m_l_name_like : Fm → Rs Fm Fl := (mSeq (mIf (mB (mOp dEq (mVar 1) (mC (.int 1)))) (mSeq (mSet 3 (mCall0 f_l_take (mCons (mVar 0) (mCons (mCB dLen (mCons (mVar 2) mNil)) mNil))))
    (mSeq (mIf (mB (mOp dEq (mVar 3) (mC (.int 0)))) (mRet (mOp dAdd (mCall0 f_l_sign (mCons (mCall0 f_l_take (mCons (mVar 0) (mCons (mC (.int 26)) mNil))) mNil)) (mSl dSl (mVar 2) (mPart (mC (.int 1))) mNoPart))) mNext)
    (mRet (mOp dAdd (mOp dAdd (mSl dSl (mVar 2) mNoPart (mPart (mVar 3))) (mCall0 f_l_sign (mCons (mCall0 f_l_take (mCons (mVar 0) (mCons (mC (.int 36)) mNil))) mNil))) (mSl dSl (mVar 2) (mPart (mOp dAdd (mVar 3) (mC (.int 1)))) mNoPart))))) mNext)
    (mSeq (mIf (mB (mOp dEq (mVar 1) (mC (.int 2)))) (mRet (mSl dSl (mVar 2) mNoPart (mPart (mOp dAdd (mC (.int 1)) (mCall0 f_l_take (mCons (mVar 0) (mCons (mCB dLen (mCons (mVar 2) mNil)) mNil))))))) mNext)
    (mSeq (mIf (mB (mOp dEq (mVar 1) (mC (.int 3)))) (mRet (mOp dAdd (mSl dSl (mVar 2) mNoPart (mPart (mC (.int 4)))) (mCB dStr (mCons (mCall0 f_l_take (mCons (mVar 0) (mCons (mC (.int 130)) mNil))) mNil)))) mNext)
    (mSeq (mIf (mB (mOp dEq (mVar 1) (mC (.int 4)))) (mRet (mCall0 f_l_sign (mCons (mCall0 f_l_take (mCons (mVar 0) (mCons (mC (.int 26)) mNil))) mNil))) mNext)
    (mSeq (mIf (mB (mOp dEq (mVar 1) (mC (.int 5)))) (mSeq (mSet 4 (mLst (mCons (mC (.str "in")) (mCons (mC (.str "box")) (mCons (mC (.str "shelf")) (mCons (mC (.str "nailed")) (mCons (mC (.str "sealed")) (mCons (mC (.str "then")) (mCons (mC (.str "into")) (mCons (mC (.str "not")) (mCons (mC (.str "end")) (mCons (mC (.str "else")) (mCons (mC (.str "like")) (mCons (mC (.str "within")) (mCons (mC (.str "claim")) mNil)))))))))))))))
    (mRet (mCall0 f_l_pick (mCons (mVar 0) (mCons (mVar 4) mNil))))) mNext)
    (mRet (mCall0 f_l_name (mCons (mVar 0) mNil))))))))
theorem m_l_name_like_ap (s : Fm) : m_l_name_like s = (mSeq (mIf (mB (mOp dEq (mVar 1) (mC (.int 1)))) (mSeq (mSet 3 (mCall0 f_l_take (mCons (mVar 0) (mCons (mCB dLen (mCons (mVar 2) mNil)) mNil))))
    (mSeq (mIf (mB (mOp dEq (mVar 3) (mC (.int 0)))) (mRet (mOp dAdd (mCall0 f_l_sign (mCons (mCall0 f_l_take (mCons (mVar 0) (mCons (mC (.int 26)) mNil))) mNil)) (mSl dSl (mVar 2) (mPart (mC (.int 1))) mNoPart))) mNext)
    (mRet (mOp dAdd (mOp dAdd (mSl dSl (mVar 2) mNoPart (mPart (mVar 3))) (mCall0 f_l_sign (mCons (mCall0 f_l_take (mCons (mVar 0) (mCons (mC (.int 36)) mNil))) mNil))) (mSl dSl (mVar 2) (mPart (mOp dAdd (mVar 3) (mC (.int 1)))) mNoPart))))) mNext)
    (mSeq (mIf (mB (mOp dEq (mVar 1) (mC (.int 2)))) (mRet (mSl dSl (mVar 2) mNoPart (mPart (mOp dAdd (mC (.int 1)) (mCall0 f_l_take (mCons (mVar 0) (mCons (mCB dLen (mCons (mVar 2) mNil)) mNil))))))) mNext)
    (mSeq (mIf (mB (mOp dEq (mVar 1) (mC (.int 3)))) (mRet (mOp dAdd (mSl dSl (mVar 2) mNoPart (mPart (mC (.int 4)))) (mCB dStr (mCons (mCall0 f_l_take (mCons (mVar 0) (mCons (mC (.int 130)) mNil))) mNil)))) mNext)
    (mSeq (mIf (mB (mOp dEq (mVar 1) (mC (.int 4)))) (mRet (mCall0 f_l_sign (mCons (mCall0 f_l_take (mCons (mVar 0) (mCons (mC (.int 26)) mNil))) mNil))) mNext)
    (mSeq (mIf (mB (mOp dEq (mVar 1) (mC (.int 5)))) (mSeq (mSet 4 (mLst (mCons (mC (.str "in")) (mCons (mC (.str "box")) (mCons (mC (.str "shelf")) (mCons (mC (.str "nailed")) (mCons (mC (.str "sealed")) (mCons (mC (.str "then")) (mCons (mC (.str "into")) (mCons (mC (.str "not")) (mCons (mC (.str "end")) (mCons (mC (.str "else")) (mCons (mC (.str "like")) (mCons (mC (.str "within")) (mCons (mC (.str "claim")) mNil)))))))))))))))
    (mRet (mCall0 f_l_pick (mCons (mVar 0) (mCons (mVar 4) mNil))))) mNext)
    (mRet (mCall0 f_l_name (mCons (mVar 0) mNil)))))))) s := rfl
def f_l_name_like : List D → Sto → Rs Sto Val := fnM 3 5 m_l_name_like
theorem ok_l_name_like (T : Ft K mg) : Good P w K mg base (L2N.CX P w) 4 (He.fAd K ("_law_name_like", none)) ["_law_store_here", "_law_manner", "_law_stem"] (spF K f_l_name_like) := by
  obtain ⟨fd, F⟩ := T.d_l_name_like
  refine ⟨fd, fn_ok F sc_l_name_like (by decide) fun cdv A outer s H E hr => ?_, F.bindsN fun _ _ _ _ _ _ us hl => match us, hl with | [_, _, _], _ => rfl, F.kp⟩
  have sc := sc_l_name_like
  exact ⟨_, (pss_cons (ps_if (pt_cmpR (op_eqP hr.units) (pv 1) pe_int (nomark _)) (pss_cons (ps_set (i := 3) sc.nd rfl (by first | exact Or.inl rfl | exact Or.inr rfl) (pe_callG (ok_l_take T) (hr.mono (by decide)) T.g__law_take passN (pa_cons (pv 0) (pa_cons (pe_callB call_lenA rfl T.n_len (by rfl) (pa_cons (pv 2) pa_nil)) pa_nil))))
    (pss_cons (ps_if (pt_cmpR (op_eqP hr.units) (pv 3) pe_int (nomark _)) (pss_one (ps_ret (pe_op op_addA (pe_callG (ok_l_sign T) (hr.mono (by decide)) T.g__law_sign passN (pa_cons (pe_callG (ok_l_take T) (hr.mono (by decide)) T.g__law_take passN (pa_cons (pv 0) (pa_cons pe_int pa_nil))) pa_nil)) (pe_slice sl_any (pv 2) (po_some pe_int) po_none)))) pss_nil)
    (pss_one (ps_ret (pe_op op_addA (pe_op op_addA (pe_slice sl_any (pv 2) po_none (po_some (pv 3))) (pe_callG (ok_l_sign T) (hr.mono (by decide)) T.g__law_sign passN (pa_cons (pe_callG (ok_l_take T) (hr.mono (by decide)) T.g__law_take passN (pa_cons (pv 0) (pa_cons pe_int pa_nil))) pa_nil))) (pe_slice sl_any (pv 2) (po_some (pe_op op_addA (pv 3) pe_int)) po_none)))))) pss_nil)
    (pss_cons (ps_if (pt_cmpR (op_eqP hr.units) (pv 1) pe_int (nomark _)) (pss_one (ps_ret (pe_slice sl_any (pv 2) po_none (po_some (pe_op op_addA pe_int (pe_callG (ok_l_take T) (hr.mono (by decide)) T.g__law_take passN (pa_cons (pv 0) (pa_cons (pe_callB call_lenA rfl T.n_len (by rfl) (pa_cons (pv 2) pa_nil)) pa_nil)))))))) pss_nil)
    (pss_cons (ps_if (pt_cmpR (op_eqP hr.units) (pv 1) pe_int (nomark _)) (pss_one (ps_ret (pe_op op_addA (pe_slice sl_any (pv 2) po_none (po_some pe_int)) (pe_callTy call_strA rfl T.n_str (by rfl) (pa_cons (pe_callG (ok_l_take T) (hr.mono (by decide)) T.g__law_take passN (pa_cons (pv 0) (pa_cons pe_int pa_nil))) pa_nil))))) pss_nil)
    (pss_cons (ps_if (pt_cmpR (op_eqP hr.units) (pv 1) pe_int (nomark _)) (pss_one (ps_ret (pe_callG (ok_l_sign T) (hr.mono (by decide)) T.g__law_sign passN (pa_cons (pe_callG (ok_l_take T) (hr.mono (by decide)) T.g__law_take passN (pa_cons (pv 0) (pa_cons pe_int pa_nil))) pa_nil)))) pss_nil)
    (pss_cons (ps_if (pt_cmpR (op_eqP hr.units) (pv 1) pe_int (nomark _)) (pss_cons (ps_set (i := 4) sc.nd rfl (by first | exact Or.inl rfl | exact Or.inr rfl) (pe_lst (pa_cons pe_str (pa_cons pe_str (pa_cons pe_str (pa_cons pe_str (pa_cons pe_str (pa_cons pe_str (pa_cons pe_str (pa_cons pe_str (pa_cons pe_str (pa_cons pe_str (pa_cons pe_str (pa_cons pe_str (pa_cons pe_str pa_nil)))))))))))))))
    (pss_one (ps_ret (pe_callG (ok_l_pick T) (hr.mono (by decide)) T.g__law_pick passN (pa_cons (pv 0) (pa_cons (pv 4) pa_nil)))))) pss_nil)
    (pss_one (ps_ret (pe_callG (ok_l_name T) (hr.mono (by decide)) T.g__law_name passN (pa_cons (pv 0) pa_nil))))))))),
    (sim_seq (sim_if (sim_test (sim_op sop_eq (sim_var 1) (sim_int 1))) (sim_seq (sim_set (i := 3) (sim_call0 (sim_cons (sim_var 0) (sim_cons (sim_cb sc_len (sim_cons (sim_var 2) sim_nil)) sim_nil))))
    (sim_seq (sim_if (sim_test (sim_op sop_eq (sim_var 3) (sim_int 0))) (sim_ret (sim_op sop_add (sim_call0 (sim_cons (sim_call0 (sim_cons (sim_var 0) (sim_cons (sim_int 26) sim_nil))) sim_nil)) (sim_sl ssl_any (sim_var 2) (sim_part (sim_int 1)) sim_noPart))) sim_next)
    (sim_ret (sim_op sop_add (sim_op sop_add (sim_sl ssl_any (sim_var 2) sim_noPart (sim_part (sim_var 3))) (sim_call0 (sim_cons (sim_call0 (sim_cons (sim_var 0) (sim_cons (sim_int 36) sim_nil))) sim_nil))) (sim_sl ssl_any (sim_var 2) (sim_part (sim_op sop_add (sim_var 3) (sim_int 1))) sim_noPart))))) sim_next)
    (sim_seq (sim_if (sim_test (sim_op sop_eq (sim_var 1) (sim_int 2))) (sim_ret (sim_sl ssl_any (sim_var 2) sim_noPart (sim_part (sim_op sop_add (sim_int 1) (sim_call0 (sim_cons (sim_var 0) (sim_cons (sim_cb sc_len (sim_cons (sim_var 2) sim_nil)) sim_nil))))))) sim_next)
    (sim_seq (sim_if (sim_test (sim_op sop_eq (sim_var 1) (sim_int 3))) (sim_ret (sim_op sop_add (sim_sl ssl_any (sim_var 2) sim_noPart (sim_part (sim_int 4))) (sim_cb sc_str (sim_cons (sim_call0 (sim_cons (sim_var 0) (sim_cons (sim_int 130) sim_nil))) sim_nil)))) sim_next)
    (sim_seq (sim_if (sim_test (sim_op sop_eq (sim_var 1) (sim_int 4))) (sim_ret (sim_call0 (sim_cons (sim_call0 (sim_cons (sim_var 0) (sim_cons (sim_int 26) sim_nil))) sim_nil))) sim_next)
    (sim_seq (sim_if (sim_test (sim_op sop_eq (sim_var 1) (sim_int 5))) (sim_seq (sim_set (i := 4) (sim_lst (sim_cons (sim_str "in") (sim_cons (sim_str "box") (sim_cons (sim_str "shelf") (sim_cons (sim_str "nailed") (sim_cons (sim_str "sealed") (sim_cons (sim_str "then") (sim_cons (sim_str "into") (sim_cons (sim_str "not") (sim_cons (sim_str "end") (sim_cons (sim_str "else") (sim_cons (sim_str "like") (sim_cons (sim_str "within") (sim_cons (sim_str "claim") sim_nil)))))))))))))))
    (sim_ret (sim_call0 (sim_cons (sim_var 0) (sim_cons (sim_var 4) sim_nil))))) sim_next)
    (sim_ret (sim_call0 (sim_cons (sim_var 0) sim_nil))))))))⟩

theorem sc_l_names : FnScope ["_law_store_here", "_law_many", "_law_taken", "_law_manner", "_law_stem", "_law_found", "_law_k"] ["_law_store_here", "_law_many", "_law_taken"] (defScope (st 42)) := ⟨rfl, rfl, rfl, by decide +kernel, rfl, by decide +kernel, by decide +kernel⟩
def m_l_names_b1 : Fm → Rs Fm Fl := (mMut 5 fAppend (mCons (mCall0 f_l_unlike (mCons (mCall0 f_l_name_like (mCons (mVar 0) (mCons (mVar 3) (mCons (mVar 4) mNil)))) (mCons (mOp dAdd (mCB dListB (mCons (mVar 2) mNil)) (mVar 5)) mNil))) mNil))
theorem m_l_names_b1_ap (s : Fm) : m_l_names_b1 s = (mMut 5 fAppend (mCons (mCall0 f_l_unlike (mCons (mCall0 f_l_name_like (mCons (mVar 0) (mCons (mVar 3) (mCons (mVar 4) mNil)))) (mCons (mOp dAdd (mCB dListB (mCons (mVar 2) mNil)) (mVar 5)) mNil))) mNil)) s := rfl
def m_l_names : Fm → Rs Fm Fl := (mSeq (mSet 3 (mCall0 f_l_take (mCons (mVar 0) (mCons (mC (.int 6)) mNil))))
    (mSeq (mSet 4 (mCall0 f_l_name (mCons (mVar 0) mNil)))
    (mSeq (mSetO 5 (mLst mNil))
    (mSeq (mFor (mRng (mCons (mVar 1) mNil)) (gN 6) m_l_names_b1)
    (mRet (mVar 5))))))
theorem m_l_names_ap (s : Fm) : m_l_names s = (mSeq (mSet 3 (mCall0 f_l_take (mCons (mVar 0) (mCons (mC (.int 6)) mNil))))
    (mSeq (mSet 4 (mCall0 f_l_name (mCons (mVar 0) mNil)))
    (mSeq (mSetO 5 (mLst mNil))
    (mSeq (mFor (mRng (mCons (mVar 1) mNil)) (gN 6) m_l_names_b1)
    (mRet (mVar 5)))))) s := rfl
def f_l_names : List D → Sto → Rs Sto Val := fnM 3 7 m_l_names
theorem ok_l_names (T : Ft K mg) : Good P w K mg base (L2N.CX P w) 5 (He.fAd K ("_law_names", none)) ["_law_store_here", "_law_many", "_law_taken"] (spF K f_l_names) := by
  obtain ⟨fd, F⟩ := T.d_l_names
  refine ⟨fd, fn_ok F sc_l_names (by decide) fun cdv A outer s H E hr => ?_, F.bindsN fun _ _ _ _ _ _ us hl => match us, hl with | [_, _, _], _ => rfl, F.kp⟩
  have sc := sc_l_names
  exact ⟨_, (pss_cons (ps_set (i := 3) sc.nd rfl (by first | exact Or.inl rfl | exact Or.inr rfl) (pe_callG (ok_l_take T) (hr.mono (by decide)) T.g__law_take passN (pa_cons (pv 0) (pa_cons pe_int pa_nil))))
    (pss_cons (ps_set (i := 4) sc.nd rfl (by first | exact Or.inl rfl | exact Or.inr rfl) (pe_callG (ok_l_name T) (hr.mono (by decide)) T.g__law_name passN (pa_cons (pv 0) pa_nil)))
    (pss_cons (ps_set (i := 5) sc.nd rfl (by first | exact Or.inl rfl | exact Or.inr rfl) (pe_lst pa_nil))
    (pss_cons (ps_for (passes_of rfl) rfl (pi_range1 rfl T.n_range (pa_cons (pv 1) pa_nil)) (pg_name sc.nd rfl (by first | exact Or.inl rfl | exact Or.inr rfl)) (pss_one (ps_expr (pe_bm PySem.F.plainAttrs_list PySem.F.slot_list_append PySem.F.type_list_append mt_append (pv 5) (pa_cons (pe_callG (ok_l_unlike T) (hr.mono (by decide)) T.g__law_unlike passN (pa_cons (pe_callG (ok_l_name_like T) (hr.mono (by decide)) T.g__law_name_like passN (pa_cons (pv 0) (pa_cons (pv 3) (pa_cons (pv 4) pa_nil)))) (pa_cons (pe_op op_addA (pe_callTy (call_listB rfl) rfl T.n_list (by rfl) (pa_cons (pv 2) pa_nil)) (pv 5)) pa_nil))) pa_nil)))))
    (pss_one (ps_ret (pv 5))))))),
    (sim_seq (sim_set (i := 3) (sim_call0 (sim_cons (sim_var 0) (sim_cons (sim_int 6) sim_nil))))
    (sim_seq (sim_set (i := 4) (sim_call0 (sim_cons (sim_var 0) sim_nil)))
    (sim_seq (sim_setO (i := 5) (sim_lst sim_nil))
    (sim_seq (sim_for (sim_rng1 (sim_cons (sim_var 1) sim_nil) (len1 (W := noX))) (sim_gN 6) (sim_mut (i := 5) smut_append (sim_cons (sim_call0 (sim_cons (sim_call0 (sim_cons (sim_var 0) (sim_cons (sim_var 3) (sim_cons (sim_var 4) sim_nil)))) (sim_cons (sim_op sop_add (sim_cb sc_listB (sim_cons (sim_var 2) sim_nil)) (sim_var 5)) sim_nil))) sim_nil)))
    (sim_ret (sim_var 5))))))⟩

theorem sc_l_is_integer : FnScope ["_law_value"] ["_law_value"] (defScope (st 43)) := ⟨rfl, rfl, rfl, by decide +kernel, rfl, by decide +kernel, by decide +kernel⟩
def m_l_is_integer : Fm → Rs Fm Fl := (mRet (mAndV (mCB (dIsi tbB fun _ => false) (mCons (mVar 0) (mCons (mC (.ty "int")) mNil))) (mNotV (mCB (dIsi tbB fun _ => false) (mCons (mVar 0) (mCons (mC (.ty "bool")) mNil))))))
theorem m_l_is_integer_ap (s : Fm) : m_l_is_integer s = (mRet (mAndV (mCB (dIsi tbB fun _ => false) (mCons (mVar 0) (mCons (mC (.ty "int")) mNil))) (mNotV (mCB (dIsi tbB fun _ => false) (mCons (mVar 0) (mCons (mC (.ty "bool")) mNil)))))) s := rfl
def f_l_is_integer : List D → Sto → Rs Sto Val := fnM 1 1 m_l_is_integer
theorem ok_l_is_integer (T : Ft K mg) : Good P w K mg base (L2N.CX P w) 1 (He.fAd K ("_law_is_integer", none)) ["_law_value"] (spF K f_l_is_integer) := by
  obtain ⟨fd, F⟩ := T.d_l_is_integer
  refine ⟨fd, fn_ok F sc_l_is_integer (by decide) fun cdv A outer s H E hr => ?_, F.bindsN fun _ _ _ _ _ _ us hl => match us, hl with | [_], _ => rfl, F.kp⟩
  have sc := sc_l_is_integer
  exact ⟨_, (pss_one (ps_ret (pe_and (pe_callB call_isiA rfl T.n_isinstance (by rfl) (pa_cons (pv 0) (pa_cons (pe_bty rfl T.n_int (by rfl)) pa_nil))) (pe_one (pe_not (pe_callB call_isiA rfl T.n_isinstance (by rfl) (pa_cons (pv 0) (pa_cons (pe_bty rfl T.n_bool (by rfl)) pa_nil)))))))),
    (sim_ret (sim_andV (sim_cb (sc_isi tbB_ok (fun _ h => nomatch h)) (sim_cons (sim_var 0) (sim_cons (sim_ty "int") sim_nil))) (sim_notV (sim_cb (sc_isi tbB_ok (fun _ h => nomatch h)) (sim_cons (sim_var 0) (sim_cons (sim_ty "bool") sim_nil))))))⟩

theorem sc_l_same : FnScope ["_law_one", "_law_other", "_law_k"] ["_law_one", "_law_other"] (defScope (st 44)) := ⟨rfl, rfl, rfl, by decide +kernel, rfl, by decide +kernel, by decide +kernel⟩
def m_l_same_b1 (f : List D → Sto → Rs Sto Val) : Fm → Rs Fm Fl := (mIf (mNot (mB (mCall0 f (mCons (mOp dIx (mVar 0) (mVar 2)) (mCons (mOp dIx (mVar 1) (mVar 2)) mNil))))) (mRet (mC (.bl false))) mNext)
theorem m_l_same_b1_ap (f : List D → Sto → Rs Sto Val) (s : Fm) : m_l_same_b1 f s = (mIf (mNot (mB (mCall0 f (mCons (mOp dIx (mVar 0) (mVar 2)) (mCons (mOp dIx (mVar 1) (mVar 2)) mNil))))) (mRet (mC (.bl false))) mNext) s := rfl
def m_l_same (f : List D → Sto → Rs Sto Val) : Fm → Rs Fm Fl := (mSeq (mIf (mOr (mB (mOp dIs (mVar 0) (mC .non))) (mB (mOp dIs (mVar 1) (mC .non)))) (mRet (mAndV (mOp dIs (mVar 0) (mC .non)) (mOp dIs (mVar 1) (mC .non)))) mNext)
    (mSeq (mIf (mOr (mB (mCB (dIsi tbB fun _ => false) (mCons (mVar 0) (mCons (mC (.ty "bool")) mNil)))) (mB (mCB (dIsi tbB fun _ => false) (mCons (mVar 1) (mCons (mC (.ty "bool")) mNil))))) (mRet (mAndV (mCB (dIsi tbB fun _ => false) (mCons (mVar 0) (mCons (mC (.ty "bool")) mNil))) (mAndV (mCB (dIsi tbB fun _ => false) (mCons (mVar 1) (mCons (mC (.ty "bool")) mNil))) (mOp dEq (mVar 0) (mVar 1))))) mNext)
    (mSeq (mIf (mB (mCB (dIsi tbB fun _ => false) (mCons (mVar 0) (mCons (mC (.ty "int")) mNil)))) (mRet (mAndV (mCB (dIsi tbB fun _ => false) (mCons (mVar 1) (mCons (mC (.ty "int")) mNil))) (mOp dEq (mVar 0) (mVar 1)))) mNext)
    (mSeq (mIf (mB (mCB (dIsi tbB fun _ => false) (mCons (mVar 0) (mCons (mC (.ty "str")) mNil)))) (mRet (mAndV (mCB (dIsi tbB fun _ => false) (mCons (mVar 1) (mCons (mC (.ty "str")) mNil))) (mOp dEq (mVar 0) (mVar 1)))) mNext)
    (mSeq (mIf (mB (mCB (dIsi tbB fun _ => false) (mCons (mVar 0) (mCons (mC (.ty "dict")) mNil)))) mNo mNext)
    (mSeq (mIf (mAnd (mB (mCB (dIsi tbB fun _ => false) (mCons (mVar 0) (mCons (mC (.ty "list")) mNil)))) (mNot (mB (mCB (dIsi tbB fun _ => false) (mCons (mVar 1) (mCons (mC (.ty "list")) mNil)))))) (mRet (mC (.bl false))) mNext)
    (mSeq (mIf (mAnd (mB (mCB (dIsi tbB fun _ => false) (mCons (mVar 0) (mCons (mC (.ty "tuple")) mNil)))) (mNot (mB (mCB (dIsi tbB fun _ => false) (mCons (mVar 1) (mCons (mC (.ty "tuple")) mNil)))))) (mRet (mC (.bl false))) mNext)
    (mSeq (mIf (mOr (mNot (mB (mCB (dIsi tbB fun _ => false) (mCons (mVar 0) (mCons (mTup (mCons (mC (.ty "list")) (mCons (mC (.ty "tuple")) mNil))) mNil))))) (mB (mOp dNe (mCB dLen (mCons (mVar 0) mNil)) (mCB dLen (mCons (mVar 1) mNil))))) (mRet (mC (.bl false))) mNext)
    (mSeq (mFor (mRng (mCons (mCB dLen (mCons (mVar 0) mNil)) mNil)) (gN 2) (m_l_same_b1 f))
    (mRet (mC (.bl true))))))))))))
theorem m_l_same_ap (f : List D → Sto → Rs Sto Val) (s : Fm) : m_l_same f s = (mSeq (mIf (mOr (mB (mOp dIs (mVar 0) (mC .non))) (mB (mOp dIs (mVar 1) (mC .non)))) (mRet (mAndV (mOp dIs (mVar 0) (mC .non)) (mOp dIs (mVar 1) (mC .non)))) mNext)
    (mSeq (mIf (mOr (mB (mCB (dIsi tbB fun _ => false) (mCons (mVar 0) (mCons (mC (.ty "bool")) mNil)))) (mB (mCB (dIsi tbB fun _ => false) (mCons (mVar 1) (mCons (mC (.ty "bool")) mNil))))) (mRet (mAndV (mCB (dIsi tbB fun _ => false) (mCons (mVar 0) (mCons (mC (.ty "bool")) mNil))) (mAndV (mCB (dIsi tbB fun _ => false) (mCons (mVar 1) (mCons (mC (.ty "bool")) mNil))) (mOp dEq (mVar 0) (mVar 1))))) mNext)
    (mSeq (mIf (mB (mCB (dIsi tbB fun _ => false) (mCons (mVar 0) (mCons (mC (.ty "int")) mNil)))) (mRet (mAndV (mCB (dIsi tbB fun _ => false) (mCons (mVar 1) (mCons (mC (.ty "int")) mNil))) (mOp dEq (mVar 0) (mVar 1)))) mNext)
    (mSeq (mIf (mB (mCB (dIsi tbB fun _ => false) (mCons (mVar 0) (mCons (mC (.ty "str")) mNil)))) (mRet (mAndV (mCB (dIsi tbB fun _ => false) (mCons (mVar 1) (mCons (mC (.ty "str")) mNil))) (mOp dEq (mVar 0) (mVar 1)))) mNext)
    (mSeq (mIf (mB (mCB (dIsi tbB fun _ => false) (mCons (mVar 0) (mCons (mC (.ty "dict")) mNil)))) mNo mNext)
    (mSeq (mIf (mAnd (mB (mCB (dIsi tbB fun _ => false) (mCons (mVar 0) (mCons (mC (.ty "list")) mNil)))) (mNot (mB (mCB (dIsi tbB fun _ => false) (mCons (mVar 1) (mCons (mC (.ty "list")) mNil)))))) (mRet (mC (.bl false))) mNext)
    (mSeq (mIf (mAnd (mB (mCB (dIsi tbB fun _ => false) (mCons (mVar 0) (mCons (mC (.ty "tuple")) mNil)))) (mNot (mB (mCB (dIsi tbB fun _ => false) (mCons (mVar 1) (mCons (mC (.ty "tuple")) mNil)))))) (mRet (mC (.bl false))) mNext)
    (mSeq (mIf (mOr (mNot (mB (mCB (dIsi tbB fun _ => false) (mCons (mVar 0) (mCons (mTup (mCons (mC (.ty "list")) (mCons (mC (.ty "tuple")) mNil))) mNil))))) (mB (mOp dNe (mCB dLen (mCons (mVar 0) mNil)) (mCB dLen (mCons (mVar 1) mNil))))) (mRet (mC (.bl false))) mNext)
    (mSeq (mFor (mRng (mCons (mCB dLen (mCons (mVar 0) mNil)) mNil)) (gN 2) (m_l_same_b1 f))
    (mRet (mC (.bl true)))))))))))) s := rfl
def f_l_same : Nat → List D → Sto → Rs Sto Val
  | 0 => fun _ _ => .no
  | n + 1 => fnM 2 3 (m_l_same (f_l_same n))
theorem okr_l_same (T : Ft K mg) : ∀ n : Nat, Good P w K mg base (L2N.CX P w) (n + 1) (He.fAd K ("_law_same", none)) ["_law_one", "_law_other"] (spF K (f_l_same n))
  | 0 => by
    obtain ⟨fd, F⟩ := T.d_l_same
    refine ⟨fd, ⟨fun vs H Q E h => ?_, fun A outer s H args us vs Q E _ _ _ _ h => ?_⟩, F.bindsN fun _ _ _ _ _ _ us hl => match us, hl with | [_, _], _ => rfl, F.kp⟩
    · obtain ⟨_, _, _, _, _, _, _, _, _, _, p⟩ := h
      exact p.elim
    · obtain ⟨_, _, _, _, _, _, _, _, _, _, p⟩ := h
      exact p.elim
  | n + 1 => by
    have G := okr_l_same T n
    obtain ⟨fd, F⟩ := T.d_l_same
    refine ⟨fd, ?_, F.bindsN fun _ _ _ _ _ _ us hl => match us, hl with | [_, _], _ => rfl, F.kp⟩
    rw [show n + 1 + 1 = (n + 1) + 1 by omega]
    refine fn_ok F sc_l_same (by decide) fun cdv A outer s H E hr => ?_
    have sc := sc_l_same
    exact ⟨_, (pss_cons (ps_if (PW.pt (pw_or (pt_cmpR op_isA (pv 0) pe_non (nomark _)) (pw_or1 (pt_cmpR op_isA (pv 1) pe_non (nomark _))))) (pss_one (ps_ret (pe_and (pe_cmpR op_isA (pv 0) pe_non (nomark _)) (pe_one (pe_cmpR op_isA (pv 1) pe_non (nomark _)))))) pss_nil)
    (pss_cons (ps_if (PW.pt (pw_or (pt_val (pe_callB call_isiA rfl T.n_isinstance (by rfl) (pa_cons (pv 0) (pa_cons (pe_bty rfl T.n_bool (by rfl)) pa_nil)))) (pw_or1 (pt_val (pe_callB call_isiA rfl T.n_isinstance (by rfl) (pa_cons (pv 1) (pa_cons (pe_bty rfl T.n_bool (by rfl)) pa_nil))))))) (pss_one (ps_ret (pe_and (pe_callB call_isiA rfl T.n_isinstance (by rfl) (pa_cons (pv 0) (pa_cons (pe_bty rfl T.n_bool (by rfl)) pa_nil))) (pe_and (pe_callB call_isiA rfl T.n_isinstance (by rfl) (pa_cons (pv 1) (pa_cons (pe_bty rfl T.n_bool (by rfl)) pa_nil))) (pe_one (pe_cmpR (op_eqP hr.units) (pv 0) (pv 1) (nomark _))))))) pss_nil)
    (pss_cons (ps_if (pt_val (pe_callB call_isiA rfl T.n_isinstance (by rfl) (pa_cons (pv 0) (pa_cons (pe_bty rfl T.n_int (by rfl)) pa_nil)))) (pss_one (ps_ret (pe_and (pe_callB call_isiA rfl T.n_isinstance (by rfl) (pa_cons (pv 1) (pa_cons (pe_bty rfl T.n_int (by rfl)) pa_nil))) (pe_one (pe_cmpR (op_eqP hr.units) (pv 0) (pv 1) (nomark _)))))) pss_nil)
    (pss_cons (ps_if (pt_val (pe_callB call_isiA rfl T.n_isinstance (by rfl) (pa_cons (pv 0) (pa_cons (pe_bty rfl T.n_str (by rfl)) pa_nil)))) (pss_one (ps_ret (pe_and (pe_callB call_isiA rfl T.n_isinstance (by rfl) (pa_cons (pv 1) (pa_cons (pe_bty rfl T.n_str (by rfl)) pa_nil))) (pe_one (pe_cmpR (op_eqP hr.units) (pv 0) (pv 1) (nomark _)))))) pss_nil)
    (pss_cons (ps_if (pt_val (pe_callB call_isiA rfl T.n_isinstance (by rfl) (pa_cons (pv 0) (pa_cons (pe_bty rfl T.n_dict (by rfl)) pa_nil)))) pss_no pss_nil)
    (pss_cons (ps_if (PW.pt (pw_and (pt_val (pe_callB call_isiA rfl T.n_isinstance (by rfl) (pa_cons (pv 0) (pa_cons (pe_bty rfl T.n_list (by rfl)) pa_nil)))) (pw_and1 (pt_not (pt_val (pe_callB call_isiA rfl T.n_isinstance (by rfl) (pa_cons (pv 1) (pa_cons (pe_bty rfl T.n_list (by rfl)) pa_nil)))))))) (pss_one (ps_ret pe_bl)) pss_nil)
    (pss_cons (ps_if (PW.pt (pw_and (pt_val (pe_callB call_isiA rfl T.n_isinstance (by rfl) (pa_cons (pv 0) (pa_cons (pe_bty rfl T.n_tuple (by rfl)) pa_nil)))) (pw_and1 (pt_not (pt_val (pe_callB call_isiA rfl T.n_isinstance (by rfl) (pa_cons (pv 1) (pa_cons (pe_bty rfl T.n_tuple (by rfl)) pa_nil)))))))) (pss_one (ps_ret pe_bl)) pss_nil)
    (pss_cons (ps_if (PW.pt (pw_or (pt_not (pt_val (pe_callB call_isiA rfl T.n_isinstance (by rfl) (pa_cons (pv 0) (pa_cons (pe_tup (pa_cons (pe_bty rfl T.n_list (by rfl)) (pa_cons (pe_bty rfl T.n_tuple (by rfl)) pa_nil))) pa_nil))))) (pw_or1 (pt_cmpR (op_neP hr.units) (pe_callB call_lenA rfl T.n_len (by rfl) (pa_cons (pv 0) pa_nil)) (pe_callB call_lenA rfl T.n_len (by rfl) (pa_cons (pv 1) pa_nil)) (nomark _))))) (pss_one (ps_ret pe_bl)) pss_nil)
    (pss_cons (ps_for (passes_of rfl) rfl (pi_range1 rfl T.n_range (pa_cons (pe_callB call_lenA rfl T.n_len (by rfl) (pa_cons (pv 0) pa_nil)) pa_nil)) (pg_name sc.nd rfl (by first | exact Or.inl rfl | exact Or.inr rfl)) (pss_one (ps_if (pt_not (pt_val (pe_callG G hr T.g__law_same passN (pa_cons (pe_ix (ix_any hr.units) (pv 0) (pv 2) (fun _ _ => rfl)) (pa_cons (pe_ix (ix_any hr.units) (pv 1) (pv 2) (fun _ _ => rfl)) pa_nil))))) (pss_one (ps_ret pe_bl)) pss_nil)))
    (pss_one (ps_ret pe_bl))))))))))),
      (sim_seq (sim_if (sim_or (sim_test (sim_op sop_is (sim_var 0) sim_non)) (sim_test (sim_op sop_is (sim_var 1) sim_non))) (sim_ret (sim_andV (sim_op sop_is (sim_var 0) sim_non) (sim_op sop_is (sim_var 1) sim_non))) sim_next)
    (sim_seq (sim_if (sim_or (sim_B (sim_cb (sc_isi tbB_ok (fun _ h => nomatch h)) (sim_cons (sim_var 0) (sim_cons (sim_ty "bool") sim_nil)))) (sim_B (sim_cb (sc_isi tbB_ok (fun _ h => nomatch h)) (sim_cons (sim_var 1) (sim_cons (sim_ty "bool") sim_nil))))) (sim_ret (sim_andV (sim_cb (sc_isi tbB_ok (fun _ h => nomatch h)) (sim_cons (sim_var 0) (sim_cons (sim_ty "bool") sim_nil))) (sim_andV (sim_cb (sc_isi tbB_ok (fun _ h => nomatch h)) (sim_cons (sim_var 1) (sim_cons (sim_ty "bool") sim_nil))) (sim_op sop_eq (sim_var 0) (sim_var 1))))) sim_next)
    (sim_seq (sim_if (sim_B (sim_cb (sc_isi tbB_ok (fun _ h => nomatch h)) (sim_cons (sim_var 0) (sim_cons (sim_ty "int") sim_nil)))) (sim_ret (sim_andV (sim_cb (sc_isi tbB_ok (fun _ h => nomatch h)) (sim_cons (sim_var 1) (sim_cons (sim_ty "int") sim_nil))) (sim_op sop_eq (sim_var 0) (sim_var 1)))) sim_next)
    (sim_seq (sim_if (sim_B (sim_cb (sc_isi tbB_ok (fun _ h => nomatch h)) (sim_cons (sim_var 0) (sim_cons (sim_ty "str") sim_nil)))) (sim_ret (sim_andV (sim_cb (sc_isi tbB_ok (fun _ h => nomatch h)) (sim_cons (sim_var 1) (sim_cons (sim_ty "str") sim_nil))) (sim_op sop_eq (sim_var 0) (sim_var 1)))) sim_next)
    (sim_seq (sim_if (sim_B (sim_cb (sc_isi tbB_ok (fun _ h => nomatch h)) (sim_cons (sim_var 0) (sim_cons (sim_ty "dict") sim_nil)))) sim_no sim_next)
    (sim_seq (sim_if (sim_and (sim_B (sim_cb (sc_isi tbB_ok (fun _ h => nomatch h)) (sim_cons (sim_var 0) (sim_cons (sim_ty "list") sim_nil)))) (sim_not (sim_B (sim_cb (sc_isi tbB_ok (fun _ h => nomatch h)) (sim_cons (sim_var 1) (sim_cons (sim_ty "list") sim_nil)))))) (sim_ret (sim_bl false)) sim_next)
    (sim_seq (sim_if (sim_and (sim_B (sim_cb (sc_isi tbB_ok (fun _ h => nomatch h)) (sim_cons (sim_var 0) (sim_cons (sim_ty "tuple") sim_nil)))) (sim_not (sim_B (sim_cb (sc_isi tbB_ok (fun _ h => nomatch h)) (sim_cons (sim_var 1) (sim_cons (sim_ty "tuple") sim_nil)))))) (sim_ret (sim_bl false)) sim_next)
    (sim_seq (sim_if (sim_or (sim_not (sim_B (sim_cb (sc_isi tbB_ok (fun _ h => nomatch h)) (sim_cons (sim_var 0) (sim_cons (sim_tup (sim_cons (sim_ty "list") (sim_cons (sim_ty "tuple") sim_nil))) sim_nil))))) (sim_test (sim_op sop_ne (sim_cb sc_len (sim_cons (sim_var 0) sim_nil)) (sim_cb sc_len (sim_cons (sim_var 1) sim_nil))))) (sim_ret (sim_bl false)) sim_next)
    (sim_seq (sim_for (sim_rng1 (sim_cons (sim_cb sc_len (sim_cons (sim_var 0) sim_nil)) sim_nil) (len1 (W := noX))) (sim_gN 2) (sim_if (sim_not (sim_B (sim_call0 (sim_cons (sim_op sop_ix (sim_var 0) (sim_var 2)) (sim_cons (sim_op sop_ix (sim_var 1) (sim_var 2)) sim_nil))))) (sim_ret (sim_bl false)) sim_next))
    (sim_ret (sim_bl true)))))))))))⟩
theorem ok_l_same (n : Nat) (T : Ft K mg) : Good P w K mg base (L2N.CX P w) (n + 1) (He.fAd K ("_law_same", none)) ["_law_one", "_law_other"] (spF K (f_l_same n)) := okr_l_same T n

def mh_l_same : Fm → Rs Fm Fl := (mSeq (mIf (mOr (mB (mOp dIs (mVar 0) (mC .non))) (mB (mOp dIs (mVar 1) (mC .non)))) (mRet (mAndV (mOp dIs (mVar 0) (mC .non)) (mOp dIs (mVar 1) (mC .non)))) mNext)
    (mSeq (mIf (mOr (mB (mCB (dIsi tbB fun _ => false) (mCons (mVar 0) (mCons (mC (.ty "bool")) mNil)))) (mB (mCB (dIsi tbB fun _ => false) (mCons (mVar 1) (mCons (mC (.ty "bool")) mNil))))) (mRet (mAndV (mCB (dIsi tbB fun _ => false) (mCons (mVar 0) (mCons (mC (.ty "bool")) mNil))) (mAndV (mCB (dIsi tbB fun _ => false) (mCons (mVar 1) (mCons (mC (.ty "bool")) mNil))) (mOp dEq (mVar 0) (mVar 1))))) mNext)
    (mSeq (mIf (mB (mCB (dIsi tbB fun _ => false) (mCons (mVar 0) (mCons (mC (.ty "int")) mNil)))) (mRet (mAndV (mCB (dIsi tbB fun _ => false) (mCons (mVar 1) (mCons (mC (.ty "int")) mNil))) (mOp dEq (mVar 0) (mVar 1)))) mNext)
    mNo)))
def fh_l_same : List D → Sto → Rs Sto Val := fnM 2 3 mh_l_same
theorem okh_l_same (T : Ft K mg) : GoodH P w K mg base (L2N.CX P w) 1 (He.fAd K ("_law_same", none)) ["_law_one", "_law_other"] (spF K fh_l_same) := by
  obtain ⟨fd, F⟩ := T.d_l_same
  refine ⟨fd, fn_okH F sc_l_same (by decide) fun cdv A outer s H E p hot hr => ?_, F.bindsN fun _ _ _ _ _ _ us hl => match us, hl with | [_, _], _ => rfl, F.kp⟩
  have sc := sc_l_same
  exact ⟨_, (pss_cons (ps_if (PW.pt (pw_or (pt_cmpR op_isA (pv 0) pe_non (nomark _)) (pw_or1 (pt_cmpR op_isA (pv 1) pe_non (nomark _))))) (pss_one (ps_ret (pe_and (pe_cmpR op_isA (pv 0) pe_non (nomark _)) (pe_one (pe_cmpR op_isA (pv 1) pe_non (nomark _)))))) pss_nil)
    (pss_cons (ps_if (PW.pt (pw_or (pt_val (pe_callB call_isiA rfl T.n_isinstance (by rfl) (pa_cons (pv 0) (pa_cons (pe_bty rfl T.n_bool (by rfl)) pa_nil)))) (pw_or1 (pt_val (pe_callB call_isiA rfl T.n_isinstance (by rfl) (pa_cons (pv 1) (pa_cons (pe_bty rfl T.n_bool (by rfl)) pa_nil))))))) (pss_one (ps_ret (pe_and (pe_callB call_isiA rfl T.n_isinstance (by rfl) (pa_cons (pv 0) (pa_cons (pe_bty rfl T.n_bool (by rfl)) pa_nil))) (pe_and (pe_callB call_isiA rfl T.n_isinstance (by rfl) (pa_cons (pv 1) (pa_cons (pe_bty rfl T.n_bool (by rfl)) pa_nil))) (pe_one (pe_cmpR (op_eqP (huH hr)) (pv 0) (pv 1) (nomark _))))))) pss_nil)
    (pss_cons (ps_if (pt_val (pe_callB call_isiA rfl T.n_isinstance (by rfl) (pa_cons (pv 0) (pa_cons (pe_bty rfl T.n_int (by rfl)) pa_nil)))) (pss_one (ps_ret (pe_and (pe_callB call_isiA rfl T.n_isinstance (by rfl) (pa_cons (pv 1) (pa_cons (pe_bty rfl T.n_int (by rfl)) pa_nil))) (pe_one (pe_cmpR (op_eqP (huH hr)) (pv 0) (pv 1) (nomark _)))))) pss_nil)
    pss_no))),
    (sim_seq (sim_if (sim_or (sim_test (sim_op sop_is (sim_var 0) sim_non)) (sim_test (sim_op sop_is (sim_var 1) sim_non))) (sim_ret (sim_andV (sim_op sop_is (sim_var 0) sim_non) (sim_op sop_is (sim_var 1) sim_non))) sim_next)
    (sim_seq (sim_if (sim_or (sim_B (sim_cb (sc_isi tbB_ok (fun _ h => nomatch h)) (sim_cons (sim_var 0) (sim_cons (sim_ty "bool") sim_nil)))) (sim_B (sim_cb (sc_isi tbB_ok (fun _ h => nomatch h)) (sim_cons (sim_var 1) (sim_cons (sim_ty "bool") sim_nil))))) (sim_ret (sim_andV (sim_cb (sc_isi tbB_ok (fun _ h => nomatch h)) (sim_cons (sim_var 0) (sim_cons (sim_ty "bool") sim_nil))) (sim_andV (sim_cb (sc_isi tbB_ok (fun _ h => nomatch h)) (sim_cons (sim_var 1) (sim_cons (sim_ty "bool") sim_nil))) (sim_op sop_eq (sim_var 0) (sim_var 1))))) sim_next)
    (sim_seq (sim_if (sim_B (sim_cb (sc_isi tbB_ok (fun _ h => nomatch h)) (sim_cons (sim_var 0) (sim_cons (sim_ty "int") sim_nil)))) (sim_ret (sim_andV (sim_cb (sc_isi tbB_ok (fun _ h => nomatch h)) (sim_cons (sim_var 1) (sim_cons (sim_ty "int") sim_nil))) (sim_op sop_eq (sim_var 0) (sim_var 1)))) sim_next)
    sim_no)))⟩

theorem sc_l_copy : FnScope ["_law_thing", "_law_one", "_law_found", "_law_key"] ["_law_thing"] (defScope (st 45)) := ⟨rfl, rfl, rfl, by decide +kernel, rfl, by decide +kernel, by decide +kernel⟩
def m_l_copy (f : List D → Sto → Rs Sto Val) : Fm → Rs Fm Fl := (mSeq (mIf (mB (mCB (dIsi tbB fun _ => false) (mCons (mVar 0) (mCons (mC (.ty "list")) mNil)))) (mRet (mLc (mSrc seqD (mVar 0)) (gN 1) mYes (mCall0 f (mCons (mVar 1) mNil)) [1])) mNext)
    (mSeq (mIf (mB (mCB (dIsi tbB fun _ => false) (mCons (mVar 0) (mCons (mC (.ty "tuple")) mNil)))) (mRet (mCB dTuple (mCons (mLc (mSrc seqD (mVar 0)) (gN 1) mYes (mCall0 f (mCons (mVar 1) mNil)) [1]) mNil))) mNext)
    (mSeq (mIf (mB (mCB (dIsi tbB fun _ => false) (mCons (mVar 0) (mCons (mC (.ty "dict")) mNil)))) mNo mNext)
    (mRet (mVar 0)))))
theorem m_l_copy_ap (f : List D → Sto → Rs Sto Val) (s : Fm) : m_l_copy f s = (mSeq (mIf (mB (mCB (dIsi tbB fun _ => false) (mCons (mVar 0) (mCons (mC (.ty "list")) mNil)))) (mRet (mLc (mSrc seqD (mVar 0)) (gN 1) mYes (mCall0 f (mCons (mVar 1) mNil)) [1])) mNext)
    (mSeq (mIf (mB (mCB (dIsi tbB fun _ => false) (mCons (mVar 0) (mCons (mC (.ty "tuple")) mNil)))) (mRet (mCB dTuple (mCons (mLc (mSrc seqD (mVar 0)) (gN 1) mYes (mCall0 f (mCons (mVar 1) mNil)) [1]) mNil))) mNext)
    (mSeq (mIf (mB (mCB (dIsi tbB fun _ => false) (mCons (mVar 0) (mCons (mC (.ty "dict")) mNil)))) mNo mNext)
    (mRet (mVar 0))))) s := rfl
def f_l_copy : Nat → List D → Sto → Rs Sto Val
  | 0 => fun _ _ => .no
  | n + 1 => fnM 1 4 (m_l_copy (f_l_copy n))
theorem okr_l_copy (T : Ft K mg) : ∀ n : Nat, Good P w K mg base (L2N.CX P w) (n + 1) (He.fAd K ("_law_copy", none)) ["_law_thing"] (spF K (f_l_copy n))
  | 0 => by
    obtain ⟨fd, F⟩ := T.d_l_copy
    refine ⟨fd, ⟨fun vs H Q E h => ?_, fun A outer s H args us vs Q E _ _ _ _ h => ?_⟩, F.bindsN fun _ _ _ _ _ _ us hl => match us, hl with | [_], _ => rfl, F.kp⟩
    · obtain ⟨_, _, _, _, _, _, _, _, _, _, p⟩ := h
      exact p.elim
    · obtain ⟨_, _, _, _, _, _, _, _, _, _, p⟩ := h
      exact p.elim
  | n + 1 => by
    have G := okr_l_copy T n
    obtain ⟨fd, F⟩ := T.d_l_copy
    refine ⟨fd, ?_, F.bindsN fun _ _ _ _ _ _ us hl => match us, hl with | [_], _ => rfl, F.kp⟩
    rw [show n + 1 + 1 = (n + 1) + 1 by omega]
    refine fn_ok F sc_l_copy (by decide) fun cdv A outer s H E hr => ?_
    have sc := sc_l_copy
    exact ⟨_, (pss_cons (ps_if (pt_val (pe_callB call_isiA rfl T.n_isinstance (by rfl) (pa_cons (pv 0) (pa_cons (pe_bty rfl T.n_list (by rfl)) pa_nil)))) (pss_one (ps_ret (pe_lc (own := [("_law_one", 1)]) rfl sc.nd (pi_seq (pv 0)) (blkOk_by (by kernel_rfl)) (fun _ _ _ _ _ => (pg_name sc.nd rfl (by first | exact Or.inl rfl | exact Or.inr rfl))) (fun _ _ _ _ _ => pts_nil) (fun _ _ _ _ _ => (pe_callG G hr T.g__law_copy passN (pa_cons (pv 1) pa_nil)))))) pss_nil)
    (pss_cons (ps_if (pt_val (pe_callB call_isiA rfl T.n_isinstance (by rfl) (pa_cons (pv 0) (pa_cons (pe_bty rfl T.n_tuple (by rfl)) pa_nil)))) (pss_one (ps_ret (pe_callTy call_tupleA rfl T.n_tuple (by rfl) (pa_cons (pe_lc (own := [("_law_one", 1)]) rfl sc.nd (pi_seq (pv 0)) (blkOk_by (by kernel_rfl)) (fun _ _ _ _ _ => (pg_name sc.nd rfl (by first | exact Or.inl rfl | exact Or.inr rfl))) (fun _ _ _ _ _ => pts_nil) (fun _ _ _ _ _ => (pe_callG G hr T.g__law_copy passN (pa_cons (pv 1) pa_nil)))) pa_nil)))) pss_nil)
    (pss_cons (ps_if (pt_val (pe_callB call_isiA rfl T.n_isinstance (by rfl) (pa_cons (pv 0) (pa_cons (pe_bty rfl T.n_dict (by rfl)) pa_nil)))) pss_no pss_nil)
    (pss_one (ps_ret (pv 0)))))),
      (sim_seq (sim_if (sim_B (sim_cb (sc_isi tbB_ok (fun _ h => nomatch h)) (sim_cons (sim_var 0) (sim_cons (sim_ty "list") sim_nil)))) (sim_ret (sim_lc (sim_seqI (sim_var 0)) (sim_gN 1) (by decide) sim_yes (sim_call0 (sim_cons (sim_var 1) sim_nil)))) sim_next)
    (sim_seq (sim_if (sim_B (sim_cb (sc_isi tbB_ok (fun _ h => nomatch h)) (sim_cons (sim_var 0) (sim_cons (sim_ty "tuple") sim_nil)))) (sim_ret (sim_cb sc_tuple (sim_cons (sim_lc (sim_seqI (sim_var 0)) (sim_gN 1) (by decide) sim_yes (sim_call0 (sim_cons (sim_var 1) sim_nil))) sim_nil))) sim_next)
    (sim_seq (sim_if (sim_B (sim_cb (sc_isi tbB_ok (fun _ h => nomatch h)) (sim_cons (sim_var 0) (sim_cons (sim_ty "dict") sim_nil)))) sim_no sim_next)
    (sim_ret (sim_var 0)))))⟩
theorem ok_l_copy (n : Nat) (T : Ft K mg) : Good P w K mg base (L2N.CX P w) (n + 1) (He.fAd K ("_law_copy", none)) ["_law_thing"] (spF K (f_l_copy n)) := okr_l_copy T n

theorem sc_l_odd : FnScope ["_law_store_here", "_law_row"] ["_law_store_here"] (defScope (st 46)) := ⟨rfl, rfl, rfl, by decide +kernel, rfl, by decide +kernel, by decide +kernel⟩
def m_l_odd : Fm → Rs Fm Fl := (mSeq (mSet 1 (mLst (mCons (mC (.str "")) (mCons (mC (.str "a")) (mCons (mC (.str "A b")) (mCons (mC (.str "zzzzzzzzz")) (mCons (mC (.str "0")) (mCons (mC (.int 0)) (mCons (mC (.int 1)) (mCons (mUn dNeg (mC (.int 1))) (mCons (mOp dPow (mC (.int 10)) (mC (.int 19))) (mCons (mC .non) (mCons (mTup mNil) (mCons (mLst mNil) (mCons (mTup (mCons (mC (.str "a")) mNil)) (mCons (mLst (mCons (mC (.str "a")) (mCons (mC (.int 0)) mNil))) (mCons (mTup (mCons (mC (.str "a")) (mCons (mC (.str "b")) mNil))) (mCons (mLst (mCons (mC .non) mNil)) mNil))))))))))))))))))
    (mRet (mCall0 f_l_pick (mCons (mVar 0) (mCons (mVar 1) mNil)))))
theorem m_l_odd_ap (s : Fm) : m_l_odd s = (mSeq (mSet 1 (mLst (mCons (mC (.str "")) (mCons (mC (.str "a")) (mCons (mC (.str "A b")) (mCons (mC (.str "zzzzzzzzz")) (mCons (mC (.str "0")) (mCons (mC (.int 0)) (mCons (mC (.int 1)) (mCons (mUn dNeg (mC (.int 1))) (mCons (mOp dPow (mC (.int 10)) (mC (.int 19))) (mCons (mC .non) (mCons (mTup mNil) (mCons (mLst mNil) (mCons (mTup (mCons (mC (.str "a")) mNil)) (mCons (mLst (mCons (mC (.str "a")) (mCons (mC (.int 0)) mNil))) (mCons (mTup (mCons (mC (.str "a")) (mCons (mC (.str "b")) mNil))) (mCons (mLst (mCons (mC .non) mNil)) mNil))))))))))))))))))
    (mRet (mCall0 f_l_pick (mCons (mVar 0) (mCons (mVar 1) mNil))))) s := rfl
def f_l_odd : List D → Sto → Rs Sto Val := fnM 1 2 m_l_odd
theorem ok_l_odd (T : Ft K mg) : Good P w K mg base (L2N.CX P w) 4 (He.fAd K ("_law_odd", none)) ["_law_store_here"] (spF K f_l_odd) := by
  obtain ⟨fd, F⟩ := T.d_l_odd
  refine ⟨fd, fn_ok F sc_l_odd (by decide) fun cdv A outer s H E hr => ?_, F.bindsN fun _ _ _ _ _ _ us hl => match us, hl with | [_], _ => rfl, F.kp⟩
  have sc := sc_l_odd
  exact ⟨_, (pss_cons (ps_set (i := 1) sc.nd rfl (by first | exact Or.inl rfl | exact Or.inr rfl) (pe_lst (pa_cons pe_str (pa_cons pe_str (pa_cons pe_str (pa_cons pe_str (pa_cons pe_str (pa_cons pe_int (pa_cons pe_int (pa_cons (pe_un un_neg pe_int) (pa_cons (pe_op op_pow pe_int pe_int) (pa_cons pe_non (pa_cons (pe_tup pa_nil) (pa_cons (pe_lst pa_nil) (pa_cons (pe_tup (pa_cons pe_str pa_nil)) (pa_cons (pe_lst (pa_cons pe_str (pa_cons pe_int pa_nil))) (pa_cons (pe_tup (pa_cons pe_str (pa_cons pe_str pa_nil))) (pa_cons (pe_lst (pa_cons pe_non pa_nil)) pa_nil))))))))))))))))))
    (pss_one (ps_ret (pe_callG (ok_l_pick T) (hr.mono (by decide)) T.g__law_pick passN (pa_cons (pv 0) (pa_cons (pv 1) pa_nil)))))),
    (sim_seq (sim_set (i := 1) (sim_lst (sim_cons (sim_str "") (sim_cons (sim_str "a") (sim_cons (sim_str "A b") (sim_cons (sim_str "zzzzzzzzz") (sim_cons (sim_str "0") (sim_cons (sim_int 0) (sim_cons (sim_int 1) (sim_cons (sim_un sun_neg (sim_int 1)) (sim_cons (sim_op sop_pow (sim_int 10) (sim_int 19)) (sim_cons sim_non (sim_cons (sim_tup sim_nil) (sim_cons (sim_lst sim_nil) (sim_cons (sim_tup (sim_cons (sim_str "a") sim_nil)) (sim_cons (sim_lst (sim_cons (sim_str "a") (sim_cons (sim_int 0) sim_nil))) (sim_cons (sim_tup (sim_cons (sim_str "a") (sim_cons (sim_str "b") sim_nil))) (sim_cons (sim_lst (sim_cons sim_non sim_nil)) sim_nil))))))))))))))))))
    (sim_ret (sim_call0 (sim_cons (sim_var 0) (sim_cons (sim_var 1) sim_nil)))))⟩

theorem sc_l_bent : FnScope ["_law_store_here", "_law_thing", "_law_deep", "_law_row", "_law_manner", "_law_at"] ["_law_store_here", "_law_thing", "_law_deep"] (defScope (st 47)) := ⟨rfl, rfl, rfl, by decide +kernel, rfl, by decide +kernel, by decide +kernel⟩
def m_l_bent (f : List D → Sto → Rs Sto Val) : Fm → Rs Fm Fl := (mSeq (mSetO 3 (mCB dListB (mCons (mVar 1) mNil)))
    (mSeq (mSet 4 (mCall0 f_l_take (mCons (mVar 0) (mCons (mC (.int 8)) mNil))))
    (mSeq (mSet 5 (mCall0 f_l_take (mCons (mVar 0) (mCons (mCB dLen (mCons (mVar 3) mNil)) mNil))))
    (mSeq (mIf (mOr (mB (mOp dEq (mVar 4) (mC (.int 0)))) (mNot (mTru' (mVar 3)))) (fun s => (mSetO 3 (mCall0 f_l_put (mCons (mVar 3) (mCons (mCall0 f_l_number (mCons (mVar 0) (mCons (mC (.int 0)) (mCons (mCB dLen (mCons (mVar 3) mNil)) mNil)))) (mCons (mCall0 f_l_odd (mCons (mVar 0) mNil)) mNil))))) (mFreeze 3 s)) (mIf (mB (mOp dEq (mVar 4) (mC (.int 1)))) (mMut 3 fPopAt (mCons (mVar 5) mNil)) (mIf (mB (mOp dEq (mVar 4) (mC (.int 2)))) (fun s => (mSetO 3 (mCall0 f_l_put (mCons (mVar 3) (mCons (mVar 5) (mCons (mOp dIx (mVar 3) (mVar 5)) mNil))))) (mFreeze 3 s)) (mIf (mAnd (mB (mCB (dIsi tbB fun _ => false) (mCons (mOp dIx (mVar 3) (mVar 5)) (mCons (mTup (mCons (mC (.ty "list")) (mCons (mC (.ty "tuple")) mNil))) mNil)))) (mAnd (mB (mOp dGt (mVar 4) (mC (.int 3)))) (mB (mOp dGt (mVar 2) (mC (.int 0)))))) mNo (mIf (mAnd (mB (mCall0 f_l_is_integer (mCons (mOp dIx (mVar 3) (mVar 5)) mNil))) (mB (mOp dGt (mVar 4) (mC (.int 3))))) (mPut 3 (mVar 5) (mOp dAdd (mOp dIx (mVar 3) (mVar 5)) (mCall0 f_l_pick (mCons (mVar 0) (mCons (mLst (mCons (mC (.int 1)) (mCons (mUn dNeg (mC (.int 1))) (mCons (mC (.int 2)) (mCons (mUn dNeg (mOp dIx (mVar 3) (mVar 5))) (mCons (mOp dMul (mUn dNeg (mC (.int 2))) (mOp dIx (mVar 3) (mVar 5))) (mCons (mOp dPow (mC (.int 10)) (mC (.int 12))) mNil))))))) mNil))))) (mIf (mAnd (mB (mCB (dIsi tbB fun _ => false) (mCons (mOp dIx (mVar 3) (mVar 5)) (mCons (mC (.ty "str")) mNil)))) (mB (mOp dGt (mVar 4) (mC (.int 3))))) (mPut 3 (mVar 5) (mCall0 f_l_pick (mCons (mVar 0) (mCons (mLst (mCons (mOp dAdd (mOp dIx (mVar 3) (mVar 5)) (mC (.str "a"))) (mCons (mSl dSl (mOp dIx (mVar 3) (mVar 5)) mNoPart (mPart (mUn dNeg (mC (.int 1))))) (mCons (mC (.str "a")) (mCons (mC (.str "b")) (mCons (mC (.str "A")) mNil)))))) mNil)))) (mPut 3 (mVar 5) (mCall0 f_l_odd (mCons (mVar 0) mNil)))))))))
    (mSeq (mIf (mB (mCB (dIsi tbB fun _ => false) (mCons (mVar 1) (mCons (mC (.ty "tuple")) mNil)))) (mRet (mCB dTuple (mCons (mVar 3) mNil))) mNext)
    (mRet (mVar 3)))))))
theorem m_l_bent_ap (f : List D → Sto → Rs Sto Val) (s : Fm) : m_l_bent f s = (mSeq (mSetO 3 (mCB dListB (mCons (mVar 1) mNil)))
    (mSeq (mSet 4 (mCall0 f_l_take (mCons (mVar 0) (mCons (mC (.int 8)) mNil))))
    (mSeq (mSet 5 (mCall0 f_l_take (mCons (mVar 0) (mCons (mCB dLen (mCons (mVar 3) mNil)) mNil))))
    (mSeq (mIf (mOr (mB (mOp dEq (mVar 4) (mC (.int 0)))) (mNot (mTru' (mVar 3)))) (fun s => (mSetO 3 (mCall0 f_l_put (mCons (mVar 3) (mCons (mCall0 f_l_number (mCons (mVar 0) (mCons (mC (.int 0)) (mCons (mCB dLen (mCons (mVar 3) mNil)) mNil)))) (mCons (mCall0 f_l_odd (mCons (mVar 0) mNil)) mNil))))) (mFreeze 3 s)) (mIf (mB (mOp dEq (mVar 4) (mC (.int 1)))) (mMut 3 fPopAt (mCons (mVar 5) mNil)) (mIf (mB (mOp dEq (mVar 4) (mC (.int 2)))) (fun s => (mSetO 3 (mCall0 f_l_put (mCons (mVar 3) (mCons (mVar 5) (mCons (mOp dIx (mVar 3) (mVar 5)) mNil))))) (mFreeze 3 s)) (mIf (mAnd (mB (mCB (dIsi tbB fun _ => false) (mCons (mOp dIx (mVar 3) (mVar 5)) (mCons (mTup (mCons (mC (.ty "list")) (mCons (mC (.ty "tuple")) mNil))) mNil)))) (mAnd (mB (mOp dGt (mVar 4) (mC (.int 3)))) (mB (mOp dGt (mVar 2) (mC (.int 0)))))) mNo (mIf (mAnd (mB (mCall0 f_l_is_integer (mCons (mOp dIx (mVar 3) (mVar 5)) mNil))) (mB (mOp dGt (mVar 4) (mC (.int 3))))) (mPut 3 (mVar 5) (mOp dAdd (mOp dIx (mVar 3) (mVar 5)) (mCall0 f_l_pick (mCons (mVar 0) (mCons (mLst (mCons (mC (.int 1)) (mCons (mUn dNeg (mC (.int 1))) (mCons (mC (.int 2)) (mCons (mUn dNeg (mOp dIx (mVar 3) (mVar 5))) (mCons (mOp dMul (mUn dNeg (mC (.int 2))) (mOp dIx (mVar 3) (mVar 5))) (mCons (mOp dPow (mC (.int 10)) (mC (.int 12))) mNil))))))) mNil))))) (mIf (mAnd (mB (mCB (dIsi tbB fun _ => false) (mCons (mOp dIx (mVar 3) (mVar 5)) (mCons (mC (.ty "str")) mNil)))) (mB (mOp dGt (mVar 4) (mC (.int 3))))) (mPut 3 (mVar 5) (mCall0 f_l_pick (mCons (mVar 0) (mCons (mLst (mCons (mOp dAdd (mOp dIx (mVar 3) (mVar 5)) (mC (.str "a"))) (mCons (mSl dSl (mOp dIx (mVar 3) (mVar 5)) mNoPart (mPart (mUn dNeg (mC (.int 1))))) (mCons (mC (.str "a")) (mCons (mC (.str "b")) (mCons (mC (.str "A")) mNil)))))) mNil)))) (mPut 3 (mVar 5) (mCall0 f_l_odd (mCons (mVar 0) mNil)))))))))
    (mSeq (mIf (mB (mCB (dIsi tbB fun _ => false) (mCons (mVar 1) (mCons (mC (.ty "tuple")) mNil)))) (mRet (mCB dTuple (mCons (mVar 3) mNil))) mNext)
    (mRet (mVar 3))))))) s := rfl
def f_l_bent : Nat → List D → Sto → Rs Sto Val
  | 0 => fun _ _ => .no
  | n + 1 => fnM 3 6 (m_l_bent (f_l_bent n))
theorem okr_l_bent (T : Ft K mg) : ∀ n : Nat, Good P w K mg base (L2N.CX P w) (n + 5) (He.fAd K ("_law_bent", none)) ["_law_store_here", "_law_thing", "_law_deep"] (spF K (f_l_bent n))
  | 0 => by
    obtain ⟨fd, F⟩ := T.d_l_bent
    refine ⟨fd, ⟨fun vs H Q E h => ?_, fun A outer s H args us vs Q E _ _ _ _ h => ?_⟩, F.bindsN fun _ _ _ _ _ _ us hl => match us, hl with | [_, _, _], _ => rfl, F.kp⟩
    · obtain ⟨_, _, _, _, _, _, _, _, _, _, p⟩ := h
      exact p.elim
    · obtain ⟨_, _, _, _, _, _, _, _, _, _, p⟩ := h
      exact p.elim
  | n + 1 => by
    have G := okr_l_bent T n
    obtain ⟨fd, F⟩ := T.d_l_bent
    refine ⟨fd, ?_, F.bindsN fun _ _ _ _ _ _ us hl => match us, hl with | [_, _, _], _ => rfl, F.kp⟩
    rw [show n + 1 + 5 = (n + 5) + 1 by omega]
    refine fn_ok F sc_l_bent (by decide) fun cdv A outer s H E hr => ?_
    have sc := sc_l_bent
    exact ⟨_, (pss_cons (ps_set (i := 3) sc.nd rfl (by first | exact Or.inl rfl | exact Or.inr rfl) (pe_callTy (call_listB rfl) rfl T.n_list (by rfl) (pa_cons (pv 1) pa_nil)))
    (pss_cons (ps_set (i := 4) sc.nd rfl (by first | exact Or.inl rfl | exact Or.inr rfl) (pe_callG (ok_l_take T) (hr.mono (by omega)) T.g__law_take passN (pa_cons (pv 0) (pa_cons pe_int pa_nil))))
    (pss_cons (ps_set (i := 5) sc.nd rfl (by first | exact Or.inl rfl | exact Or.inr rfl) (pe_callG (ok_l_take T) (hr.mono (by omega)) T.g__law_take passN (pa_cons (pv 0) (pa_cons (pe_callB call_lenA rfl T.n_len (by rfl) (pa_cons (pv 3) pa_nil)) pa_nil))))
    (pss_cons (ps_if (PW.pt (pw_or (pt_cmpR (op_eqP hr.units) (pv 4) pe_int (nomark _)) (pw_or1 (pt_not (pt_truth (pv 3) (fun _ => rfl)))))) (pss_one (ps_set (i := 3) sc.nd rfl (by first | exact Or.inl rfl | exact Or.inr rfl) (pe_callG (ok_l_put T) (hr.mono (by omega)) T.g__law_put passN (pa_cons (pv 3) (pa_cons (pe_callG (ok_l_number T) (hr.mono (by omega)) T.g__law_number passN (pa_cons (pv 0) (pa_cons pe_int (pa_cons (pe_callB call_lenA rfl T.n_len (by rfl) (pa_cons (pv 3) pa_nil)) pa_nil)))) (pa_cons (pe_callG (ok_l_odd T) (hr.mono (by omega)) T.g__law_odd passN (pa_cons (pv 0) pa_nil)) pa_nil)))))) (pss_one (ps_if (pt_cmpR (op_eqP hr.units) (pv 4) pe_int (nomark _)) (pss_one (ps_expr (pe_bm PySem.F.plainAttrs_list PySem.F.slot_list_pop PySem.F.type_list_pop mt_popAt (pv 3) (pa_cons (pv 5) pa_nil)))) (pss_one (ps_if (pt_cmpR (op_eqP hr.units) (pv 4) pe_int (nomark _)) (pss_one (ps_set (i := 3) sc.nd rfl (by first | exact Or.inl rfl | exact Or.inr rfl) (pe_callG (ok_l_put T) (hr.mono (by omega)) T.g__law_put passN (pa_cons (pv 3) (pa_cons (pv 5) (pa_cons (pe_ix (ix_any hr.units) (pv 3) (pv 5) (fun _ _ => rfl)) pa_nil)))))) (pss_one (ps_if (PW.pt (pw_and (pt_val (pe_callB call_isiA rfl T.n_isinstance (by rfl) (pa_cons (pe_ix (ix_any hr.units) (pv 3) (pv 5) (fun _ _ => rfl)) (pa_cons (pe_tup (pa_cons (pe_bty rfl T.n_list (by rfl)) (pa_cons (pe_bty rfl T.n_tuple (by rfl)) pa_nil))) pa_nil)))) (pw_and (pt_cmpR op_gtA (pv 4) pe_int (nomark _)) (pw_and1 (pt_cmpR op_gtA (pv 2) pe_int (nomark _)))))) pss_no (pss_one (ps_if (PW.pt (pw_and (pt_val (pe_callG (ok_l_is_integer T) (hr.mono (by omega)) T.g__law_is_integer passN (pa_cons (pe_ix (ix_any hr.units) (pv 3) (pv 5) (fun _ _ => rfl)) pa_nil))) (pw_and1 (pt_cmpR op_gtA (pv 4) pe_int (nomark _))))) (pss_one (ps_asg (pe_op op_addA (pe_ix (ix_any hr.units) (pv 3) (pv 5) (fun _ _ => rfl)) (pe_callG (ok_l_pick T) (hr.mono (by omega)) T.g__law_pick passN (pa_cons (pv 0) (pa_cons (pe_lst (pa_cons pe_int (pa_cons (pe_un un_neg pe_int) (pa_cons pe_int (pa_cons (pe_un un_neg (pe_ix (ix_any hr.units) (pv 3) (pv 5) (fun _ _ => rfl))) (pa_cons (pe_op op_mulA (pe_un un_neg pe_int) (pe_ix (ix_any hr.units) (pv 3) (pv 5) (fun _ _ => rfl))) (pa_cons (pe_op op_pow pe_int pe_int) pa_nil))))))) pa_nil)))) (pg_sub (pv 3) (pv 5) (set_any hr.units) (by intros; rfl)))) (pss_one (ps_if (PW.pt (pw_and (pt_val (pe_callB call_isiA rfl T.n_isinstance (by rfl) (pa_cons (pe_ix (ix_any hr.units) (pv 3) (pv 5) (fun _ _ => rfl)) (pa_cons (pe_bty rfl T.n_str (by rfl)) pa_nil)))) (pw_and1 (pt_cmpR op_gtA (pv 4) pe_int (nomark _))))) (pss_one (ps_asg (pe_callG (ok_l_pick T) (hr.mono (by omega)) T.g__law_pick passN (pa_cons (pv 0) (pa_cons (pe_lst (pa_cons (pe_op op_addA (pe_ix (ix_any hr.units) (pv 3) (pv 5) (fun _ _ => rfl)) pe_str) (pa_cons (pe_slice sl_any (pe_ix (ix_any hr.units) (pv 3) (pv 5) (fun _ _ => rfl)) po_none (po_some (pe_un un_neg pe_int))) (pa_cons pe_str (pa_cons pe_str (pa_cons pe_str pa_nil)))))) pa_nil))) (pg_sub (pv 3) (pv 5) (set_any hr.units) (by intros; rfl)))) (pss_one (ps_asg (pe_callG (ok_l_odd T) (hr.mono (by omega)) T.g__law_odd passN (pa_cons (pv 0) pa_nil)) (pg_sub (pv 3) (pv 5) (set_any hr.units) (by intros; rfl)))))))))))))))
    (pss_cons (ps_if (pt_val (pe_callB call_isiA rfl T.n_isinstance (by rfl) (pa_cons (pv 1) (pa_cons (pe_bty rfl T.n_tuple (by rfl)) pa_nil)))) (pss_one (ps_ret (pe_callTy call_tupleA rfl T.n_tuple (by rfl) (pa_cons (pv 3) pa_nil)))) pss_nil)
    (pss_one (ps_ret (pv 3)))))))),
      (sim_seq (sim_setO (i := 3) (sim_cb sc_listB (sim_cons (sim_var 1) sim_nil)))
    (sim_seq (sim_set (i := 4) (sim_call0 (sim_cons (sim_var 0) (sim_cons (sim_int 8) sim_nil))))
    (sim_seq (sim_set (i := 5) (sim_call0 (sim_cons (sim_var 0) (sim_cons (sim_cb sc_len (sim_cons (sim_var 3) sim_nil)) sim_nil))))
    (sim_seq (sim_if (sim_or (sim_test (sim_op sop_eq (sim_var 4) (sim_int 0))) (sim_not (sim_tru (sim_var 3)))) (sim_frz 3 (sim_setO (i := 3) (sim_call0 (sim_cons (sim_var 3) (sim_cons (sim_call0 (sim_cons (sim_var 0) (sim_cons (sim_int 0) (sim_cons (sim_cb sc_len (sim_cons (sim_var 3) sim_nil)) sim_nil)))) (sim_cons (sim_call0 (sim_cons (sim_var 0) sim_nil)) sim_nil)))))) (sim_if (sim_test (sim_op sop_eq (sim_var 4) (sim_int 1))) (sim_mut (i := 3) smut_popAt (sim_cons (sim_var 5) sim_nil)) (sim_if (sim_test (sim_op sop_eq (sim_var 4) (sim_int 2))) (sim_frz 3 (sim_setO (i := 3) (sim_call0 (sim_cons (sim_var 3) (sim_cons (sim_var 5) (sim_cons (sim_op sop_ix (sim_var 3) (sim_var 5)) sim_nil)))))) (sim_if (sim_and (sim_B (sim_cb (sc_isi tbB_ok (fun _ h => nomatch h)) (sim_cons (sim_op sop_ix (sim_var 3) (sim_var 5)) (sim_cons (sim_tup (sim_cons (sim_ty "list") (sim_cons (sim_ty "tuple") sim_nil))) sim_nil)))) (sim_and (sim_test (sim_op sop_gt (sim_var 4) (sim_int 3))) (sim_test (sim_op sop_gt (sim_var 2) (sim_int 0))))) sim_no (sim_if (sim_and (sim_B (sim_call0 (sim_cons (sim_op sop_ix (sim_var 3) (sim_var 5)) sim_nil))) (sim_test (sim_op sop_gt (sim_var 4) (sim_int 3)))) (sim_put (j := 3) (sim_var 5) (sim_op sop_add (sim_op sop_ix (sim_var 3) (sim_var 5)) (sim_call0 (sim_cons (sim_var 0) (sim_cons (sim_lst (sim_cons (sim_int 1) (sim_cons (sim_un sun_neg (sim_int 1)) (sim_cons (sim_int 2) (sim_cons (sim_un sun_neg (sim_op sop_ix (sim_var 3) (sim_var 5))) (sim_cons (sim_op sop_mul (sim_un sun_neg (sim_int 2)) (sim_op sop_ix (sim_var 3) (sim_var 5))) (sim_cons (sim_op sop_pow (sim_int 10) (sim_int 12)) sim_nil))))))) sim_nil))))) (sim_if (sim_and (sim_B (sim_cb (sc_isi tbB_ok (fun _ h => nomatch h)) (sim_cons (sim_op sop_ix (sim_var 3) (sim_var 5)) (sim_cons (sim_ty "str") sim_nil)))) (sim_test (sim_op sop_gt (sim_var 4) (sim_int 3)))) (sim_put (j := 3) (sim_var 5) (sim_call0 (sim_cons (sim_var 0) (sim_cons (sim_lst (sim_cons (sim_op sop_add (sim_op sop_ix (sim_var 3) (sim_var 5)) (sim_str "a")) (sim_cons (sim_sl ssl_any (sim_op sop_ix (sim_var 3) (sim_var 5)) sim_noPart (sim_part (sim_un sun_neg (sim_int 1)))) (sim_cons (sim_str "a") (sim_cons (sim_str "b") (sim_cons (sim_str "A") sim_nil)))))) sim_nil)))) (sim_put (j := 3) (sim_var 5) (sim_call0 (sim_cons (sim_var 0) sim_nil)))))))))
    (sim_seq (sim_if (sim_B (sim_cb (sc_isi tbB_ok (fun _ h => nomatch h)) (sim_cons (sim_var 1) (sim_cons (sim_ty "tuple") sim_nil)))) (sim_ret (sim_cb sc_tuple (sim_cons (sim_var 3) sim_nil))) sim_next)
    (sim_ret (sim_var 3)))))))⟩
theorem ok_l_bent (n : Nat) (T : Ft K mg) : Good P w K mg base (L2N.CX P w) (n + 5) (He.fAd K ("_law_bent", none)) ["_law_store_here", "_law_thing", "_law_deep"] (spF K (f_l_bent n)) := okr_l_bent T n

theorem sc_l_arrows : FnScope ["_law_store_here", "_law_most", "_law_many", "_law_several", "_law_both", "_law_boxes", "_law_places", "_law_found", "_law_k", "_law_size", "_law_ring", "_law_j"] ["_law_store_here", "_law_most"] (defScope (st 48)) := ⟨rfl, rfl, rfl, by decide +kernel, rfl, by decide +kernel, by decide +kernel⟩
def m_l_arrows_b2 : Fm → Rs Fm Fl := (mMut 7 fAppend (mCons (mTup (mCons (mOp dIx (mVar 5) (mCB dLen (mCons (mVar 7) mNil))) (mCons (mOp dIx (mVar 10) (mVar 11)) (mCons (mOp dIx (mVar 10) (mOp dMod (mCB dInt (mCons (mOp dAdd (mVar 11) (mC (.int 1))) mNil)) (mVar 9))) mNil)))) mNil))
theorem m_l_arrows_b2_ap (s : Fm) : m_l_arrows_b2 s = (mMut 7 fAppend (mCons (mTup (mCons (mOp dIx (mVar 5) (mCB dLen (mCons (mVar 7) mNil))) (mCons (mOp dIx (mVar 10) (mVar 11)) (mCons (mOp dIx (mVar 10) (mOp dMod (mCB dInt (mCons (mOp dAdd (mVar 11) (mC (.int 1))) mNil)) (mVar 9))) mNil)))) mNil)) s := rfl
def m_l_arrows_b1 : Fm → Rs Fm Fl := (mSeq (mSet 9 (mCB dMinB (mCons (mOp dSub (mVar 2) (mCB dLen (mCons (mVar 7) mNil))) (mCons (mVar 3) (mCons (mOp dAdd (mC (.int 2)) (mCall0 f_l_take (mCons (mVar 0) (mCons (mC (.int 4)) mNil)))) mNil)))))
    (mSeq (mIf (mB (mOp dLt (mVar 9) (mC (.int 2)))) mBreak mNext)
    (mSeq (mSet 10 (mSl dSl (mCall0 f_l_shuffled (mCons (mVar 0) (mCons (mVar 6) mNil))) mNoPart (mPart (mVar 9))))
    (mFor (mRng (mCons (mVar 9) mNil)) (gN 11) m_l_arrows_b2))))
theorem m_l_arrows_b1_ap (s : Fm) : m_l_arrows_b1 s = (mSeq (mSet 9 (mCB dMinB (mCons (mOp dSub (mVar 2) (mCB dLen (mCons (mVar 7) mNil))) (mCons (mVar 3) (mCons (mOp dAdd (mC (.int 2)) (mCall0 f_l_take (mCons (mVar 0) (mCons (mC (.int 4)) mNil)))) mNil)))))
    (mSeq (mIf (mB (mOp dLt (mVar 9) (mC (.int 2)))) mBreak mNext)
    (mSeq (mSet 10 (mSl dSl (mCall0 f_l_shuffled (mCons (mVar 0) (mCons (mVar 6) mNil))) mNoPart (mPart (mVar 9))))
    (mFor (mRng (mCons (mVar 9) mNil)) (gN 11) m_l_arrows_b2)))) s := rfl
def m_l_arrows : Fm → Rs Fm Fl := (mSeq (mSet 2 (mCall0 f_l_number (mCons (mVar 0) (mCons (mC (.int 0)) (mCons (mVar 1) mNil)))))
    (mSeq (mSet 3 (mOp dAdd (mC (.int 2)) (mCall0 f_l_take (mCons (mVar 0) (mCons (mC (.int 4)) mNil)))))
    (mSeq (mSet 4 (mCall0 f_l_names (mCons (mVar 0) (mCons (mOp dAdd (mVar 2) (mVar 3)) (mCons (mLst mNil) mNil)))))
    (mSeq (mSet 5 (mSl dSl (mVar 4) mNoPart (mPart (mVar 2))))
    (mSeq (mSet 6 (mSl dSl (mVar 4) (mPart (mVar 2)) mNoPart))
    (mSeq (mIf (mB (mOp dEq (mCall0 f_l_take (mCons (mVar 0) (mCons (mC (.int 2)) mNil))) (mC (.int 0)))) (mSet 6 (mSl dSl (mCall0 f_l_shuffled (mCons (mVar 0) (mCons (mVar 4) mNil))) mNoPart (mPart (mVar 3)))) mNext)
    (mSeq (mSetO 7 (mLst mNil))
    (mSeq (mFor (mRng (mCons (mVar 2) mNil)) (gN 8) m_l_arrows_b1)
    (mRet (mCall0 f_l_shuffled (mCons (mVar 0) (mCons (mVar 7) mNil))))))))))))
theorem m_l_arrows_ap (s : Fm) : m_l_arrows s = (mSeq (mSet 2 (mCall0 f_l_number (mCons (mVar 0) (mCons (mC (.int 0)) (mCons (mVar 1) mNil)))))
    (mSeq (mSet 3 (mOp dAdd (mC (.int 2)) (mCall0 f_l_take (mCons (mVar 0) (mCons (mC (.int 4)) mNil)))))
    (mSeq (mSet 4 (mCall0 f_l_names (mCons (mVar 0) (mCons (mOp dAdd (mVar 2) (mVar 3)) (mCons (mLst mNil) mNil)))))
    (mSeq (mSet 5 (mSl dSl (mVar 4) mNoPart (mPart (mVar 2))))
    (mSeq (mSet 6 (mSl dSl (mVar 4) (mPart (mVar 2)) mNoPart))
    (mSeq (mIf (mB (mOp dEq (mCall0 f_l_take (mCons (mVar 0) (mCons (mC (.int 2)) mNil))) (mC (.int 0)))) (mSet 6 (mSl dSl (mCall0 f_l_shuffled (mCons (mVar 0) (mCons (mVar 4) mNil))) mNoPart (mPart (mVar 3)))) mNext)
    (mSeq (mSetO 7 (mLst mNil))
    (mSeq (mFor (mRng (mCons (mVar 2) mNil)) (gN 8) m_l_arrows_b1)
    (mRet (mCall0 f_l_shuffled (mCons (mVar 0) (mCons (mVar 7) mNil)))))))))))) s := rfl
def f_l_arrows : List D → Sto → Rs Sto Val := fnM 2 12 m_l_arrows
theorem ok_l_arrows (T : Ft K mg) : Good P w K mg base (L2N.CX P w) 6 (He.fAd K ("_law_arrows", none)) ["_law_store_here", "_law_most"] (spF K f_l_arrows) := by
  obtain ⟨fd, F⟩ := T.d_l_arrows
  refine ⟨fd, fn_ok F sc_l_arrows (by decide) fun cdv A outer s H E hr => ?_, F.bindsN fun _ _ _ _ _ _ us hl => match us, hl with | [_, _], _ => rfl, F.kp⟩
  have sc := sc_l_arrows
  exact ⟨_, (pss_cons (ps_set (i := 2) sc.nd rfl (by first | exact Or.inl rfl | exact Or.inr rfl) (pe_callG (ok_l_number T) (hr.mono (by decide)) T.g__law_number passN (pa_cons (pv 0) (pa_cons pe_int (pa_cons (pv 1) pa_nil)))))
    (pss_cons (ps_set (i := 3) sc.nd rfl (by first | exact Or.inl rfl | exact Or.inr rfl) (pe_op op_addA pe_int (pe_callG (ok_l_take T) (hr.mono (by decide)) T.g__law_take passN (pa_cons (pv 0) (pa_cons pe_int pa_nil)))))
    (pss_cons (ps_set (i := 4) sc.nd rfl (by first | exact Or.inl rfl | exact Or.inr rfl) (pe_callG (ok_l_names T) (hr.mono (by decide)) T.g__law_names passN (pa_cons (pv 0) (pa_cons (pe_op op_addA (pv 2) (pv 3)) (pa_cons (pe_lst pa_nil) pa_nil)))))
    (pss_cons (ps_set (i := 5) sc.nd rfl (by first | exact Or.inl rfl | exact Or.inr rfl) (pe_slice sl_any (pv 4) po_none (po_some (pv 2))))
    (pss_cons (ps_set (i := 6) sc.nd rfl (by first | exact Or.inl rfl | exact Or.inr rfl) (pe_slice sl_any (pv 4) (po_some (pv 2)) po_none))
    (pss_cons (ps_if (pt_cmpR (op_eqP hr.units) (pe_callG (ok_l_take T) (hr.mono (by decide)) T.g__law_take passN (pa_cons (pv 0) (pa_cons pe_int pa_nil))) pe_int (nomark _)) (pss_one (ps_set (i := 6) sc.nd rfl (by first | exact Or.inl rfl | exact Or.inr rfl) (pe_slice sl_any (pe_callG (ok_l_shuffled T) (hr.mono (by decide)) T.g__law_shuffled passN (pa_cons (pv 0) (pa_cons (pv 4) pa_nil))) po_none (po_some (pv 3))))) pss_nil)
    (pss_cons (ps_set (i := 7) sc.nd rfl (by first | exact Or.inl rfl | exact Or.inr rfl) (pe_lst pa_nil))
    (pss_cons (ps_for (passes_of rfl) rfl (pi_range1 rfl T.n_range (pa_cons (pv 2) pa_nil)) (pg_name sc.nd rfl (by first | exact Or.inl rfl | exact Or.inr rfl)) (pss_cons (ps_set (i := 9) sc.nd rfl (by first | exact Or.inl rfl | exact Or.inr rfl) (pe_callB (call_minB rfl) rfl T.n_min (by rfl) (pa_cons (pe_op op_sub (pv 2) (pe_callB call_lenA rfl T.n_len (by rfl) (pa_cons (pv 7) pa_nil))) (pa_cons (pv 3) (pa_cons (pe_op op_addA pe_int (pe_callG (ok_l_take T) (hr.mono (by decide)) T.g__law_take passN (pa_cons (pv 0) (pa_cons pe_int pa_nil)))) pa_nil)))))
    (pss_cons (ps_if (pt_cmpR op_ltA (pv 9) pe_int (nomark _)) (pss_one ps_break) pss_nil)
    (pss_cons (ps_set (i := 10) sc.nd rfl (by first | exact Or.inl rfl | exact Or.inr rfl) (pe_slice sl_any (pe_callG (ok_l_shuffled T) (hr.mono (by decide)) T.g__law_shuffled passN (pa_cons (pv 0) (pa_cons (pv 6) pa_nil))) po_none (po_some (pv 9))))
    (pss_one (ps_for (passes_of rfl) rfl (pi_range1 rfl T.n_range (pa_cons (pv 9) pa_nil)) (pg_name sc.nd rfl (by first | exact Or.inl rfl | exact Or.inr rfl)) (pss_one (ps_expr (pe_bm PySem.F.plainAttrs_list PySem.F.slot_list_append PySem.F.type_list_append mt_append (pv 7) (pa_cons (pe_tup (pa_cons (pe_ix (ix_any hr.units) (pv 5) (pe_callB call_lenA rfl T.n_len (by rfl) (pa_cons (pv 7) pa_nil)) (fun _ _ => rfl)) (pa_cons (pe_ix (ix_any hr.units) (pv 10) (pv 11) (fun _ _ => rfl)) (pa_cons (pe_ix (ix_any hr.units) (pv 10) (pe_op op_mod (pe_callTy call_intA rfl T.n_int (by rfl) (pa_cons (pe_op op_addA (pv 11) pe_int) pa_nil)) (pv 9)) (fun _ _ => rfl)) pa_nil)))) pa_nil))))))))))
    (pss_one (ps_ret (pe_callG (ok_l_shuffled T) (hr.mono (by decide)) T.g__law_shuffled passN (pa_cons (pv 0) (pa_cons (pv 7) pa_nil))))))))))))),
    (sim_seq (sim_set (i := 2) (sim_call0 (sim_cons (sim_var 0) (sim_cons (sim_int 0) (sim_cons (sim_var 1) sim_nil)))))
    (sim_seq (sim_set (i := 3) (sim_op sop_add (sim_int 2) (sim_call0 (sim_cons (sim_var 0) (sim_cons (sim_int 4) sim_nil)))))
    (sim_seq (sim_set (i := 4) (sim_call0 (sim_cons (sim_var 0) (sim_cons (sim_op sop_add (sim_var 2) (sim_var 3)) (sim_cons (sim_lst sim_nil) sim_nil)))))
    (sim_seq (sim_set (i := 5) (sim_sl ssl_any (sim_var 4) sim_noPart (sim_part (sim_var 2))))
    (sim_seq (sim_set (i := 6) (sim_sl ssl_any (sim_var 4) (sim_part (sim_var 2)) sim_noPart))
    (sim_seq (sim_if (sim_test (sim_op sop_eq (sim_call0 (sim_cons (sim_var 0) (sim_cons (sim_int 2) sim_nil))) (sim_int 0))) (sim_set (i := 6) (sim_sl ssl_any (sim_call0 (sim_cons (sim_var 0) (sim_cons (sim_var 4) sim_nil))) sim_noPart (sim_part (sim_var 3)))) sim_next)
    (sim_seq (sim_setO (i := 7) (sim_lst sim_nil))
    (sim_seq (sim_for (sim_rng1 (sim_cons (sim_var 2) sim_nil) (len1 (W := noX))) (sim_gN 8) (sim_seq (sim_set (i := 9) (sim_cb sc_minB (sim_cons (sim_op sop_sub (sim_var 2) (sim_cb sc_len (sim_cons (sim_var 7) sim_nil))) (sim_cons (sim_var 3) (sim_cons (sim_op sop_add (sim_int 2) (sim_call0 (sim_cons (sim_var 0) (sim_cons (sim_int 4) sim_nil)))) sim_nil)))))
    (sim_seq (sim_if (sim_test (sim_op sop_lt (sim_var 9) (sim_int 2))) sim_break sim_next)
    (sim_seq (sim_set (i := 10) (sim_sl ssl_any (sim_call0 (sim_cons (sim_var 0) (sim_cons (sim_var 6) sim_nil))) sim_noPart (sim_part (sim_var 9))))
    (sim_for (sim_rng1 (sim_cons (sim_var 9) sim_nil) (len1 (W := noX))) (sim_gN 11) (sim_mut (i := 7) smut_append (sim_cons (sim_tup (sim_cons (sim_op sop_ix (sim_var 5) (sim_cb sc_len (sim_cons (sim_var 7) sim_nil))) (sim_cons (sim_op sop_ix (sim_var 10) (sim_var 11)) (sim_cons (sim_op sop_ix (sim_var 10) (sim_op sop_mod (sim_cb sc_int (sim_cons (sim_op sop_add (sim_var 11) (sim_int 1)) sim_nil)) (sim_var 9))) sim_nil)))) sim_nil)))))))
    (sim_ret (sim_call0 (sim_cons (sim_var 0) (sim_cons (sim_var 7) sim_nil))))))))))))⟩

theorem sc_l_is_trail : FnScope ["_law_arrows_here", "_law_boxes", "_law_plain", "_law_names_here", "_law_row", "_law_k", "_law_begins"] ["_law_arrows_here", "_law_boxes", "_law_plain"] (defScope (st 49)) := ⟨rfl, rfl, rfl, by decide +kernel, rfl, by decide +kernel, by decide +kernel⟩
def m_l_is_trail_b1 : Fm → Rs Fm Fl := (mIf (mOr (mB (mOp dNotIn (mOp dIx (mVar 1) (mVar 5)) (mVar 3))) (mB (mOp dIn (mOp dIx (mVar 1) (mVar 5)) (mSl dSl (mVar 1) mNoPart (mPart (mVar 5)))))) (mRet (mC (.bl false))) mNext)
theorem m_l_is_trail_b1_ap (s : Fm) : m_l_is_trail_b1 s = (mIf (mOr (mB (mOp dNotIn (mOp dIx (mVar 1) (mVar 5)) (mVar 3))) (mB (mOp dIn (mOp dIx (mVar 1) (mVar 5)) (mSl dSl (mVar 1) mNoPart (mPart (mVar 5)))))) (mRet (mC (.bl false))) mNext) s := rfl
def m_l_is_trail_b2 : Fm → Rs Fm Fl := (mSeq (mSet 4 (mOp dIx (mVar 0) (mBM "list" dIndex (mVar 3) (mCons (mOp dIx (mVar 1) (mVar 5)) mNil))))
    (mSeq (mIf (mOr (mB (mOp dNe (mOp dIx (mOp dIx (mVar 0) (mBM "list" dIndex (mVar 3) (mCons (mOp dIx (mVar 1) (mOp dSub (mVar 5) (mC (.int 1)))) mNil))) (mC (.int 2))) (mOp dIx (mVar 4) (mC (.int 1))))) (mAnd (mTru' (mVar 2)) (mB (mOp dIn (mOp dIx (mVar 4) (mC (.int 1))) (mVar 6))))) (mRet (mC (.bl false))) mNext)
    (mMut 6 fAppend (mCons (mOp dIx (mVar 4) (mC (.int 1))) mNil))))
theorem m_l_is_trail_b2_ap (s : Fm) : m_l_is_trail_b2 s = (mSeq (mSet 4 (mOp dIx (mVar 0) (mBM "list" dIndex (mVar 3) (mCons (mOp dIx (mVar 1) (mVar 5)) mNil))))
    (mSeq (mIf (mOr (mB (mOp dNe (mOp dIx (mOp dIx (mVar 0) (mBM "list" dIndex (mVar 3) (mCons (mOp dIx (mVar 1) (mOp dSub (mVar 5) (mC (.int 1)))) mNil))) (mC (.int 2))) (mOp dIx (mVar 4) (mC (.int 1))))) (mAnd (mTru' (mVar 2)) (mB (mOp dIn (mOp dIx (mVar 4) (mC (.int 1))) (mVar 6))))) (mRet (mC (.bl false))) mNext)
    (mMut 6 fAppend (mCons (mOp dIx (mVar 4) (mC (.int 1))) mNil)))) s := rfl
def m_l_is_trail : Fm → Rs Fm Fl := (mSeq (mSet 3 (mLc (mSrc seqD (mVar 0)) (gN 4) mYes (mOp dIx (mVar 4) (mC (.int 0))) [4]))
    (mSeq (mFor (mRng (mCons (mCB dLen (mCons (mVar 1) mNil)) mNil)) (gN 5) m_l_is_trail_b1)
    (mSeq (mSetO 6 (mLst mNil))
    (mSeq (mFor (mRng (mCons (mCB dLen (mCons (mVar 1) mNil)) mNil)) (gN 5) m_l_is_trail_b2)
    (mRet (mOp dGt (mCB dLen (mCons (mVar 1) mNil)) (mC (.int 0))))))))
theorem m_l_is_trail_ap (s : Fm) : m_l_is_trail s = (mSeq (mSet 3 (mLc (mSrc seqD (mVar 0)) (gN 4) mYes (mOp dIx (mVar 4) (mC (.int 0))) [4]))
    (mSeq (mFor (mRng (mCons (mCB dLen (mCons (mVar 1) mNil)) mNil)) (gN 5) m_l_is_trail_b1)
    (mSeq (mSetO 6 (mLst mNil))
    (mSeq (mFor (mRng (mCons (mCB dLen (mCons (mVar 1) mNil)) mNil)) (gN 5) m_l_is_trail_b2)
    (mRet (mOp dGt (mCB dLen (mCons (mVar 1) mNil)) (mC (.int 0)))))))) s := rfl
def f_l_is_trail : List D → Sto → Rs Sto Val := fnM 3 7 m_l_is_trail
theorem ok_l_is_trail (T : Ft K mg) : Good P w K mg base (L2N.CX P w) 1 (He.fAd K ("_law_is_trail", none)) ["_law_arrows_here", "_law_boxes", "_law_plain"] (spF K f_l_is_trail) := by
  obtain ⟨fd, F⟩ := T.d_l_is_trail
  refine ⟨fd, fn_ok F sc_l_is_trail (by decide) fun cdv A outer s H E hr => ?_, F.bindsN fun _ _ _ _ _ _ us hl => match us, hl with | [_, _, _], _ => rfl, F.kp⟩
  have sc := sc_l_is_trail
  exact ⟨_, (pss_cons (ps_setLc (i := 3) (own := [("_law_row", 4)]) rfl sc.nd rfl rfl (sw_true rfl rfl rfl (by decide +kernel)) (pi_seq (pv 0)) (blkOk_by (by kernel_rfl)) (fun _ _ _ _ _ => (pg_name sc.nd rfl (by first | exact Or.inl rfl | exact Or.inr rfl))) (fun _ _ _ _ _ => pts_nil) (fun _ _ _ _ _ => (pe_ix (ix_any hr.units) (pv 4) pe_int (fun _ _ => rfl))))
    (pss_cons (ps_for (passes_of rfl) rfl (pi_range1 rfl T.n_range (pa_cons (pe_callB call_lenA rfl T.n_len (by rfl) (pa_cons (pv 1) pa_nil)) pa_nil)) (pg_name sc.nd rfl (by first | exact Or.inl rfl | exact Or.inr rfl)) (pss_one (ps_if (PW.pt (pw_or (pt_cmpR (op_notInP hr.units) (pe_ix (ix_any hr.units) (pv 1) (pv 5) (fun _ _ => rfl)) (pv 3) (by rfl)) (pw_or1 (pt_cmpR (op_inP hr.units) (pe_ix (ix_any hr.units) (pv 1) (pv 5) (fun _ _ => rfl)) (pe_slice sl_any (pv 1) po_none (po_some (pv 5))) (by rfl))))) (pss_one (ps_ret pe_bl)) pss_nil)))
    (pss_cons (ps_set (i := 6) sc.nd rfl (by first | exact Or.inl rfl | exact Or.inr rfl) (pe_lst pa_nil))
    (pss_cons (ps_for (passes_of rfl) rfl (pi_range1 rfl T.n_range (pa_cons (pe_callB call_lenA rfl T.n_len (by rfl) (pa_cons (pv 1) pa_nil)) pa_nil)) (pg_name sc.nd rfl (by first | exact Or.inl rfl | exact Or.inr rfl)) (pss_cons (ps_set (i := 4) sc.nd rfl (by first | exact Or.inl rfl | exact Or.inr rfl) (pe_ix (ix_any hr.units) (pv 0) (pe_bm PySem.F.plainAttrs_list PySem.F.slot_list_index PySem.F.type_list_index mt_index (pv 3) (pa_cons (pe_ix (ix_any hr.units) (pv 1) (pv 5) (fun _ _ => rfl)) pa_nil)) (fun _ _ => rfl)))
    (pss_cons (ps_if (PW.pt (pw_or (pt_cmpR (op_neP hr.units) (pe_ix (ix_any hr.units) (pe_ix (ix_any hr.units) (pv 0) (pe_bm PySem.F.plainAttrs_list PySem.F.slot_list_index PySem.F.type_list_index mt_index (pv 3) (pa_cons (pe_ix (ix_any hr.units) (pv 1) (pe_op op_sub (pv 5) pe_int) (fun _ _ => rfl)) pa_nil)) (fun _ _ => rfl)) pe_int (fun _ _ => rfl)) (pe_ix (ix_any hr.units) (pv 4) pe_int (fun _ _ => rfl)) (nomark _)) (pw_or1 (PW.pt (pw_and (pt_truth (pv 2) (fun _ => rfl)) (pw_and1 (pt_cmpR (op_inP hr.units) (pe_ix (ix_any hr.units) (pv 4) pe_int (fun _ _ => rfl)) (pv 6) (by rfl)))))))) (pss_one (ps_ret pe_bl)) pss_nil)
    (pss_one (ps_expr (pe_bm PySem.F.plainAttrs_list PySem.F.slot_list_append PySem.F.type_list_append mt_append (pv 6) (pa_cons (pe_ix (ix_any hr.units) (pv 4) pe_int (fun _ _ => rfl)) pa_nil)))))))
    (pss_one (ps_ret (pe_cmpR op_gtA (pe_callB call_lenA rfl T.n_len (by rfl) (pa_cons (pv 1) pa_nil)) pe_int (nomark _)))))))),
    (sim_seq (sim_set (i := 3) (sim_lc (sim_seqI (sim_var 0)) (sim_gN 4) (by decide) sim_yes (sim_op sop_ix (sim_var 4) (sim_int 0))))
    (sim_seq (sim_for (sim_rng1 (sim_cons (sim_cb sc_len (sim_cons (sim_var 1) sim_nil)) sim_nil) (len1 (W := noX))) (sim_gN 5) (sim_if (sim_or (sim_test (sim_op sop_notIn (sim_op sop_ix (sim_var 1) (sim_var 5)) (sim_var 3))) (sim_test (sim_op sop_in (sim_op sop_ix (sim_var 1) (sim_var 5)) (sim_sl ssl_any (sim_var 1) sim_noPart (sim_part (sim_var 5)))))) (sim_ret (sim_bl false)) sim_next))
    (sim_seq (sim_setO (i := 6) (sim_lst sim_nil))
    (sim_seq (sim_for (sim_rng1 (sim_cons (sim_cb sc_len (sim_cons (sim_var 1) sim_nil)) sim_nil) (len1 (W := noX))) (sim_gN 5) (sim_seq (sim_set (i := 4) (sim_op sop_ix (sim_var 0) (sim_bm sme_index (sim_var 3) (sim_cons (sim_op sop_ix (sim_var 1) (sim_var 5)) sim_nil))))
    (sim_seq (sim_if (sim_or (sim_test (sim_op sop_ne (sim_op sop_ix (sim_op sop_ix (sim_var 0) (sim_bm sme_index (sim_var 3) (sim_cons (sim_op sop_ix (sim_var 1) (sim_op sop_sub (sim_var 5) (sim_int 1))) sim_nil))) (sim_int 2)) (sim_op sop_ix (sim_var 4) (sim_int 1)))) (sim_and (sim_tru (sim_var 2)) (sim_test (sim_op sop_in (sim_op sop_ix (sim_var 4) (sim_int 1)) (sim_var 6))))) (sim_ret (sim_bl false)) sim_next)
    (sim_mut (i := 6) smut_append (sim_cons (sim_op sop_ix (sim_var 4) (sim_int 1)) sim_nil)))))
    (sim_ret (sim_op sop_gt (sim_cb sc_len (sim_cons (sim_var 1) sim_nil)) (sim_int 0)))))))⟩

theorem sc_l_circuit_sets : FnScope ["_law_arrows_here", "_law_found", "_law_index", "_law_inner", "_law_k", "_law_row", "_law_more", "_law_one"] ["_law_arrows_here"] (defScope (st 50)) := ⟨rfl, rfl, rfl, by decide +kernel, rfl, by decide +kernel, by decide +kernel⟩
def m_l_circuit_sets_b2 : Fm → Rs Fm Fl := (mSeq (mSet 6 (mLc (mSrc seqD (mVar 3)) (gN 7) (mAnd (mB (mOp dEq (mOp dIx (mVar 7) (mC (.int 1))) (mOp dIx (mOp dIx (mVar 5) (mUn dNeg (mC (.int 1)))) (mC (.int 2))))) (mB (mOp dNotIn (mVar 7) (mVar 5)))) (mVar 7) [7]))
    (mIf (mTru' (mVar 6)) (mMut 5 fAppend (mCons (mOp dIx (mVar 6) (mC (.int 0))) mNil)) mNext))
theorem m_l_circuit_sets_b2_ap (s : Fm) : m_l_circuit_sets_b2 s = (mSeq (mSet 6 (mLc (mSrc seqD (mVar 3)) (gN 7) (mAnd (mB (mOp dEq (mOp dIx (mVar 7) (mC (.int 1))) (mOp dIx (mOp dIx (mVar 5) (mUn dNeg (mC (.int 1)))) (mC (.int 2))))) (mB (mOp dNotIn (mVar 7) (mVar 5)))) (mVar 7) [7]))
    (mIf (mTru' (mVar 6)) (mMut 5 fAppend (mCons (mOp dIx (mVar 6) (mC (.int 0))) mNil)) mNext)) s := rfl
def m_l_circuit_sets_b1 : Fm → Rs Fm Fl := (mSeq (mSet 3 (mLc (mRng (mCons (mCB dLen (mCons (mVar 0) mNil)) mNil)) (gN 4) (mB (mOp dEq (mOp dAndB (mOp dShr (mVar 2) (mVar 4)) (mC (.int 1))) (mC (.int 1)))) (mOp dIx (mVar 0) (mVar 4)) [4]))
    (mSeq (mSetO 5 (mLst (mCons (mOp dIx (mVar 3) (mC (.int 0))) mNil)))
    (mSeq (mFor (mRng (mCons (mOp dSub (mCB dLen (mCons (mVar 3) mNil)) (mC (.int 1))) mNil)) (gN 4) m_l_circuit_sets_b2)
    (fun s => (mIf (mAnd (mB (mOp dEq (mCB dLen (mCons (mVar 5) mNil)) (mCB dLen (mCons (mVar 3) mNil)))) (mB (mCall0 f_l_is_trail (mCons (mVar 3) (mCons (mLc (mSrc seqD (mVar 5)) (gN 7) mYes (mOp dIx (mVar 7) (mC (.int 0))) [7]) (mCons (mC (.bl true)) mNil)))))) (mMut 1 fAppend (mCons (mVar 2) mNil)) mNext) (mFreeze 5 s)))))
theorem m_l_circuit_sets_b1_ap (s : Fm) : m_l_circuit_sets_b1 s = (mSeq (mSet 3 (mLc (mRng (mCons (mCB dLen (mCons (mVar 0) mNil)) mNil)) (gN 4) (mB (mOp dEq (mOp dAndB (mOp dShr (mVar 2) (mVar 4)) (mC (.int 1))) (mC (.int 1)))) (mOp dIx (mVar 0) (mVar 4)) [4]))
    (mSeq (mSetO 5 (mLst (mCons (mOp dIx (mVar 3) (mC (.int 0))) mNil)))
    (mSeq (mFor (mRng (mCons (mOp dSub (mCB dLen (mCons (mVar 3) mNil)) (mC (.int 1))) mNil)) (gN 4) m_l_circuit_sets_b2)
    (fun s => (mIf (mAnd (mB (mOp dEq (mCB dLen (mCons (mVar 5) mNil)) (mCB dLen (mCons (mVar 3) mNil)))) (mB (mCall0 f_l_is_trail (mCons (mVar 3) (mCons (mLc (mSrc seqD (mVar 5)) (gN 7) mYes (mOp dIx (mVar 7) (mC (.int 0))) [7]) (mCons (mC (.bl true)) mNil)))))) (mMut 1 fAppend (mCons (mVar 2) mNil)) mNext) (mFreeze 5 s))))) s := rfl
def m_l_circuit_sets : Fm → Rs Fm Fl := (mSeq (mSetO 1 (mLst mNil))
    (mSeq (mFor (mRng (mCons (mC (.int 1)) (mCons (mOp dShl (mC (.int 1)) (mCB dLen (mCons (mVar 0) mNil))) mNil))) (gN 2) m_l_circuit_sets_b1)
    (mRet (mVar 1))))
theorem m_l_circuit_sets_ap (s : Fm) : m_l_circuit_sets s = (mSeq (mSetO 1 (mLst mNil))
    (mSeq (mFor (mRng (mCons (mC (.int 1)) (mCons (mOp dShl (mC (.int 1)) (mCB dLen (mCons (mVar 0) mNil))) mNil))) (gN 2) m_l_circuit_sets_b1)
    (mRet (mVar 1)))) s := rfl
def f_l_circuit_sets : List D → Sto → Rs Sto Val := fnM 1 8 m_l_circuit_sets
theorem ok_l_circuit_sets (T : Ft K mg) : Good P w K mg base (L2N.CX P w) 2 (He.fAd K ("_law_circuit_sets", none)) ["_law_arrows_here"] (spF K f_l_circuit_sets) := by
  obtain ⟨fd, F⟩ := T.d_l_circuit_sets
  refine ⟨fd, fn_ok F sc_l_circuit_sets (by decide) fun cdv A outer s H E hr => ?_, F.bindsN fun _ _ _ _ _ _ us hl => match us, hl with | [_], _ => rfl, F.kp⟩
  have sc := sc_l_circuit_sets
  exact ⟨_, (pss_cons (ps_set (i := 1) sc.nd rfl (by first | exact Or.inl rfl | exact Or.inr rfl) (pe_lst pa_nil))
    (pss_cons (ps_for (passes_of rfl) rfl (pi_range2 rfl T.n_range (pa_cons pe_int (pa_cons (pe_op op_shl pe_int (pe_callB call_lenA rfl T.n_len (by rfl) (pa_cons (pv 0) pa_nil))) pa_nil))) (pg_name sc.nd rfl (by first | exact Or.inl rfl | exact Or.inr rfl)) (pss_cons (ps_setLc (i := 3) (own := [("_law_k", 4)]) rfl sc.nd rfl rfl (sw_true rfl rfl rfl (by decide +kernel)) (pi_range1 rfl T.n_range (pa_cons (pe_callB call_lenA rfl T.n_len (by rfl) (pa_cons (pv 0) pa_nil)) pa_nil)) (blkOk_by (by kernel_rfl)) (fun _ _ _ _ _ => (pg_name sc.nd rfl (by first | exact Or.inl rfl | exact Or.inr rfl))) (fun _ _ _ _ _ => (pts_one (pt_cmpR (op_eqP hr.units) (pe_op op_and (pe_op op_shr (pv 2) (pv 4)) pe_int) pe_int (nomark _)))) (fun _ _ _ _ _ => (pe_ix (ix_any hr.units) (pv 0) (pv 4) (fun _ _ => rfl))))
    (pss_cons (ps_set (i := 5) sc.nd rfl (by first | exact Or.inl rfl | exact Or.inr rfl) (pe_lst (pa_cons (pe_ix (ix_any hr.units) (pv 3) pe_int (fun _ _ => rfl)) pa_nil)))
    (pss_cons (ps_for (passes_of rfl) rfl (pi_range1 rfl T.n_range (pa_cons (pe_op op_sub (pe_callB call_lenA rfl T.n_len (by rfl) (pa_cons (pv 3) pa_nil)) pe_int) pa_nil)) (pg_name sc.nd rfl (by first | exact Or.inl rfl | exact Or.inr rfl)) (pss_cons (ps_setLc (i := 6) (own := [("_law_one", 7)]) rfl sc.nd rfl rfl (sw_true rfl rfl rfl (by decide +kernel)) (pi_seq (pv 3)) (blkOk_by (by kernel_rfl)) (fun _ _ _ _ _ => (pg_name sc.nd rfl (by first | exact Or.inl rfl | exact Or.inr rfl))) (fun _ _ _ _ _ => (pts_one (PW.pt (pw_and (pt_cmpR (op_eqP hr.units) (pe_ix (ix_any hr.units) (pv 7) pe_int (fun _ _ => rfl)) (pe_ix (ix_any hr.units) (pe_ix (ix_any hr.units) (pv 5) (pe_un un_neg pe_int) (fun _ _ => rfl)) pe_int (fun _ _ => rfl)) (nomark _)) (pw_and1 (pt_cmpR (op_notInP hr.units) (pv 7) (pv 5) (by rfl))))))) (fun _ _ _ _ _ => (pv 7)))
    (pss_one (ps_if (pt_truth (pv 6) (fun _ => rfl)) (pss_one (ps_expr (pe_bm PySem.F.plainAttrs_list PySem.F.slot_list_append PySem.F.type_list_append mt_append (pv 5) (pa_cons (pe_ix (ix_any hr.units) (pv 6) pe_int (fun _ _ => rfl)) pa_nil)))) pss_nil))))
    (pss_one (ps_if (PW.pt (pw_and (pt_cmpR (op_eqP hr.units) (pe_callB call_lenA rfl T.n_len (by rfl) (pa_cons (pv 5) pa_nil)) (pe_callB call_lenA rfl T.n_len (by rfl) (pa_cons (pv 3) pa_nil)) (nomark _)) (pw_and1 (pt_val (pe_callG (ok_l_is_trail T) (hr.mono (by decide)) T.g__law_is_trail passN (pa_cons (pv 3) (pa_cons (pe_lc (own := [("_law_one", 7)]) rfl sc.nd (pi_seq (pv 5)) (blkOk_by (by kernel_rfl)) (fun _ _ _ _ _ => (pg_name sc.nd rfl (by first | exact Or.inl rfl | exact Or.inr rfl))) (fun _ _ _ _ _ => pts_nil) (fun _ _ _ _ _ => (pe_ix (ix_any hr.units) (pv 7) pe_int (fun _ _ => rfl)))) (pa_cons pe_bl pa_nil)))))))) (pss_one (ps_expr (pe_bm PySem.F.plainAttrs_list PySem.F.slot_list_append PySem.F.type_list_append mt_append (pv 1) (pa_cons (pv 2) pa_nil)))) pss_nil))))))
    (pss_one (ps_ret (pv 1))))),
    (sim_seq (sim_setO (i := 1) (sim_lst sim_nil))
    (sim_seq (sim_for (sim_rng2 (sim_cons (sim_int 1) (sim_cons (sim_op sop_shl (sim_int 1) (sim_cb sc_len (sim_cons (sim_var 0) sim_nil))) sim_nil)) (len2 (W := noX))) (sim_gN 2) (sim_seq (sim_set (i := 3) (sim_lc (sim_rng1 (sim_cons (sim_cb sc_len (sim_cons (sim_var 0) sim_nil)) sim_nil) (len1 (W := noX))) (sim_gN 4) (by decide) (sim_test (sim_op sop_eq (sim_op sop_andB (sim_op sop_shr (sim_var 2) (sim_var 4)) (sim_int 1)) (sim_int 1))) (sim_op sop_ix (sim_var 0) (sim_var 4))))
    (sim_seq (sim_setO (i := 5) (sim_lst (sim_cons (sim_op sop_ix (sim_var 3) (sim_int 0)) sim_nil)))
    (sim_seq (sim_for (sim_rng1 (sim_cons (sim_op sop_sub (sim_cb sc_len (sim_cons (sim_var 3) sim_nil)) (sim_int 1)) sim_nil) (len1 (W := noX))) (sim_gN 4) (sim_seq (sim_set (i := 6) (sim_lc (sim_seqI (sim_var 3)) (sim_gN 7) (by decide) (sim_and (sim_test (sim_op sop_eq (sim_op sop_ix (sim_var 7) (sim_int 1)) (sim_op sop_ix (sim_op sop_ix (sim_var 5) (sim_un sun_neg (sim_int 1))) (sim_int 2)))) (sim_test (sim_op sop_notIn (sim_var 7) (sim_var 5)))) (sim_var 7)))
    (sim_if (sim_tru (sim_var 6)) (sim_mut (i := 5) smut_append (sim_cons (sim_op sop_ix (sim_var 6) (sim_int 0)) sim_nil)) sim_next)))
    (sim_frz 5 (sim_if (sim_and (sim_test (sim_op sop_eq (sim_cb sc_len (sim_cons (sim_var 5) sim_nil)) (sim_cb sc_len (sim_cons (sim_var 3) sim_nil)))) (sim_B (sim_call0 (sim_cons (sim_var 3) (sim_cons (sim_lc (sim_seqI (sim_var 5)) (sim_gN 7) (by decide) sim_yes (sim_op sop_ix (sim_var 7) (sim_int 0))) (sim_cons (sim_bl true) sim_nil)))))) (sim_mut (i := 1) smut_append (sim_cons (sim_var 2) sim_nil)) sim_next))))))
    (sim_ret (sim_var 1))))⟩

theorem sc_l_web_table : FnScope ["_law_arrows_here", "_law_rings", "_law_found", "_law_index", "_law_ring"] ["_law_arrows_here"] (defScope (st 51)) := ⟨rfl, rfl, rfl, by decide +kernel, rfl, by decide +kernel, by decide +kernel⟩
def m_l_web_table_b1 : Fm → Rs Fm Fl := (mMut 2 fAppend (mCons (mCB dMax (mCons (mOp dAdd (mLst (mCons (mC (.int 0)) mNil)) (mLc (mSrc seqD (mVar 1)) (gN 4) (mB (mOp dEq (mOp dAndB (mVar 3) (mVar 4)) (mVar 4))) (mOp dAdd (mC (.int 1)) (mOp dIx (mVar 2) (mOp dSub (mVar 3) (mVar 4)))) [4])) mNil)) mNil))
theorem m_l_web_table_b1_ap (s : Fm) : m_l_web_table_b1 s = (mMut 2 fAppend (mCons (mCB dMax (mCons (mOp dAdd (mLst (mCons (mC (.int 0)) mNil)) (mLc (mSrc seqD (mVar 1)) (gN 4) (mB (mOp dEq (mOp dAndB (mVar 3) (mVar 4)) (mVar 4))) (mOp dAdd (mC (.int 1)) (mOp dIx (mVar 2) (mOp dSub (mVar 3) (mVar 4)))) [4])) mNil)) mNil)) s := rfl
def m_l_web_table : Fm → Rs Fm Fl := (mSeq (mSet 1 (mCall0 f_l_circuit_sets (mCons (mVar 0) mNil)))
    (mSeq (mSetO 2 (mLst (mCons (mC (.int 0)) mNil)))
    (mSeq (mFor (mRng (mCons (mC (.int 1)) (mCons (mOp dShl (mC (.int 1)) (mCB dLen (mCons (mVar 0) mNil))) mNil))) (gN 3) m_l_web_table_b1)
    (mRet (mVar 2)))))
theorem m_l_web_table_ap (s : Fm) : m_l_web_table s = (mSeq (mSet 1 (mCall0 f_l_circuit_sets (mCons (mVar 0) mNil)))
    (mSeq (mSetO 2 (mLst (mCons (mC (.int 0)) mNil)))
    (mSeq (mFor (mRng (mCons (mC (.int 1)) (mCons (mOp dShl (mC (.int 1)) (mCB dLen (mCons (mVar 0) mNil))) mNil))) (gN 3) m_l_web_table_b1)
    (mRet (mVar 2))))) s := rfl
def f_l_web_table : List D → Sto → Rs Sto Val := fnM 1 5 m_l_web_table
theorem ok_l_web_table (T : Ft K mg) : Good P w K mg base (L2N.CX P w) 3 (He.fAd K ("_law_web_table", none)) ["_law_arrows_here"] (spF K f_l_web_table) := by
  obtain ⟨fd, F⟩ := T.d_l_web_table
  refine ⟨fd, fn_ok F sc_l_web_table (by decide) fun cdv A outer s H E hr => ?_, F.bindsN fun _ _ _ _ _ _ us hl => match us, hl with | [_], _ => rfl, F.kp⟩
  have sc := sc_l_web_table
  exact ⟨_, (pss_cons (ps_set (i := 1) sc.nd rfl (by first | exact Or.inl rfl | exact Or.inr rfl) (pe_callG (ok_l_circuit_sets T) (hr.mono (by decide)) T.g__law_circuit_sets passN (pa_cons (pv 0) pa_nil)))
    (pss_cons (ps_set (i := 2) sc.nd rfl (by first | exact Or.inl rfl | exact Or.inr rfl) (pe_lst (pa_cons pe_int pa_nil)))
    (pss_cons (ps_for (passes_of rfl) rfl (pi_range2 rfl T.n_range (pa_cons pe_int (pa_cons (pe_op op_shl pe_int (pe_callB call_lenA rfl T.n_len (by rfl) (pa_cons (pv 0) pa_nil))) pa_nil))) (pg_name sc.nd rfl (by first | exact Or.inl rfl | exact Or.inr rfl)) (pss_one (ps_expr (pe_bm PySem.F.plainAttrs_list PySem.F.slot_list_append PySem.F.type_list_append mt_append (pv 2) (pa_cons (pe_callB (call_maxA rfl) rfl T.n_max (by rfl) (pa_cons (pe_op op_addA (pe_lst (pa_cons pe_int pa_nil)) (pe_lc (own := [("_law_ring", 4)]) rfl sc.nd (pi_seq (pv 1)) (blkOk_by (by kernel_rfl)) (fun _ _ _ _ _ => (pg_name sc.nd rfl (by first | exact Or.inl rfl | exact Or.inr rfl))) (fun _ _ _ _ _ => (pts_one (pt_cmpR (op_eqP hr.units) (pe_op op_and (pv 3) (pv 4)) (pv 4) (nomark _)))) (fun _ _ _ _ _ => (pe_op op_addA pe_int (pe_ix (ix_any hr.units) (pv 2) (pe_op op_sub (pv 3) (pv 4)) (fun _ _ => rfl)))))) pa_nil)) pa_nil)))))
    (pss_one (ps_ret (pv 2)))))),
    (sim_seq (sim_set (i := 1) (sim_call0 (sim_cons (sim_var 0) sim_nil)))
    (sim_seq (sim_setO (i := 2) (sim_lst (sim_cons (sim_int 0) sim_nil)))
    (sim_seq (sim_for (sim_rng2 (sim_cons (sim_int 1) (sim_cons (sim_op sop_shl (sim_int 1) (sim_cb sc_len (sim_cons (sim_var 0) sim_nil))) sim_nil)) (len2 (W := noX))) (sim_gN 3) (sim_mut (i := 2) smut_append (sim_cons (sim_cb sc_max (sim_cons (sim_op sop_add (sim_lst (sim_cons (sim_int 0) sim_nil)) (sim_lc (sim_seqI (sim_var 1)) (sim_gN 4) (by decide) (sim_test (sim_op sop_eq (sim_op sop_andB (sim_var 3) (sim_var 4)) (sim_var 4))) (sim_op sop_add (sim_int 1) (sim_op sop_ix (sim_var 2) (sim_op sop_sub (sim_var 3) (sim_var 4)))))) sim_nil)) sim_nil)))
    (sim_ret (sim_var 2)))))⟩

theorem sc_l_is_bound : FnScope ["_law_arrows_here", "_law_table", "_law_number_here", "_law_entry", "_law_ring", "_law_index"] ["_law_arrows_here", "_law_table", "_law_number_here"] (defScope (st 52)) := ⟨rfl, rfl, rfl, by decide +kernel, rfl, by decide +kernel, by decide +kernel⟩
def m_l_is_bound_b1 : Fm → Rs Fm Fl := (mIf (mOr (mNot (mB (mCall0 f_l_is_integer (mCons (mVar 3) mNil)))) (mB (mOp dLt (mVar 3) (mC (.int 0))))) (mRet (mC (.bl false))) mNext)
theorem m_l_is_bound_b1_ap (s : Fm) : m_l_is_bound_b1 s = (mIf (mOr (mNot (mB (mCall0 f_l_is_integer (mCons (mVar 3) mNil)))) (mB (mOp dLt (mVar 3) (mC (.int 0))))) (mRet (mC (.bl false))) mNext) s := rfl
def m_l_is_bound_b3 : Fm → Rs Fm Fl := (mIf (mAnd (mB (mOp dEq (mOp dAndB (mVar 5) (mVar 4)) (mVar 4))) (mB (mOp dLt (mOp dIx (mVar 1) (mVar 5)) (mOp dAdd (mC (.int 1)) (mOp dIx (mVar 1) (mOp dSub (mVar 5) (mVar 4))))))) (mRet (mC (.bl false))) mNext)
theorem m_l_is_bound_b3_ap (s : Fm) : m_l_is_bound_b3 s = (mIf (mAnd (mB (mOp dEq (mOp dAndB (mVar 5) (mVar 4)) (mVar 4))) (mB (mOp dLt (mOp dIx (mVar 1) (mVar 5)) (mOp dAdd (mC (.int 1)) (mOp dIx (mVar 1) (mOp dSub (mVar 5) (mVar 4))))))) (mRet (mC (.bl false))) mNext) s := rfl
def m_l_is_bound_b2 : Fm → Rs Fm Fl := (mFor (mRng (mCons (mCB dLen (mCons (mVar 1) mNil)) mNil)) (gN 5) m_l_is_bound_b3)
theorem m_l_is_bound_b2_ap (s : Fm) : m_l_is_bound_b2 s = (mFor (mRng (mCons (mCB dLen (mCons (mVar 1) mNil)) mNil)) (gN 5) m_l_is_bound_b3) s := rfl
def m_l_is_bound : Fm → Rs Fm Fl := (mSeq (mIf (mB (mOp dNe (mCB dLen (mCons (mVar 1) mNil)) (mOp dShl (mC (.int 1)) (mCB dLen (mCons (mVar 0) mNil))))) (mRet (mC (.bl false))) mNext)
    (mSeq (mFor (mSrc seqD (mVar 1)) (gN 3) m_l_is_bound_b1)
    (mSeq (mFor (mSrc seqD (mCall0 f_l_circuit_sets (mCons (mVar 0) mNil))) (gN 4) m_l_is_bound_b2)
    (mRet (mOp dEq (mOp dIx (mVar 1) (mOp dSub (mCB dLen (mCons (mVar 1) mNil)) (mC (.int 1)))) (mVar 2))))))
theorem m_l_is_bound_ap (s : Fm) : m_l_is_bound s = (mSeq (mIf (mB (mOp dNe (mCB dLen (mCons (mVar 1) mNil)) (mOp dShl (mC (.int 1)) (mCB dLen (mCons (mVar 0) mNil))))) (mRet (mC (.bl false))) mNext)
    (mSeq (mFor (mSrc seqD (mVar 1)) (gN 3) m_l_is_bound_b1)
    (mSeq (mFor (mSrc seqD (mCall0 f_l_circuit_sets (mCons (mVar 0) mNil))) (gN 4) m_l_is_bound_b2)
    (mRet (mOp dEq (mOp dIx (mVar 1) (mOp dSub (mCB dLen (mCons (mVar 1) mNil)) (mC (.int 1)))) (mVar 2)))))) s := rfl
def f_l_is_bound : List D → Sto → Rs Sto Val := fnM 3 6 m_l_is_bound
theorem ok_l_is_bound (T : Ft K mg) : Good P w K mg base (L2N.CX P w) 3 (He.fAd K ("_law_is_bound", none)) ["_law_arrows_here", "_law_table", "_law_number_here"] (spF K f_l_is_bound) := by
  obtain ⟨fd, F⟩ := T.d_l_is_bound
  refine ⟨fd, fn_ok F sc_l_is_bound (by decide) fun cdv A outer s H E hr => ?_, F.bindsN fun _ _ _ _ _ _ us hl => match us, hl with | [_, _, _], _ => rfl, F.kp⟩
  have sc := sc_l_is_bound
  exact ⟨_, (pss_cons (ps_if (pt_cmpR (op_neP hr.units) (pe_callB call_lenA rfl T.n_len (by rfl) (pa_cons (pv 1) pa_nil)) (pe_op op_shl pe_int (pe_callB call_lenA rfl T.n_len (by rfl) (pa_cons (pv 0) pa_nil))) (nomark _)) (pss_one (ps_ret pe_bl)) pss_nil)
    (pss_cons (ps_for (passes_of rfl) rfl (pi_seq (pv 1)) (pg_name sc.nd rfl (by first | exact Or.inl rfl | exact Or.inr rfl)) (pss_one (ps_if (PW.pt (pw_or (pt_not (pt_val (pe_callG (ok_l_is_integer T) (hr.mono (by decide)) T.g__law_is_integer passN (pa_cons (pv 3) pa_nil)))) (pw_or1 (pt_cmpR op_ltA (pv 3) pe_int (nomark _))))) (pss_one (ps_ret pe_bl)) pss_nil)))
    (pss_cons (ps_for (passes_of rfl) rfl (pi_seq (pe_callG (ok_l_circuit_sets T) (hr.mono (by decide)) T.g__law_circuit_sets passN (pa_cons (pv 0) pa_nil))) (pg_name sc.nd rfl (by first | exact Or.inl rfl | exact Or.inr rfl)) (pss_one (ps_for (passes_of rfl) rfl (pi_range1 rfl T.n_range (pa_cons (pe_callB call_lenA rfl T.n_len (by rfl) (pa_cons (pv 1) pa_nil)) pa_nil)) (pg_name sc.nd rfl (by first | exact Or.inl rfl | exact Or.inr rfl)) (pss_one (ps_if (PW.pt (pw_and (pt_cmpR (op_eqP hr.units) (pe_op op_and (pv 5) (pv 4)) (pv 4) (nomark _)) (pw_and1 (pt_cmpR op_ltA (pe_ix (ix_any hr.units) (pv 1) (pv 5) (fun _ _ => rfl)) (pe_op op_addA pe_int (pe_ix (ix_any hr.units) (pv 1) (pe_op op_sub (pv 5) (pv 4)) (fun _ _ => rfl))) (nomark _))))) (pss_one (ps_ret pe_bl)) pss_nil)))))
    (pss_one (ps_ret (pe_cmpR (op_eqP hr.units) (pe_ix (ix_any hr.units) (pv 1) (pe_op op_sub (pe_callB call_lenA rfl T.n_len (by rfl) (pa_cons (pv 1) pa_nil)) pe_int) (fun _ _ => rfl)) (pv 2) (nomark _))))))),
    (sim_seq (sim_if (sim_test (sim_op sop_ne (sim_cb sc_len (sim_cons (sim_var 1) sim_nil)) (sim_op sop_shl (sim_int 1) (sim_cb sc_len (sim_cons (sim_var 0) sim_nil))))) (sim_ret (sim_bl false)) sim_next)
    (sim_seq (sim_for (sim_seqI (sim_var 1)) (sim_gN 3) (sim_if (sim_or (sim_not (sim_B (sim_call0 (sim_cons (sim_var 3) sim_nil)))) (sim_test (sim_op sop_lt (sim_var 3) (sim_int 0)))) (sim_ret (sim_bl false)) sim_next))
    (sim_seq (sim_for (sim_seqI (sim_call0 (sim_cons (sim_var 0) sim_nil))) (sim_gN 4) (sim_for (sim_rng1 (sim_cons (sim_cb sc_len (sim_cons (sim_var 1) sim_nil)) sim_nil) (len1 (W := noX))) (sim_gN 5) (sim_if (sim_and (sim_test (sim_op sop_eq (sim_op sop_andB (sim_var 5) (sim_var 4)) (sim_var 4))) (sim_test (sim_op sop_lt (sim_op sop_ix (sim_var 1) (sim_var 5)) (sim_op sop_add (sim_int 1) (sim_op sop_ix (sim_var 1) (sim_op sop_sub (sim_var 5) (sim_var 4))))))) (sim_ret (sim_bl false)) sim_next)))
    (sim_ret (sim_op sop_eq (sim_op sop_ix (sim_var 1) (sim_op sop_sub (sim_cb sc_len (sim_cons (sim_var 1) sim_nil)) (sim_int 1))) (sim_var 2))))))⟩

theorem sc_l_rows : FnScope ["_law_store_here", "_law_most", "_law_many", "_law_places", "_law_boxes", "_law_begins", "_law_k", "_law_ends", "_law_rows_here", "_law_row"] ["_law_store_here", "_law_most"] (defScope (st 53)) := ⟨rfl, rfl, rfl, by decide +kernel, rfl, by decide +kernel, by decide +kernel⟩
def m_l_rows : Fm → Rs Fm Fl := (mSeq (mIf (mB (mOp dEq (mCall0 f_l_take (mCons (mVar 0) (mCons (mC (.int 2)) mNil))) (mC (.int 0)))) (mRet (mCall0 f_l_arrows (mCons (mVar 0) (mCons (mVar 1) mNil)))) mNext)
    (mSeq (mSet 2 (mCall0 f_l_number (mCons (mVar 0) (mCons (mC (.int 0)) (mCons (mVar 1) mNil)))))
    (mSeq (mSet 3 (mCall0 f_l_names (mCons (mVar 0) (mCons (mOp dAdd (mC (.int 2)) (mCall0 f_l_take (mCons (mVar 0) (mCons (mVar 1) mNil)))) (mCons (mLst mNil) mNil)))))
    (mSeq (mSet 4 (mCall0 f_l_names (mCons (mVar 0) (mCons (mVar 2) (mCons (mLst mNil) mNil)))))
    (mSeq (mSet 5 (mLc (mRng (mCons (mVar 2) mNil)) (gN 6) mYes (mCall0 f_l_pick (mCons (mVar 0) (mCons (mVar 3) mNil))) [6]))
    (mSeq (mSet 7 (mCall0 f_l_shuffled (mCons (mVar 0) (mCons (mVar 5) mNil))))
    (mSeq (mSet 8 (mLc (mRng (mCons (mVar 2) mNil)) (gN 6) mYes (mTup (mCons (mOp dIx (mVar 4) (mVar 6)) (mCons (mOp dIx (mVar 5) (mVar 6)) (mCons (mOp dIx (mVar 7) (mVar 6)) mNil)))) [6]))
    (mRet (mLc (mSrc seqD (mVar 8)) (gN 9) (mB (mOp dNe (mOp dIx (mVar 9) (mC (.int 1))) (mOp dIx (mVar 9) (mC (.int 2))))) (mVar 9) [9])))))))))
theorem m_l_rows_ap (s : Fm) : m_l_rows s = (mSeq (mIf (mB (mOp dEq (mCall0 f_l_take (mCons (mVar 0) (mCons (mC (.int 2)) mNil))) (mC (.int 0)))) (mRet (mCall0 f_l_arrows (mCons (mVar 0) (mCons (mVar 1) mNil)))) mNext)
    (mSeq (mSet 2 (mCall0 f_l_number (mCons (mVar 0) (mCons (mC (.int 0)) (mCons (mVar 1) mNil)))))
    (mSeq (mSet 3 (mCall0 f_l_names (mCons (mVar 0) (mCons (mOp dAdd (mC (.int 2)) (mCall0 f_l_take (mCons (mVar 0) (mCons (mVar 1) mNil)))) (mCons (mLst mNil) mNil)))))
    (mSeq (mSet 4 (mCall0 f_l_names (mCons (mVar 0) (mCons (mVar 2) (mCons (mLst mNil) mNil)))))
    (mSeq (mSet 5 (mLc (mRng (mCons (mVar 2) mNil)) (gN 6) mYes (mCall0 f_l_pick (mCons (mVar 0) (mCons (mVar 3) mNil))) [6]))
    (mSeq (mSet 7 (mCall0 f_l_shuffled (mCons (mVar 0) (mCons (mVar 5) mNil))))
    (mSeq (mSet 8 (mLc (mRng (mCons (mVar 2) mNil)) (gN 6) mYes (mTup (mCons (mOp dIx (mVar 4) (mVar 6)) (mCons (mOp dIx (mVar 5) (mVar 6)) (mCons (mOp dIx (mVar 7) (mVar 6)) mNil)))) [6]))
    (mRet (mLc (mSrc seqD (mVar 8)) (gN 9) (mB (mOp dNe (mOp dIx (mVar 9) (mC (.int 1))) (mOp dIx (mVar 9) (mC (.int 2))))) (mVar 9) [9]))))))))) s := rfl
def f_l_rows : List D → Sto → Rs Sto Val := fnM 2 10 m_l_rows
theorem ok_l_rows (T : Ft K mg) : Good P w K mg base (L2N.CX P w) 7 (He.fAd K ("_law_rows", none)) ["_law_store_here", "_law_most"] (spF K f_l_rows) := by
  obtain ⟨fd, F⟩ := T.d_l_rows
  refine ⟨fd, fn_ok F sc_l_rows (by decide) fun cdv A outer s H E hr => ?_, F.bindsN fun _ _ _ _ _ _ us hl => match us, hl with | [_, _], _ => rfl, F.kp⟩
  have sc := sc_l_rows
  exact ⟨_, (pss_cons (ps_if (pt_cmpR (op_eqP hr.units) (pe_callG (ok_l_take T) (hr.mono (by decide)) T.g__law_take passN (pa_cons (pv 0) (pa_cons pe_int pa_nil))) pe_int (nomark _)) (pss_one (ps_ret (pe_callG (ok_l_arrows T) (hr.mono (by decide)) T.g__law_arrows passN (pa_cons (pv 0) (pa_cons (pv 1) pa_nil))))) pss_nil)
    (pss_cons (ps_set (i := 2) sc.nd rfl (by first | exact Or.inl rfl | exact Or.inr rfl) (pe_callG (ok_l_number T) (hr.mono (by decide)) T.g__law_number passN (pa_cons (pv 0) (pa_cons pe_int (pa_cons (pv 1) pa_nil)))))
    (pss_cons (ps_set (i := 3) sc.nd rfl (by first | exact Or.inl rfl | exact Or.inr rfl) (pe_callG (ok_l_names T) (hr.mono (by decide)) T.g__law_names passN (pa_cons (pv 0) (pa_cons (pe_op op_addA pe_int (pe_callG (ok_l_take T) (hr.mono (by decide)) T.g__law_take passN (pa_cons (pv 0) (pa_cons (pv 1) pa_nil)))) (pa_cons (pe_lst pa_nil) pa_nil)))))
    (pss_cons (ps_set (i := 4) sc.nd rfl (by first | exact Or.inl rfl | exact Or.inr rfl) (pe_callG (ok_l_names T) (hr.mono (by decide)) T.g__law_names passN (pa_cons (pv 0) (pa_cons (pv 2) (pa_cons (pe_lst pa_nil) pa_nil)))))
    (pss_cons (ps_set (i := 5) sc.nd rfl (by first | exact Or.inl rfl | exact Or.inr rfl) (pe_lc (own := [("_law_k", 6)]) rfl sc.nd (pi_range1 rfl T.n_range (pa_cons (pv 2) pa_nil)) (blkOk_by (by kernel_rfl)) (fun _ _ _ _ _ => (pg_name sc.nd rfl (by first | exact Or.inl rfl | exact Or.inr rfl))) (fun _ _ _ _ _ => pts_nil) (fun _ _ _ _ _ => (pe_callG (ok_l_pick T) (hr.mono (by decide)) T.g__law_pick passN (pa_cons (pv 0) (pa_cons (pv 3) pa_nil))))))
    (pss_cons (ps_set (i := 7) sc.nd rfl (by first | exact Or.inl rfl | exact Or.inr rfl) (pe_callG (ok_l_shuffled T) (hr.mono (by decide)) T.g__law_shuffled passN (pa_cons (pv 0) (pa_cons (pv 5) pa_nil))))
    (pss_cons (ps_setLc (i := 8) (own := [("_law_k", 6)]) rfl sc.nd rfl rfl (sw_true rfl rfl rfl (by decide +kernel)) (pi_range1 rfl T.n_range (pa_cons (pv 2) pa_nil)) (blkOk_by (by kernel_rfl)) (fun _ _ _ _ _ => (pg_name sc.nd rfl (by first | exact Or.inl rfl | exact Or.inr rfl))) (fun _ _ _ _ _ => pts_nil) (fun _ _ _ _ _ => (pe_tup (pa_cons (pe_ix (ix_any hr.units) (pv 4) (pv 6) (fun _ _ => rfl)) (pa_cons (pe_ix (ix_any hr.units) (pv 5) (pv 6) (fun _ _ => rfl)) (pa_cons (pe_ix (ix_any hr.units) (pv 7) (pv 6) (fun _ _ => rfl)) pa_nil))))))
    (pss_one (ps_ret (pe_lc (own := [("_law_row", 9)]) rfl sc.nd (pi_seq (pv 8)) (blkOk_by (by kernel_rfl)) (fun _ _ _ _ _ => (pg_name sc.nd rfl (by first | exact Or.inl rfl | exact Or.inr rfl))) (fun _ _ _ _ _ => (pts_one (pt_cmpR (op_neP hr.units) (pe_ix (ix_any hr.units) (pv 9) pe_int (fun _ _ => rfl)) (pe_ix (ix_any hr.units) (pv 9) pe_int (fun _ _ => rfl)) (nomark _)))) (fun _ _ _ _ _ => (pv 9)))))))))))),
    (sim_seq (sim_if (sim_test (sim_op sop_eq (sim_call0 (sim_cons (sim_var 0) (sim_cons (sim_int 2) sim_nil))) (sim_int 0))) (sim_ret (sim_call0 (sim_cons (sim_var 0) (sim_cons (sim_var 1) sim_nil)))) sim_next)
    (sim_seq (sim_set (i := 2) (sim_call0 (sim_cons (sim_var 0) (sim_cons (sim_int 0) (sim_cons (sim_var 1) sim_nil)))))
    (sim_seq (sim_set (i := 3) (sim_call0 (sim_cons (sim_var 0) (sim_cons (sim_op sop_add (sim_int 2) (sim_call0 (sim_cons (sim_var 0) (sim_cons (sim_var 1) sim_nil)))) (sim_cons (sim_lst sim_nil) sim_nil)))))
    (sim_seq (sim_set (i := 4) (sim_call0 (sim_cons (sim_var 0) (sim_cons (sim_var 2) (sim_cons (sim_lst sim_nil) sim_nil)))))
    (sim_seq (sim_set (i := 5) (sim_lc (sim_rng1 (sim_cons (sim_var 2) sim_nil) (len1 (W := noX))) (sim_gN 6) (by decide) sim_yes (sim_call0 (sim_cons (sim_var 0) (sim_cons (sim_var 3) sim_nil)))))
    (sim_seq (sim_set (i := 7) (sim_call0 (sim_cons (sim_var 0) (sim_cons (sim_var 5) sim_nil))))
    (sim_seq (sim_set (i := 8) (sim_lc (sim_rng1 (sim_cons (sim_var 2) sim_nil) (len1 (W := noX))) (sim_gN 6) (by decide) sim_yes (sim_tup (sim_cons (sim_op sop_ix (sim_var 4) (sim_var 6)) (sim_cons (sim_op sop_ix (sim_var 5) (sim_var 6)) (sim_cons (sim_op sop_ix (sim_var 7) (sim_var 6)) sim_nil))))))
    (sim_ret (sim_lc (sim_seqI (sim_var 8)) (sim_gN 9) (by decide) (sim_test (sim_op sop_ne (sim_op sop_ix (sim_var 9) (sim_int 1)) (sim_op sop_ix (sim_var 9) (sim_int 2)))) (sim_var 9))))))))))⟩

theorem sc_is_name : FnScope ["text", "sign"] ["text"] (defScope (st 15)) := ⟨rfl, rfl, rfl, by decide +kernel, rfl, by decide +kernel, by decide +kernel⟩
def m_is_name_b1 : Fm → Rs Fm Fl := (mIf (mB (mOp dNotIn (mVar 1) (mC (.str "abcdefghijklmnopqrstuvwxyz0123456789")))) (mRet (mC (.bl false))) mNext)
theorem m_is_name_b1_ap (s : Fm) : m_is_name_b1 s = (mIf (mB (mOp dNotIn (mVar 1) (mC (.str "abcdefghijklmnopqrstuvwxyz0123456789")))) (mRet (mC (.bl false))) mNext) s := rfl
def m_is_name : Fm → Rs Fm Fl := (mSeq (mIf (mOr (mNot (mB (mCB (dIsi tbB fun _ => false) (mCons (mVar 0) (mCons (mC (.ty "str")) mNil))))) (mNot (mB (mChain dLe dLe (mC (.int 1)) (mCB dLen (mCons (mVar 0) mNil)) (mC (.int 8)))))) (mRet (mC (.bl false))) mNext)
    (mSeq (mIf (mB (mOp dNotIn (mOp dIx (mVar 0) (mC (.int 0))) (mC (.str "abcdefghijklmnopqrstuvwxyz")))) (mRet (mC (.bl false))) mNext)
    (mSeq (mFor (mSrc seqD (mVar 0)) (gN 1) m_is_name_b1)
    (mRet (mC (.bl true))))))
theorem m_is_name_ap (s : Fm) : m_is_name s = (mSeq (mIf (mOr (mNot (mB (mCB (dIsi tbB fun _ => false) (mCons (mVar 0) (mCons (mC (.ty "str")) mNil))))) (mNot (mB (mChain dLe dLe (mC (.int 1)) (mCB dLen (mCons (mVar 0) mNil)) (mC (.int 8)))))) (mRet (mC (.bl false))) mNext)
    (mSeq (mIf (mB (mOp dNotIn (mOp dIx (mVar 0) (mC (.int 0))) (mC (.str "abcdefghijklmnopqrstuvwxyz")))) (mRet (mC (.bl false))) mNext)
    (mSeq (mFor (mSrc seqD (mVar 0)) (gN 1) m_is_name_b1)
    (mRet (mC (.bl true)))))) s := rfl
def f_is_name : List D → Sto → Rs Sto Val := fnM 1 2 m_is_name
theorem ok_is_name (T : Ft K mg) : Good P w K mg base (L2N.CX P w) 1 (He.fAd K ("is_name", none)) ["text"] (spF K f_is_name) := by
  obtain ⟨fd, F⟩ := T.d_is_name
  refine ⟨fd, fn_ok F sc_is_name (by decide) fun cdv A outer s H E hr => ?_, F.bindsN fun _ _ _ _ _ _ us hl => match us, hl with | [_], _ => rfl, F.kp⟩
  have sc := sc_is_name
  exact ⟨_, (pss_cons (ps_if (PW.pt (pw_or (pt_not (pt_val (pe_callB call_isiA rfl T.n_isinstance (by rfl) (pa_cons (pv 0) (pa_cons (pe_bty rfl T.n_str (by rfl)) pa_nil))))) (pw_or1 (pt_not (pt_chain op_le op_le pe_int (pe_callB call_lenA rfl T.n_len (by rfl) (pa_cons (pv 0) pa_nil)) (pe_gint T.c_MOST_SIGNS rfl)))))) (pss_one (ps_ret pe_bl)) pss_nil)
    (pss_cons (ps_if (pt_cmpR (op_notInP hr.units) (pe_ix (ix_any hr.units) (pv 0) pe_int (fun _ _ => rfl)) (pe_gstr T.c_LETTERS rfl) (by rfl)) (pss_one (ps_ret pe_bl)) pss_nil)
    (pss_cons (ps_for (passes_of rfl) rfl (pi_seq (pv 0)) (pg_name sc.nd rfl (by first | exact Or.inl rfl | exact Or.inr rfl)) (pss_one (ps_if (pt_cmpR (op_notInP hr.units) (pv 1) (pe_gstr T.c_SIGNS rfl) (by rfl)) (pss_one (ps_ret pe_bl)) pss_nil)))
    (pss_one (ps_ret pe_bl))))),
    (sim_seq (sim_if (sim_or (sim_not (sim_B (sim_cb (sc_isi tbB_ok (fun _ h => nomatch h)) (sim_cons (sim_var 0) (sim_cons (sim_ty "str") sim_nil))))) (sim_not (sim_test (sim_chain sop_le sop_le (sim_int 1) (sim_cb sc_len (sim_cons (sim_var 0) sim_nil)) (sim_int 8))))) (sim_ret (sim_bl false)) sim_next)
    (sim_seq (sim_if (sim_test (sim_op sop_notIn (sim_op sop_ix (sim_var 0) (sim_int 0)) (sim_str "abcdefghijklmnopqrstuvwxyz"))) (sim_ret (sim_bl false)) sim_next)
    (sim_seq (sim_for (sim_seqI (sim_var 0)) (sim_gN 1) (sim_if (sim_test (sim_op sop_notIn (sim_var 1) (sim_str "abcdefghijklmnopqrstuvwxyz0123456789"))) (sim_ret (sim_bl false)) sim_next))
    (sim_ret (sim_bl true)))))⟩

theorem sc_valid_name : FnScope ["name"] ["name"] (defScope (st 16)) := ⟨rfl, rfl, rfl, by decide +kernel, rfl, by decide +kernel, by decide +kernel⟩
def m_valid_name : Fm → Rs Fm Fl := (mSeq (mIf (mNot (mB (mCall0 f_is_name (mCons (mVar 0) mNil)))) mNo mNext)
    (mRet (mVar 0)))
theorem m_valid_name_ap (s : Fm) : m_valid_name s = (mSeq (mIf (mNot (mB (mCall0 f_is_name (mCons (mVar 0) mNil)))) mNo mNext)
    (mRet (mVar 0))) s := rfl
def f_valid_name : List D → Sto → Rs Sto Val := fnM 1 1 m_valid_name
theorem ok_valid_name (T : Ft K mg) : Good P w K mg base (L2N.CX P w) 2 (He.fAd K ("valid_name", none)) ["name"] (spF K f_valid_name) := by
  obtain ⟨fd, F⟩ := T.d_valid_name
  refine ⟨fd, fn_ok F sc_valid_name (by decide) fun cdv A outer s H E hr => ?_, F.bindsN fun _ _ _ _ _ _ us hl => match us, hl with | [_], _ => rfl, F.kp⟩
  have sc := sc_valid_name
  exact ⟨_, (pss_cons (ps_if (pt_not (pt_val (pe_callG (ok_is_name T) (hr.mono (by decide)) T.g_is_name passN (pa_cons (pv 0) pa_nil)))) pss_no pss_nil)
    (pss_one (ps_ret (pv 0)))),
    (sim_seq (sim_if (sim_not (sim_B (sim_call0 (sim_cons (sim_var 0) sim_nil)))) sim_no sim_next)
    (sim_ret (sim_var 0)))⟩

theorem sc_is_whole : FnScope ["value"] ["value"] (defScope (st 19)) := ⟨rfl, rfl, rfl, by decide +kernel, rfl, by decide +kernel, by decide +kernel⟩
def m_is_whole : Fm → Rs Fm Fl := (mRet (mAndV (mCB (dIsi tbB fun _ => false) (mCons (mVar 0) (mCons (mC (.ty "int")) mNil))) (mNotV (mCB (dIsi tbB fun _ => false) (mCons (mVar 0) (mCons (mC (.ty "bool")) mNil))))))
theorem m_is_whole_ap (s : Fm) : m_is_whole s = (mRet (mAndV (mCB (dIsi tbB fun _ => false) (mCons (mVar 0) (mCons (mC (.ty "int")) mNil))) (mNotV (mCB (dIsi tbB fun _ => false) (mCons (mVar 0) (mCons (mC (.ty "bool")) mNil)))))) s := rfl
def f_is_whole : List D → Sto → Rs Sto Val := fnM 1 1 m_is_whole
theorem ok_is_whole (T : Ft K mg) : Good P w K mg base (L2N.CX P w) 1 (He.fAd K ("is_whole", none)) ["value"] (spF K f_is_whole) := by
  obtain ⟨fd, F⟩ := T.d_is_whole
  refine ⟨fd, fn_ok F sc_is_whole (by decide) fun cdv A outer s H E hr => ?_, F.bindsN fun _ _ _ _ _ _ us hl => match us, hl with | [_], _ => rfl, F.kp⟩
  have sc := sc_is_whole
  exact ⟨_, (pss_one (ps_ret (pe_and (pe_callB call_isiA rfl T.n_isinstance (by rfl) (pa_cons (pv 0) (pa_cons (pe_bty rfl T.n_int (by rfl)) pa_nil))) (pe_one (pe_not (pe_callB call_isiA rfl T.n_isinstance (by rfl) (pa_cons (pv 0) (pa_cons (pe_bty rfl T.n_bool (by rfl)) pa_nil)))))))),
    (sim_ret (sim_andV (sim_cb (sc_isi tbB_ok (fun _ h => nomatch h)) (sim_cons (sim_var 0) (sim_cons (sim_ty "int") sim_nil))) (sim_notV (sim_cb (sc_isi tbB_ok (fun _ h => nomatch h)) (sim_cons (sim_var 0) (sim_cons (sim_ty "bool") sim_nil))))))⟩

theorem sc_require_arrow : FnScope ["arrow", "known", "box", "begin", "end"] ["arrow", "known"] (defScope (st 20)) := ⟨rfl, rfl, rfl, by decide +kernel, rfl, by decide +kernel, by decide +kernel⟩
def m_require_arrow : Fm → Rs Fm Fl := (mSeq (mAsgT (gT 3 (gsCons (gN 2) (gsCons (gN 3) (gsCons (gN 4) gsNil)))) (mVar 0))
    (mSeq (mDrop (mCall0 f_valid_name (mCons (mVar 2) mNil)))
    (mSeq (mDrop (mCall0 f_valid_name (mCons (mVar 3) mNil)))
    (mSeq (mDrop (mCall0 f_valid_name (mCons (mVar 4) mNil)))
    (mSeq (mIf (mB (mOp dIn (mVar 2) (mVar 1))) mNo mNext)
    (mIf (mB (mOp dEq (mVar 3) (mVar 4))) mNo mNext))))))
theorem m_require_arrow_ap (s : Fm) : m_require_arrow s = (mSeq (mAsgT (gT 3 (gsCons (gN 2) (gsCons (gN 3) (gsCons (gN 4) gsNil)))) (mVar 0))
    (mSeq (mDrop (mCall0 f_valid_name (mCons (mVar 2) mNil)))
    (mSeq (mDrop (mCall0 f_valid_name (mCons (mVar 3) mNil)))
    (mSeq (mDrop (mCall0 f_valid_name (mCons (mVar 4) mNil)))
    (mSeq (mIf (mB (mOp dIn (mVar 2) (mVar 1))) mNo mNext)
    (mIf (mB (mOp dEq (mVar 3) (mVar 4))) mNo mNext)))))) s := rfl
def f_require_arrow : List D → Sto → Rs Sto Val := fnM 2 5 m_require_arrow
theorem ok_require_arrow (T : Ft K mg) : Good P w K mg base (L2N.CX P w) 3 (He.fAd K ("require_arrow", none)) ["arrow", "known"] (spF K f_require_arrow) := by
  obtain ⟨fd, F⟩ := T.d_require_arrow
  refine ⟨fd, fn_ok F sc_require_arrow (by decide) fun cdv A outer s H E hr => ?_, F.bindsN fun _ _ _ _ _ _ us hl => match us, hl with | [_, _], _ => rfl, F.kp⟩
  have sc := sc_require_arrow
  exact ⟨_, (pss_cons (ps_asg (pv 0) (pg_tup rfl (pgs_cons (pg_name sc.nd rfl (by first | exact Or.inl rfl | exact Or.inr rfl)) (pgs_cons (pg_name sc.nd rfl (by first | exact Or.inl rfl | exact Or.inr rfl)) (pgs_cons (pg_name sc.nd rfl (by first | exact Or.inl rfl | exact Or.inr rfl)) pgs_nil)))))
    (pss_cons (ps_expr (pe_callG (ok_valid_name T) (hr.mono (by decide)) T.g_valid_name passN (pa_cons (pv 2) pa_nil)))
    (pss_cons (ps_expr (pe_callG (ok_valid_name T) (hr.mono (by decide)) T.g_valid_name passN (pa_cons (pv 3) pa_nil)))
    (pss_cons (ps_expr (pe_callG (ok_valid_name T) (hr.mono (by decide)) T.g_valid_name passN (pa_cons (pv 4) pa_nil)))
    (pss_cons (ps_if (pt_cmpR (op_inP hr.units) (pv 2) (pv 1) (by rfl)) pss_no pss_nil)
    (pss_one (ps_if (pt_cmpR (op_eqP hr.units) (pv 3) (pv 4) (nomark _)) pss_no pss_nil))))))),
    (sim_seq (sim_asgT (sim_var 0) (sim_gT (n := 3) (sim_gsCons (sim_gN 2) (sim_gsCons (sim_gN 3) (sim_gsCons (sim_gN 4) sim_gsNil)))))
    (sim_seq (sim_drop (sim_call0 (sim_cons (sim_var 2) sim_nil)))
    (sim_seq (sim_drop (sim_call0 (sim_cons (sim_var 3) sim_nil)))
    (sim_seq (sim_drop (sim_call0 (sim_cons (sim_var 4) sim_nil)))
    (sim_seq (sim_if (sim_test (sim_op sop_in (sim_var 2) (sim_var 1))) sim_no sim_next)
    (sim_if (sim_test (sim_op sop_eq (sim_var 3) (sim_var 4))) sim_no sim_next))))))⟩

theorem sc_require_balance : FnScope ["rows", "surplus", "row", "place"] ["rows"] (defScope (st 21)) := ⟨rfl, rfl, rfl, by decide +kernel, rfl, by decide +kernel, by decide +kernel⟩
def m_require_balance_b1 : Fm → Rs Fm Fl := (mSeq (mPut 1 (mOp dIx (mVar 2) (mC (.int 1))) (mOp dAdd (mGet2 (mVar 1) (mOp dIx (mVar 2) (mC (.int 1))) (mC (.int 0))) (mC (.int 1))))
    (mPut 1 (mOp dIx (mVar 2) (mC (.int 2))) (mOp dSub (mGet2 (mVar 1) (mOp dIx (mVar 2) (mC (.int 2))) (mC (.int 0))) (mC (.int 1)))))
theorem m_require_balance_b1_ap (s : Fm) : m_require_balance_b1 s = (mSeq (mPut 1 (mOp dIx (mVar 2) (mC (.int 1))) (mOp dAdd (mGet2 (mVar 1) (mOp dIx (mVar 2) (mC (.int 1))) (mC (.int 0))) (mC (.int 1))))
    (mPut 1 (mOp dIx (mVar 2) (mC (.int 2))) (mOp dSub (mGet2 (mVar 1) (mOp dIx (mVar 2) (mC (.int 2))) (mC (.int 0))) (mC (.int 1))))) s := rfl
def m_require_balance_b2 : Fm → Rs Fm Fl := (mIf (mB (mOp dNe (mOp dIx (mVar 1) (mVar 3)) (mC (.int 0)))) mNo mNext)
theorem m_require_balance_b2_ap (s : Fm) : m_require_balance_b2 s = (mIf (mB (mOp dNe (mOp dIx (mVar 1) (mVar 3)) (mC (.int 0)))) mNo mNext) s := rfl
def m_require_balance : Fm → Rs Fm Fl := (mSeq (mSetO 1 mDNew)
    (mSeq (mFor (mSrc seqD (mVar 0)) (gN 2) m_require_balance_b1)
    (mFor (mSrc seqD (mCB dSortB (mCons (mVar 1) mNil))) (gN 3) m_require_balance_b2)))
theorem m_require_balance_ap (s : Fm) : m_require_balance s = (mSeq (mSetO 1 mDNew)
    (mSeq (mFor (mSrc seqD (mVar 0)) (gN 2) m_require_balance_b1)
    (mFor (mSrc seqD (mCB dSortB (mCons (mVar 1) mNil))) (gN 3) m_require_balance_b2))) s := rfl
def f_require_balance : List D → Sto → Rs Sto Val := fnM 1 4 m_require_balance
theorem ok_require_balance (T : Ft K mg) : Good P w K mg base (L2N.CX P w) 1 (He.fAd K ("require_balance", none)) ["rows"] (spF K f_require_balance) := by
  obtain ⟨fd, F⟩ := T.d_require_balance
  refine ⟨fd, fn_ok F sc_require_balance (by decide) fun cdv A outer s H E hr => ?_, F.bindsN fun _ _ _ _ _ _ us hl => match us, hl with | [_], _ => rfl, F.kp⟩
  have sc := sc_require_balance
  exact ⟨_, (pss_cons (ps_set (i := 1) sc.nd rfl (by first | exact Or.inl rfl | exact Or.inr rfl) pe_dnewK)
    (pss_cons (ps_for (passes_of rfl) rfl (pi_seq (pv 0)) (pg_name sc.nd rfl (by first | exact Or.inl rfl | exact Or.inr rfl)) (pss_cons (ps_asg (pe_op op_addA (pe_dget2 (hu_of hr) (pv 1) (pe_ix (ix_any hr.units) (pv 2) pe_int (fun _ _ => rfl)) pe_int ⟨rfl, rfl, rfl, rfl⟩) pe_int) (pg_sub (pv 1) (pe_ix (ix_any hr.units) (pv 2) pe_int (fun _ _ => rfl)) (set_any hr.units) (by intros; rfl)))
    (pss_one (ps_asg (pe_op op_sub (pe_dget2 (hu_of hr) (pv 1) (pe_ix (ix_any hr.units) (pv 2) pe_int (fun _ _ => rfl)) pe_int ⟨rfl, rfl, rfl, rfl⟩) pe_int) (pg_sub (pv 1) (pe_ix (ix_any hr.units) (pv 2) pe_int (fun _ _ => rfl)) (set_any hr.units) (by intros; rfl))))))
    (pss_one (ps_for (passes_of rfl) rfl (pi_seq (pe_callB (call_sortB rfl hr.units) rfl T.n_sorted (by rfl) (pa_cons (pv 1) pa_nil))) (pg_name sc.nd rfl (by first | exact Or.inl rfl | exact Or.inr rfl)) (pss_one (ps_if (pt_cmpR (op_neP hr.units) (pe_ix (ix_any hr.units) (pv 1) (pv 3) (fun _ _ => rfl)) pe_int (nomark _)) pss_no pss_nil)))))),
    (sim_seq (sim_setO (i := 1) sim_dnew)
    (sim_seq (sim_for (sim_seqI (sim_var 0)) (sim_gN 2) (sim_seq (sim_put (j := 1) (sim_op sop_ix (sim_var 2) (sim_int 1)) (sim_op sop_add (sim_get2 (sim_var 1) (sim_op sop_ix (sim_var 2) (sim_int 1)) (sim_int 0)) (sim_int 1)))
    (sim_put (j := 1) (sim_op sop_ix (sim_var 2) (sim_int 2)) (sim_op sop_sub (sim_get2 (sim_var 1) (sim_op sop_ix (sim_var 2) (sim_int 2)) (sim_int 0)) (sim_int 1)))))
    (sim_for (sim_seqI (sim_cb sc_sortB (sim_cons (sim_var 1) sim_nil))) (sim_gN 3) (sim_if (sim_test (sim_op sop_ne (sim_op sop_ix (sim_var 1) (sim_var 3)) (sim_int 0))) sim_no sim_next))))⟩

theorem sc_TooManyd__initd_ : FnScope ["self", "many", "limit"] ["self", "many", "limit"] (defScope (mst 10 0)) := ⟨rfl, rfl, rfl, by decide +kernel, rfl, by decide +kernel, by decide +kernel⟩
theorem ok_TooManyd__initd_ (T : Ft K mg) : Good P w K mg base (L2N.CX P w) 1 (He.fAd K ("TooMany", some "__init__")) ["self", "many", "limit"] (spX K "TooMany" ["many", "limit"]) := by
  obtain ⟨fd, F⟩ := T.d_TooManyd__initd_
  refine ⟨fd, F.ok sc_TooManyd__initd_ (fun vs H Q E h => spX_len h) (fun cdv A outer s H vs Q E hr h => ?_), F.bindsN fun _ _ _ _ _ _ us hl => match us, hl with | [_, _, _], _ => rfl, F.kp⟩
  have sc := sc_TooManyd__initd_
  exact ⟨_, (pss_cons (ps_ost (pv 0) (pv 1)) (pss_cons (ps_ost (pv 0) (pv 2)) pss_nil)), spX_run2 T.ox_TooMany T.na_TooMany_many T.na_TooMany_limit h⟩

theorem sc_Webd__lend_ : FnScope ["self"] ["self"] (defScope (mst 27 4)) := ⟨rfl, rfl, rfl, by decide +kernel, rfl, by decide +kernel, by decide +kernel⟩
def m_Webd__lend_ : Fm → Rs Fm Fl := (mRet (mCB dLen (mCons (mFld "Web" "web_rows" (mVar 0)) mNil)))
theorem m_Webd__lend__ap (s : Fm) : m_Webd__lend_ s = (mRet (mCB dLen (mCons (mFld "Web" "web_rows" (mVar 0)) mNil))) s := rfl
def f_Webd__lend_ : List D → Sto → Rs Sto Val := fnM 1 1 m_Webd__lend_
theorem ok_Webd__lend_ (T : Ft K mg) : Good P w K mg base (L2N.CX P w) 1 (He.fAd K ("Web", some "__len__")) ["self"] (spF K f_Webd__lend_) := by
  obtain ⟨fd, F⟩ := T.d_Webd__lend_
  refine ⟨fd, fn_ok F sc_Webd__lend_ (by decide) fun cdv A outer s H E hr => ?_, F.bindsN fun _ _ _ _ _ _ us hl => match us, hl with | [_], _ => rfl, F.kp⟩
  have sc := sc_Webd__lend_
  exact ⟨_, (pss_one (ps_ret (pe_callB call_lenA rfl T.n_len (by rfl) (pa_cons (pe_fld (pv 0) rfl) pa_nil)))),
    (sim_ret (sim_cb sc_len (sim_cons (sim_fld T.k_Web T.na_Web_web_rows (sim_var 0)) sim_nil)))⟩

theorem sc_require_searchable : FnScope ["web"] ["web"] (defScope (st 22)) := ⟨rfl, rfl, rfl, by decide +kernel, rfl, by decide +kernel, by decide +kernel⟩
def m_require_searchable : Fm → Rs Fm Fl := (mIf (mB (mOp dGt (mLenO0 "Web" f_Webd__lend_ (mCons (mVar 0) mNil)) (mCon "Web" "MOST_SEARCHED" (.int 6) (mVar 0)))) (mRaise "TooMany" ["many", "limit"] (mCons (mLenO0 "Web" f_Webd__lend_ (mCons (mVar 0) mNil)) (mCons (mCon "Web" "MOST_SEARCHED" (.int 6) (mVar 0)) mNil))) mNext)
theorem m_require_searchable_ap (s : Fm) : m_require_searchable s = (mIf (mB (mOp dGt (mLenO0 "Web" f_Webd__lend_ (mCons (mVar 0) mNil)) (mCon "Web" "MOST_SEARCHED" (.int 6) (mVar 0)))) (mRaise "TooMany" ["many", "limit"] (mCons (mLenO0 "Web" f_Webd__lend_ (mCons (mVar 0) mNil)) (mCons (mCon "Web" "MOST_SEARCHED" (.int 6) (mVar 0)) mNil))) mNext) s := rfl
def f_require_searchable : List D → Sto → Rs Sto Val := fnM 1 1 m_require_searchable
theorem ok_require_searchable (T : Ft K mg) : Good P w K mg base (L2N.CX P w) 3 (He.fAd K ("require_searchable", none)) ["web"] (spF K f_require_searchable) := by
  obtain ⟨fd, F⟩ := T.d_require_searchable
  refine ⟨fd, fn_ok F sc_require_searchable (by decide) fun cdv A outer s H E hr => ?_, F.bindsN fun _ _ _ _ _ _ us hl => match us, hl with | [_], _ => rfl, F.kp⟩
  have sc := sc_require_searchable
  exact ⟨_, (pss_one (ps_if (pt_cmpR op_gtA (let ⟨fd, G, b, _⟩ := ok_Webd__lend_ T; pe_callB (call_lenO T.lo_Web T.lf_Web G b (hr.mono (by decide)) passN) rfl T.n_len (by rfl) (pa_cons (pv 0) pa_nil)) (pe_con (pv 0) rfl) (nomark _)) (pss_one (let ⟨_, G, b, _⟩ := ok_TooManyd__initd_ T; L2N.ps_raise rfl (L2N.takes_of rfl rfl rfl rfl) (pmkN_oex T.ox_TooMany T.oi_TooMany T.ot_TooMany G (hr.mono (by decide)) b passN rfl T.g_TooMany (pa_cons (let ⟨fd, G, b, _⟩ := ok_Webd__lend_ T; pe_callB (call_lenO T.lo_Web T.lf_Web G b (hr.mono (by decide)) passN) rfl T.n_len (by rfl) (pa_cons (pv 0) pa_nil)) (pa_cons (pe_con (pv 0) rfl) pa_nil))))) pss_nil)),
    (sim_if (sim_test (sim_op sop_gt (sim_lenO0 (sim_cons (sim_var 0) sim_nil)) (T.cc_Web_MOST_SEARCHED.elim fun u h => sim_con T.k_Web h (fun _ _ => rfl) (sim_var 0)))) (sim_raise (sim_cons (sim_lenO0 (sim_cons (sim_var 0) sim_nil)) (sim_cons (T.cc_Web_MOST_SEARCHED.elim fun u h => sim_con T.k_Web h (fun _ _ => rfl) (sim_var 0)) sim_nil))) sim_next)⟩

theorem sc_ring_of : FnScope ["rows", "leaving", "row", "home", "ring", "here"] ["rows"] (defScope (st 23)) := ⟨rfl, rfl, rfl, by decide +kernel, rfl, by decide +kernel, by decide +kernel⟩
def m_ring_of_b1 : Fm → Rs Fm Fl := (mSeq (mMut 4 fAppend (mCons (mOp dIx (mVar 1) (mVar 5)) mNil))
    (mSet 5 (mOp dIx (mOp dIx (mVar 1) (mVar 5)) (mC (.int 2)))))
theorem m_ring_of_b1_ap (s : Fm) : m_ring_of_b1 s = (mSeq (mMut 4 fAppend (mCons (mOp dIx (mVar 1) (mVar 5)) mNil))
    (mSet 5 (mOp dIx (mOp dIx (mVar 1) (mVar 5)) (mC (.int 2))))) s := rfl
def m_ring_of : Fm → Rs Fm Fl := (mSeq (mSet 1 (mDc (mSrc seqD (mVar 0)) (gN 2) mYes (mOp dIx (mVar 2) (mC (.int 1))) (mVar 2) [2]))
    (mSeq (mIf (mB (mOp dNe (mCB dLen (mCons (mVar 1) mNil)) (mCB dLen (mCons (mVar 0) mNil)))) (mRet (mC .non)) mNext)
    (mSeq (mSet 3 (mOp dIx (mOp dIx (mVar 0) (mC (.int 0))) (mC (.int 1))))
    (mSeq (mSetO 4 (mLst (mCons (mOp dIx (mVar 0) (mC (.int 0))) mNil)))
    (mSeq (mSet 5 (mOp dIx (mOp dIx (mVar 0) (mC (.int 0))) (mC (.int 2))))
    (mSeq (mWhile 64 (mAnd (mB (mOp dLt (mCB dLen (mCons (mVar 4) mNil)) (mCB dLen (mCons (mVar 0) mNil)))) (mAnd (mB (mOp dNe (mVar 5) (mVar 3))) (mB (mOp dIn (mVar 5) (mVar 1))))) m_ring_of_b1)
    (mSeq (mIf (mOr (mB (mOp dNe (mVar 5) (mVar 3))) (mB (mOp dNe (mCB dLen (mCons (mVar 4) mNil)) (mCB dLen (mCons (mVar 0) mNil))))) (mRet (mC .non)) mNext)
    (mRet (mVar 4)))))))))
theorem m_ring_of_ap (s : Fm) : m_ring_of s = (mSeq (mSet 1 (mDc (mSrc seqD (mVar 0)) (gN 2) mYes (mOp dIx (mVar 2) (mC (.int 1))) (mVar 2) [2]))
    (mSeq (mIf (mB (mOp dNe (mCB dLen (mCons (mVar 1) mNil)) (mCB dLen (mCons (mVar 0) mNil)))) (mRet (mC .non)) mNext)
    (mSeq (mSet 3 (mOp dIx (mOp dIx (mVar 0) (mC (.int 0))) (mC (.int 1))))
    (mSeq (mSetO 4 (mLst (mCons (mOp dIx (mVar 0) (mC (.int 0))) mNil)))
    (mSeq (mSet 5 (mOp dIx (mOp dIx (mVar 0) (mC (.int 0))) (mC (.int 2))))
    (mSeq (mWhile 64 (mAnd (mB (mOp dLt (mCB dLen (mCons (mVar 4) mNil)) (mCB dLen (mCons (mVar 0) mNil)))) (mAnd (mB (mOp dNe (mVar 5) (mVar 3))) (mB (mOp dIn (mVar 5) (mVar 1))))) m_ring_of_b1)
    (mSeq (mIf (mOr (mB (mOp dNe (mVar 5) (mVar 3))) (mB (mOp dNe (mCB dLen (mCons (mVar 4) mNil)) (mCB dLen (mCons (mVar 0) mNil))))) (mRet (mC .non)) mNext)
    (mRet (mVar 4))))))))) s := rfl
def f_ring_of : List D → Sto → Rs Sto Val := fnM 1 6 m_ring_of
theorem ok_ring_of (T : Ft K mg) : Good P w K mg base (L2N.CX P w) 1 (He.fAd K ("ring_of", none)) ["rows"] (spF K f_ring_of) := by
  obtain ⟨fd, F⟩ := T.d_ring_of
  refine ⟨fd, fn_ok F sc_ring_of (by decide) fun cdv A outer s H E hr => ?_, F.bindsN fun _ _ _ _ _ _ us hl => match us, hl with | [_], _ => rfl, F.kp⟩
  have sc := sc_ring_of
  exact ⟨_, (pss_cons (ps_setDc (i := 1) (own := [("row", 2)]) rfl sc.nd rfl rfl (swD_true rfl rfl rfl (by decide +kernel)) (pi_seq (pv 0)) (blkOk_by (by kernel_rfl)) (fun _ _ _ _ _ => (pg_name sc.nd rfl (by first | exact Or.inl rfl | exact Or.inr rfl))) (fun _ _ _ _ _ => pts_nil) (fun _ _ _ _ _ => (pe_ix (ix_any hr.units) (pv 2) pe_int (fun _ _ => rfl))) (fun _ _ _ _ _ => (pv 2)))
    (pss_cons (ps_if (pt_cmpR (op_neP hr.units) (pe_callB call_lenA rfl T.n_len (by rfl) (pa_cons (pv 1) pa_nil)) (pe_callB call_lenA rfl T.n_len (by rfl) (pa_cons (pv 0) pa_nil)) (nomark _)) (pss_one (ps_ret pe_non)) pss_nil)
    (pss_cons (ps_set (i := 3) sc.nd rfl (by first | exact Or.inl rfl | exact Or.inr rfl) (pe_ix (ix_any hr.units) (pe_ix (ix_any hr.units) (pv 0) pe_int (fun _ _ => rfl)) pe_int (fun _ _ => rfl)))
    (pss_cons (ps_set (i := 4) sc.nd rfl (by first | exact Or.inl rfl | exact Or.inr rfl) (pe_lst (pa_cons (pe_ix (ix_any hr.units) (pv 0) pe_int (fun _ _ => rfl)) pa_nil)))
    (pss_cons (ps_set (i := 5) sc.nd rfl (by first | exact Or.inl rfl | exact Or.inr rfl) (pe_ix (ix_any hr.units) (pe_ix (ix_any hr.units) (pv 0) pe_int (fun _ _ => rfl)) pe_int (fun _ _ => rfl)))
    (pss_cons (ps_while (passes_of rfl) (PW.pt (pw_and (pt_cmpR op_ltA (pe_callB call_lenA rfl T.n_len (by rfl) (pa_cons (pv 4) pa_nil)) (pe_callB call_lenA rfl T.n_len (by rfl) (pa_cons (pv 0) pa_nil)) (nomark _)) (pw_and (pt_cmpR (op_neP hr.units) (pv 5) (pv 3) (nomark _)) (pw_and1 (pt_cmpR (op_inP hr.units) (pv 5) (pv 1) (by rfl)))))) (pss_cons (ps_expr (pe_bm PySem.F.plainAttrs_list PySem.F.slot_list_append PySem.F.type_list_append mt_append (pv 4) (pa_cons (pe_ix (ix_any hr.units) (pv 1) (pv 5) (fun _ _ => rfl)) pa_nil)))
    (pss_one (ps_set (i := 5) sc.nd rfl (by first | exact Or.inl rfl | exact Or.inr rfl) (pe_ix (ix_any hr.units) (pe_ix (ix_any hr.units) (pv 1) (pv 5) (fun _ _ => rfl)) pe_int (fun _ _ => rfl))))))
    (pss_cons (ps_if (PW.pt (pw_or (pt_cmpR (op_neP hr.units) (pv 5) (pv 3) (nomark _)) (pw_or1 (pt_cmpR (op_neP hr.units) (pe_callB call_lenA rfl T.n_len (by rfl) (pa_cons (pv 4) pa_nil)) (pe_callB call_lenA rfl T.n_len (by rfl) (pa_cons (pv 0) pa_nil)) (nomark _))))) (pss_one (ps_ret pe_non)) pss_nil)
    (pss_one (ps_ret (pv 4)))))))))),
    (sim_seq (sim_set (i := 1) (sim_dc (sim_seqI (sim_var 0)) (sim_gN 2) (by decide) sim_yes (sim_op sop_ix (sim_var 2) (sim_int 1)) (sim_var 2)))
    (sim_seq (sim_if (sim_test (sim_op sop_ne (sim_cb sc_len (sim_cons (sim_var 1) sim_nil)) (sim_cb sc_len (sim_cons (sim_var 0) sim_nil)))) (sim_ret sim_non) sim_next)
    (sim_seq (sim_set (i := 3) (sim_op sop_ix (sim_op sop_ix (sim_var 0) (sim_int 0)) (sim_int 1)))
    (sim_seq (sim_setO (i := 4) (sim_lst (sim_cons (sim_op sop_ix (sim_var 0) (sim_int 0)) sim_nil)))
    (sim_seq (sim_set (i := 5) (sim_op sop_ix (sim_op sop_ix (sim_var 0) (sim_int 0)) (sim_int 2)))
    (sim_seq (sim_while (n := 64) (sim_and (sim_test (sim_op sop_lt (sim_cb sc_len (sim_cons (sim_var 4) sim_nil)) (sim_cb sc_len (sim_cons (sim_var 0) sim_nil)))) (sim_and (sim_test (sim_op sop_ne (sim_var 5) (sim_var 3))) (sim_test (sim_op sop_in (sim_var 5) (sim_var 1))))) (sim_seq (sim_mut (i := 4) smut_append (sim_cons (sim_op sop_ix (sim_var 1) (sim_var 5)) sim_nil))
    (sim_set (i := 5) (sim_op sop_ix (sim_op sop_ix (sim_var 1) (sim_var 5)) (sim_int 2)))))
    (sim_seq (sim_if (sim_or (sim_test (sim_op sop_ne (sim_var 5) (sim_var 3))) (sim_test (sim_op sop_ne (sim_cb sc_len (sim_cons (sim_var 4) sim_nil)) (sim_cb sc_len (sim_cons (sim_var 0) sim_nil))))) (sim_ret sim_non) sim_next)
    (sim_ret (sim_var 4)))))))))⟩

theorem sc_rings_of : FnScope ["rows", "many", "found", "index", "chosen", "at", "ring", "row"] ["rows"] (defScope (st 24)) := ⟨rfl, rfl, rfl, by decide +kernel, rfl, by decide +kernel, by decide +kernel⟩
def m_rings_of_b1 : Fm → Rs Fm Fl := (mSeq (mSet 4 (mLc (mRng (mCons (mVar 1) mNil)) (gN 5) (mB (mOp dEq (mOp dAndB (mOp dShr (mVar 3) (mVar 5)) (mC (.int 1))) (mC (.int 1)))) (mOp dIx (mVar 0) (mVar 5)) [5]))
    (mSeq (mSet 6 (mCall0 f_ring_of (mCons (mVar 4) mNil)))
    (mIf (mB (mOp dIsNot (mVar 6) (mC .non))) (mMut 2 fAppend (mCons (mTup (mCons (mVar 3) (mCons (mLc (mSrc seqD (mVar 6)) (gN 7) mYes (mOp dIx (mVar 7) (mC (.int 0))) [7]) mNil))) mNil)) mNext)))
theorem m_rings_of_b1_ap (s : Fm) : m_rings_of_b1 s = (mSeq (mSet 4 (mLc (mRng (mCons (mVar 1) mNil)) (gN 5) (mB (mOp dEq (mOp dAndB (mOp dShr (mVar 3) (mVar 5)) (mC (.int 1))) (mC (.int 1)))) (mOp dIx (mVar 0) (mVar 5)) [5]))
    (mSeq (mSet 6 (mCall0 f_ring_of (mCons (mVar 4) mNil)))
    (mIf (mB (mOp dIsNot (mVar 6) (mC .non))) (mMut 2 fAppend (mCons (mTup (mCons (mVar 3) (mCons (mLc (mSrc seqD (mVar 6)) (gN 7) mYes (mOp dIx (mVar 7) (mC (.int 0))) [7]) mNil))) mNil)) mNext))) s := rfl
def m_rings_of : Fm → Rs Fm Fl := (mSeq (mSet 1 (mCB dLen (mCons (mVar 0) mNil)))
    (mSeq (mSetO 2 (mLst mNil))
    (mSeq (mFor (mRng (mCons (mC (.int 1)) (mCons (mOp dShl (mC (.int 1)) (mVar 1)) mNil))) (gN 3) m_rings_of_b1)
    (mRet (mVar 2)))))
theorem m_rings_of_ap (s : Fm) : m_rings_of s = (mSeq (mSet 1 (mCB dLen (mCons (mVar 0) mNil)))
    (mSeq (mSetO 2 (mLst mNil))
    (mSeq (mFor (mRng (mCons (mC (.int 1)) (mCons (mOp dShl (mC (.int 1)) (mVar 1)) mNil))) (gN 3) m_rings_of_b1)
    (mRet (mVar 2))))) s := rfl
def f_rings_of : List D → Sto → Rs Sto Val := fnM 1 8 m_rings_of
theorem ok_rings_of (T : Ft K mg) : Good P w K mg base (L2N.CX P w) 2 (He.fAd K ("rings_of", none)) ["rows"] (spF K f_rings_of) := by
  obtain ⟨fd, F⟩ := T.d_rings_of
  refine ⟨fd, fn_ok F sc_rings_of (by decide) fun cdv A outer s H E hr => ?_, F.bindsN fun _ _ _ _ _ _ us hl => match us, hl with | [_], _ => rfl, F.kp⟩
  have sc := sc_rings_of
  exact ⟨_, (pss_cons (ps_set (i := 1) sc.nd rfl (by first | exact Or.inl rfl | exact Or.inr rfl) (pe_callB call_lenA rfl T.n_len (by rfl) (pa_cons (pv 0) pa_nil)))
    (pss_cons (ps_set (i := 2) sc.nd rfl (by first | exact Or.inl rfl | exact Or.inr rfl) (pe_lst pa_nil))
    (pss_cons (ps_for (passes_of rfl) rfl (pi_range2 rfl T.n_range (pa_cons pe_int (pa_cons (pe_op op_shl pe_int (pv 1)) pa_nil))) (pg_name sc.nd rfl (by first | exact Or.inl rfl | exact Or.inr rfl)) (pss_cons (ps_setLc (i := 4) (own := [("at", 5)]) rfl sc.nd rfl rfl (sw_true rfl rfl rfl (by decide +kernel)) (pi_range1 rfl T.n_range (pa_cons (pv 1) pa_nil)) (blkOk_by (by kernel_rfl)) (fun _ _ _ _ _ => (pg_name sc.nd rfl (by first | exact Or.inl rfl | exact Or.inr rfl))) (fun _ _ _ _ _ => (pts_one (pt_cmpR (op_eqP hr.units) (pe_op op_and (pe_op op_shr (pv 3) (pv 5)) pe_int) pe_int (nomark _)))) (fun _ _ _ _ _ => (pe_ix (ix_any hr.units) (pv 0) (pv 5) (fun _ _ => rfl))))
    (pss_cons (ps_set (i := 6) sc.nd rfl (by first | exact Or.inl rfl | exact Or.inr rfl) (pe_callG (ok_ring_of T) (hr.mono (by decide)) T.g_ring_of passN (pa_cons (pv 4) pa_nil)))
    (pss_one (ps_if (pt_cmpR op_isNotA (pv 6) pe_non (nomark _)) (pss_one (ps_expr (pe_bm PySem.F.plainAttrs_list PySem.F.slot_list_append PySem.F.type_list_append mt_append (pv 2) (pa_cons (pe_tup (pa_cons (pv 3) (pa_cons (pe_lc (own := [("row", 7)]) rfl sc.nd (pi_seq (pv 6)) (blkOk_by (by kernel_rfl)) (fun _ _ _ _ _ => (pg_name sc.nd rfl (by first | exact Or.inl rfl | exact Or.inr rfl))) (fun _ _ _ _ _ => pts_nil) (fun _ _ _ _ _ => (pe_ix (ix_any hr.units) (pv 7) pe_int (fun _ _ => rfl)))) pa_nil))) pa_nil)))) pss_nil)))))
    (pss_one (ps_ret (pv 2)))))),
    (sim_seq (sim_set (i := 1) (sim_cb sc_len (sim_cons (sim_var 0) sim_nil)))
    (sim_seq (sim_setO (i := 2) (sim_lst sim_nil))
    (sim_seq (sim_for (sim_rng2 (sim_cons (sim_int 1) (sim_cons (sim_op sop_shl (sim_int 1) (sim_var 1)) sim_nil)) (len2 (W := noX))) (sim_gN 3) (sim_seq (sim_set (i := 4) (sim_lc (sim_rng1 (sim_cons (sim_var 1) sim_nil) (len1 (W := noX))) (sim_gN 5) (by decide) (sim_test (sim_op sop_eq (sim_op sop_andB (sim_op sop_shr (sim_var 3) (sim_var 5)) (sim_int 1)) (sim_int 1))) (sim_op sop_ix (sim_var 0) (sim_var 5))))
    (sim_seq (sim_set (i := 6) (sim_call0 (sim_cons (sim_var 4) sim_nil)))
    (sim_if (sim_test (sim_op sop_isNot (sim_var 6) sim_non)) (sim_mut (i := 2) smut_append (sim_cons (sim_tup (sim_cons (sim_var 3) (sim_cons (sim_lc (sim_seqI (sim_var 6)) (sim_gN 7) (by decide) sim_yes (sim_op sop_ix (sim_var 7) (sim_int 0))) sim_nil))) sim_nil)) sim_next))))
    (sim_ret (sim_var 2)))))⟩

theorem sc_Webd__initd_ : FnScope ["self", "arrows", "known", "arrow", "box"] ["self", "arrows"] (defScope (mst 27 1)) := ⟨rfl, rfl, rfl, by decide +kernel, rfl, by decide +kernel, by decide +kernel⟩
def m_Webd__initd__b1 : Fm → Rs Fm Fl := (mSeq (mDrop (mCall0 f_require_arrow (mCons (mVar 3) (mCons (mVar 2) mNil))))
    (mPut 2 (mOp dIx (mVar 3) (mC (.int 0))) (mTup (mCons (mOp dIx (mVar 3) (mC (.int 0))) (mCons (mOp dIx (mVar 3) (mC (.int 1))) (mCons (mOp dIx (mVar 3) (mC (.int 2))) mNil))))))
theorem m_Webd__initd__b1_ap (s : Fm) : m_Webd__initd__b1 s = (mSeq (mDrop (mCall0 f_require_arrow (mCons (mVar 3) (mCons (mVar 2) mNil))))
    (mPut 2 (mOp dIx (mVar 3) (mC (.int 0))) (mTup (mCons (mOp dIx (mVar 3) (mC (.int 0))) (mCons (mOp dIx (mVar 3) (mC (.int 1))) (mCons (mOp dIx (mVar 3) (mC (.int 2))) mNil)))))) s := rfl
def m_Webd__initd_ : Fm → Rs Fm Fl := (mSeq (mIf (mB (mOp dGt (mCB dLen (mCons (mVar 1) mNil)) (mC (.int 12)))) mNo mNext)
    (mSeq (mSetO 2 mDNew)
    (mSeq (mFor (mSrc seqD (mVar 1)) (gN 3) m_Webd__initd__b1)
    (mSeq (mDrop (mCall0 f_require_balance (mCons (mListVals (mVar 2)) mNil)))
    (mSetF 0 "Web" "web_rows" (mCB dTuple (mCons (mLc (mSrc seqD (mCB dSortB (mCons (mVar 2) mNil))) (gN 4) mYes (mOp dIx (mVar 2) (mVar 4)) [4]) mNil)))))))
theorem m_Webd__initd__ap (s : Fm) : m_Webd__initd_ s = (mSeq (mIf (mB (mOp dGt (mCB dLen (mCons (mVar 1) mNil)) (mC (.int 12)))) mNo mNext)
    (mSeq (mSetO 2 mDNew)
    (mSeq (mFor (mSrc seqD (mVar 1)) (gN 3) m_Webd__initd__b1)
    (mSeq (mDrop (mCall0 f_require_balance (mCons (mListVals (mVar 2)) mNil)))
    (mSetF 0 "Web" "web_rows" (mCB dTuple (mCons (mLc (mSrc seqD (mCB dSortB (mCons (mVar 2) mNil))) (gN 4) mYes (mOp dIx (mVar 2) (mVar 4)) [4]) mNil))))))) s := rfl
def f_Webd__initd_ : List D → Sto → Rs Sto D := fnI "Web" 2 5 m_Webd__initd_
theorem ok_Webd__initd_ (T : Ft K mg) : Good P w K mg base (L2N.CX P w) 4 (He.fAd K ("Web", some "__init__")) ["self", "arrows"] (spI K "Web" f_Webd__initd_) := by
  obtain ⟨fd, F⟩ := T.d_Webd__initd_
  refine ⟨fd, fn_okI F sc_Webd__initd_ (by decide) fun cdv A outer s H E hr => ?_, F.bindsN fun _ _ _ _ _ _ us hl => match us, hl with | [_, _], _ => rfl, F.kp⟩
  have sc := sc_Webd__initd_
  exact ⟨_, (pss_cons (ps_if (pt_cmpR op_gtA (pe_callB call_lenA rfl T.n_len (by rfl) (pa_cons (pv 1) pa_nil)) (pe_gint T.c_MOST_ARROWS rfl) (nomark _)) pss_no pss_nil)
    (pss_cons (ps_set (i := 2) sc.nd rfl (by first | exact Or.inl rfl | exact Or.inr rfl) pe_dnewK)
    (pss_cons (ps_for (passes_of rfl) rfl (pi_seq (pv 1)) (pg_name sc.nd rfl (by first | exact Or.inl rfl | exact Or.inr rfl)) (pss_cons (ps_expr (pe_callG (ok_require_arrow T) (hr.mono (by decide)) T.g_require_arrow passN (pa_cons (pv 3) (pa_cons (pv 2) pa_nil))))
    (pss_one (ps_asg (pe_tup (pa_cons (pe_ix (ix_any hr.units) (pv 3) pe_int (fun _ _ => rfl)) (pa_cons (pe_ix (ix_any hr.units) (pv 3) pe_int (fun _ _ => rfl)) (pa_cons (pe_ix (ix_any hr.units) (pv 3) pe_int (fun _ _ => rfl)) pa_nil)))) (pg_sub (pv 2) (pe_ix (ix_any hr.units) (pv 3) pe_int (fun _ _ => rfl)) (set_any hr.units) (by intros; rfl))))))
    (pss_cons (ps_expr (pe_callG (ok_require_balance T) (hr.mono (by decide)) T.g_require_balance passN (pa_cons (pe_listVals rfl rfl T.n_list (pv 2)) pa_nil)))
    (pss_one (ps_fld (pv 0) (pe_callTy call_tupleA rfl T.n_tuple (by rfl) (pa_cons (pe_lc (own := [("box", 4)]) rfl sc.nd (pi_seq (pe_callB (call_sortB rfl hr.units) rfl T.n_sorted (by rfl) (pa_cons (pv 2) pa_nil))) (blkOk_by (by kernel_rfl)) (fun _ _ _ _ _ => (pg_name sc.nd rfl (by first | exact Or.inl rfl | exact Or.inr rfl))) (fun _ _ _ _ _ => pts_nil) (fun _ _ _ _ _ => (pe_ix (ix_any hr.units) (pv 2) (pv 4) (fun _ _ => rfl)))) pa_nil)) rfl)))))),
    (sim_seq (sim_if (sim_test (sim_op sop_gt (sim_cb sc_len (sim_cons (sim_var 1) sim_nil)) (sim_int 12))) sim_no sim_next)
    (sim_seq (sim_setO (i := 2) sim_dnew)
    (sim_seq (sim_for (sim_seqI (sim_var 1)) (sim_gN 3) (sim_seq (sim_drop (sim_call0 (sim_cons (sim_var 3) (sim_cons (sim_var 2) sim_nil))))
    (sim_put (j := 2) (sim_op sop_ix (sim_var 3) (sim_int 0)) (sim_tup (sim_cons (sim_op sop_ix (sim_var 3) (sim_int 0)) (sim_cons (sim_op sop_ix (sim_var 3) (sim_int 1)) (sim_cons (sim_op sop_ix (sim_var 3) (sim_int 2)) sim_nil)))))))
    (sim_seq (sim_drop (sim_call0 (sim_cons (sim_listVals (sim_var 2)) sim_nil)))
    (sim_setF (i := 0) T.k_Web T.na_Web_web_rows (sim_cb sc_tuple (sim_cons (sim_lc (sim_seqI (sim_cb sc_sortB (sim_cons (sim_var 2) sim_nil))) (sim_gN 4) (by decide) sim_yes (sim_op sop_ix (sim_var 2) (sim_var 4))) sim_nil)))))))⟩

theorem sc_Web_is_bound : FnScope ["self", "table", "number", "size", "entry", "ring", "part", "inside", "index"] ["self", "table", "number"] (defScope (mst 27 12)) := ⟨rfl, rfl, rfl, by decide +kernel, rfl, by decide +kernel, by decide +kernel⟩
def m_Web_is_bound_b1 : Fm → Rs Fm Fl := (mSeq (mSet 6 (mOp dIx (mVar 5) (mC (.int 0))))
    (mSeq (mSet 7 (mLc (mRng (mCons (mVar 3) mNil)) (gN 8) (mB (mOp dEq (mOp dAndB (mVar 8) (mVar 6)) (mVar 6))) (mVar 8) [8]))
    (mIf (mB (mCB dAny (mCons (mLc (mSrc seqD (mVar 7)) (gN 8) mYes (mOp dLt (mOp dIx (mVar 1) (mVar 8)) (mOp dAdd (mC (.int 1)) (mOp dIx (mVar 1) (mOp dSub (mVar 8) (mVar 6))))) [8]) mNil))) (mRet (mC (.bl false))) mNext)))
theorem m_Web_is_bound_b1_ap (s : Fm) : m_Web_is_bound_b1 s = (mSeq (mSet 6 (mOp dIx (mVar 5) (mC (.int 0))))
    (mSeq (mSet 7 (mLc (mRng (mCons (mVar 3) mNil)) (gN 8) (mB (mOp dEq (mOp dAndB (mVar 8) (mVar 6)) (mVar 6))) (mVar 8) [8]))
    (mIf (mB (mCB dAny (mCons (mLc (mSrc seqD (mVar 7)) (gN 8) mYes (mOp dLt (mOp dIx (mVar 1) (mVar 8)) (mOp dAdd (mC (.int 1)) (mOp dIx (mVar 1) (mOp dSub (mVar 8) (mVar 6))))) [8]) mNil))) (mRet (mC (.bl false))) mNext))) s := rfl
def m_Web_is_bound : Fm → Rs Fm Fl := (mSeq (mDrop (mCall f_require_searchable [] (mCons (mVar 0) mNil)))
    (mSeq (mSet 3 (mOp dShl (mC (.int 1)) (mCB dLen (mCons (mFld "Web" "web_rows" (mVar 0)) mNil))))
    (mSeq (mIf (mOr (mB (mOp dNe (mCB dLen (mCons (mVar 1) mNil)) (mVar 3))) (mNot (mB (mCB dAll (mCons (mLc (mSrc seqD (mVar 1)) (gN 4) mYes (mAndV (mCall0 f_is_whole (mCons (mVar 4) mNil)) (mOp dGe (mVar 4) (mC (.int 0)))) [4]) mNil))))) (mRet (mC (.bl false))) mNext)
    (mSeq (mFor (mSrc seqD (mCall0 f_rings_of (mCons (mFld "Web" "web_rows" (mVar 0)) mNil))) (gN 5) m_Web_is_bound_b1)
    (mRet (mAndV (mCall0 f_is_whole (mCons (mVar 2) mNil)) (mOp dEq (mOp dIx (mVar 1) (mOp dSub (mVar 3) (mC (.int 1)))) (mVar 2))))))))
theorem m_Web_is_bound_ap (s : Fm) : m_Web_is_bound s = (mSeq (mDrop (mCall f_require_searchable [] (mCons (mVar 0) mNil)))
    (mSeq (mSet 3 (mOp dShl (mC (.int 1)) (mCB dLen (mCons (mFld "Web" "web_rows" (mVar 0)) mNil))))
    (mSeq (mIf (mOr (mB (mOp dNe (mCB dLen (mCons (mVar 1) mNil)) (mVar 3))) (mNot (mB (mCB dAll (mCons (mLc (mSrc seqD (mVar 1)) (gN 4) mYes (mAndV (mCall0 f_is_whole (mCons (mVar 4) mNil)) (mOp dGe (mVar 4) (mC (.int 0)))) [4]) mNil))))) (mRet (mC (.bl false))) mNext)
    (mSeq (mFor (mSrc seqD (mCall0 f_rings_of (mCons (mFld "Web" "web_rows" (mVar 0)) mNil))) (gN 5) m_Web_is_bound_b1)
    (mRet (mAndV (mCall0 f_is_whole (mCons (mVar 2) mNil)) (mOp dEq (mOp dIx (mVar 1) (mOp dSub (mVar 3) (mC (.int 1)))) (mVar 2)))))))) s := rfl
def f_Web_is_bound : List D → Sto → Rs Sto Val := fnM 3 9 m_Web_is_bound
theorem ok_Web_is_bound (T : Ft K mg) : Good P w K mg base (L2N.CX P w) 4 (He.fAd K ("Web", some "is_bound")) ["self", "table", "number"] (spF K f_Web_is_bound) := by
  obtain ⟨fd, F⟩ := T.d_Web_is_bound
  refine ⟨fd, fn_ok F sc_Web_is_bound (by decide) fun cdv A outer s H E hr => ?_, F.bindsN fun _ _ _ _ _ _ us hl => match us, hl with | [_, _, _], _ => rfl, F.kp⟩
  have sc := sc_Web_is_bound
  exact ⟨_, (pss_cons (ps_expr (pe_callG (ok_require_searchable T) (hr.mono (by decide)) T.g_require_searchable (L2N.passes_call (L2N.takes_of rfl rfl rfl rfl) fun _ _ _ _ h => h) (pa_cons (pv 0) pa_nil)))
    (pss_cons (ps_set (i := 3) sc.nd rfl (by first | exact Or.inl rfl | exact Or.inr rfl) (pe_op op_shl pe_int (pe_callB call_lenA rfl T.n_len (by rfl) (pa_cons (pe_fld (pv 0) rfl) pa_nil))))
    (pss_cons (ps_if (PW.pt (pw_or (pt_cmpR (op_neP hr.units) (pe_callB call_lenA rfl T.n_len (by rfl) (pa_cons (pv 1) pa_nil)) (pv 3) (nomark _)) (pw_or1 (pt_not (pt_val (pe_callB (cr_all rfl) rfl T.n_all (by rfl) (pa_cons (pe_lc (own := [("entry", 4)]) rfl sc.nd (pi_seq (pv 1)) (blkOk_by (by kernel_rfl)) (fun _ _ _ _ _ => (pg_name sc.nd rfl (by first | exact Or.inl rfl | exact Or.inr rfl))) (fun _ _ _ _ _ => pts_nil) (fun _ _ _ _ _ => (pe_and (pe_callG (ok_is_whole T) (hr.mono (by decide)) T.g_is_whole passN (pa_cons (pv 4) pa_nil)) (pe_one (pe_cmpR op_ge (pv 4) pe_int (nomark _)))))) pa_nil))))))) (pss_one (ps_ret pe_bl)) pss_nil)
    (pss_cons (ps_for (passes_of rfl) rfl (pi_seq (pe_callG (ok_rings_of T) (hr.mono (by decide)) T.g_rings_of passN (pa_cons (pe_fld (pv 0) rfl) pa_nil))) (pg_name sc.nd rfl (by first | exact Or.inl rfl | exact Or.inr rfl)) (pss_cons (ps_set (i := 6) sc.nd rfl (by first | exact Or.inl rfl | exact Or.inr rfl) (pe_ix (ix_any hr.units) (pv 5) pe_int (fun _ _ => rfl)))
    (pss_cons (ps_setLc (i := 7) (own := [("index", 8)]) rfl sc.nd rfl rfl (sw_true rfl rfl rfl (by decide +kernel)) (pi_range1 rfl T.n_range (pa_cons (pv 3) pa_nil)) (blkOk_by (by kernel_rfl)) (fun _ _ _ _ _ => (pg_name sc.nd rfl (by first | exact Or.inl rfl | exact Or.inr rfl))) (fun _ _ _ _ _ => (pts_one (pt_cmpR (op_eqP hr.units) (pe_op op_and (pv 8) (pv 6)) (pv 6) (nomark _)))) (fun _ _ _ _ _ => (pv 8)))
    (pss_one (ps_if (pt_val (pe_callB (cr_any rfl) rfl T.n_any (by rfl) (pa_cons (pe_lc (own := [("index", 8)]) rfl sc.nd (pi_seq (pv 7)) (blkOk_by (by kernel_rfl)) (fun _ _ _ _ _ => (pg_name sc.nd rfl (by first | exact Or.inl rfl | exact Or.inr rfl))) (fun _ _ _ _ _ => pts_nil) (fun _ _ _ _ _ => (pe_cmpR op_ltA (pe_ix (ix_any hr.units) (pv 1) (pv 8) (fun _ _ => rfl)) (pe_op op_addA pe_int (pe_ix (ix_any hr.units) (pv 1) (pe_op op_sub (pv 8) (pv 6)) (fun _ _ => rfl))) (nomark _)))) pa_nil))) (pss_one (ps_ret pe_bl)) pss_nil)))))
    (pss_one (ps_ret (pe_and (pe_callG (ok_is_whole T) (hr.mono (by decide)) T.g_is_whole passN (pa_cons (pv 2) pa_nil)) (pe_one (pe_cmpR (op_eqP hr.units) (pe_ix (ix_any hr.units) (pv 1) (pe_op op_sub (pv 3) pe_int) (fun _ _ => rfl)) (pv 2) (nomark _)))))))))),
    (sim_seq (sim_drop (sim_call (dvs := []) (dds := []) (sim_cons (sim_var 0) sim_nil) (fun _ _ => trivial) (fun _ _ _ _ h => h)))
    (sim_seq (sim_set (i := 3) (sim_op sop_shl (sim_int 1) (sim_cb sc_len (sim_cons (sim_fld T.k_Web T.na_Web_web_rows (sim_var 0)) sim_nil))))
    (sim_seq (sim_if (sim_or (sim_test (sim_op sop_ne (sim_cb sc_len (sim_cons (sim_var 1) sim_nil)) (sim_var 3))) (sim_not (sim_B (sim_cb sc_all (sim_cons (sim_lc (sim_seqI (sim_var 1)) (sim_gN 4) (by decide) sim_yes (sim_andV (sim_call0 (sim_cons (sim_var 4) sim_nil)) (sim_op sop_ge (sim_var 4) (sim_int 0)))) sim_nil))))) (sim_ret (sim_bl false)) sim_next)
    (sim_seq (sim_for (sim_seqI (sim_call0 (sim_cons (sim_fld T.k_Web T.na_Web_web_rows (sim_var 0)) sim_nil))) (sim_gN 5) (sim_seq (sim_set (i := 6) (sim_op sop_ix (sim_var 5) (sim_int 0)))
    (sim_seq (sim_set (i := 7) (sim_lc (sim_rng1 (sim_cons (sim_var 3) sim_nil) (len1 (W := noX))) (sim_gN 8) (by decide) (sim_test (sim_op sop_eq (sim_op sop_andB (sim_var 8) (sim_var 6)) (sim_var 6))) (sim_var 8)))
    (sim_if (sim_B (sim_cb sc_any (sim_cons (sim_lc (sim_seqI (sim_var 7)) (sim_gN 8) (by decide) sim_yes (sim_op sop_lt (sim_op sop_ix (sim_var 1) (sim_var 8)) (sim_op sop_add (sim_int 1) (sim_op sop_ix (sim_var 1) (sim_op sop_sub (sim_var 8) (sim_var 6)))))) sim_nil))) (sim_ret (sim_bl false)) sim_next))))
    (sim_ret (sim_andV (sim_call0 (sim_cons (sim_var 2) sim_nil)) (sim_op sop_eq (sim_op sop_ix (sim_var 1) (sim_op sop_sub (sim_var 3) (sim_int 1))) (sim_var 2))))))))⟩

theorem sc_l_web : FnScope ["_law_store_here", "_law_arrows_here", "_law_given", "_law_web_here"] ["_law_store_here", "_law_arrows_here"] (defScope (st 54)) := ⟨rfl, rfl, rfl, by decide +kernel, rfl, by decide +kernel, by decide +kernel⟩
def m_l_web : Fm → Rs Fm Fl := (mSeq (mSetO 2 (mCall0 f_l_row_of (mCons (mVar 0) (mCons (mVar 1) mNil))))
    (mSeq (mSet 3 (mMake0 f_Webd__initd_ (mCons (mVar 2) mNil)))
    (mSeq (mIf (mB (mOp dNe (mCB dListB (mCons (mVar 2) mNil)) (mVar 1))) (mRet (mC .non)) mNext)
    (mSeq (mIf (mB (mCB (dIsi tbB fun _ => false) (mCons (mVar 2) (mCons (mC (.ty "list")) mNil)))) (mMut 2 fAppend (mCons (mTup (mCons (mC (.str "zz")) (mCons (mC (.str "y")) (mCons (mC (.str "x")) mNil)))) mNil)) mNext)
    (mRet (mVar 3))))))
theorem m_l_web_ap (s : Fm) : m_l_web s = (mSeq (mSetO 2 (mCall0 f_l_row_of (mCons (mVar 0) (mCons (mVar 1) mNil))))
    (mSeq (mSet 3 (mMake0 f_Webd__initd_ (mCons (mVar 2) mNil)))
    (mSeq (mIf (mB (mOp dNe (mCB dListB (mCons (mVar 2) mNil)) (mVar 1))) (mRet (mC .non)) mNext)
    (mSeq (mIf (mB (mCB (dIsi tbB fun _ => false) (mCons (mVar 2) (mCons (mC (.ty "list")) mNil)))) (mMut 2 fAppend (mCons (mTup (mCons (mC (.str "zz")) (mCons (mC (.str "y")) (mCons (mC (.str "x")) mNil)))) mNil)) mNext)
    (mRet (mVar 3)))))) s := rfl
def f_l_web : List D → Sto → Rs Sto Val := fnM 2 4 m_l_web
theorem ok_l_web (T : Ft K mg) : Good P w K mg base (L2N.CX P w) 6 (He.fAd K ("_law_web", none)) ["_law_store_here", "_law_arrows_here"] (spF K f_l_web) := by
  obtain ⟨fd, F⟩ := T.d_l_web
  refine ⟨fd, fn_ok F sc_l_web (by decide) fun cdv A outer s H E hr => ?_, F.bindsN fun _ _ _ _ _ _ us hl => match us, hl with | [_, _], _ => rfl, F.kp⟩
  have sc := sc_l_web
  exact ⟨_, (pss_cons (ps_set (i := 2) sc.nd rfl (by first | exact Or.inl rfl | exact Or.inr rfl) (pe_callG (ok_l_row_of T) (hr.mono (by decide)) T.g__law_row_of passN (pa_cons (pv 0) (pa_cons (pv 1) pa_nil))))
    (pss_cons (ps_set (i := 3) sc.nd rfl (by first | exact Or.inl rfl | exact Or.inr rfl) (let ⟨_, G, b, _⟩ := ok_Webd__initd_ T; pe_make T.mk_Web G (hr.mono (by decide)) rfl T.g_Web b .nil passN (pa_cons (pv 2) pa_nil)))
    (pss_cons (ps_if (pt_cmpR (op_neP hr.units) (pe_callTy (call_listB rfl) rfl T.n_list (by rfl) (pa_cons (pv 2) pa_nil)) (pv 1) (nomark _)) (pss_one (ps_ret pe_non)) pss_nil)
    (pss_cons (ps_if (pt_val (pe_callB call_isiA rfl T.n_isinstance (by rfl) (pa_cons (pv 2) (pa_cons (pe_bty rfl T.n_list (by rfl)) pa_nil)))) (pss_one (ps_expr (pe_bm PySem.F.plainAttrs_list PySem.F.slot_list_append PySem.F.type_list_append mt_append (pv 2) (pa_cons (pe_tup (pa_cons pe_str (pa_cons pe_str (pa_cons pe_str pa_nil)))) pa_nil)))) pss_nil)
    (pss_one (ps_ret (pv 3))))))),
    (sim_seq (sim_setO (i := 2) (sim_call0 (sim_cons (sim_var 0) (sim_cons (sim_var 1) sim_nil))))
    (sim_seq (sim_set (i := 3) (sim_make0 (sim_cons (sim_var 2) sim_nil)))
    (sim_seq (sim_if (sim_test (sim_op sop_ne (sim_cb sc_listB (sim_cons (sim_var 2) sim_nil)) (sim_var 1))) (sim_ret sim_non) sim_next)
    (sim_seq (sim_if (sim_B (sim_cb (sc_isi tbB_ok (fun _ h => nomatch h)) (sim_cons (sim_var 2) (sim_cons (sim_ty "list") sim_nil)))) (sim_mut (i := 2) smut_append (sim_cons (sim_tup (sim_cons (sim_str "zz") (sim_cons (sim_str "y") (sim_cons (sim_str "x") sim_nil)))) sim_nil)) sim_next)
    (sim_ret (sim_var 3))))))⟩

theorem sc_l_base : FnScope ["_law_store_here", "_law_arrows_here", "_law_found", "_law_index", "_law_k", "_law_more", "_law_entry"] ["_law_store_here", "_law_arrows_here"] (defScope (st 55)) := ⟨rfl, rfl, rfl, by decide +kernel, rfl, by decide +kernel, by decide +kernel⟩
def m_l_base_b1 : Fm → Rs Fm Fl := (mMut 2 fAppend (mCons (mCB dLen (mCons (mLc (mRng (mCons (mCB dLen (mCons (mVar 1) mNil)) mNil)) (gN 4) (mB (mOp dEq (mOp dAndB (mOp dShr (mVar 3) (mVar 4)) (mC (.int 1))) (mC (.int 1)))) (mVar 4) [4]) mNil)) mNil))
theorem m_l_base_b1_ap (s : Fm) : m_l_base_b1 s = (mMut 2 fAppend (mCons (mCB dLen (mCons (mLc (mRng (mCons (mCB dLen (mCons (mVar 1) mNil)) mNil)) (gN 4) (mB (mOp dEq (mOp dAndB (mOp dShr (mVar 3) (mVar 4)) (mC (.int 1))) (mC (.int 1)))) (mVar 4) [4]) mNil)) mNil)) s := rfl
def m_l_base : Fm → Rs Fm Fl := (mSeq (mSetO 2 (mCall0 f_l_web_table (mCons (mVar 1) mNil)))
    (mSeq (mIf (mB (mOp dEq (mCall0 f_l_take (mCons (mVar 0) (mCons (mC (.int 2)) mNil))) (mC (.int 0)))) (mSeq (mSetO 2 (mLst mNil))
    (mFor (mRng (mCons (mOp dShl (mC (.int 1)) (mCB dLen (mCons (mVar 1) mNil))) mNil)) (gN 3) m_l_base_b1)) mNext)
    (mSeq (mSet 5 (mC (.int 0)))
    (mSeq (mIf (mB (mOp dEq (mCall0 f_l_take (mCons (mVar 0) (mCons (mC (.int 2)) mNil))) (mC (.int 0)))) (mSet 5 (mCall0 f_l_take (mCons (mVar 0) (mCons (mOp dAdd (mOp dPow (mC (.int 10)) (mC (.int 20))) (mC (.int 1))) mNil)))) mNext)
    (fun s => (mRet (mLc (mSrc seqD (mVar 2)) (gN 6) mYes (mOp dAdd (mVar 6) (mVar 5)) [6])) (mFreeze 2 s))))))
theorem m_l_base_ap (s : Fm) : m_l_base s = (mSeq (mSetO 2 (mCall0 f_l_web_table (mCons (mVar 1) mNil)))
    (mSeq (mIf (mB (mOp dEq (mCall0 f_l_take (mCons (mVar 0) (mCons (mC (.int 2)) mNil))) (mC (.int 0)))) (mSeq (mSetO 2 (mLst mNil))
    (mFor (mRng (mCons (mOp dShl (mC (.int 1)) (mCB dLen (mCons (mVar 1) mNil))) mNil)) (gN 3) m_l_base_b1)) mNext)
    (mSeq (mSet 5 (mC (.int 0)))
    (mSeq (mIf (mB (mOp dEq (mCall0 f_l_take (mCons (mVar 0) (mCons (mC (.int 2)) mNil))) (mC (.int 0)))) (mSet 5 (mCall0 f_l_take (mCons (mVar 0) (mCons (mOp dAdd (mOp dPow (mC (.int 10)) (mC (.int 20))) (mC (.int 1))) mNil)))) mNext)
    (fun s => (mRet (mLc (mSrc seqD (mVar 2)) (gN 6) mYes (mOp dAdd (mVar 6) (mVar 5)) [6])) (mFreeze 2 s)))))) s := rfl
def f_l_base : List D → Sto → Rs Sto Val := fnM 2 7 m_l_base
theorem ok_l_base (T : Ft K mg) : Good P w K mg base (L2N.CX P w) 4 (He.fAd K ("_law_base", none)) ["_law_store_here", "_law_arrows_here"] (spF K f_l_base) := by
  obtain ⟨fd, F⟩ := T.d_l_base
  refine ⟨fd, fn_ok F sc_l_base (by decide) fun cdv A outer s H E hr => ?_, F.bindsN fun _ _ _ _ _ _ us hl => match us, hl with | [_, _], _ => rfl, F.kp⟩
  have sc := sc_l_base
  exact ⟨_, (pss_cons (ps_set (i := 2) sc.nd rfl (by first | exact Or.inl rfl | exact Or.inr rfl) (pe_callG (ok_l_web_table T) (hr.mono (by decide)) T.g__law_web_table passN (pa_cons (pv 1) pa_nil)))
    (pss_cons (ps_if (pt_cmpR (op_eqP hr.units) (pe_callG (ok_l_take T) (hr.mono (by decide)) T.g__law_take passN (pa_cons (pv 0) (pa_cons pe_int pa_nil))) pe_int (nomark _)) (pss_cons (ps_set (i := 2) sc.nd rfl (by first | exact Or.inl rfl | exact Or.inr rfl) (pe_lst pa_nil))
    (pss_one (ps_for (passes_of rfl) rfl (pi_range1 rfl T.n_range (pa_cons (pe_op op_shl pe_int (pe_callB call_lenA rfl T.n_len (by rfl) (pa_cons (pv 1) pa_nil))) pa_nil)) (pg_name sc.nd rfl (by first | exact Or.inl rfl | exact Or.inr rfl)) (pss_one (ps_expr (pe_bm PySem.F.plainAttrs_list PySem.F.slot_list_append PySem.F.type_list_append mt_append (pv 2) (pa_cons (pe_callB call_lenA rfl T.n_len (by rfl) (pa_cons (pe_lc (own := [("_law_k", 4)]) rfl sc.nd (pi_range1 rfl T.n_range (pa_cons (pe_callB call_lenA rfl T.n_len (by rfl) (pa_cons (pv 1) pa_nil)) pa_nil)) (blkOk_by (by kernel_rfl)) (fun _ _ _ _ _ => (pg_name sc.nd rfl (by first | exact Or.inl rfl | exact Or.inr rfl))) (fun _ _ _ _ _ => (pts_one (pt_cmpR (op_eqP hr.units) (pe_op op_and (pe_op op_shr (pv 3) (pv 4)) pe_int) pe_int (nomark _)))) (fun _ _ _ _ _ => (pv 4))) pa_nil)) pa_nil))))))) pss_nil)
    (pss_cons (ps_set (i := 5) sc.nd rfl (by first | exact Or.inl rfl | exact Or.inr rfl) pe_int)
    (pss_cons (ps_if (pt_cmpR (op_eqP hr.units) (pe_callG (ok_l_take T) (hr.mono (by decide)) T.g__law_take passN (pa_cons (pv 0) (pa_cons pe_int pa_nil))) pe_int (nomark _)) (pss_one (ps_set (i := 5) sc.nd rfl (by first | exact Or.inl rfl | exact Or.inr rfl) (pe_callG (ok_l_take T) (hr.mono (by decide)) T.g__law_take passN (pa_cons (pv 0) (pa_cons (pe_op op_addA (pe_op op_pow pe_int pe_int) pe_int) pa_nil))))) pss_nil)
    (pss_one (ps_ret (pe_lc (own := [("_law_entry", 6)]) rfl sc.nd (pi_seq (pv 2)) (blkOk_by (by kernel_rfl)) (fun _ _ _ _ _ => (pg_name sc.nd rfl (by first | exact Or.inl rfl | exact Or.inr rfl))) (fun _ _ _ _ _ => pts_nil) (fun _ _ _ _ _ => (pe_op op_addA (pv 6) (pv 5)))))))))),
    (sim_seq (sim_setO (i := 2) (sim_call0 (sim_cons (sim_var 1) sim_nil)))
    (sim_seq (sim_if (sim_test (sim_op sop_eq (sim_call0 (sim_cons (sim_var 0) (sim_cons (sim_int 2) sim_nil))) (sim_int 0))) (sim_seq (sim_setO (i := 2) (sim_lst sim_nil))
    (sim_for (sim_rng1 (sim_cons (sim_op sop_shl (sim_int 1) (sim_cb sc_len (sim_cons (sim_var 1) sim_nil))) sim_nil) (len1 (W := noX))) (sim_gN 3) (sim_mut (i := 2) smut_append (sim_cons (sim_cb sc_len (sim_cons (sim_lc (sim_rng1 (sim_cons (sim_cb sc_len (sim_cons (sim_var 1) sim_nil)) sim_nil) (len1 (W := noX))) (sim_gN 4) (by decide) (sim_test (sim_op sop_eq (sim_op sop_andB (sim_op sop_shr (sim_var 3) (sim_var 4)) (sim_int 1)) (sim_int 1))) (sim_var 4)) sim_nil)) sim_nil)))) sim_next)
    (sim_seq (sim_set (i := 5) (sim_int 0))
    (sim_seq (sim_if (sim_test (sim_op sop_eq (sim_call0 (sim_cons (sim_var 0) (sim_cons (sim_int 2) sim_nil))) (sim_int 0))) (sim_set (i := 5) (sim_call0 (sim_cons (sim_var 0) (sim_cons (sim_op sop_add (sim_op sop_pow (sim_int 10) (sim_int 20)) (sim_int 1)) sim_nil)))) sim_next)
    (sim_frz 2 (sim_ret (sim_lc (sim_seqI (sim_var 2)) (sim_gN 6) (by decide) sim_yes (sim_op sop_add (sim_var 6) (sim_var 5)))))))))⟩

theorem sc_l_spoilt : FnScope ["_law_store_here", "_law_arrows_here", "_law_table", "_law_row", "_law_rings", "_law_manner", "_law_at", "_law_ring"] ["_law_store_here", "_law_arrows_here", "_law_table"] (defScope (st 56)) := ⟨rfl, rfl, rfl, by decide +kernel, rfl, by decide +kernel, by decide +kernel⟩
def m_l_spoilt : Fm → Rs Fm Fl := (mSeq (mSetO 3 (mCB dListB (mCons (mVar 2) mNil)))
    (mSeq (mSet 4 (mCall0 f_l_circuit_sets (mCons (mVar 1) mNil)))
    (mSeq (mSet 5 (mCall0 f_l_take (mCons (mVar 0) (mCons (mC (.int 7)) mNil))))
    (mSeq (mSet 6 (mCall0 f_l_take (mCons (mVar 0) (mCons (mCB dLen (mCons (mVar 3) mNil)) mNil))))
    (mSeq (mIf (mAnd (mB (mOp dLt (mVar 5) (mC (.int 3)))) (mTru' (mVar 4))) (mSeq (mSet 7 (mCall0 f_l_pick (mCons (mVar 0) (mCons (mVar 4) mNil))))
    (mPut 3 (mOp dOrB (mVar 6) (mVar 7)) (mOp dSub (mOp dIx (mVar 3) (mOp dSub (mOp dOrB (mVar 6) (mVar 7)) (mVar 7))) (mCall0 f_l_take (mCons (mVar 0) (mCons (mC (.int 2)) mNil)))))) (mIf (mB (mOp dEq (mVar 5) (mC (.int 3)))) (mPut 3 (mVar 6) (mOp dSub (mUn dNeg (mC (.int 1))) (mCall0 f_l_take (mCons (mVar 0) (mCons (mOp dPow (mC (.int 10)) (mC (.int 20))) mNil))))) (mIf (mB (mOp dEq (mVar 5) (mC (.int 4)))) (mPut 3 (mVar 6) (mOp dSub (mOp dAdd (mOp dIx (mVar 3) (mVar 6)) (mC (.int 1))) (mOp dMul (mC (.int 2)) (mCall0 f_l_take (mCons (mVar 0) (mCons (mC (.int 2)) mNil)))))) (mIf (mB (mOp dEq (mVar 5) (mC (.int 5)))) (mPut 3 (mVar 6) (mCall0 f_l_odd (mCons (mVar 0) mNil))) (fun s => (mSetO 3 (mCall0 (f_l_bent 1) (mCons (mVar 0) (mCons (mVar 3) (mCons (mC (.int 0)) mNil))))) (mFreeze 3 s))))))
    (mRet (mVar 3)))))))
theorem m_l_spoilt_ap (s : Fm) : m_l_spoilt s = (mSeq (mSetO 3 (mCB dListB (mCons (mVar 2) mNil)))
    (mSeq (mSet 4 (mCall0 f_l_circuit_sets (mCons (mVar 1) mNil)))
    (mSeq (mSet 5 (mCall0 f_l_take (mCons (mVar 0) (mCons (mC (.int 7)) mNil))))
    (mSeq (mSet 6 (mCall0 f_l_take (mCons (mVar 0) (mCons (mCB dLen (mCons (mVar 3) mNil)) mNil))))
    (mSeq (mIf (mAnd (mB (mOp dLt (mVar 5) (mC (.int 3)))) (mTru' (mVar 4))) (mSeq (mSet 7 (mCall0 f_l_pick (mCons (mVar 0) (mCons (mVar 4) mNil))))
    (mPut 3 (mOp dOrB (mVar 6) (mVar 7)) (mOp dSub (mOp dIx (mVar 3) (mOp dSub (mOp dOrB (mVar 6) (mVar 7)) (mVar 7))) (mCall0 f_l_take (mCons (mVar 0) (mCons (mC (.int 2)) mNil)))))) (mIf (mB (mOp dEq (mVar 5) (mC (.int 3)))) (mPut 3 (mVar 6) (mOp dSub (mUn dNeg (mC (.int 1))) (mCall0 f_l_take (mCons (mVar 0) (mCons (mOp dPow (mC (.int 10)) (mC (.int 20))) mNil))))) (mIf (mB (mOp dEq (mVar 5) (mC (.int 4)))) (mPut 3 (mVar 6) (mOp dSub (mOp dAdd (mOp dIx (mVar 3) (mVar 6)) (mC (.int 1))) (mOp dMul (mC (.int 2)) (mCall0 f_l_take (mCons (mVar 0) (mCons (mC (.int 2)) mNil)))))) (mIf (mB (mOp dEq (mVar 5) (mC (.int 5)))) (mPut 3 (mVar 6) (mCall0 f_l_odd (mCons (mVar 0) mNil))) (fun s => (mSetO 3 (mCall0 (f_l_bent 1) (mCons (mVar 0) (mCons (mVar 3) (mCons (mC (.int 0)) mNil))))) (mFreeze 3 s))))))
    (mRet (mVar 3))))))) s := rfl
def f_l_spoilt : List D → Sto → Rs Sto Val := fnM 3 8 m_l_spoilt
theorem ok_l_spoilt (T : Ft K mg) : Good P w K mg base (L2N.CX P w) 8 (He.fAd K ("_law_spoilt", none)) ["_law_store_here", "_law_arrows_here", "_law_table"] (spF K f_l_spoilt) := by
  obtain ⟨fd, F⟩ := T.d_l_spoilt
  refine ⟨fd, fn_ok F sc_l_spoilt (by decide) fun cdv A outer s H E hr => ?_, F.bindsN fun _ _ _ _ _ _ us hl => match us, hl with | [_, _, _], _ => rfl, F.kp⟩
  have sc := sc_l_spoilt
  exact ⟨_, (pss_cons (ps_set (i := 3) sc.nd rfl (by first | exact Or.inl rfl | exact Or.inr rfl) (pe_callTy (call_listB rfl) rfl T.n_list (by rfl) (pa_cons (pv 2) pa_nil)))
    (pss_cons (ps_set (i := 4) sc.nd rfl (by first | exact Or.inl rfl | exact Or.inr rfl) (pe_callG (ok_l_circuit_sets T) (hr.mono (by decide)) T.g__law_circuit_sets passN (pa_cons (pv 1) pa_nil)))
    (pss_cons (ps_set (i := 5) sc.nd rfl (by first | exact Or.inl rfl | exact Or.inr rfl) (pe_callG (ok_l_take T) (hr.mono (by decide)) T.g__law_take passN (pa_cons (pv 0) (pa_cons pe_int pa_nil))))
    (pss_cons (ps_set (i := 6) sc.nd rfl (by first | exact Or.inl rfl | exact Or.inr rfl) (pe_callG (ok_l_take T) (hr.mono (by decide)) T.g__law_take passN (pa_cons (pv 0) (pa_cons (pe_callB call_lenA rfl T.n_len (by rfl) (pa_cons (pv 3) pa_nil)) pa_nil))))
    (pss_cons (ps_if (PW.pt (pw_and (pt_cmpR op_ltA (pv 5) pe_int (nomark _)) (pw_and1 (pt_truth (pv 4) (fun _ => rfl))))) (pss_cons (ps_set (i := 7) sc.nd rfl (by first | exact Or.inl rfl | exact Or.inr rfl) (pe_callG (ok_l_pick T) (hr.mono (by decide)) T.g__law_pick passN (pa_cons (pv 0) (pa_cons (pv 4) pa_nil))))
    (pss_one (ps_asg (pe_op op_sub (pe_ix (ix_any hr.units) (pv 3) (pe_op op_sub (pe_op op_or (pv 6) (pv 7)) (pv 7)) (fun _ _ => rfl)) (pe_callG (ok_l_take T) (hr.mono (by decide)) T.g__law_take passN (pa_cons (pv 0) (pa_cons pe_int pa_nil)))) (pg_sub (pv 3) (pe_op op_or (pv 6) (pv 7)) (set_any hr.units) (by intros; rfl))))) (pss_one (ps_if (pt_cmpR (op_eqP hr.units) (pv 5) pe_int (nomark _)) (pss_one (ps_asg (pe_op op_sub (pe_un un_neg pe_int) (pe_callG (ok_l_take T) (hr.mono (by decide)) T.g__law_take passN (pa_cons (pv 0) (pa_cons (pe_op op_pow pe_int pe_int) pa_nil)))) (pg_sub (pv 3) (pv 6) (set_any hr.units) (by intros; rfl)))) (pss_one (ps_if (pt_cmpR (op_eqP hr.units) (pv 5) pe_int (nomark _)) (pss_one (ps_asg (pe_op op_sub (pe_op op_addA (pe_ix (ix_any hr.units) (pv 3) (pv 6) (fun _ _ => rfl)) pe_int) (pe_op op_mulA pe_int (pe_callG (ok_l_take T) (hr.mono (by decide)) T.g__law_take passN (pa_cons (pv 0) (pa_cons pe_int pa_nil))))) (pg_sub (pv 3) (pv 6) (set_any hr.units) (by intros; rfl)))) (pss_one (ps_if (pt_cmpR (op_eqP hr.units) (pv 5) pe_int (nomark _)) (pss_one (ps_asg (pe_callG (ok_l_odd T) (hr.mono (by decide)) T.g__law_odd passN (pa_cons (pv 0) pa_nil)) (pg_sub (pv 3) (pv 6) (set_any hr.units) (by intros; rfl)))) (pss_one (ps_set (i := 3) sc.nd rfl (by first | exact Or.inl rfl | exact Or.inr rfl) (pe_callG (ok_l_bent 1 T) (hr.mono (by decide)) T.g__law_bent passN (pa_cons (pv 0) (pa_cons (pv 3) (pa_cons pe_int pa_nil)))))))))))))
    (pss_one (ps_ret (pv 3)))))))),
    (sim_seq (sim_setO (i := 3) (sim_cb sc_listB (sim_cons (sim_var 2) sim_nil)))
    (sim_seq (sim_set (i := 4) (sim_call0 (sim_cons (sim_var 1) sim_nil)))
    (sim_seq (sim_set (i := 5) (sim_call0 (sim_cons (sim_var 0) (sim_cons (sim_int 7) sim_nil))))
    (sim_seq (sim_set (i := 6) (sim_call0 (sim_cons (sim_var 0) (sim_cons (sim_cb sc_len (sim_cons (sim_var 3) sim_nil)) sim_nil))))
    (sim_seq (sim_if (sim_and (sim_test (sim_op sop_lt (sim_var 5) (sim_int 3))) (sim_tru (sim_var 4))) (sim_seq (sim_set (i := 7) (sim_call0 (sim_cons (sim_var 0) (sim_cons (sim_var 4) sim_nil))))
    (sim_put (j := 3) (sim_op sop_orB (sim_var 6) (sim_var 7)) (sim_op sop_sub (sim_op sop_ix (sim_var 3) (sim_op sop_sub (sim_op sop_orB (sim_var 6) (sim_var 7)) (sim_var 7))) (sim_call0 (sim_cons (sim_var 0) (sim_cons (sim_int 2) sim_nil)))))) (sim_if (sim_test (sim_op sop_eq (sim_var 5) (sim_int 3))) (sim_put (j := 3) (sim_var 6) (sim_op sop_sub (sim_un sun_neg (sim_int 1)) (sim_call0 (sim_cons (sim_var 0) (sim_cons (sim_op sop_pow (sim_int 10) (sim_int 20)) sim_nil))))) (sim_if (sim_test (sim_op sop_eq (sim_var 5) (sim_int 4))) (sim_put (j := 3) (sim_var 6) (sim_op sop_sub (sim_op sop_add (sim_op sop_ix (sim_var 3) (sim_var 6)) (sim_int 1)) (sim_op sop_mul (sim_int 2) (sim_call0 (sim_cons (sim_var 0) (sim_cons (sim_int 2) sim_nil)))))) (sim_if (sim_test (sim_op sop_eq (sim_var 5) (sim_int 5))) (sim_put (j := 3) (sim_var 6) (sim_call0 (sim_cons (sim_var 0) sim_nil))) (sim_frz 3 (sim_setO (i := 3) (sim_call0 (sim_cons (sim_var 0) (sim_cons (sim_var 3) (sim_cons (sim_int 0) sim_nil))))))))))
    (sim_ret (sim_var 3)))))))⟩

theorem sc_l_refused : FnScope ["_law_web_here", "_law_many", "_law_table", "e"] ["_law_web_here", "_law_many"] (defScope (st 57)) := ⟨rfl, rfl, rfl, by decide +kernel, rfl, by decide +kernel, by decide +kernel⟩
def m_l_refused_b1 : Fm → Rs Fm Fl := (mTry 3 (isA1 "TooMany") (mSeq (mDrop (mMeth "Web" "is_bound" f_Web_is_bound [] (mVar 0) (mCons (mVar 2) (mCons (mC (.int 0)) mNil))))
    (mRet (mC (.bl false))))
     (mXif (mXor (mXnot (mXB (mXis (tbL tabX) (okx1 "TooMany") (mC (.cls "NestError"))))) (mXB (mXis (tbL tabX) (okx1 "TooMany") (mTup (mCons (mC (.cls "BadCount")) (mCons (mC (.cls "BadNumber")) (mCons (mC (.cls "Refusal")) mNil))))))) (mRet (mC (.bl false))) (mXif (mXor (mXnot (mXB (mXcall fh_l_same (mXcons (mXf "TooMany" "many") (mXcons (fun _ _ => (mVar 1)) (fun _ _ => mNil)))))) (mXnot (mXB (mXcall fh_l_same (mXcons (mXf "TooMany" "limit") (mXcons (fun _ _ => (mC (.int 6))) (fun _ _ => mNil))))))) (mRet (mC (.bl false))) (fun _ _ => mNext))))
theorem m_l_refused_b1_ap (s : Fm) : m_l_refused_b1 s = (mTry 3 (isA1 "TooMany") (mSeq (mDrop (mMeth "Web" "is_bound" f_Web_is_bound [] (mVar 0) (mCons (mVar 2) (mCons (mC (.int 0)) mNil))))
    (mRet (mC (.bl false))))
     (mXif (mXor (mXnot (mXB (mXis (tbL tabX) (okx1 "TooMany") (mC (.cls "NestError"))))) (mXB (mXis (tbL tabX) (okx1 "TooMany") (mTup (mCons (mC (.cls "BadCount")) (mCons (mC (.cls "BadNumber")) (mCons (mC (.cls "Refusal")) mNil))))))) (mRet (mC (.bl false))) (mXif (mXor (mXnot (mXB (mXcall fh_l_same (mXcons (mXf "TooMany" "many") (mXcons (fun _ _ => (mVar 1)) (fun _ _ => mNil)))))) (mXnot (mXB (mXcall fh_l_same (mXcons (mXf "TooMany" "limit") (mXcons (fun _ _ => (mC (.int 6))) (fun _ _ => mNil))))))) (mRet (mC (.bl false))) (fun _ _ => mNext)))) s := rfl
def m_l_refused : Fm → Rs Fm Fl := (mSeq (mFor (mSrc seqD (mLst (mCons (mLst mNil) (mCons (mLst (mCons (mC (.str "x")) mNil)) (mCons (mLst (mCons (mC (.int 0)) (mCons (mC .non) mNil))) (mCons (mOp dMul (mLst (mCons (mC (.int 0)) mNil)) (mC (.int 64))) mNil)))))) (gN 2) m_l_refused_b1)
    (mRet (mC (.bl true))))
theorem m_l_refused_ap (s : Fm) : m_l_refused s = (mSeq (mFor (mSrc seqD (mLst (mCons (mLst mNil) (mCons (mLst (mCons (mC (.str "x")) mNil)) (mCons (mLst (mCons (mC (.int 0)) (mCons (mC .non) mNil))) (mCons (mOp dMul (mLst (mCons (mC (.int 0)) mNil)) (mC (.int 64))) mNil)))))) (gN 2) m_l_refused_b1)
    (mRet (mC (.bl true)))) s := rfl
def f_l_refused : List D → Sto → Rs Sto Val := fnM 2 4 m_l_refused
theorem ok_l_refused (T : Ft K mg) : Good P w K mg base (L2N.CX P w) 8 (He.fAd K ("_law_refused", none)) ["_law_web_here", "_law_many"] (spF K f_l_refused) := by
  obtain ⟨fd, F⟩ := T.d_l_refused
  refine ⟨fd, fn_ok F sc_l_refused (by decide) fun cdv A outer s H E hr => ?_, F.bindsN fun _ _ _ _ _ _ us hl => match us, hl with | [_, _], _ => rfl, F.kp⟩
  have sc := sc_l_refused
  exact ⟨_, (pss_cons (ps_for (passes_of rfl) rfl (pi_seq (pe_lst (pa_cons (pe_lst pa_nil) (pa_cons (pe_lst (pa_cons pe_str pa_nil)) (pa_cons (pe_lst (pa_cons pe_int (pa_cons pe_non pa_nil))) (pa_cons (pe_op op_mulA (pe_lst (pa_cons pe_int pa_nil)) pe_int) pa_nil)))))) (pg_name sc.nd rfl (by first | exact Or.inl rfl | exact Or.inr rfl)) (pss_one (L2N.ps_try_as (i := 3) rfl rfl sc.nd rfl rfl ⟨rfl, by decide, Or.inl T.g_TooMany⟩ (L2N.takes_of rfl rfl rfl rfl)
      (fun W pn xe tk po => (pss_cons (ps_expr (pe_methW (ok_Web_is_bound T) (pv 0) T.k_Web T.m_Web_is_bound (hr.mono (by decide)) (fun σ => L2N.passAt tk σ) (pa_cons (pv 2) (pa_cons pe_int pa_nil))))
    (pss_one (ps_ret pe_bl))))
      (fun a oe cls d pn hz hf => (pss_cons (ps_if (PW.pt (pw_or (pt_not (pt_val (pe_callB (call_isX hz.zc hf) rfl T.n_isinstance (by rfl) (pa_cons (pv 3) (pa_cons (pe_gcls T.g_NestError rfl) pa_nil))))) (pw_or1 (pt_val (pe_callB (call_isX hz.zc hf) rfl T.n_isinstance (by rfl) (pa_cons (pv 3) (pa_cons (pe_tup (pa_cons (pe_gcls T.g_BadCount rfl) (pa_cons (pe_gcls T.g_BadNumber rfl) (pa_cons (pe_gcls T.g_Refusal rfl) pa_nil)))) pa_nil))))))) (pss_one (ps_ret pe_bl)) pss_nil) (pss_cons (ps_if (PW.pt (pw_or (pt_not (pt_val (pe_callHG (okh_l_same T) (L2H.roomH_mark (hr.mono (by decide)) _) (hotC hz hf) T.g__law_same passNS (pa_cons (pe_xf T.xf_TooMany T.na_TooMany_many hz.zc hf (pv 3)) (pa_cons (pv 1) pa_nil))))) (pw_or1 (pt_not (pt_val (pe_callHG (okh_l_same T) (L2H.roomH_mark (hr.mono (by decide)) _) (hotC hz hf) T.g__law_same passNS (pa_cons (pe_xf T.xf_TooMany T.na_TooMany_limit hz.zc hf (pv 3)) (pa_cons pe_int pa_nil)))))))) (pss_one (ps_ret pe_bl)) pss_nil) pss_nil))))))
    (pss_one (ps_ret pe_bl))),
    (sim_seq (sim_for (sim_seqI (sim_lst (sim_cons (sim_lst sim_nil) (sim_cons (sim_lst (sim_cons (sim_str "x") sim_nil)) (sim_cons (sim_lst (sim_cons (sim_int 0) (sim_cons sim_non sim_nil))) (sim_cons (sim_op sop_mul (sim_lst (sim_cons (sim_int 0) sim_nil)) (sim_int 64)) sim_nil)))))) (sim_gN 2) (sim_try (i := 3) (fun W => (sim_seq (sim_drop (sim_methW (sim_var 0) (sim_cons (sim_var 2) (sim_cons (sim_int 0) sim_nil))))
    (sim_ret (sim_bl false)))) (fun a cls d => (x_if (x_or (x_not (x_B (x_is (tbL_ok T.kx) (okx1_ok T.xc_TooMany) (sim_cls "NestError")))) (x_B (x_is (tbL_ok T.kx) (okx1_ok T.xc_TooMany) (sim_tup (sim_cons (sim_cls "BadCount") (sim_cons (sim_cls "BadNumber") (sim_cons (sim_cls "Refusal") sim_nil))))))) (sim_ret (sim_bl false)) (x_if (x_or (x_not (x_B (x_call (E := fun _ => E0) (x_cons (x_xf (cN := "TooMany")) (x_cons (xE (sim_var 1)) (xA sim_nil))) (fun _ _ _ _ h => h)))) (x_not (x_B (x_call (E := fun _ => E0) (x_cons (x_xf (cN := "TooMany")) (x_cons (xE (sim_int 6)) (xA sim_nil))) (fun _ _ _ _ h => h))))) (sim_ret (sim_bl false)) (xS sim_next)))) (isA1_ok T.em_TooMany)))
    (sim_ret (sim_bl true)))⟩

theorem sc_l_agrees : FnScope ["_law_store_here", "_law_web_here", "_law_arrows_here", "_law_table", "_law_number_here", "_law_given", "_law_kept", "_law_told"] ["_law_store_here", "_law_web_here", "_law_arrows_here", "_law_table", "_law_number_here"] (defScope (st 58)) := ⟨rfl, rfl, rfl, by decide +kernel, rfl, by decide +kernel, by decide +kernel⟩
def m_l_agrees : Fm → Rs Fm Fl := (mSeq (mSet 5 (mCall0 f_l_row_of (mCons (mVar 0) (mCons (mVar 3) mNil))))
    (mSeq (mSet 6 (mCall0 (f_l_copy 5) (mCons (mVar 5) mNil)))
    (mSeq (mSet 7 (mMeth0 "Web" "is_bound" f_Web_is_bound (mVar 1) (mCons (mVar 5) (mCons (mVar 4) mNil))))
    (mRet (mAndV (mCall0 (f_l_same 5) (mCons (mVar 7) (mCons (mCall0 f_l_is_bound (mCons (mVar 2) (mCons (mVar 3) (mCons (mVar 4) mNil)))) mNil))) (mCall0 (f_l_same 5) (mCons (mVar 5) (mCons (mVar 6) mNil))))))))
theorem m_l_agrees_ap (s : Fm) : m_l_agrees s = (mSeq (mSet 5 (mCall0 f_l_row_of (mCons (mVar 0) (mCons (mVar 3) mNil))))
    (mSeq (mSet 6 (mCall0 (f_l_copy 5) (mCons (mVar 5) mNil)))
    (mSeq (mSet 7 (mMeth0 "Web" "is_bound" f_Web_is_bound (mVar 1) (mCons (mVar 5) (mCons (mVar 4) mNil))))
    (mRet (mAndV (mCall0 (f_l_same 5) (mCons (mVar 7) (mCons (mCall0 f_l_is_bound (mCons (mVar 2) (mCons (mVar 3) (mCons (mVar 4) mNil)))) mNil))) (mCall0 (f_l_same 5) (mCons (mVar 5) (mCons (mVar 6) mNil)))))))) s := rfl
def f_l_agrees : List D → Sto → Rs Sto Val := fnM 5 8 m_l_agrees
theorem ok_l_agrees (T : Ft K mg) : Good P w K mg base (L2N.CX P w) 8 (He.fAd K ("_law_agrees", none)) ["_law_store_here", "_law_web_here", "_law_arrows_here", "_law_table", "_law_number_here"] (spF K f_l_agrees) := by
  obtain ⟨fd, F⟩ := T.d_l_agrees
  refine ⟨fd, fn_ok F sc_l_agrees (by decide) fun cdv A outer s H E hr => ?_, F.bindsN fun _ _ _ _ _ _ us hl => match us, hl with | [_, _, _, _, _], _ => rfl, F.kp⟩
  have sc := sc_l_agrees
  exact ⟨_, (pss_cons (ps_set (i := 5) sc.nd rfl (by first | exact Or.inl rfl | exact Or.inr rfl) (pe_callG (ok_l_row_of T) (hr.mono (by decide)) T.g__law_row_of passN (pa_cons (pv 0) (pa_cons (pv 3) pa_nil))))
    (pss_cons (ps_set (i := 6) sc.nd rfl (by first | exact Or.inl rfl | exact Or.inr rfl) (pe_callG (ok_l_copy 5 T) (hr.mono (by decide)) T.g__law_copy passN (pa_cons (pv 5) pa_nil)))
    (pss_cons (ps_set (i := 7) sc.nd rfl (by first | exact Or.inl rfl | exact Or.inr rfl) (pe_methG (ok_Web_is_bound T) (pv 1) T.k_Web T.m_Web_is_bound (hr.mono (by decide)) passN (pa_cons (pv 5) (pa_cons (pv 4) pa_nil))))
    (pss_one (ps_ret (pe_and (pe_callG (ok_l_same 5 T) (hr.mono (by decide)) T.g__law_same passN (pa_cons (pv 7) (pa_cons (pe_callG (ok_l_is_bound T) (hr.mono (by decide)) T.g__law_is_bound passN (pa_cons (pv 2) (pa_cons (pv 3) (pa_cons (pv 4) pa_nil)))) pa_nil))) (pe_one (pe_callG (ok_l_same 5 T) (hr.mono (by decide)) T.g__law_same passN (pa_cons (pv 5) (pa_cons (pv 6) pa_nil)))))))))),
    (sim_seq (sim_set (i := 5) (sim_call0 (sim_cons (sim_var 0) (sim_cons (sim_var 3) sim_nil))))
    (sim_seq (sim_set (i := 6) (sim_call0 (sim_cons (sim_var 5) sim_nil)))
    (sim_seq (sim_set (i := 7) (sim_meth0 (sim_var 1) (sim_cons (sim_var 5) (sim_cons (sim_var 4) sim_nil))))
    (sim_ret (sim_andV (sim_call0 (sim_cons (sim_var 7) (sim_cons (sim_call0 (sim_cons (sim_var 2) (sim_cons (sim_var 3) (sim_cons (sim_var 4) sim_nil)))) sim_nil))) (sim_call0 (sim_cons (sim_var 5) (sim_cons (sim_var 6) sim_nil))))))))⟩

theorem sc_law : FnScope ["_law_script", "_law_store_here", "_law_arrows_here", "_law_wide", "_law_web_here", "_law_other", "_law_rows_here", "_law_table", "_law_number_here", "_law_k", "_law_spoilt_here", "_law_last", "_law_wrong"] ["_law_script"] (defScope (st 59)) := ⟨rfl, rfl, rfl, by decide +kernel, rfl, by decide +kernel, by decide +kernel⟩
def m_law_b1 : Fm → Rs Fm Fl := (mSeq (mSet 10 (mCall0 f_l_spoilt (mCons (mVar 1) (mCons (mVar 6) (mCons (mVar 7) mNil)))))
    (mSeq (mSet 11 (mVar 8))
    (mSeq (mIf (mAnd (mTru' (mVar 10)) (mB (mCall0 f_l_is_integer (mCons (mOp dIx (mVar 10) (mOp dSub (mCB dLen (mCons (mVar 10) mNil)) (mC (.int 1)))) mNil)))) (mSet 11 (mOp dIx (mVar 10) (mOp dSub (mCB dLen (mCons (mVar 10) mNil)) (mC (.int 1))))) mNext)
    (mSeq (mIf (mNot (mB (mCall0 f_l_agrees (mCons (mVar 1) (mCons (mVar 4) (mCons (mVar 6) (mCons (mVar 10) (mCons (mVar 11) mNil)))))))) (mRet (mC (.bl false))) mNext)
    (mIf (mB (mOp dIsNot (mMeth0 "Web" "is_bound" f_Web_is_bound (mVar 4) (mCons (mCall0 f_l_row_of (mCons (mVar 1) (mCons (mVar 7) mNil))) (mCons (mVar 8) mNil))) (mC (.bl true)))) (mRet (mC (.bl false))) mNext)))))
theorem m_law_b1_ap (s : Fm) : m_law_b1 s = (mSeq (mSet 10 (mCall0 f_l_spoilt (mCons (mVar 1) (mCons (mVar 6) (mCons (mVar 7) mNil)))))
    (mSeq (mSet 11 (mVar 8))
    (mSeq (mIf (mAnd (mTru' (mVar 10)) (mB (mCall0 f_l_is_integer (mCons (mOp dIx (mVar 10) (mOp dSub (mCB dLen (mCons (mVar 10) mNil)) (mC (.int 1)))) mNil)))) (mSet 11 (mOp dIx (mVar 10) (mOp dSub (mCB dLen (mCons (mVar 10) mNil)) (mC (.int 1))))) mNext)
    (mSeq (mIf (mNot (mB (mCall0 f_l_agrees (mCons (mVar 1) (mCons (mVar 4) (mCons (mVar 6) (mCons (mVar 10) (mCons (mVar 11) mNil)))))))) (mRet (mC (.bl false))) mNext)
    (mIf (mB (mOp dIsNot (mMeth0 "Web" "is_bound" f_Web_is_bound (mVar 4) (mCons (mCall0 f_l_row_of (mCons (mVar 1) (mCons (mVar 7) mNil))) (mCons (mVar 8) mNil))) (mC (.bl true)))) (mRet (mC (.bl false))) mNext))))) s := rfl
def m_law_b2 : Fm → Rs Fm Fl := (mIf (mB (mOp dIsNot (mMeth0 "Web" "is_bound" f_Web_is_bound (mVar 4) (mCons (mCall0 f_l_row_of (mCons (mVar 1) (mCons (mVar 12) mNil))) (mCons (mVar 8) mNil))) (mC (.bl false)))) (mRet (mC (.bl false))) mNext)
theorem m_law_b2_ap (s : Fm) : m_law_b2 s = (mIf (mB (mOp dIsNot (mMeth0 "Web" "is_bound" f_Web_is_bound (mVar 4) (mCons (mCall0 f_l_row_of (mCons (mVar 1) (mCons (mVar 12) mNil))) (mCons (mVar 8) mNil))) (mC (.bl false)))) (mRet (mC (.bl false))) mNext) s := rfl
def m_law : Fm → Rs Fm Fl := (mSeq (mSet 2 (mCall0 f_l_rows (mCons (mVar 1) (mCons (mC (.int 6)) mNil))))
    (mSeq (mSet 3 (mCall0 f_l_rows (mCons (mVar 1) (mCons (mC (.int 12)) mNil))))
    (mSeq (mSet 4 (mCall0 f_l_web (mCons (mVar 1) (mCons (mVar 2) mNil))))
    (mSeq (mSet 5 (mCall0 f_l_web (mCons (mVar 1) (mCons (mVar 3) mNil))))
    (mSeq (mIf (mOr (mB (mOp dIs (mVar 4) (mC .non))) (mB (mOp dIs (mVar 5) (mC .non)))) (mRet (mC (.bl false))) mNext)
    (mSeq (mIf (mAnd (mB (mOp dGt (mCB dLen (mCons (mVar 3) mNil)) (mC (.int 6)))) (mNot (mB (mCall0 f_l_refused (mCons (mVar 5) (mCons (mCB dLen (mCons (mVar 3) mNil)) mNil)))))) (mRet (mC (.bl false))) mNext)
    (mSeq (mSet 6 (mCB dSortB (mCons (mVar 2) mNil)))
    (mSeq (mSet 7 (mCall0 f_l_base (mCons (mVar 1) (mCons (mVar 6) mNil))))
    (mSeq (mSet 8 (mOp dIx (mVar 7) (mOp dSub (mCB dLen (mCons (mVar 7) mNil)) (mC (.int 1)))))
    (mSeq (mFor (mRng (mCons (mC (.int 3)) mNil)) (gN 9) m_law_b1)
    (mSeq (mFor (mSrc seqD (mLst (mCons (mOp dAdd (mVar 7) (mLst (mCons (mVar 8) mNil))) (mCons (mSl dSl (mVar 7) (mPart (mC (.int 1))) mNoPart) mNil)))) (gN 12) m_law_b2)
    (mRet (mAndV (mOp dIs (mMeth0 "Web" "is_bound" f_Web_is_bound (mVar 4) (mCons (mVar 7) (mCons (mOp dAdd (mVar 8) (mC (.int 1))) mNil))) (mC (.bl false))) (mOp dIs (mMeth0 "Web" "is_bound" f_Web_is_bound (mVar 4) (mCons (mVar 7) (mCons (mUn dNeg (mC (.int 1))) mNil))) (mC (.bl false))))))))))))))))
theorem m_law_ap (s : Fm) : m_law s = (mSeq (mSet 2 (mCall0 f_l_rows (mCons (mVar 1) (mCons (mC (.int 6)) mNil))))
    (mSeq (mSet 3 (mCall0 f_l_rows (mCons (mVar 1) (mCons (mC (.int 12)) mNil))))
    (mSeq (mSet 4 (mCall0 f_l_web (mCons (mVar 1) (mCons (mVar 2) mNil))))
    (mSeq (mSet 5 (mCall0 f_l_web (mCons (mVar 1) (mCons (mVar 3) mNil))))
    (mSeq (mIf (mOr (mB (mOp dIs (mVar 4) (mC .non))) (mB (mOp dIs (mVar 5) (mC .non)))) (mRet (mC (.bl false))) mNext)
    (mSeq (mIf (mAnd (mB (mOp dGt (mCB dLen (mCons (mVar 3) mNil)) (mC (.int 6)))) (mNot (mB (mCall0 f_l_refused (mCons (mVar 5) (mCons (mCB dLen (mCons (mVar 3) mNil)) mNil)))))) (mRet (mC (.bl false))) mNext)
    (mSeq (mSet 6 (mCB dSortB (mCons (mVar 2) mNil)))
    (mSeq (mSet 7 (mCall0 f_l_base (mCons (mVar 1) (mCons (mVar 6) mNil))))
    (mSeq (mSet 8 (mOp dIx (mVar 7) (mOp dSub (mCB dLen (mCons (mVar 7) mNil)) (mC (.int 1)))))
    (mSeq (mFor (mRng (mCons (mC (.int 3)) mNil)) (gN 9) m_law_b1)
    (mSeq (mFor (mSrc seqD (mLst (mCons (mOp dAdd (mVar 7) (mLst (mCons (mVar 8) mNil))) (mCons (mSl dSl (mVar 7) (mPart (mC (.int 1))) mNoPart) mNil)))) (gN 12) m_law_b2)
    (mRet (mAndV (mOp dIs (mMeth0 "Web" "is_bound" f_Web_is_bound (mVar 4) (mCons (mVar 7) (mCons (mOp dAdd (mVar 8) (mC (.int 1))) mNil))) (mC (.bl false))) (mOp dIs (mMeth0 "Web" "is_bound" f_Web_is_bound (mVar 4) (mCons (mVar 7) (mCons (mUn dNeg (mC (.int 1))) mNil))) (mC (.bl false)))))))))))))))) s := rfl
theorem ok_law (T : Ft K mg) {fd : FuncData} (F : FunD K "law" "law" (defArgs (st 59)) (defBody (st 59)) (defScope (st 59)) [] [] (He.fAd K ("law", none)) fd) (hm : ∀ cells : List Int, ∃ k s', m_law (lawS 13 cells) = .ok (.ret ⟨k, .bl true⟩) s') : FnOk P w K mg base (L2N.CX P w) 9 (He.fAd K ("law", none)) fd ["_law_script"] (spLaw K) := by
  refine F.ok sc_law (fun vs H Q E h => spLaw_len h) (fun cdv A outer s H vs Q E hr h => ?_)
  have sc := sc_law
  exact ⟨_, (pss_cons (ps_set (i := 1) sc.nd rfl (by first | exact Or.inl rfl | exact Or.inr rfl) (pe_callG (ok_l_store T) (hr.mono (by decide)) T.g__law_store passN (pa_cons (pv 0) pa_nil)))
    (pss_cons (ps_set (i := 2) sc.nd rfl (by first | exact Or.inl rfl | exact Or.inr rfl) (pe_callG (ok_l_rows T) (hr.mono (by decide)) T.g__law_rows passN (pa_cons (pv 1) (pa_cons pe_int pa_nil))))
    (pss_cons (ps_set (i := 3) sc.nd rfl (by first | exact Or.inl rfl | exact Or.inr rfl) (pe_callG (ok_l_rows T) (hr.mono (by decide)) T.g__law_rows passN (pa_cons (pv 1) (pa_cons pe_int pa_nil))))
    (pss_cons (ps_set (i := 4) sc.nd rfl (by first | exact Or.inl rfl | exact Or.inr rfl) (pe_callG (ok_l_web T) (hr.mono (by decide)) T.g__law_web passN (pa_cons (pv 1) (pa_cons (pv 2) pa_nil))))
    (pss_cons (ps_set (i := 5) sc.nd rfl (by first | exact Or.inl rfl | exact Or.inr rfl) (pe_callG (ok_l_web T) (hr.mono (by decide)) T.g__law_web passN (pa_cons (pv 1) (pa_cons (pv 3) pa_nil))))
    (pss_cons (ps_if (PW.pt (pw_or (pt_cmpR op_isA (pv 4) pe_non (nomark _)) (pw_or1 (pt_cmpR op_isA (pv 5) pe_non (nomark _))))) (pss_one (ps_ret pe_bl)) pss_nil)
    (pss_cons (ps_if (PW.pt (pw_and (pt_cmpR op_gtA (pe_callB call_lenA rfl T.n_len (by rfl) (pa_cons (pv 3) pa_nil)) pe_int (nomark _)) (pw_and1 (pt_not (pt_val (pe_callG (ok_l_refused T) (hr.mono (by decide)) T.g__law_refused passN (pa_cons (pv 5) (pa_cons (pe_callB call_lenA rfl T.n_len (by rfl) (pa_cons (pv 3) pa_nil)) pa_nil)))))))) (pss_one (ps_ret pe_bl)) pss_nil)
    (pss_cons (ps_set (i := 6) sc.nd rfl (by first | exact Or.inl rfl | exact Or.inr rfl) (pe_callB (call_sortB rfl hr.units) rfl T.n_sorted (by rfl) (pa_cons (pv 2) pa_nil)))
    (pss_cons (ps_set (i := 7) sc.nd rfl (by first | exact Or.inl rfl | exact Or.inr rfl) (pe_callG (ok_l_base T) (hr.mono (by decide)) T.g__law_base passN (pa_cons (pv 1) (pa_cons (pv 6) pa_nil))))
    (pss_cons (ps_set (i := 8) sc.nd rfl (by first | exact Or.inl rfl | exact Or.inr rfl) (pe_ix (ix_any hr.units) (pv 7) (pe_op op_sub (pe_callB call_lenA rfl T.n_len (by rfl) (pa_cons (pv 7) pa_nil)) pe_int) (fun _ _ => rfl)))
    (pss_cons (ps_for (passes_of rfl) rfl (pi_range1 rfl T.n_range (pa_cons pe_int pa_nil)) (pg_name sc.nd rfl (by first | exact Or.inl rfl | exact Or.inr rfl)) (pss_cons (ps_set (i := 10) sc.nd rfl (by first | exact Or.inl rfl | exact Or.inr rfl) (pe_callG (ok_l_spoilt T) (hr.mono (by decide)) T.g__law_spoilt passN (pa_cons (pv 1) (pa_cons (pv 6) (pa_cons (pv 7) pa_nil)))))
    (pss_cons (ps_set (i := 11) sc.nd rfl (by first | exact Or.inl rfl | exact Or.inr rfl) (pv 8))
    (pss_cons (ps_if (PW.pt (pw_and (pt_truth (pv 10) (fun _ => rfl)) (pw_and1 (pt_val (pe_callG (ok_l_is_integer T) (hr.mono (by decide)) T.g__law_is_integer passN (pa_cons (pe_ix (ix_any hr.units) (pv 10) (pe_op op_sub (pe_callB call_lenA rfl T.n_len (by rfl) (pa_cons (pv 10) pa_nil)) pe_int) (fun _ _ => rfl)) pa_nil)))))) (pss_one (ps_set (i := 11) sc.nd rfl (by first | exact Or.inl rfl | exact Or.inr rfl) (pe_ix (ix_any hr.units) (pv 10) (pe_op op_sub (pe_callB call_lenA rfl T.n_len (by rfl) (pa_cons (pv 10) pa_nil)) pe_int) (fun _ _ => rfl)))) pss_nil)
    (pss_cons (ps_if (pt_not (pt_val (pe_callG (ok_l_agrees T) (hr.mono (by decide)) T.g__law_agrees passN (pa_cons (pv 1) (pa_cons (pv 4) (pa_cons (pv 6) (pa_cons (pv 10) (pa_cons (pv 11) pa_nil)))))))) (pss_one (ps_ret pe_bl)) pss_nil)
    (pss_one (ps_if (pt_cmpR op_isNotA (pe_methG (ok_Web_is_bound T) (pv 4) T.k_Web T.m_Web_is_bound (hr.mono (by decide)) passN (pa_cons (pe_callG (ok_l_row_of T) (hr.mono (by decide)) T.g__law_row_of passN (pa_cons (pv 1) (pa_cons (pv 7) pa_nil))) (pa_cons (pv 8) pa_nil))) pe_bl (nomark _)) (pss_one (ps_ret pe_bl)) pss_nil)))))))
    (pss_cons (ps_for (passes_of rfl) rfl (pi_seq (pe_lst (pa_cons (pe_op op_addA (pv 7) (pe_lst (pa_cons (pv 8) pa_nil))) (pa_cons (pe_slice sl_any (pv 7) (po_some pe_int) po_none) pa_nil)))) (pg_name sc.nd rfl (by first | exact Or.inl rfl | exact Or.inr rfl)) (pss_one (ps_if (pt_cmpR op_isNotA (pe_methG (ok_Web_is_bound T) (pv 4) T.k_Web T.m_Web_is_bound (hr.mono (by decide)) passN (pa_cons (pe_callG (ok_l_row_of T) (hr.mono (by decide)) T.g__law_row_of passN (pa_cons (pv 1) (pa_cons (pv 12) pa_nil))) (pa_cons (pv 8) pa_nil))) pe_bl (nomark _)) (pss_one (ps_ret pe_bl)) pss_nil)))
    (pss_one (ps_ret (pe_and (pe_cmpR op_isA (pe_methG (ok_Web_is_bound T) (pv 4) T.k_Web T.m_Web_is_bound (hr.mono (by decide)) passN (pa_cons (pv 7) (pa_cons (pe_op op_addA (pv 8) pe_int) pa_nil))) pe_bl (nomark _)) (pe_one (pe_cmpR op_isA (pe_methG (ok_Web_is_bound T) (pv 4) T.k_Web T.m_Web_is_bound (hr.mono (by decide)) passN (pa_cons (pv 7) (pa_cons (pe_un un_neg pe_int) pa_nil))) pe_bl (nomark _)))))))))))))))))), law_run
    (sim_seq (sim_set (i := 2) (sim_call0 (sim_cons (sim_var 1) (sim_cons (sim_int 6) sim_nil))))
    (sim_seq (sim_set (i := 3) (sim_call0 (sim_cons (sim_var 1) (sim_cons (sim_int 12) sim_nil))))
    (sim_seq (sim_set (i := 4) (sim_call0 (sim_cons (sim_var 1) (sim_cons (sim_var 2) sim_nil))))
    (sim_seq (sim_set (i := 5) (sim_call0 (sim_cons (sim_var 1) (sim_cons (sim_var 3) sim_nil))))
    (sim_seq (sim_if (sim_or (sim_test (sim_op sop_is (sim_var 4) sim_non)) (sim_test (sim_op sop_is (sim_var 5) sim_non))) (sim_ret (sim_bl false)) sim_next)
    (sim_seq (sim_if (sim_and (sim_test (sim_op sop_gt (sim_cb sc_len (sim_cons (sim_var 3) sim_nil)) (sim_int 6))) (sim_not (sim_B (sim_call0 (sim_cons (sim_var 5) (sim_cons (sim_cb sc_len (sim_cons (sim_var 3) sim_nil)) sim_nil)))))) (sim_ret (sim_bl false)) sim_next)
    (sim_seq (sim_set (i := 6) (sim_cb sc_sortB (sim_cons (sim_var 2) sim_nil)))
    (sim_seq (sim_set (i := 7) (sim_call0 (sim_cons (sim_var 1) (sim_cons (sim_var 6) sim_nil))))
    (sim_seq (sim_set (i := 8) (sim_op sop_ix (sim_var 7) (sim_op sop_sub (sim_cb sc_len (sim_cons (sim_var 7) sim_nil)) (sim_int 1))))
    (sim_seq (sim_for (sim_rng1 (sim_cons (sim_int 3) sim_nil) (len1 (W := noX))) (sim_gN 9) (sim_seq (sim_set (i := 10) (sim_call0 (sim_cons (sim_var 1) (sim_cons (sim_var 6) (sim_cons (sim_var 7) sim_nil)))))
    (sim_seq (sim_set (i := 11) (sim_var 8))
    (sim_seq (sim_if (sim_and (sim_tru (sim_var 10)) (sim_B (sim_call0 (sim_cons (sim_op sop_ix (sim_var 10) (sim_op sop_sub (sim_cb sc_len (sim_cons (sim_var 10) sim_nil)) (sim_int 1))) sim_nil)))) (sim_set (i := 11) (sim_op sop_ix (sim_var 10) (sim_op sop_sub (sim_cb sc_len (sim_cons (sim_var 10) sim_nil)) (sim_int 1)))) sim_next)
    (sim_seq (sim_if (sim_not (sim_B (sim_call0 (sim_cons (sim_var 1) (sim_cons (sim_var 4) (sim_cons (sim_var 6) (sim_cons (sim_var 10) (sim_cons (sim_var 11) sim_nil)))))))) (sim_ret (sim_bl false)) sim_next)
    (sim_if (sim_test (sim_op sop_isNot (sim_meth0 (sim_var 4) (sim_cons (sim_call0 (sim_cons (sim_var 1) (sim_cons (sim_var 7) sim_nil))) (sim_cons (sim_var 8) sim_nil))) (sim_bl true))) (sim_ret (sim_bl false)) sim_next))))))
    (sim_seq (sim_for (sim_seqI (sim_lst (sim_cons (sim_op sop_add (sim_var 7) (sim_lst (sim_cons (sim_var 8) sim_nil))) (sim_cons (sim_sl ssl_any (sim_var 7) (sim_part (sim_int 1)) sim_noPart) sim_nil)))) (sim_gN 12) (sim_if (sim_test (sim_op sop_isNot (sim_meth0 (sim_var 4) (sim_cons (sim_call0 (sim_cons (sim_var 1) (sim_cons (sim_var 12) sim_nil))) (sim_cons (sim_var 8) sim_nil))) (sim_bl false))) (sim_ret (sim_bl false)) sim_next))
    (sim_ret (sim_andV (sim_op sop_is (sim_meth0 (sim_var 4) (sim_cons (sim_var 7) (sim_cons (sim_op sop_add (sim_var 8) (sim_int 1)) sim_nil))) (sim_bl false)) (sim_op sop_is (sim_meth0 (sim_var 4) (sim_cons (sim_var 7) (sim_cons (sim_un sun_neg (sim_int 1)) sim_nil))) (sim_bl false))))))))))))))) (by decide) hm h⟩
def level : Nat := 9

end
end Lk52

set_option Elab.async false
set_option linter.all false
set_option maxRecDepth 100000
set_option maxHeartbeats 2000000
namespace Lk52
open PySem RX
/-! ### draws -/
theorem mix_ev (a b : Int) (st : Sto) : ∃ r : Int, f_l_mix [.int a, .int b] st = .ok ⟨.sh, .int r⟩ st ∧ 0 ≤ r ∧ r < 9967 := by
  have h1 : (0 : Int) < 10007 := by decide
  have h2 : (0 : Int) < 9973 := by decide
  have h3 : (0 : Int) < 9967 := by decide
  have s1 : small64 29 = true := rfl
  have s2 : small64 4001 = true := rfl
  have s3 : small64 3 = true := rfl
  have s4 : small64 ((a * 29 + b * 4001 + 17) % 10007) = true := by
    have := Int.emod_nonneg (a * 29 + b * 4001 + 17) (by decide : (10007 : Int) ≠ 0)
    have := Int.emod_lt_of_pos (a * 29 + b * 4001 + 17) h1
    simp only [small64, Bool.and_eq_true, decide_eq_true_eq]
    omega
  have s5 : ∀ x : Int, small64 (x % 9973) = true := fun x => by
    have := Int.emod_nonneg x (by decide : (9973 : Int) ≠ 0)
    have := Int.emod_lt_of_pos x h2
    simp only [small64, Bool.and_eq_true, decide_eq_true_eq]
    omega
  simp [f_l_mix, fnM, m_l_mix, dMul_r s1, dMul_r s2, dMul_l s3, dMod_p h1, dMod_p h2, dMod_p h3, dMul_l s4, dMul_l (s5 _)]

  exact ⟨Int.emod_nonneg _ (by decide), Int.emod_lt_of_pos _ h3⟩
end Lk52
namespace Lk52
open PySem RX
theorem take_loop (n : Int) : ∀ (ds : List D), (∀ d ∈ ds, ∃ k : Int, d = .int k) → ∀ (a b : Int) (x2 x3 x6 : Slot) (st : Sto), ∃ (a' b' : Int) (x6' : Slot),
    forD (gN 6) m_l_take_b1 ds ⟨[.v .sto, .v (.int n), x2, x3, .v (.int a), .v (.int b), x6], st⟩ = .ok .nx ⟨[.v .sto, .v (.int n), x2, x3, .v (.int a'), .v (.int b'), x6'], st⟩
  | [], _, a, b, x2, x3, x6, st => ⟨a, b, x6, rfl⟩
  | d :: ds, h, a, b, x2, x3, x6, st => by
    obtain ⟨k, rfl⟩ := h d List.mem_cons_self
    have s1 : small64 9967 = true := rfl
    have s2 : small64 977 = true := rfl
    unfold forD
    by_cases hb : n ≤ b
    · refine ⟨a, b, .v (.int k), ?_⟩
      simp [m_l_take_b1_ap, hb]
    · obtain ⟨r, e, _⟩ := mix_ev st.s (st.t + 977 * k) st
      obtain ⟨a', b', x6', ih⟩ := take_loop n ds (fun d hd => h d (List.mem_cons_of_mem _ hd)) (a * 9967 + r) (b * 9967) x2 x3 (.v (.int k)) st
      refine ⟨a', b', x6', ?_⟩
      simp [m_l_take_b1_ap, hb, dMul_r s1, dMul_l s2, callW_sh', e, ih]
theorem rngD_int (lo : Int) (n : Nat) : ∀ d ∈ rngD lo n, ∃ k : Int, d = .int k := fun d h => by
  unfold rngD at h
  obtain ⟨i, _, rfl⟩ := List.mem_map.mp h
  exact ⟨_, rfl⟩
/-- the store's place is none below the first -/
def Ok (st : Sto) : Prop := 0 ≤ st.p
def takeA : Fm → Rs Fm Fl := (mIf (mAnd (mB (mOp dEq (mStoGet 2) (mC (.int 0)))) (mAnd (mB (mOp dEq (mStoGet 3) (mC (.int 0)))) (mB (mOp dLt (mStoGet 1) mStoLen)))) (mSeq (mSet 2 (mCB dInt (mCons mStoCell mNil)))
    (mSeq (mStoAug 1 (mC (.int 1)))
    (mSeq (mStoSet 4 (mOp dMod (mCB dInt (mCons (mOp dAdd (mOp dMul (mStoGet 4) (mC (.int 31))) (mVar 2)) mNil)) (mC (.int 100000007))))
    (mIf (mB (mOp dGe (mCB dAbs (mCons (mVar 2) mNil)) (mOp dPow (mC (.int 10)) (mC (.int 18))))) (mStoSet 2 (mCB dAbs (mCons (mVar 2) mNil))) (mStoSet 3 (mC (.int 2))))))) mNext)
def takeR : Fm → Rs Fm Fl := (mSeq (mStoAug 5 (mC (.int 1)))
    (mSeq (mIf (mB (mOp dGt (mStoGet 2) (mC (.int 0)))) (mSeq (mSet 3 (mCB dInt (mCons (mStoGet 2) mNil)))
    (mSeq (mStoSet 2 (mOp dFdivW (mVar 3) (mVar 1)))
    (mRet (mOp dMod (mVar 3) (mVar 1))))) mNext)
    (mSeq (mStoSet 3 (mCB dMax (mCons (mC (.int 0)) (mCons (mOp dSub (mStoGet 3) (mC (.int 1))) mNil))))
    (mSeq (mSet 4 (mC (.int 0)))
    (mSeq (mSet 5 (mC (.int 1)))
    (mSeq (mFor (mRng (mCons (mC (.int 60)) mNil)) (gN 6) m_l_take_b1)
    (mRet (mOp dMod (mCB dInt (mCons (mVar 4) mNil)) (mVar 1)))))))))
theorem take_parts (s : Fm) : m_l_take s = mSeq (mIf (mB (mOp dLt (mVar 1) (mC (.int 2)))) (mRet (mC (.int 0))) mNext) (mSeq takeA takeR) s := rfl
theorem takeA_ev (st : Sto) (hs : Ok st) (n : Int) : ∃ (st1 : Sto) (x2 : Slot), takeA ⟨[.v .sto, .v (.int n), .emp, .emp, .emp, .emp, .emp], st⟩ = .ok .nx ⟨[.v .sto, .v (.int n), x2, .emp, .emp, .emp, .emp], st1⟩ ∧ Ok st1 := by
  have s31 : small64 31 = true := rfl
  have m7 : (0 : Int) < 100000007 := by decide
  have p18 : dPow (.int 10) (.int 18) = shI 1000000000000000000 := rfl
  have ap : ∀ s, takeA s = (mIf (mAnd (mB (mOp dEq (mStoGet 2) (mC (.int 0)))) (mAnd (mB (mOp dEq (mStoGet 3) (mC (.int 0)))) (mB (mOp dLt (mStoGet 1) mStoLen)))) (mSeq (mSet 2 (mCB dInt (mCons mStoCell mNil)))
    (mSeq (mStoAug 1 (mC (.int 1)))
    (mSeq (mStoSet 4 (mOp dMod (mCB dInt (mCons (mOp dAdd (mOp dMul (mStoGet 4) (mC (.int 31))) (mVar 2)) mNil)) (mC (.int 100000007))))
    (mIf (mB (mOp dGe (mCB dAbs (mCons (mVar 2) mNil)) (mOp dPow (mC (.int 10)) (mC (.int 18))))) (mStoSet 2 (mCB dAbs (mCons (mVar 2) mNil))) (mStoSet 3 (mC (.int 2))))))) mNext) s := fun s => rfl
  by_cases c1 : st.q = 0
  · by_cases c2 : st.r = 0
    · by_cases c3 : st.p < st.cells.length
      · obtain ⟨v, hv⟩ : ∃ v, L2.atI st.cells st.p = some v := by
          have hs' : 0 ≤ st.p := hs
          have : st.p.toNat < st.cells.length := by omega
          refine ⟨st.cells[st.p.toNat], ?_⟩
          unfold L2.atI L2.ixN
          simp [hs', c3, this]
        have hs' : 0 ≤ st.p := hs
        by_cases ha : (1000000000000000000 : Int) ≤ (if v < 0 then -v else v)
        · refine ⟨{ st with p := st.p + 1, s := (st.s * 31 + v) % 100000007, q := (if v < 0 then -v else v) }, .v (.int v), ?_, (by unfold Ok; dsimp only; omega)⟩
          simp [ap, c1, c2, c3, hv, dMul_r s31, dMod_p m7, p18, ha]
        · refine ⟨{ st with p := st.p + 1, s := (st.s * 31 + v) % 100000007, r := 2 }, .v (.int v), ?_, (by unfold Ok; dsimp only; omega)⟩
          simp [ap, c1, c2, c3, hv, dMul_r s31, dMod_p m7, p18, ha]
      · exact ⟨st, .emp, by simp [ap, c1, c2, c3], hs⟩
    · exact ⟨st, .emp, by simp [ap, c1, c2], hs⟩
  · exact ⟨st, .emp, by simp [ap, c1], hs⟩
theorem takeR_ev (st : Sto) (hs : Ok st) (n : Int) (np : 0 < n) (hn : n.natAbs.log2 < 9000) (x2 : Slot) : ∃ (r : Int) (st' : Sto), outF (takeR ⟨[.v .sto, .v (.int n), x2, .emp, .emp, .emp, .emp], st⟩) = .ok ⟨.sh, .int r⟩ st' ∧ Ok st' ∧ 0 ≤ r ∧ r < n := by
  by_cases hq : 0 < st.q
  · refine ⟨st.q % n, { st with q := st.q / n, t := st.t + 1 }, ?_, hs, Int.emod_nonneg _ (by omega), Int.emod_lt_of_pos _ np⟩
    simp [takeR, hq, dFdiv_w np hn, dMod_p np]
  · obtain ⟨a', b', x6', e⟩ := take_loop n (rngD 0 60) (rngD_int _ _) 0 1 x2 .emp .emp { st with r := (if st.r - 1 > 0 then st.r - 1 else 0), t := st.t + 1 }
    refine ⟨a' % n, { st with r := (if st.r - 1 > 0 then st.r - 1 else 0), t := st.t + 1 }, ?_, hs, Int.emod_nonneg _ (by omega), Int.emod_lt_of_pos _ np⟩
    simp only [gt_iff_lt, Int.sub_pos] at e
    simp [takeR, hq, dMod_p np, e]
theorem take_ev (st : Sto) (hs : Ok st) (n : Int) (hn : n.natAbs.log2 < 9000) : ∃ (r : Int) (st' : Sto), f_l_take [.sto, .int n] st = .ok ⟨.sh, .int r⟩ st' ∧ Ok st' ∧ 0 ≤ r ∧ (r < n ∨ r = 0) := by
  by_cases h2 : n < 2
  · refine ⟨0, st, ?_, hs, by decide, .inr rfl⟩
    simp [f_l_take, fnM, take_parts, h2]
  · obtain ⟨st1, x2, e1, h1⟩ := takeA_ev st hs n
    obtain ⟨r, st', e2, h3, h4, h5⟩ := takeR_ev st1 h1 n (by omega) hn x2
    refine ⟨r, st', ?_, h3, h4, .inl h5⟩
    rw [← e2]
    simp [f_l_take, fnM, take_parts, h2, e1]
/-- a draw below a small bound -/
theorem take_s (st : Sto) (hs : Ok st) (n : Int) (h1 : 1 ≤ n) (hn : n < 2 ^ 64) : ∃ (r : Int) (st' : Sto), f_l_take [.sto, .int n] st = .ok ⟨.sh, .int r⟩ st' ∧ Ok st' ∧ 0 ≤ r ∧ r < n := by
  obtain ⟨r, st', e, a, b, c⟩ := take_ev st hs n (by
    have : n.natAbs < 2 ^ 64 := by omega
    exact Nat.lt_of_lt_of_le (PySem.Flt.log2_lt_of (by decide) this) (by decide))
  exact ⟨r, st', e, a, b, by omega⟩
end Lk52

set_option Elab.async false
set_option linter.all false
set_option maxRecDepth 100000
set_option maxHeartbeats 2000000
namespace Lk52
open PySem RX
/-! ### small draws -/
theorem number_ev (st : Sto) (hs : Ok st) (a b : Int) (h0 : 0 ≤ a) (h : a ≤ b) (hb : b < 1000000) : ∃ (r : Int) (st' : Sto), f_l_number [.sto, .int a, .int b] st = .ok ⟨.sh, .int r⟩ st' ∧ Ok st' ∧ a ≤ r ∧ r ≤ b := by
  obtain ⟨m, s1, e1, o1, m0, m1⟩ := take_s st hs 6 (by decide) (by decide)
  by_cases c0 : m = 0
  · exact ⟨a, s1, by simp [f_l_number, fnM, m_l_number_ap, callW_sh', e1, c0], o1, Int.le_refl _, h⟩
  by_cases c1 : b ≤ a
  · exact ⟨a, s1, by simp [f_l_number, fnM, m_l_number_ap, callW_sh', e1, c0, c1], o1, Int.le_refl _, h⟩
  by_cases c2 : m = 1
  · exact ⟨b, s1, by simp [f_l_number, fnM, m_l_number_ap, callW_sh', e1, c0, c1, c2], o1, h, Int.le_refl _⟩
  by_cases c3 : m = 2
  · obtain ⟨k, s2, e2, o2, k0, k1⟩ := take_s s1 o1 2 (by decide) (by decide)
    refine ⟨if a + 1 + k < b then a + 1 + k else b, s2, by simp [f_l_number, fnM, m_l_number_ap, callW_sh', e1, e2, c0, c1, c2, c3], o2, ?_, ?_⟩ <;> split <;> omega
  by_cases c4 : m = 3
  · obtain ⟨k, s2, e2, o2, k0, k1⟩ := take_s s1 o1 2 (by decide) (by decide)
    refine ⟨if a < b - 1 - k then b - 1 - k else a, s2, by simp [f_l_number, fnM, m_l_number_ap, callW_sh', e1, e2, c0, c1, c2, c3, c4], o2, ?_, ?_⟩ <;> split <;> omega
  obtain ⟨k, s2, e2, o2, k0, k1⟩ := take_s s1 o1 (b - a + 1) (by omega) (by omega)
  exact ⟨a + k, s2, by simp [f_l_number, fnM, m_l_number_ap, callW_sh', e1, e2, c0, c1, c2, c3, c4], o2, by omega, by omega⟩
theorem atI_nat {α : Type} {xs : List α} {i : Int} (h0 : 0 ≤ i) (h1 : i < xs.length) : L2.atI xs i = some (xs[i.toNat]'(by omega)) := by
  have h : i.toNat < xs.length := by omega
  unfold L2.atI L2.ixN
  simp [h0, h1, h]
theorem pick_ev (st : Sto) (hs : Ok st) (ds : List D) (h : ds ≠ []) (hl : ds.length < 100000) : ∃ (d : D) (st' : Sto), f_l_pick [.sto, .lst ds] st = .ok ⟨.sh, d⟩ st' ∧ Ok st' ∧ d ∈ ds := by
  have hp := List.length_pos_iff.mpr h
  obtain ⟨r, s1, e1, o1, r0, r1⟩ := take_s st hs ds.length (by omega) (by omega)
  refine ⟨ds[r.toNat]'(by omega), s1, ?_, o1, List.getElem_mem _⟩
  simp [f_l_pick, fnM, m_l_pick_ap, callW_sh', e1, atI_nat r0 r1]
theorem row_of_ev (st : Sto) (hs : Ok st) (ds : List D) : ∃ (st' : Sto), Ok st' ∧ (f_l_row_of [.sto, .lst ds] st = .ok ⟨.fr, .lst ds⟩ st' ∨ f_l_row_of [.sto, .lst ds] st = .ok ⟨.sh, .tup ds⟩ st') := by
  obtain ⟨r, s1, e1, o1, r0, r1⟩ := take_s st hs 2 (by decide) (by decide)
  refine ⟨s1, o1, ?_⟩
  by_cases c : r = 0
  · left; simp [f_l_row_of, fnM, m_l_row_of_ap, callW_sh', e1, c]
  · right; simp [f_l_row_of, fnM, m_l_row_of_ap, callW_sh', e1, c]
end Lk52

set_option Elab.async false
set_option linter.all false
set_option maxRecDepth 100000
set_option maxHeartbeats 2000000
namespace Lk52
open PySem RX
theorem ixN_in {n : Nat} {i : Int} (h0 : 0 ≤ i) (h1 : i < n) : L2.ixN n i = some i.toNat := by
  unfold L2.ixN
  simp [h0, h1]
theorem fPopAt_ok {ds : List D} {i : Int} (h0 : 0 ≤ i) (h1 : i < ds.length) (hl : ds.length ≤ 300) : fPopAt ds [.int i] = some (ds.eraseIdx i.toNat, ds[i.toNat]'(by omega)) := by
  have h : i.toNat < ds.length := by omega
  have b1 : -1000000000000 < i := by omega
  have b2 : i < 1000000000000 := by omega
  simp [fPopAt, ixN_in h0 h1, big, b1, b2, h]
theorem perm_erase {α : Type} {xs : List α} {n : Nat} (h : n < xs.length) : (xs[n] :: xs.eraseIdx n).Perm xs := by
  induction xs generalizing n with
  | nil => exact absurd h (by simp)
  | cons x xs ih =>
    cases n with
    | zero => exact List.Perm.refl _
    | succ n =>
      simp only [List.getElem_cons_succ, List.eraseIdx_cons_succ]
      exact (List.Perm.swap _ _ _).trans ((ih (by simpa using h)).cons x)
theorem shuffled_loop (x : D) : ∀ (ks rest found : List D) (x4 : Slot) (st : Sto), Ok st → ks.length = rest.length → found.length + rest.length ≤ 200 →
    ∃ (found' : List D) (x4' : Slot) (st' : Sto), forD (gN 4) m_l_shuffled_b1 ks ⟨[.v .sto, .v x, .own (.lst rest), .own (.lst found), x4], st⟩ = .ok .nx ⟨[.v .sto, .v x, .own (.lst []), .own (.lst found'), x4'], st'⟩ ∧ Ok st' ∧ found'.Perm (found ++ rest)
  | [], rest, found, x4, st, hs, hk, _ => by
    have : rest = [] := List.length_eq_zero_iff.mp hk.symm
    subst this
    exact ⟨found, x4, st, rfl, hs, by simp⟩
  | k :: ks, rest, found, x4, st, hs, hk, hl => by
    have hp : 0 < rest.length := by rw [← hk]; simp
    obtain ⟨r, s1, e1, o1, r0, r1⟩ := take_s st hs rest.length (by omega) (by omega)
    have h : r.toNat < rest.length := by omega
    obtain ⟨f', x4', s2, e2, o2, p⟩ := shuffled_loop x ks (rest.eraseIdx r.toNat) (found ++ [rest[r.toNat]]) (.v k) s1 o1
      (by rw [List.length_eraseIdx_of_lt h]; simp at hk; omega) (by rw [List.length_eraseIdx_of_lt h]; simp; omega)
    refine ⟨f', x4', s2, ?_, o2, p.trans ?_⟩
    · unfold forD
      have hl' : found.length < line := by unfold line; omega
      simp [m_l_shuffled_b1_ap, callW_sh', e1, fPopAt_ok r0 r1 (by omega), hl', e2]
    · rw [List.append_assoc]
      exact (perm_erase h).append_left found
theorem rngD_len (lo : Int) (n : Nat) : (rngD lo n).length = n := by simp [rngD]
theorem forD_cons {tg : D → Fm → Option Fm} {b : Fm → Rs Fm Fl} {d : D} {ds : List D} {s : Fm} : forD tg b (d :: ds) s = (match tg d s with
    | none => .no
    | some s1 => match b s1 with
      | .ok .nx s2 => forD tg b ds s2
      | .ok .ct s2 => forD tg b ds s2
      | .ok .bk s2 => .ok .nx s2
      | r => r) := rfl
theorem shuffled_ev (st : Sto) (hs : Ok st) (ds : List D) (hl : ds.length ≤ 200) : ∃ (ds' : List D) (st' : Sto), f_l_shuffled [.sto, .lst ds] st = .ok ⟨.fr, .lst ds'⟩ st' ∧ Ok st' ∧ ds'.Perm ds := by
  obtain ⟨f', x4', s2, e2, o2, p⟩ := shuffled_loop (.lst ds) (rngD 0 ds.length) ds [] .emp st hs (rngD_len _ _) (by simpa using hl)
  refine ⟨f', s2, ?_, o2, p⟩
  have b : (ds.length : Int) ≤ 1000000 := by omega
  have b' : (-1000 : Int) ≤ ds.length := by omega
  simp [f_l_shuffled, fnM, m_l_shuffled_ap, b, b', e2]
/-! ### names -/
def isSign (c : Nat) : Bool := (97 ≤ c && c ≤ 122) || (48 ≤ c && c ≤ 57)
def isLet (c : Nat) : Bool := 97 ≤ c && c ≤ 122
abbrev S (l : List Nat) : D := .str ⟨l.toArray⟩
structure Nm (l : List Nat) : Prop where
  len : l.length ≤ 8
  hd : ∃ c t, l = c :: t ∧ isLet c = true
  all : ∀ c ∈ l, isSign c = true
def sgn (k : Nat) : Nat := if k < 26 then 97 + k else 22 + k
theorem sign_tab : ∀ k : Nat, k < 36 → (("abcdefghijklmnopqrstuvwxyz0123456789" : Str).cps.toList)[k]? = some (sgn k) := by decide +kernel
theorem sign_len : ("abcdefghijklmnopqrstuvwxyz0123456789" : Str).cps.toList.length = 36 := by decide +kernel
theorem sign_ev (st : Sto) (i : Int) : f_l_sign [.int i] st = .ok ⟨.sh, S [sgn (i % 36).toNat]⟩ st := by
  have m : (0 : Int) < 36 := by decide
  have h0 := Int.emod_nonneg i (by decide : (36 : Int) ≠ 0)
  have h1 := Int.emod_lt_of_pos i m
  have hn : (i % 36).toNat < 36 := by omega
  have e : dIx (.str "abcdefghijklmnopqrstuvwxyz0123456789") (.int (i % 36)) = some ⟨.sh, S [sgn (i % 36).toNat]⟩ := by
    have hl : ("abcdefghijklmnopqrstuvwxyz0123456789" : Str).length ≤ line := by decide +kernel
    unfold dIx
    simp only [hl, if_true]
    unfold L2.atI
    rw [sign_len, ixN_in h0 h1, Option.bind_some, sign_tab _ hn]
    rfl
  simp [f_l_sign, fnM, m_l_sign_ap, dMod_p m, e]
theorem sgn_sign {k : Nat} (h : k < 36) : isSign (sgn k) = true := by
  unfold sgn isSign
  split <;> simp <;> omega
theorem sgn_let {k : Nat} (h : k < 26) : isLet (sgn k) = true := by
  unfold sgn isLet
  rw [if_pos h]; simp; omega
end Lk52

set_option Elab.async false
set_option linter.all false
set_option maxRecDepth 100000
set_option maxHeartbeats 2000000
namespace Lk52
open PySem RX
theorem dAdd_S {a b : List Nat} (h : a.length + b.length ≤ 1000) : dAdd (S a) (S b) = shV (S (a ++ b)) := by
  have h' : (⟨a.toArray⟩ : Str).length + (⟨b.toArray⟩ : Str).length ≤ line := by
    show a.toArray.size + b.toArray.size ≤ line
    simp only [List.size_toArray]
    unfold line; omega
  rw [dAdd_s h']
  show shV (.str ⟨a.toArray ++ b.toArray⟩) = _
  rw [List.append_toArray]
theorem dLen_S {a : List Nat} (h : a.length ≤ 1000) : dLen [S a] = shI a.length := by
  have h' : (⟨a.toArray⟩ : Str).length ≤ line := by
    show a.toArray.size ≤ line
    simp only [List.size_toArray]
    unfold line; omega
  rw [dLen_s h']
  show shI ((a.toArray.size : Nat) : Int) = _
  rw [List.size_toArray]
theorem name_of_loop (x0 x1 : Slot) : ∀ (ks : List D) (r : Int) (l : List Nat) (x4 : Slot) (st : Sto), (∀ c ∈ l, isSign c = true) → l.length + ks.length ≤ 8 →
    ∃ (r' : Int) (t : List Nat) (x4' : Slot), forD (gN 4) m_l_name_of_b1 ks ⟨[x0, x1, .v (.int r), .v (S l), x4], st⟩ = .ok .nx ⟨[x0, x1, .v (.int r'), .v (S (l ++ t)), x4'], st⟩ ∧ (∀ c ∈ l ++ t, isSign c = true) ∧ (l ++ t).length ≤ 8
  | [], r, l, x4, st, ha, hl => ⟨r, [], x4, by simp [forD], by simpa using ha, by simpa using hl⟩
  | k :: ks, r, l, x4, st, ha, hl => by
    have m : (0 : Int) < 36 := by decide
    have mm : (36 : Int).natAbs.log2 < 9000 := by decide
    have hl' : l.length + ([sgn (r % 36).toNat] : List Nat).length ≤ 1000 := by simp at hl ⊢; omega
    have h0 := Int.emod_nonneg r (by decide : (36 : Int) ≠ 0)
    have h1 := Int.emod_lt_of_pos r m
    obtain ⟨r', t, x4', e, a, b⟩ := name_of_loop x0 x1 ks (r / 36) (l ++ [sgn (r % 36).toNat]) (.v k) st
      (fun c hc => by
        rcases List.mem_append.mp hc with h | h
        · exact ha c h
        · rw [List.mem_singleton] at h; subst h; exact sgn_sign (by omega))
      (by simp at hl ⊢; omega)
    refine ⟨r', sgn (r % 36).toNat :: t, x4', ?_, by simpa using a, by simpa using b⟩
    rw [List.append_assoc] at e
    have hd := dAdd_S hl'
    simp only [List.cons_append, List.nil_append] at e
    simp [forD_cons, m_l_name_of_b1_ap, dMod_p m, callW_sh', sign_ev, hd, dFdiv_w m mm, e]
theorem emod_lt36 (k : Int) : (k % 36).toNat < 36 := by
  have h0 := Int.emod_nonneg k (by decide : (36 : Int) ≠ 0)
  have h1 := Int.emod_lt_of_pos k (by decide : (0 : Int) < 36)
  omega
theorem name_of_ev (st : Sto) (n : Int) : ∃ l : List Nat, f_l_name_of [.int n] st = .ok ⟨.sh, S l⟩ st ∧ Nm l := by
  have m36 : (0 : Int) < 36 := by decide
  have m26 : (0 : Int) < 26 := by decide
  have m8 : (0 : Int) < 8 := by decide
  have w26 : (26 : Int).natAbs.log2 < 9000 := by decide
  have w8 : (8 : Int).natAbs.log2 < 9000 := by decide
  have z0 := Int.emod_nonneg n (by decide : (8 : Int) ≠ 0)
  have z1 := Int.emod_lt_of_pos n m8
  have y0 := Int.emod_nonneg (n / 8) (by decide : (26 : Int) ≠ 0)
  have y1 := Int.emod_lt_of_pos (n / 8) m26
  have y2 : (n / 8 % 26) % 36 = n / 8 % 26 := Int.emod_eq_of_lt y0 (by omega)
  obtain ⟨r', t, x4', e, a, b⟩ := name_of_loop (.v (.int n)) (.v (.int (n % 8))) (rngD 0 (n % 8).toNat) (n / 8 / 26) [sgn (n / 8 % 26).toNat] .emp st
    (fun c hc => by rw [List.mem_singleton] at hc; subst hc; exact sgn_sign (by omega)) (by rw [rngD_len]; simp; omega)
  have b1 : -1000 ≤ n % 8 := by omega
  have b2 : n % 8 ≤ 1000000 := by omega
  refine ⟨[sgn (n / 8 % 26).toNat] ++ t, ?_, ⟨b, ⟨_, _, rfl, sgn_let (by omega)⟩, a⟩⟩
  simp at e
  simp [f_l_name_of, fnM, m_l_name_of_ap, dMod_p m8, dMod_p m26, dFdiv_w m8 w8, dFdiv_w m26 w26, callW_sh', sign_ev, y2, b1, b2, e]
theorem name_ev (st : Sto) (hs : Ok st) : ∃ (l : List Nat) (st' : Sto), f_l_name [.sto] st = .ok ⟨.sh, S l⟩ st' ∧ Ok st' ∧ Nm l := by
  have s8 : small64 8 = true := rfl
  have s208 : small64 208 = true := rfl
  have p7 : dPow (.int 36) (.int 7) = shI 78364164096 := rfl
  obtain ⟨r, s1, e1, o1, r0, r1⟩ := take_s st hs 16299746131968 (by decide) (by decide)
  obtain ⟨l, e2, nl⟩ := name_of_ev s1 r
  refine ⟨l, s1, ?_, o1, nl⟩
  simp [f_l_name, fnM, m_l_name_ap, dMul_l s8, dMul_l s208, p7, callW_sh', e1, e2]
end Lk52

set_option Elab.async false
set_option linter.all false
set_option maxRecDepth 100000
set_option maxHeartbeats 2000000
namespace Lk52
open PySem RX
theorem str_beq (a b : List Nat) : ((⟨a.toArray⟩ : Str) == ⟨b.toArray⟩) = decide (a = b) := by
  by_cases h : a = b
  · subst h; simp
  · have : ¬ ((⟨a.toArray⟩ : Str) = ⟨b.toArray⟩) := fun e => h (by
      have := congrArg (fun x : Str => x.cps.toList) e
      simpa using this)
    simp [h, this]
theorem eqv_S (a b : List Nat) : PyData.eqv (toP (S a)) (toP (S b)) = decide (a = b) := by
  show ((⟨a.toArray⟩ : Str) == ⟨b.toArray⟩) = _
  exact str_beq a b
theorem fitL_S (n : Nat) : ∀ ls : List (List Nat), fitL n (ls.map S) = true
  | [] => by simp [fitL]
  | l :: ls => by simp [fitL, fitD, fitL_S n ls]
theorem any_S (a : List Nat) : ∀ ls : List (List Nat), ((toPL (ls.map S)).any fun z => PyData.eqv z (toP (S a))) = decide (a ∈ ls)
  | [] => by simp [toPL]
  | l :: ls => by
    rw [List.map_cons, toPL, List.any_cons, any_S a ls, eqv_S]
    by_cases h : a = l
    · subst h; simp
    · have h' : ¬ l = a := fun e => h e.symm
      simp [h, h']
theorem inB_S (a : List Nat) (ls : List (List Nat)) : inB (S a) (.lst (ls.map S)) = some (decide (a ∈ ls)) := by
  unfold inB
  have h : (fitD deep (S a) && fitL deep (ls.map S)) = true := by rw [fitL_S]; rfl
  simp only [h, if_true, any_S]
theorem dIn_S (a : List Nat) (ls : List (List Nat)) : dIn (S a) (.lst (ls.map S)) = shB (decide (a ∈ ls)) := by
  unfold dIn; rw [inB_S]; rfl
theorem dNotIn_S (a : List Nat) (ls : List (List Nat)) : dNotIn (S a) (.lst (ls.map S)) = shB (!decide (a ∈ ls)) := by
  unfold dNotIn; rw [inB_S]; rfl
theorem cutS_S (l : List Nat) (lo hi : Option Int) : L2.cutS ⟨l.toArray⟩ lo hi = ⟨(cut l lo hi).toArray⟩ := by
  unfold L2.cutS
  first | rfl | (simp [cut]; done) | (unfold cut; rfl)
theorem dSl_S {l : List Nat} {lo hi : Option Int} (h : l.length ≤ 1000) : dSl (S l) lo hi = shV (S (cut l lo hi)) := by
  have h' : (⟨l.toArray⟩ : Str).length ≤ line := by
    show l.toArray.size ≤ line
    simp only [List.size_toArray]
    unfold line; omega
  rw [dSl_s h', cutS_S]
theorem cut_to {α : Type} (l : List α) (n : Nat) : cut l none (some (n : Int)) = l.take n := by
  unfold cut
  rw [HT.sIx_nat, HT.sIx_none]
  rw [List.drop_zero, Nat.sub_zero]
  by_cases h : n ≤ l.length
  · rw [Nat.min_eq_left h] <;> try rfl
  · rw [Nat.min_eq_right (by omega), List.take_of_length_le (Nat.le_refl _), List.take_of_length_le (by omega)]
theorem cut_from {α : Type} (l : List α) (n : Nat) : cut l (some (n : Int)) none = l.drop n := by
  unfold cut
  rw [HT.sIx_nat, HT.sIx_none]
  by_cases h : n ≤ l.length
  · rw [Nat.min_eq_left h, List.take_of_length_le (by simp)]
  · rw [Nat.min_eq_right (by omega), List.take_of_length_le (by simp), List.drop_of_length_le (Nat.le_refl _), List.drop_of_length_le (by omega)]
def cand (z : List Nat) (k : Nat) : List Nat := z.take 6 ++ [sgn (k / 26 % 26), sgn (k % 26)]
theorem unlike_loop (z : List Nat) (hz : z.length ≤ 8) (ts : List (List Nat)) (st : Sto) : ∀ (ks : List Nat) (x2 x3 : Slot),
    (∃ k, k ∈ ks ∧ cand z k ∉ ts ∧ ∃ s', forD (gN 2) m_l_unlike_b1 (ks.map fun k => .int (k : Nat)) ⟨[.v (S z), .v (.lst (ts.map S)), x2, x3], st⟩ = .ok (.ret ⟨.sh, S (cand z k)⟩) s' ∧ s'.sto = st) ∨ ∀ k ∈ ks, cand z k ∈ ts
  | [], x2, x3 => .inr (by simp)
  | k :: ks, x2, x3 => by
    have m26 : (0 : Int) < 26 := by decide
    have w26 : (26 : Int).natAbs.log2 < 9000 := by decide
    have hd1 := dSl_S (l := z) (lo := none) (hi := some 6) (by omega)
    have c6 : cut z none (some 6) = z.take 6 := cut_to z 6
    have i1 : ((k : Int) / 26 % 26) = ((k / 26 % 26 : Nat) : Int) := by omega
    have i2 : ((k : Int) % 26) = ((k % 26 : Nat) : Int) := by omega
    have j1 : ((k / 26 % 26 : Nat) : Int) % 36 = ((k / 26 % 26 : Nat) : Int) := by omega
    have j2 : ((k % 26 : Nat) : Int) % 36 = ((k % 26 : Nat) : Int) := by omega
    have a1 := dAdd_S (a := z.take 6) (b := [sgn (k / 26 % 26)]) (by simp; omega)
    have a2 := dAdd_S (a := z.take 6 ++ [sgn (k / 26 % 26)]) (b := [sgn (k % 26)]) (by simp; omega)
    have ev : (mSet 3 (mOp dAdd (mOp dAdd (mSl dSl (mVar 0) mNoPart (mPart (mC (.int 6)))) (mCall0 f_l_sign (mCons (mOp dMod (mOp dFdivW (mVar 2) (mC (.int 26))) (mC (.int 26))) mNil))) (mCall0 f_l_sign (mCons (mOp dMod (mVar 2) (mC (.int 26))) mNil)))) ⟨[.v (S z), .v (.lst (ts.map S)), .v (.int k), x3], st⟩ = .ok .nx ⟨[.v (S z), .v (.lst (ts.map S)), .v (.int k), .v (S (cand z k))], st⟩ := by
      have e1 := sign_ev st ((k / 26 % 26 : Nat) : Int)
      have e2 := sign_ev st ((k % 26 : Nat) : Int)
      rw [j1, Int.toNat_natCast] at e1
      rw [j2, Int.toNat_natCast] at e2
      rw [← i1] at e1
      rw [← i2] at e2
      rw [List.append_assoc] at a2
      simp only [ap_set, ap_op, ap_sl, ap_var0, ap_noPart, ap_part, ap_c, Rs.bind, hd1, c6, shV, shI, ap_ofO, ap_call0, ap_cons, ap_nil, ap_var2, dFdiv_w m26 w26, dMod_p m26, ap_settle, callW_sh', List.any, isOw_sh, Bool.or_false, List.map, e1, e2, noEx_ok, a1, a2, ap_storeV, List.set]
      rfl
    by_cases h : cand z k ∈ ts
    · rcases unlike_loop z hz ts st ks (.v (.int k)) (.v (S (cand z k))) with ⟨k', m, n, s', e, es⟩ | r
      · left
        refine ⟨k', List.mem_cons_of_mem _ m, n, s', ?_, es⟩
        rw [List.map_cons, forD_cons, ap_gN]
        show (match m_l_unlike_b1 ⟨[.v (S z), .v (.lst (ts.map S)), .v (.int k), x3], st⟩ with | .ok .nx s2 => _ | .ok .ct s2 => _ | .ok .bk s2 => _ | r => r) = _
        rw [m_l_unlike_b1_ap, ap_seq, ev]
        simp [dNotIn_S, h, e]
      · right
        intro q hq
        rcases List.mem_cons.mp hq with rfl | hq
        · exact h
        · exact r q hq
    · left
      refine ⟨k, List.mem_cons_self, h, ⟨[.v (S z), .v (.lst (ts.map S)), .v (.int k), .v (S (cand z k))], st⟩, ?_, rfl⟩
      rw [List.map_cons, forD_cons, ap_gN]
      show (match m_l_unlike_b1 ⟨[.v (S z), .v (.lst (ts.map S)), .v (.int k), x3], st⟩ with | .ok .nx s2 => _ | .ok .ct s2 => _ | .ok .bk s2 => _ | r => r) = _
      rw [m_l_unlike_b1_ap, ap_seq, ev]
      simp [dNotIn_S, h]
end Lk52

set_option Elab.async false
set_option linter.all false
set_option maxRecDepth 100000
set_option maxHeartbeats 2000000
namespace Lk52
open PySem RX
theorem nodup_len {α : Type} [DecidableEq α] : ∀ (cs ts : List α), cs.Nodup → (∀ c ∈ cs, c ∈ ts) → cs.length ≤ ts.length
  | [], ts, _, _ => Nat.zero_le _
  | c :: cs, ts, n, h => by
    rw [List.nodup_cons] at n
    have m := h c List.mem_cons_self
    have l := nodup_len cs (ts.erase c) n.2 (fun d hd => (List.mem_erase_of_ne (fun e : d = c => n.1 (e ▸ hd))).mpr (h d (List.mem_cons_of_mem _ hd)))
    have e := List.length_erase_of_mem m
    have p := List.length_pos_of_mem m
    simp; omega
theorem sgn_inj {i j : Nat} (hi : i < 26) (hj : j < 26) (h : sgn i = sgn j) : i = j := by
  unfold sgn at h
  rw [if_pos hi, if_pos hj] at h
  omega
theorem cand_inj (z : List Nat) {i j : Nat} (hi : i < 676) (hj : j < 676) (h : cand z i = cand z j) : i = j := by
  unfold cand at h
  have h := List.append_cancel_left h
  simp only [List.cons.injEq, and_true] at h
  have a := sgn_inj (Nat.mod_lt _ (by decide)) (Nat.mod_lt _ (by decide)) h.1
  have b := sgn_inj (Nat.mod_lt _ (by decide)) (Nat.mod_lt _ (by decide)) h.2
  omega
theorem cand_nm {z : List Nat} (h : Nm z) (k : Nat) : Nm (cand z k) := by
  obtain ⟨c, t, rfl, hc⟩ := h.hd
  refine ⟨by unfold cand; simp; omega, ⟨c, t.take 5 ++ [sgn (k / 26 % 26), sgn (k % 26)], rfl, hc⟩, fun x hx => ?_⟩
  rcases List.mem_append.mp hx with m | m
  · exact h.all x (List.mem_of_mem_take m)
  · simp only [List.mem_cons, List.not_mem_nil, or_false] at m
    rcases m with rfl | rfl
    · exact sgn_sign (by omega)
    · exact sgn_sign (by omega)
theorem map_nodup {α β : Type} (f : α → β) : ∀ (l : List α), l.Nodup → (∀ a ∈ l, ∀ b ∈ l, f a = f b → a = b) → (l.map f).Nodup
  | [], _, _ => by simp
  | a :: l, n, h => by
    rw [List.nodup_cons] at n
    rw [List.map_cons, List.nodup_cons]
    refine ⟨fun m => ?_, map_nodup f l n.2 fun x hx y hy e => h x (List.mem_cons_of_mem _ hx) y (List.mem_cons_of_mem _ hy) e⟩
    obtain ⟨b, hb, e⟩ := List.mem_map.mp m
    have := h b (List.mem_cons_of_mem _ hb) a List.mem_cons_self e
    exact n.1 (this ▸ hb)
theorem rngD_0 (n : Nat) : rngD 0 n = (List.range n).map fun k => .int (k : Nat) := by
  unfold rngD
  apply List.map_congr_left
  intro a _
  simp
theorem unlike_ev (st : Sto) (z : List Nat) (nz : Nm z) (ts : List (List Nat)) (ht : ts.length < 600) : ∃ l : List Nat, f_l_unlike [S z, .lst (ts.map S)] st = .ok ⟨.sh, S l⟩ st ∧ Nm l ∧ l ∉ ts := by
  by_cases h : z ∈ ts
  · have b1 : -1000 ≤ ((ts.map S).length : Int) + 1 := by omega
    have b2 : ((ts.map S).length : Int) + 1 ≤ 1000000 := by rw [List.length_map]; omega
    have b3 : (((ts.map S).length : Int) + 1).toNat = ts.length + 1 := by rw [List.length_map]; omega
    rcases unlike_loop z nz.len ts st (List.range (ts.length + 1)) .emp .emp with ⟨k, hk, hn, s', e, es⟩ | r
    · refine ⟨cand z k, ?_, cand_nm nz k, hn⟩
      rw [← rngD_0] at e
      rw [List.length_map] at b1 b2 b3
      simp [f_l_unlike, fnM, m_l_unlike_ap, dNotIn_S, h, b1, b2, b3, e, es]
    · exfalso
      have nd : ((List.range (ts.length + 1)).map (cand z)).Nodup := map_nodup _ _ List.nodup_range fun a ha b hb e => cand_inj z (by rw [List.mem_range] at ha; omega) (by rw [List.mem_range] at hb; omega) e
      have := nodup_len _ ts nd (fun c hc => by
        obtain ⟨k, hk, rfl⟩ := List.mem_map.mp hc
        exact r k hk)
      simp at this
      omega
  · refine ⟨z, ?_, nz, h⟩
    simp [f_l_unlike, fnM, m_l_unlike_ap, dNotIn_S, h]
end Lk52

set_option Elab.async false
set_option linter.all false
set_option maxRecDepth 100000
set_option maxHeartbeats 2000000
namespace Lk52
open PySem RX
def digs (k : Nat) : List Nat := if k < 10 then [48 + k] else if k < 100 then [48 + k / 10, 48 + k % 10] else [48 + k / 100, 48 + k / 10 % 10, 48 + k % 10]
theorem digs_str : ∀ k : Nat, k < 130 → (Str.ofString (toString (Int.ofNat k))) = ⟨(digs k).toArray⟩ := by decide +kernel
theorem digs_sign : ∀ k : Nat, k < 130 → (digs k).length ≤ 3 ∧ ∀ c ∈ digs k, isSign c = true := by decide +kernel
theorem dStr_k {i : Int} (h0 : 0 ≤ i) (h : i < 130) : dStr [.int i] = shV (S (digs i.toNat)) := by
  obtain ⟨k, rfl⟩ : ∃ k : Nat, i = k := ⟨i.toNat, by omega⟩
  have hk : k < 130 := by omega
  have hl : (k : Int).natAbs.log2 < 1920 := by
    have : (k : Int).natAbs < 2 ^ 8 := by omega
    exact Nat.lt_of_lt_of_le (PySem.Flt.log2_lt_of (by decide) this) (by decide)
  have e := digs_str k hk
  unfold dStr
  simp only [hl, if_true]
  show shV (.str (Str.ofString (toString (Int.ofNat k)))) = _
  rw [e]
  rfl
def nmB (l : List Nat) : Bool := l.length ≤ 8 && (match l with | c :: _ => isLet c | [] => false) && l.all isSign
theorem nmB_ok {l : List Nat} (h : nmB l = true) : Nm l := by
  unfold nmB at h
  simp only [Bool.and_eq_true, decide_eq_true_eq, List.all_eq_true] at h
  obtain ⟨⟨a, b⟩, c⟩ := h
  refine ⟨a, ?_, c⟩
  cases l with
  | nil => cases b
  | cons x t => exact ⟨x, t, rfl, b⟩
def words : List D := [.str "in", .str "box", .str "shelf", .str "nailed", .str "sealed", .str "then", .str "into", .str "not", .str "end", .str "else", .str "like", .str "within", .str "claim"]
def dNm : D → Bool
  | .str z => nmB z.cps.toList
  | _ => false
theorem dNm_ok {d : D} (h : dNm d = true) : ∃ l, d = S l ∧ Nm l := by
  cases d with
  | str z => exact ⟨z.cps.toList, rfl, nmB_ok h⟩
  | _ => cases h
theorem words_ok : words.all dNm = true := by decide +kernel
theorem isLet_sign {c : Nat} (h : isLet c = true) : isSign c = true := by
  unfold isLet at h
  unfold isSign
  rw [h]; rfl
theorem name_like_ev (st : Sto) (hs : Ok st) (m : Int) (z : List Nat) (nz : Nm z) : ∃ (l : List Nat) (st' : Sto), f_l_name_like [.sto, .int m, S z] st = .ok ⟨.sh, S l⟩ st' ∧ Ok st' ∧ Nm l := by
  obtain ⟨c, t, rfl, hc⟩ := nz.hd
  have zl := nz.len
  have lz : dLen [S (c :: t)] = shI (c :: t).length := dLen_S (by omega)
  have zp : 0 < (c :: t).length := by simp
  have zlen : (((c :: t).length : Nat) : Int) = (t.length : Int) + 1 := by simp
  rw [zlen] at lz
  by_cases c1 : m = 1
  · obtain ⟨r, s1, e1, o1, r0, r1⟩ := take_s st hs (c :: t).length (by omega) (by omega)
    rw [zlen] at e1 r1
    by_cases cr : r = 0
    · obtain ⟨k, s2, e2, o2, k0, k1⟩ := take_s s1 o1 26 (by decide) (by decide)
      have km : k % 36 = k := Int.emod_eq_of_lt k0 (by omega)
      have ec := dSl_S (l := c :: t) (lo := some 1) (hi := none) (by omega)
      have ct : cut (c :: t) (some 1) none = t := cut_from (c :: t) 1
      have ea := dAdd_S (a := [sgn k.toNat]) (b := t) (by simp at zl ⊢; omega)
      refine ⟨[sgn k.toNat] ++ t, s2, ?_, o2, ⟨by simpa using zl, ⟨_, _, rfl, sgn_let (by omega)⟩, fun x hx => ?_⟩⟩
      · simp [f_l_name_like, fnM, m_l_name_like_ap, c1, lz, callW_sh', e1, cr, e2, sign_ev, km, ec, ct, ea]
      · rcases List.mem_append.mp hx with q | q
        · rw [List.mem_singleton] at q; subst q; exact sgn_sign (by omega)
        · exact nz.all x (List.mem_cons_of_mem _ q)
    · obtain ⟨k, s2, e2, o2, k0, k1⟩ := take_s s1 o1 36 (by decide) (by decide)
      have km : k % 36 = k := Int.emod_eq_of_lt k0 k1
      obtain ⟨n, rfl⟩ : ∃ n : Nat, r = n + 1 := ⟨(r - 1).toNat, by omega⟩
      have hn : n < t.length := by omega
      have e3 := dSl_S (l := c :: t) (lo := none) (hi := some ((n : Int) + 1)) (by omega)
      have c3 : cut (c :: t) none (some ((n : Int) + 1)) = c :: t.take n := cut_to (c :: t) (n + 1)
      have e4 := dSl_S (l := c :: t) (lo := some ((n : Int) + 1 + 1)) (hi := none) (by omega)
      have c4 : cut (c :: t) (some ((n : Int) + 1 + 1)) none = t.drop (n + 1) := cut_from (c :: t) (n + 2)
      have l1 : (c :: t.take n).length = n + 1 := by simp; omega
      have zl' : t.length + 1 ≤ 8 := zl
      have ea := dAdd_S (a := c :: t.take n) (b := [sgn k.toNat]) (by rw [l1]; simp; omega)
      have eb := dAdd_S (a := c :: t.take n ++ [sgn k.toNat]) (b := t.drop (n + 1)) (by simp; omega)
      have eb' : dAdd (S (c :: (t.take n ++ [sgn k.toNat]))) (S (t.drop (n + 1))) = shV (S (c :: (t.take n ++ [sgn k.toNat] ++ t.drop (n + 1)))) := eb
      have ea' : dAdd (S (c :: t.take n)) (S [sgn k.toNat]) = shV (S (c :: (t.take n ++ [sgn k.toNat]))) := ea
      refine ⟨c :: (t.take n ++ [sgn k.toNat] ++ t.drop (n + 1)), s2, ?_, o2, ⟨by simp; omega, ⟨_, _, rfl, hc⟩, fun x hx => ?_⟩⟩
      · have cr' : ¬ ((n : Int) + 1 = 0) := cr
        simp only [f_l_name_like, fnM]
        simp [m_l_name_like_ap, c1, lz, callW_sh', e1, cr', e2, sign_ev, km, e3, c3, e4, c4, ea', eb']
      · rcases List.mem_cons.mp hx with rfl | q
        · exact isLet_sign hc
        · rcases List.mem_append.mp q with q | q
          · rcases List.mem_append.mp q with q | q
            · exact nz.all x (List.mem_cons_of_mem _ (List.mem_of_mem_take q))
            · rw [List.mem_singleton] at q; subst q; exact sgn_sign (by omega)
          · exact nz.all x (List.mem_cons_of_mem _ (List.mem_of_mem_drop q))
  by_cases c2 : m = 2
  · obtain ⟨r, s1, e1, o1, r0, r1⟩ := take_s st hs (c :: t).length (by omega) (by omega)
    rw [zlen] at e1 r1
    obtain ⟨n, rfl⟩ : ∃ n : Nat, r = n := ⟨r.toNat, by omega⟩
    have e3 := dSl_S (l := c :: t) (lo := none) (hi := some (1 + (n : Int))) (by omega)
    have c3 : cut (c :: t) none (some (1 + (n : Int))) = c :: t.take n := by rw [Int.add_comm]; exact cut_to (c :: t) (n + 1)
    have zl' : t.length + 1 ≤ 8 := zl
    refine ⟨c :: t.take n, s1, ?_, o1, ⟨by simp; omega, ⟨_, _, rfl, hc⟩, fun x hx => ?_⟩⟩
    · simp [f_l_name_like, fnM, m_l_name_like_ap, c2, lz, callW_sh', e1, e3, c3]
    · rcases List.mem_cons.mp hx with rfl | q
      · exact isLet_sign hc
      · exact nz.all x (List.mem_cons_of_mem _ (List.mem_of_mem_take q))
  by_cases c3 : m = 3
  · obtain ⟨r, s1, e1, o1, r0, r1⟩ := take_s st hs 130 (by decide) (by decide)
    have e3 := dSl_S (l := c :: t) (lo := none) (hi := some 4) (by omega)
    have cc : cut (c :: t) none (some 4) = c :: t.take 3 := cut_to (c :: t) 4
    obtain ⟨d1, d2⟩ := digs_sign r.toNat (by omega)
    have zl' : t.length + 1 ≤ 8 := zl
    have ea : dAdd (S (c :: t.take 3)) (S (digs r.toNat)) = shV (S (c :: (t.take 3 ++ digs r.toNat))) := dAdd_S (a := c :: t.take 3) (b := digs r.toNat) (by simp; omega)
    refine ⟨c :: (t.take 3 ++ digs r.toNat), s1, ?_, o1, ⟨by simp; omega, ⟨_, _, rfl, hc⟩, fun x hx => ?_⟩⟩
    · simp [f_l_name_like, fnM, m_l_name_like_ap, c3, callW_sh', e1, e3, cc, dStr_k r0 r1, ea]
    · rcases List.mem_cons.mp hx with rfl | q
      · exact isLet_sign hc
      · rcases List.mem_append.mp q with q | q
        · exact nz.all x (List.mem_cons_of_mem _ (List.mem_of_mem_take q))
        · exact d2 x q
  by_cases c4 : m = 4
  · obtain ⟨k, s1, e1, o1, k0, k1⟩ := take_s st hs 26 (by decide) (by decide)
    have km : k % 36 = k := Int.emod_eq_of_lt k0 (by omega)
    refine ⟨[sgn k.toNat], s1, ?_, o1, ⟨by simp, ⟨_, _, rfl, sgn_let (by omega)⟩, fun x hx => ?_⟩⟩
    · simp [f_l_name_like, fnM, m_l_name_like_ap, c4, callW_sh', e1, sign_ev, km]
    · rw [List.mem_singleton] at hx; subst hx; exact sgn_sign (by omega)
  by_cases c5 : m = 5
  · obtain ⟨d, s1, e1, o1, hd⟩ := pick_ev st hs words (by simp [words]) (by simp [words])
    obtain ⟨l, rfl, hl⟩ := dNm_ok (List.all_eq_true.mp words_ok d hd)
    refine ⟨l, s1, ?_, o1, hl⟩
    unfold words at e1
    have ll : (13 : Nat) ≤ line := by decide
    simp [f_l_name_like, fnM, m_l_name_like_ap, c5, callW_sh', ll, e1]
  obtain ⟨l, s1, e1, o1, hl⟩ := name_ev st hs
  refine ⟨l, s1, ?_, o1, hl⟩
  simp [f_l_name_like, fnM, m_l_name_like_ap, c1, c2, c3, c4, c5, callW_sh', e1]
end Lk52

set_option Elab.async false
set_option linter.all false
set_option maxRecDepth 100000
set_option maxHeartbeats 2000000
namespace Lk52
open PySem RX
theorem names_loop (x1 : Slot) (m : Int) (z : List Nat) (nz : Nm z) : ∀ (ks : List D) (ls : List (List Nat)) (x6 : Slot) (st : Sto), Ok st → ls.Nodup → (∀ l ∈ ls, Nm l) → ls.length + ks.length ≤ 500 →
    ∃ (ls' : List (List Nat)) (x6' : Slot) (st' : Sto), forD (gN 6) m_l_names_b1 ks ⟨[.v .sto, x1, .v (.lst []), .v (.int m), .v (S z), .own (.lst (ls.map S)), x6], st⟩ = .ok .nx ⟨[.v .sto, x1, .v (.lst []), .v (.int m), .v (S z), .own (.lst (ls'.map S)), x6'], st'⟩ ∧ Ok st' ∧ ls'.Nodup ∧ (∀ l ∈ ls', Nm l) ∧ ls'.length = ls.length + ks.length
  | [], ls, x6, st, hs, n, a, _ => ⟨ls, x6, st, rfl, hs, n, a, by simp⟩
  | k :: ks, ls, x6, st, hs, n, a, hl => by
    simp only [List.length_cons] at hl
    obtain ⟨w, s1, e1, o1, nw⟩ := name_like_ev st hs m z nz
    obtain ⟨l, e2, nl, hn⟩ := unlike_ev s1 w nw ls (by omega)
    obtain ⟨ls', x6', s2, e3, o2, n2, a2, l2⟩ := names_loop x1 m z nz ks (ls ++ [l]) (.v k) s1 o1
      (List.nodup_append.mpr ⟨n, by simp, fun a ha b hb => by rw [List.mem_singleton] at hb; subst hb; intro e; subst e; exact hn ha⟩)
      (fun q hq => by
        rcases List.mem_append.mp hq with h | h
        · exact a q h
        · rw [List.mem_singleton] at h; subst h; exact nl)
      (by simp; omega)
    refine ⟨ls', x6', s2, ?_, o2, n2, a2, by rw [l2]; simp; omega⟩
    rw [List.map_append] at e3
    have ed : dAdd (.lst []) (.lst (ls.map S)) = some ⟨.fr, .lst (ls.map S)⟩ := dAdd_l (by simp; unfold line; omega)
    have ha : fAppend (ls.map S) [S l] = some (ls.map S ++ [S l], .non) := fAppend_ok (by rw [List.length_map]; unfold line; omega)
    simp only [List.map_cons, List.map_nil] at e3
    simp [forD_cons, m_l_names_b1_ap, callW_sh', e1, e2, ed, ha, e3]
theorem names_ev (st : Sto) (hs : Ok st) (n : Int) (h0 : 0 ≤ n) (hn : n ≤ 500) : ∃ (ls : List (List Nat)) (st' : Sto), f_l_names [.sto, .int n, .lst []] st = .ok ⟨.fr, .lst (ls.map S)⟩ st' ∧ Ok st' ∧ ls.Nodup ∧ (∀ l ∈ ls, Nm l) ∧ (ls.length : Int) = n := by
  obtain ⟨m, s1, e1, o1, m0, m1⟩ := take_s st hs 6 (by decide) (by decide)
  obtain ⟨z, s2, e2, o2, nz⟩ := name_ev s1 o1
  obtain ⟨ls, x6, s3, e3, o3, n3, a3, l3⟩ := names_loop (.v (.int n)) m z nz (rngD 0 n.toNat) [] .emp s2 o2 List.nodup_nil (by simp) (by rw [rngD_len]; simp; omega)
  refine ⟨ls, s3, ?_, o3, n3, a3, by rw [l3, rngD_len]; simp; omega⟩
  have b1 : -1000 ≤ n := by omega
  have b2 : n ≤ 1000000 := by omega
  simp only [List.map_nil] at e3
  simp [f_l_names, fnM, m_l_names_ap, callW_sh', e1, e2, b1, b2, e3]
end Lk52

set_option Elab.async false
set_option linter.all false
set_option maxRecDepth 100000
set_option maxHeartbeats 2000000
namespace Lk52
open PySem RX
/-- an arrow: its box, where it begins, where it ends -/
structure Row where
  b : List Nat
  s : List Nat
  e : List Nat
  deriving DecidableEq
abbrev R (r : Row) : D := .tup [S r.b, S r.s, S r.e]
structure RowOk (r : Row) : Prop where
  b : Nm r.b
  s : Nm r.s
  e : Nm r.e
  ne : r.s ≠ r.e
def ind (a b : List Nat) : Int := if a = b then 1 else 0
def bal (p : List Nat) : List Row → Int
  | [] => 0
  | r :: rs => ind r.s p - ind r.e p + bal p rs
theorem bal_append (p : List Nat) : ∀ (a b : List Row), bal p (a ++ b) = bal p a + bal p b
  | [], b => by simp [bal]
  | r :: a, b => by
    show ind r.s p - ind r.e p + bal p (a ++ b) = (ind r.s p - ind r.e p + bal p a) + bal p b
    rw [bal_append p a b]; omega
theorem bal_perm {p : List Nat} {a b : List Row} (h : a.Perm b) : bal p a = bal p b := by
  induction h with
  | nil => rfl
  | cons x _ ih => simp only [bal, ih]
  | swap x y l => simp only [bal]; omega
  | trans _ _ i1 i2 => rw [i1, i2]
/-- what the law's two makers of arrows promise -/
structure Rows (m : Int) (rs : List Row) : Prop where
  ok : ∀ r ∈ rs, RowOk r
  nd : (rs.map Row.b).Nodup
  bl : ∀ p, bal p rs = 0
  len : (rs.length : Int) ≤ m
theorem Rows.perm {m : Int} {a b : List Row} (h : Rows m a) (q : b.Perm a) : Rows m b :=
  ⟨fun r hr => h.ok r (q.mem_iff.mp hr), (q.map Row.b).nodup_iff.mpr h.nd, fun p => (bal_perm q).trans (h.bl p), by rw [q.length_eq]; exact h.len⟩
theorem perm_mapR {ds : List D} {rs : List Row} (h : ds.Perm (rs.map R)) : ∃ rs' : List Row, ds = rs'.map R ∧ rs'.Perm rs := by
  generalize e : rs.map R = es at h
  induction h generalizing rs with
  | nil => exact ⟨[], rfl, by rw [List.map_eq_nil_iff] at e; subst e; exact .nil⟩
  | @cons x l1 l2 _ ih =>
    cases rs with
    | nil => cases e
    | cons r rs =>
      rw [List.map_cons, List.cons.injEq] at e
      obtain ⟨rs', e', p⟩ := ih e.2
      exact ⟨r :: rs', by rw [List.map_cons, e.1, e'], p.cons r⟩
  | swap x y l =>
    match rs, e with
    | r :: r' :: rs, e =>
      rw [List.map_cons, List.map_cons, List.cons.injEq, List.cons.injEq] at e
      obtain ⟨rfl, rfl, rfl⟩ := e
      exact ⟨r' :: r :: rs, rfl, .swap _ _ _⟩
  | trans _ _ i1 i2 =>
    obtain ⟨rs1, e1, p1⟩ := i2 e
    obtain ⟨rs2, e2, p2⟩ := i1 e1.symm
    exact ⟨rs2, e2, p2.trans p1⟩
end Lk52

set_option Elab.async false
set_option linter.all false
set_option maxRecDepth 100000
set_option maxHeartbeats 2000000
namespace Lk52
open PySem RX
theorem atI_S {l : List (List Nat)} {j : Nat} (h : j < l.length) : L2.atI (l.map S) (j : Int) = some (S l[j]!) := by
  have h' : (j : Int) < (l.map S).length := by rw [List.length_map]; omega
  rw [atI_nat (by omega) h']
  simp [h]
def rowAt (bs ring : List (List Nat)) (o j : Nat) : Row := ⟨bs[o + j]!, ring[j]!, ring[(j + 1) % ring.length]!⟩
theorem arrows_in (x1 x2 x3 x4 x6 x8 : Slot) (bs ring : List (List Nat)) (o : Nat) (hr : 0 < ring.length) (hl : ring.length ≤ 1000) (hb : bs.length ≤ 1000) : ∀ (n j : Nat) (rs : List Row) (x11 : Slot) (st : Sto), rs.length = o + j → o + j + n ≤ bs.length → j + n ≤ ring.length →
    ∃ x11', forD (gN 11) m_l_arrows_b2 ((List.range' j n).map fun k => .int (k : Nat)) ⟨[.v .sto, x1, x2, x3, x4, .v (.lst (bs.map S)), x6, .own (.lst (rs.map R)), x8, .v (.int ring.length), .v (.lst (ring.map S)), x11], st⟩ = .ok .nx ⟨[.v .sto, x1, x2, x3, x4, .v (.lst (bs.map S)), x6, .own (.lst ((rs ++ (List.range' j n).map (rowAt bs ring o)).map R)), x8, .v (.int ring.length), .v (.lst (ring.map S)), x11'], st⟩
  | 0, j, rs, x11, st, _, _, _ => ⟨x11, by simp [forD]⟩
  | n + 1, j, rs, x11, st, e, h1, h2 => by
    obtain ⟨x', e'⟩ := arrows_in x1 x2 x3 x4 x6 x8 bs ring o hr hl hb n (j + 1) (rs ++ [rowAt bs ring o j]) (.v (.int j)) st (by simp; omega) (by omega) (by omega)
    refine ⟨x', ?_⟩
    have mp : (0 : Int) < ring.length := by omega
    have i1 := atI_S (l := bs) (j := o + j) (by omega)
    have i2 := atI_S (l := ring) (j := j) (by omega)
    have i3 := atI_S (l := ring) (j := (j + 1) % ring.length) (Nat.mod_lt _ hr)
    have lc : (rs.map R).length = o + j := by rw [List.length_map, e]
    have ij : ((j : Int) + 1) % (ring.length : Int) = (((j + 1) % ring.length : Nat) : Int) := by push_cast; rfl
    have ha : fAppend (rs.map R) [R (rowAt bs ring o j)] = some (rs.map R ++ [R (rowAt bs ring o j)], .non) := fAppend_ok (by rw [lc]; unfold line; omega)
    have l3 : (3 : Nat) ≤ line := by decide
    rw [List.map_append, List.map_append] at e'
    rw [List.range'_succ, List.map_cons, List.map_cons, List.map_append, forD_cons]
    have ev : m_l_arrows_b2 ⟨[.v .sto, x1, x2, x3, x4, .v (.lst (bs.map S)), x6, .own (.lst (rs.map R)), x8, .v (.int ring.length), .v (.lst (ring.map S)), .v (.int j)], st⟩ = .ok .nx ⟨[.v .sto, x1, x2, x3, x4, .v (.lst (bs.map S)), x6, .own (.lst (rs.map R ++ [R (rowAt bs ring o j)])), x8, .v (.int ring.length), .v (.lst (ring.map S)), .v (.int j)], st⟩ := by
      have v10 : ∀ st, mVar 10 ⟨[.v .sto, x1, x2, x3, x4, .v (.lst (bs.map S)), x6, .own (.lst (rs.map R)), x8, .v (.int ring.length), .v (.lst (ring.map S)), .v (.int j)], st⟩ = .ok ⟨.sh, .lst (ring.map S)⟩ st := fun _ => rfl
      have v11 : ∀ st, mVar 11 ⟨[.v .sto, x1, x2, x3, x4, .v (.lst (bs.map S)), x6, .own (.lst (rs.map R)), x8, .v (.int ring.length), .v (.lst (ring.map S)), .v (.int j)], st⟩ = .ok ⟨.sh, .int j⟩ st := fun _ => rfl
      have ix1 : dIx (.lst (bs.map S)) (.int ((o + j : Nat) : Int)) = some ⟨.sh, S bs[o + j]!⟩ := by rw [dIx_l, i1]; rfl
      have ix2 : dIx (.lst (ring.map S)) (.int (j : Int)) = some ⟨.sh, S ring[j]!⟩ := by rw [dIx_l, i2]; rfl
      have ix3 : dIx (.lst (ring.map S)) (.int (((j + 1) % ring.length : Nat) : Int)) = some ⟨.sh, S ring[(j + 1) % ring.length]!⟩ := by rw [dIx_l, i3]; rfl
      have dl : dLen [.lst (rs.map R)] = shI ((o + j : Nat) : Int) := by rw [dLen_l, lc]
      have md : dMod (.int ((j : Int) + 1)) (.int (ring.length : Int)) = shI (((j + 1) % ring.length : Nat) : Int) := by rw [dMod_p mp, ij]
      rw [m_l_arrows_b2_ap]
      simp only [ap_mut, ownL_7, ap_cons, ap_tup, ap_op, ap_var5, ap_cb, ap_own7, ap_nil, Rs.bind, ap_settleO, ap_settle, List.map_cons, List.map_nil, dl, shI, shV, ap_ofO, ix1, v10, v11, ix2, ap_c, ap_var9, dAdd_ii, dInt_i, md, ix3, allSh_cons, allSh_nil, Option.map_some, List.length_cons, List.length_nil, Nat.reduceAdd, l3, if_true]
      have ha' : fAppend (rs.map R) [.tup [S bs[o + j]!, S ring[j]!, S ring[(j + 1) % ring.length]!]] = some (rs.map R ++ [R (rowAt bs ring o j)], .non) := ha
      rw [ha']
      rfl
    show (match m_l_arrows_b2 ⟨[.v .sto, x1, x2, x3, x4, .v (.lst (bs.map S)), x6, .own (.lst (rs.map R)), x8, .v (.int ring.length), .v (.lst (ring.map S)), .v (.int j)], st⟩ with | .ok .nx s2 => _ | .ok .ct s2 => _ | .ok .bk s2 => _ | r => r) = _
    rw [ev]
    simpa using e'
theorem ind_self (a : List Nat) : ind a a = 1 := if_pos rfl
theorem bal_ring (bs ring : List (List Nat)) (o : Nat) (p : List Nat) : ∀ (n j : Nat), j + n ≤ ring.length → bal p ((List.range' j n).map (rowAt bs ring o)) = ind ring[j % ring.length]! p - ind ring[(j + n) % ring.length]! p
  | 0, j, _ => by simp [bal]
  | n + 1, j, h => by
    rw [List.range'_succ, List.map_cons, bal, bal_ring bs ring o p n (j + 1) (by omega)]
    have e1 : j % ring.length = j := Nat.mod_eq_of_lt (by omega)
    have e2 : j + 1 + n = j + (n + 1) := by omega
    rw [e1, e2]
    show ind ring[j]! p - ind ring[(j + 1) % ring.length]! p + _ = _
    omega
theorem ring_bal (bs ring : List (List Nat)) (o : Nat) (p : List Nat) : bal p ((List.range' 0 ring.length).map (rowAt bs ring o)) = 0 := by
  rw [bal_ring bs ring o p ring.length 0 (by omega)]
  rw [Nat.zero_add, Nat.mod_self, Nat.zero_mod]
  omega
theorem ring_boxes (bs ring : List (List Nat)) (o : Nat) : ∀ (n j : Nat), o + j + n ≤ bs.length → bs.take (o + j) ++ ((List.range' j n).map (rowAt bs ring o)).map Row.b = bs.take (o + j + n)
  | 0, j, _ => by simp
  | n + 1, j, h => by
    rw [List.range'_succ, List.map_cons, List.map_cons]
    have ih := ring_boxes bs ring o n (j + 1) (by omega)
    have e : bs.take (o + (j + 1)) = bs.take (o + j) ++ [bs[o + j]!] := by
      rw [← Nat.add_assoc, List.take_succ_eq_append_getElem (by omega)]
      simp [show o + j < bs.length by omega]
    rw [e, List.append_assoc] at ih
    have e2 : o + j + (n + 1) = o + (j + 1) + n := by omega
    rw [e2, ← ih]
    rfl
theorem nodup_inj {α : Type} {l : List α} (nd : l.Nodup) {i j : Nat} (hi : i < l.length) (hj : j < l.length) (e : l[i] = l[j]) : i = j := by
  have p := List.pairwise_iff_getElem.mp nd
  rcases Nat.lt_trichotomy i j with h | h | h
  · exact absurd e (p i j hi hj h)
  · exact h
  · exact absurd e.symm (p j i hj hi h)
theorem mem_getE {l : List (List Nat)} {i : Nat} (h : i < l.length) : l[i]! ∈ l := by
  rw [getElem!_pos l i h]
  exact List.getElem_mem h
theorem ring_ok (bs ring : List (List Nat)) (o : Nat) (h2 : 2 ≤ ring.length) (nd : ring.Nodup) (hb : ∀ l ∈ bs, Nm l) (hr : ∀ l ∈ ring, Nm l) (ho : o + ring.length ≤ bs.length) : ∀ r ∈ (List.range' 0 ring.length).map (rowAt bs ring o), RowOk r := fun r h => by
  obtain ⟨j, hj, rfl⟩ := List.mem_map.mp h
  rw [List.mem_range'_1] at hj
  have hm : (j + 1) % ring.length < ring.length := Nat.mod_lt _ (by omega)
  refine ⟨hb _ (mem_getE (by omega)), hr _ (mem_getE (by omega)), hr _ (mem_getE hm), fun e => ?_⟩
  have e : ring[j]! = ring[(j + 1) % ring.length]! := e
  rw [getElem!_pos ring j (by omega), getElem!_pos ring _ hm] at e
  have := nodup_inj nd _ _ e
  by_cases q : j + 1 = ring.length
  · rw [q, Nat.mod_self] at this; omega
  · rw [Nat.mod_eq_of_lt (by omega)] at this; omega
end Lk52

set_option Elab.async false
set_option linter.all false
set_option maxRecDepth 100000
set_option maxHeartbeats 2000000
namespace Lk52
open PySem RX
theorem perm_mapS {ds : List D} {ls : List (List Nat)} (h : ds.Perm (ls.map S)) : ∃ ls' : List (List Nat), ds = ls'.map S ∧ ls'.Perm ls := by
  generalize e : ls.map S = es at h
  induction h generalizing ls with
  | nil => exact ⟨[], rfl, by rw [List.map_eq_nil_iff] at e; subst e; exact .nil⟩
  | @cons x l1 l2 _ ih =>
    cases ls with
    | nil => cases e
    | cons r rs =>
      rw [List.map_cons, List.cons.injEq] at e
      obtain ⟨rs', e', p⟩ := ih e.2
      exact ⟨r :: rs', by rw [List.map_cons, e.1, e'], p.cons r⟩
  | swap x y l =>
    match ls, e with
    | r :: r' :: rs, e =>
      rw [List.map_cons, List.map_cons, List.cons.injEq, List.cons.injEq] at e
      obtain ⟨rfl, rfl, rfl⟩ := e
      exact ⟨r' :: r :: rs, rfl, .swap _ _ _⟩
  | trans _ _ i1 i2 =>
    obtain ⟨rs1, e1, p1⟩ := i2 e
    obtain ⟨rs2, e2, p2⟩ := i1 e1.symm
    exact ⟨rs2, e2, p2.trans p1⟩
theorem shufS_ev (st : Sto) (hs : Ok st) (ls : List (List Nat)) (hl : ls.length ≤ 200) : ∃ (ls' : List (List Nat)) (st' : Sto), f_l_shuffled [.sto, .lst (ls.map S)] st = .ok ⟨.fr, .lst (ls'.map S)⟩ st' ∧ Ok st' ∧ ls'.Perm ls := by
  obtain ⟨ds, s1, e1, o1, p⟩ := shuffled_ev st hs (ls.map S) (by rw [List.length_map]; exact hl)
  obtain ⟨ls', rfl, q⟩ := perm_mapS p
  exact ⟨ls', s1, e1, o1, q⟩
theorem shufR_ev (st : Sto) (hs : Ok st) (ls : List Row) (hl : ls.length ≤ 200) : ∃ (ls' : List Row) (st' : Sto), f_l_shuffled [.sto, .lst (ls.map R)] st = .ok ⟨.fr, .lst (ls'.map R)⟩ st' ∧ Ok st' ∧ ls'.Perm ls := by
  obtain ⟨ds, s1, e1, o1, p⟩ := shuffled_ev st hs (ls.map R) (by rw [List.length_map]; exact hl)
  obtain ⟨ls', rfl, q⟩ := perm_mapR p
  exact ⟨ls', s1, e1, o1, q⟩
theorem rngD_0' (n : Nat) : rngD 0 n = (List.range' 0 n).map fun k => .int (k : Nat) := by
  rw [rngD_0, List.range_eq_range']
theorem map_take {α β : Type} (f : α → β) (l : List α) (n : Nat) : (l.map f).take n = (l.take n).map f := by rw [List.map_take]
/-- the rows so far: they use the boxes in their order -/
structure Part (bs : List (List Nat)) (rs : List Row) : Prop where
  ok : ∀ r ∈ rs, RowOk r
  bx : rs.map Row.b = bs.take rs.length
  bl : ∀ p, bal p rs = 0
  len : rs.length ≤ bs.length
theorem Part.ring {bs : List (List Nat)} {rs : List Row} (h : Part bs rs) (ring : List (List Nat)) (h2 : 2 ≤ ring.length) (nd : ring.Nodup) (hb : ∀ l ∈ bs, Nm l) (hr : ∀ l ∈ ring, Nm l) (ho : rs.length + ring.length ≤ bs.length) : Part bs (rs ++ (List.range' 0 ring.length).map (rowAt bs ring rs.length)) := by
  refine ⟨fun r m => ?_, ?_, fun p => ?_, by simp; omega⟩
  · rcases List.mem_append.mp m with m | m
    · exact h.ok r m
    · exact ring_ok bs ring rs.length h2 nd hb hr ho r m
  · rw [List.map_append, h.bx]
    have := ring_boxes bs ring rs.length ring.length 0 (by omega)
    rw [Nat.add_zero] at this
    rw [this]
    simp
  · rw [bal_append, h.bl p, ring_bal]; rfl
def AE (most many several : Int) (both boxes places found : D) (x8 x9 x10 x11 : Slot) : List Slot := [.v .sto, .v (.int most), .v (.int many), .v (.int several), .v both, .v boxes, .v places, .own found, x8, x9, x10, x11]
theorem arrows_out (most several : Int) (both : D) (bs ps : List (List Nat)) (hbl : bs.length ≤ 200) (hpl : (ps.length : Int) = several) (hp2 : ps.length ≤ 200) (hb : ∀ l ∈ bs, Nm l) (hp : ∀ l ∈ ps, Nm l) (hn : ps.Nodup) : ∀ (ks : List D) (rs : List Row) (x8 x9 x10 x11 : Slot) (st : Sto), Ok st → Part bs rs →
    ∃ (rs' : List Row) (y8 y9 y10 y11 : Slot) (st' : Sto), forD (gN 8) m_l_arrows_b1 ks ⟨AE most bs.length several both (.lst (bs.map S)) (.lst (ps.map S)) (.lst (rs.map R)) x8 x9 x10 x11, st⟩ = .ok .nx ⟨AE most bs.length several both (.lst (bs.map S)) (.lst (ps.map S)) (.lst (rs'.map R)) y8 y9 y10 y11, st'⟩ ∧ Ok st' ∧ Part bs rs'
  | [], rs, x8, x9, x10, x11, st, hs, h => ⟨rs, x8, x9, x10, x11, st, rfl, hs, h⟩
  | k :: ks, rs, x8, x9, x10, x11, st, hs, h => by
    obtain ⟨r, s1, e1, o1, r0, r1⟩ := take_s st hs 4 (by decide) (by decide)
    obtain ⟨sz, hsz⟩ : ∃ sz : Int, sz = (if 2 + r < (if several < (bs.length : Int) - (rs.length : Int) then several else (bs.length : Int) - (rs.length : Int)) then 2 + r else (if several < (bs.length : Int) - (rs.length : Int) then several else (bs.length : Int) - (rs.length : Int))) := ⟨_, rfl⟩
    have hsz1 : sz ≤ several := by rw [hsz]; split <;> split <;> omega
    have hsz2 : sz ≤ (bs.length : Int) - (rs.length : Int) := by rw [hsz]; split <;> split <;> omega
    have ev1 : (mSet 9 (mCB dMinB (mCons (mOp dSub (mVar 2) (mCB dLen (mCons (mVar 7) mNil))) (mCons (mVar 3) (mCons (mOp dAdd (mC (.int 2)) (mCall0 f_l_take (mCons (mVar 0) (mCons (mC (.int 4)) mNil)))) mNil))))) ⟨AE most bs.length several both (.lst (bs.map S)) (.lst (ps.map S)) (.lst (rs.map R)) (.v k) x9 x10 x11, st⟩ = .ok .nx ⟨AE most bs.length several both (.lst (bs.map S)) (.lst (ps.map S)) (.lst (rs.map R)) (.v k) (.v (.int sz)) x10 x11, s1⟩ := by
      have dm : ∀ a b c : Int, dMinB [.int a, .int b, .int c] = shI (if c < (if b < a then b else a) then c else (if b < a then b else a)) := fun _ _ _ => rfl
      have dl : dLen [.lst (rs.map R)] = shI (rs.length : Int) := by rw [dLen_l, List.length_map]
      unfold AE
      simp only [ap_set, ap_cb, ap_cons, ap_op, ap_var2, ap_own7, ap_nil, Rs.bind, ap_settleO, ap_settle, List.map_cons, List.map_nil, dl, shI, shV, ap_ofO, dSub_ii, ap_var3, ap_c, ap_call0, ap_var0, callW_sh', List.any, isOw_sh, Bool.or_false, e1, noEx_ok, dAdd_ii, dm, ← hsz, ap_storeV]
      rfl
    by_cases c : sz < 2
    · refine ⟨rs, .v k, .v (.int sz), x10, x11, s1, ?_, o1, h⟩
      show (match m_l_arrows_b1 ⟨AE most bs.length several both (.lst (bs.map S)) (.lst (ps.map S)) (.lst (rs.map R)) (.v k) x9 x10 x11, st⟩ with | .ok .nx s2 => _ | .ok .ct s2 => _ | .ok .bk s2 => _ | r => r) = _
      rw [m_l_arrows_b1_ap, ap_seq, ev1]
      simp [AE, c]
    · obtain ⟨ls, s2, e2, o2, p2⟩ := shufS_ev s1 o1 ps hp2
      obtain ⟨n, rfl⟩ : ∃ n : Nat, sz = n := ⟨sz.toNat, by omega⟩
      have hll : ls.length = ps.length := p2.length_eq
      have rl : (ls.take n).length = n := by rw [List.length_take]; omega
      have rn : (ls.take n).Nodup := (p2.nodup_iff.mpr hn).sublist (List.take_sublist _ _)
      have rp : ∀ l ∈ ls.take n, Nm l := fun l hl => hp l (p2.mem_iff.mp (List.mem_of_mem_take hl))
      have hP := h.ring (ls.take n) (by omega) rn hb rp (by omega)
      obtain ⟨y11, e3⟩ := arrows_in (.v (.int most)) (.v (.int bs.length)) (.v (.int several)) (.v both) (.v (.lst (ps.map S))) (.v k) bs (ls.take n) rs.length (by omega) (by omega) (by omega) n 0 rs x11 s2 rfl (by omega) (by omega)
      rw [← rngD_0', rl] at e3
      rw [rl] at hP
      obtain ⟨rs', y8, y9, y10, y11', s3, e4, o3, h3⟩ := arrows_out most several both bs ps hbl hpl hp2 hb hp hn ks _ (.v k) (.v (.int n)) (.v (.lst ((ls.take n).map S))) y11 s2 o2 hP
      refine ⟨rs', y8, y9, y10, y11', s3, ?_, o3, h3⟩
      rw [← e4]
      have b1 : (-1000 : Int) ≤ (n : Int) := by omega
      have b2 : (n : Int) ≤ 1000000 := by omega
      have ct : cut (ls.map S) none (some (n : Int)) = (ls.take n).map S := by rw [cut_to, List.map_take]
      have v9 : ∀ (z : Slot) st, mVar 9 ⟨[.v .sto, .v (.int most), .v (.int bs.length), .v (.int several), .v both, .v (.lst (bs.map S)), .v (.lst (ps.map S)), .own (.lst (rs.map R)), .v k, .v (.int n), z, x11], st⟩ = .ok ⟨.sh, .int n⟩ st := fun _ _ => rfl
      have v6 : ∀ (z : Slot) st, mVar 6 ⟨[.v .sto, .v (.int most), .v (.int bs.length), .v (.int several), .v both, .v (.lst (bs.map S)), .v (.lst (ps.map S)), .own (.lst (rs.map R)), .v k, .v (.int n), z, x11], st⟩ = .ok ⟨.sh, .lst (ps.map S)⟩ st := fun _ _ => rfl
      have c' : ¬ ((n : Int) < 2) := c
      have bd : m_l_arrows_b1 ⟨AE most bs.length several both (.lst (bs.map S)) (.lst (ps.map S)) (.lst (rs.map R)) (.v k) x9 x10 x11, st⟩ = .ok .nx ⟨AE most bs.length several both (.lst (bs.map S)) (.lst (ps.map S)) (.lst ((rs ++ (List.range' 0 n).map (rowAt bs (ls.take n) rs.length)).map R)) (.v k) (.v (.int n)) (.v (.lst ((ls.take n).map S))) y11, s2⟩ := by
        rw [m_l_arrows_b1_ap, ap_seq, ev1]
        unfold AE
        simp only [ap_seq, ap_if, ap_b, ap_op, v9, ap_c, Rs.bind, dLt_ii, shB, shV, ap_ofO, ap_asB, decide_eq_false c', ap_next, ap_set, ap_sl, ap_call0, ap_cons, ap_var0, v6, ap_nil, ap_settle, callW_sh', List.any, isOw_sh, Bool.or_false, List.map_cons, List.map_nil, e2, noEx_ok, ap_noPart, ap_part, dSl_l, ct, ap_storeVf, List.set, ap_for, ap_rng, rngR_1 b1 b2, Int.toNat_natCast]
        exact e3
      show (match m_l_arrows_b1 ⟨AE most bs.length several both (.lst (bs.map S)) (.lst (ps.map S)) (.lst (rs.map R)) (.v k) x9 x10 x11, st⟩ with | .ok .nx s2 => _ | .ok .ct s2 => _ | .ok .bk s2 => _ | r => r) = _
      rw [bd]
end Lk52

set_option Elab.async false
set_option linter.all false
set_option maxRecDepth 100000
set_option maxHeartbeats 2000000
namespace Lk52
open PySem RX
theorem Part.rows {bs : List (List Nat)} {rs : List Row} (h : Part bs rs) (nd : bs.Nodup) (m : Int) (hm : (bs.length : Int) ≤ m) : Rows m rs :=
  ⟨h.ok, by rw [h.bx]; exact nd.sublist (List.take_sublist _ _), h.bl, by have := h.len; omega⟩
theorem pureR : ∀ rs : List Row, pureL (rs.map R) = true
  | [] => by simp [pureL]
  | r :: rs => by simp [pureL, pureD, pureR rs]
theorem arrows_fin (most several : Int) (h5 : several ≤ 5) (hm : most ≤ 12) (both : D) (bs ps : List (List Nat)) (hbm : (bs.length : Int) ≤ most) (hpl : (ps.length : Int) = several) (hb : ∀ l ∈ bs, Nm l) (hp : ∀ l ∈ ps, Nm l) (hn : ps.Nodup) (hnb : bs.Nodup) (x7 x8 x9 x10 x11 : Slot) (st : Sto) (hs : Ok st) :
    ∃ (rs : List Row) (st' : Sto), outF ((mSeq (mSetO 7 (mLst mNil)) (mSeq (mFor (mRng (mCons (mVar 2) mNil)) (gN 8) m_l_arrows_b1) (mRet (mCall0 f_l_shuffled (mCons (mVar 0) (mCons (mVar 7) mNil))))))
      ⟨[.v .sto, .v (.int most), .v (.int bs.length), .v (.int several), .v both, .v (.lst (bs.map S)), .v (.lst (ps.map S)), x7, x8, x9, x10, x11], st⟩) = .ok ⟨.fr, .lst (rs.map R)⟩ st' ∧ Ok st' ∧ Rows most rs := by
  obtain ⟨rs, y8, y9, y10, y11, s1, e1, o1, h1⟩ := arrows_out most several both bs ps (by omega) hpl (by omega) hb hp hn (rngD 0 bs.length) [] x8 x9 x10 x11 st hs ⟨by simp, by simp, fun _ => rfl, by simp⟩
  have hl := h1.len
  obtain ⟨rs', s2, e2, o2, p2⟩ := shufR_ev s1 o1 rs (by omega)
  refine ⟨rs', s2, ?_, o2, (h1.rows hnb most hbm).perm p2⟩
  have b1 : (-1000 : Int) ≤ (bs.length : Int) := by omega
  have b2 : (bs.length : Int) ≤ 1000000 := by omega
  unfold AE at e1
  simp only [List.map_nil] at e1
  have z : (0 : Nat) ≤ line := by decide
  simp only [ap_seq, ap_setO, ap_lst, ap_nil, Rs.bind, allSh_nil, List.length_nil, z, if_true, ap_storeWf, List.set, ap_for, ap_rng, ap_cons, ap_var2, ap_settle, rngR_1 b1 b2, Int.toNat_natCast, e1, ap_ret, ap_call0, ap_var0, ap_own7, ap_settleO]
  have cw : callW f_l_shuffled [⟨.sh, .sto⟩, ⟨.ow 7, .lst (rs.map R)⟩] [] s1 = .ok ⟨.fr, .lst (rs'.map R)⟩ s2 := by
    unfold callW
    simp [e2]
    exact ⟨pureR rs', rfl, rfl⟩
  rw [cw]
  rfl
theorem arrows_ev (st : Sto) (hs : Ok st) (most : Int) (h0 : 0 ≤ most) (hm : most ≤ 12) : ∃ (rs : List Row) (st' : Sto), f_l_arrows [.sto, .int most] st = .ok ⟨.fr, .lst (rs.map R)⟩ st' ∧ Ok st' ∧ Rows most rs := by
  obtain ⟨m, s1, e1, o1, m0, m1⟩ := number_ev st hs 0 most (by decide) h0 (by omega)
  obtain ⟨r, s2, e2, o2, r0, r1⟩ := take_s s1 o1 4 (by decide) (by decide)
  obtain ⟨ls, s3, e3, o3, nd, nm, ll⟩ := names_ev s2 o2 (m + (2 + r)) (by omega) (by omega)
  obtain ⟨f, s4, e4, o4, f0, f1⟩ := take_s s3 o3 2 (by decide) (by decide)
  obtain ⟨n, rfl⟩ : ∃ n : Nat, m = n := ⟨m.toNat, by omega⟩
  have l1 : (ls.take n).length = n := by rw [List.length_take]; omega
  have c1 : cut (ls.map S) none (some (n : Int)) = (ls.take n).map S := by rw [cut_to, List.map_take]
  have c2 : cut (ls.map S) (some (n : Int)) none = (ls.drop n).map S := by rw [cut_from, List.map_drop]
  have nb := nd.sublist (List.take_sublist n ls)
  have hb : ∀ l ∈ ls.take n, Nm l := fun l h => nm l (List.mem_of_mem_take h)
  have z : (0 : Nat) ≤ line := by decide
  have fin : ∀ (ps : List (List Nat)) (s5 : Sto), Ok s5 → (ps.length : Int) = 2 + r → ps.Nodup → (∀ l ∈ ps, Nm l) → ∃ (rs : List Row) (st' : Sto), outF ((mSeq (mSetO 7 (mLst mNil)) (mSeq (mFor (mRng (mCons (mVar 2) mNil)) (gN 8) m_l_arrows_b1) (mRet (mCall0 f_l_shuffled (mCons (mVar 0) (mCons (mVar 7) mNil))))))
      ⟨[.v .sto, .v (.int most), .v (.int n), .v (.int (2 + r)), .v (.lst (ls.map S)), .v (.lst ((ls.take n).map S)), .v (.lst (ps.map S)), .emp, .emp, .emp, .emp, .emp], s5⟩) = .ok ⟨.fr, .lst (rs.map R)⟩ st' ∧ Ok st' ∧ Rows most rs := fun ps s5 o5 lp ndp nmp => by
    have := arrows_fin most (2 + r) (by omega) hm (.lst (ls.map S)) (ls.take n) ps (by rw [l1]; exact m1) lp hb nmp ndp nb .emp .emp .emp .emp .emp s5 o5
    rw [l1] at this
    exact this
  by_cases c : f = 0
  · obtain ⟨qs, s5, e5, o5, p5⟩ := shufS_ev s4 o4 ls (by omega)
    have c3 : cut (qs.map S) none (some (2 + r)) = (qs.take (2 + r).toNat).map S := by
      have : (2 + r) = (((2 + r).toNat : Nat) : Int) := by omega
      rw [this, cut_to, List.map_take]; rfl
    obtain ⟨rs, s6, e6, o6, h6⟩ := fin (qs.take (2 + r).toNat) s5 o5 (by rw [List.length_take, p5.length_eq]; omega) ((p5.nodup_iff.mpr nd).sublist (List.take_sublist _ _)) (fun l h => nm l (p5.mem_iff.mp (List.mem_of_mem_take h)))
    refine ⟨rs, s6, ?_, o6, h6⟩
    rw [← e6]
    simp [f_l_arrows, fnM, m_l_arrows_ap, callW_sh', e1, e2, e3, c1, c2, e4, c, e5, c3]
  · obtain ⟨rs, s6, e6, o6, h6⟩ := fin (ls.drop n) s4 o4 (by rw [List.length_drop]; omega) (nd.sublist (List.drop_sublist _ _)) (fun l h => nm l (List.mem_of_mem_drop h))
    refine ⟨rs, s6, ?_, o6, h6⟩
    rw [← e6]
    simp [f_l_arrows, fnM, m_l_arrows_ap, callW_sh', e1, e2, e3, c1, c2, e4, c]
end Lk52

set_option Elab.async false
set_option linter.all false
set_option maxRecDepth 100000
set_option maxHeartbeats 2000000
namespace Lk52
open PySem RX
theorem lcD_pure {tg : D → Fm → Option Fm} {tt : Fm → Rs Sto Bool} {el : Fm → Rs Sto Val} {env : List Slot} {st : Sto} (g : D → Option D) : ∀ (ds acc : List D),
    (∀ d ∈ ds, ∃ s1, tg d ⟨env, st⟩ = some s1 ∧ ((g d = none ∧ tt s1 = .ok false st) ∨ ∃ y k, g d = some y ∧ tt s1 = .ok true st ∧ el ⟨s1.env, st⟩ = .ok ⟨k, y⟩ st ∧ (k = .sh ∨ k = .fr))) →
    lcD tg tt el env ds st acc = .ok (acc ++ ds.filterMap g) st
  | [], acc, _ => by simp [lcD]
  | d :: ds, acc, h => by
    obtain ⟨s1, e1, c⟩ := h d List.mem_cons_self
    have ih := fun acc => lcD_pure g ds acc fun d hd => h d (List.mem_cons_of_mem _ hd)
    unfold lcD
    rw [e1]
    rcases c with ⟨gn, e2⟩ | ⟨y, k, gs, e2, e3, hk⟩
    · simp only [e2, ih, List.filterMap_cons, gn]
    · rcases hk with rfl | rfl <;> simp [e2, e3, ih, List.filterMap_cons, gs]
theorem lc_ev {src : Fm → Rs Sto (List D)} {tg : D → Fm → Option Fm} {tt : Fm → Rs Sto Bool} {el : Fm → Rs Sto Val} {vs : List Nat} {s : Fm} {ds ys : List D} {st st' : Sto} (h1 : src s = .ok ds st) (hl : ds.length ≤ 1000) (ho : noOwn s.env vs = true) (h2 : lcD tg tt el (wipeE s.env vs) ds st [] = .ok ys st') : mLc src tg tt el vs s = .ok ⟨.fr, .lst ys⟩ st' := by
  unfold mLc
  rw [h1, Rs.bind_ok, if_pos ⟨by unfold line; omega, ho⟩, h2]
  rfl
theorem pickS_ev (st : Sto) (hs : Ok st) (ls : List (List Nat)) (h : ls ≠ []) (hl : ls.length < 1000) : ∃ (l : List Nat) (st' : Sto), f_l_pick [.sto, .lst (ls.map S)] st = .ok ⟨.sh, S l⟩ st' ∧ Ok st' ∧ l ∈ ls := by
  obtain ⟨d, s1, e1, o1, hd⟩ := pick_ev st hs (ls.map S) (by simpa using h) (by rw [List.length_map]; omega)
  obtain ⟨l, hm, rfl⟩ := List.mem_map.mp hd
  exact ⟨l, s1, e1, o1, hm⟩
theorem begins_loop (ps : List (List Nat)) (h : ps ≠ []) (hl : ps.length < 1000) (env : List Slot) (he : ∀ d st, mCall0 f_l_pick (mCons (mVar 0) (mCons (mVar 3) mNil)) ⟨env.set 6 (.v d), st⟩ = noEx (f_l_pick [.sto, .lst (ps.map S)] st)) : ∀ (ks : List D) (acc : List (List Nat)) (st : Sto), Ok st → (∀ l ∈ acc, l ∈ ps) →
    ∃ (bs : List (List Nat)) (st' : Sto), lcD (gN 6) mYes (mCall0 f_l_pick (mCons (mVar 0) (mCons (mVar 3) mNil))) env ks st (acc.map S) = .ok (bs.map S) st' ∧ Ok st' ∧ (∀ l ∈ bs, l ∈ ps) ∧ bs.length = acc.length + ks.length
  | [], acc, st, hs, ha => ⟨acc, st, rfl, hs, ha, by simp⟩
  | k :: ks, acc, st, hs, ha => by
    obtain ⟨l, s1, e1, o1, hm⟩ := pickS_ev st hs ps h hl
    obtain ⟨bs, s2, e2, o2, a2, l2⟩ := begins_loop ps h hl env he ks (acc ++ [l]) s1 o1 (fun q hq => by
      rcases List.mem_append.mp hq with x | x
      · exact ha q x
      · rw [List.mem_singleton] at x; subst x; exact hm)
    refine ⟨bs, s2, ?_, o2, a2, by rw [l2]; simp; omega⟩
    unfold lcD
    have he' := he k st
    rw [e1] at he'
    have he' : mCall0 f_l_pick (mCons (mVar 0) (mCons (mVar 3) mNil)) ⟨env.set 6 (.v k), st⟩ = .ok ⟨.sh, S l⟩ s1 := he'
    rw [List.map_append] at e2
    simp only [ap_gN, mYes, he']
    exact e2
end Lk52

set_option Elab.async false
set_option linter.all false
set_option maxRecDepth 100000
set_option maxHeartbeats 2000000
namespace Lk52
open PySem RX
def cnt (p : List Nat) : List (List Nat) → Int
  | [] => 0
  | a :: l => ind a p + cnt p l
theorem cnt_perm {p : List Nat} {a b : List (List Nat)} (h : a.Perm b) : cnt p a = cnt p b := by
  induction h with
  | nil => rfl
  | cons x _ ih => simp only [cnt, ih]
  | swap x y l => simp only [cnt]; omega
  | trans _ _ i1 i2 => rw [i1, i2]
theorem bal_cnt (p : List Nat) : ∀ rs : List Row, bal p rs = cnt p (rs.map Row.s) - cnt p (rs.map Row.e)
  | [] => rfl
  | r :: rs => by simp only [bal, List.map_cons, cnt, bal_cnt p rs]; omega
theorem bal_filter (p : List Nat) : ∀ rs : List Row, bal p (rs.filter fun r => !decide (r.s = r.e)) = bal p rs
  | [] => rfl
  | r :: rs => by
    rw [List.filter_cons]
    by_cases h : r.s = r.e
    · simp [h, bal, bal_filter p rs]
    · simp [h, bal, bal_filter p rs]
def rowZ (bs ss es : List (List Nat)) (j : Nat) : Row := ⟨bs[j]!, ss[j]!, es[j]!⟩
def rowsZ (bs ss es : List (List Nat)) (n : Nat) : List Row := (List.range n).map (rowZ bs ss es)
theorem map_getE (l : List (List Nat)) : (List.range l.length).map (fun j => l[j]!) = l := by
  apply List.ext_getElem
  · simp
  · intro i h1 h2
    simp [h2]
theorem rowsZ_b {bs ss es : List (List Nat)} {n : Nat} (h : bs.length = n) : (rowsZ bs ss es n).map Row.b = bs := by
  subst h; unfold rowsZ; rw [List.map_map]; exact map_getE bs
theorem rowsZ_s {bs ss es : List (List Nat)} {n : Nat} (h : ss.length = n) : (rowsZ bs ss es n).map Row.s = ss := by
  subst h; unfold rowsZ; rw [List.map_map]; exact map_getE ss
theorem rowsZ_e {bs ss es : List (List Nat)} {n : Nat} (h : es.length = n) : (rowsZ bs ss es n).map Row.e = es := by
  subst h; unfold rowsZ; rw [List.map_map]; exact map_getE es
theorem rowsZ_ok {bs ss es : List (List Nat)} {n : Nat} (m : Int) (hb : bs.length = n) (hs : ss.length = n) (he : es.length = n) (nb : ∀ l ∈ bs, Nm l) (ns : ∀ l ∈ ss, Nm l) (ne : ∀ l ∈ es, Nm l) (nd : bs.Nodup) (pe : es.Perm ss) (hm : (n : Int) ≤ m) : Rows m ((rowsZ bs ss es n).filter fun r => !decide (r.s = r.e)) := by
  refine ⟨fun r h => ?_, ?_, fun p => ?_, ?_⟩
  · have h1 := List.mem_filter.mp h
    obtain ⟨j, hj, rfl⟩ := List.mem_map.mp h1.1
    rw [List.mem_range] at hj
    refine ⟨nb _ (mem_getE (by omega)), ns _ (mem_getE (by omega)), ne _ (mem_getE (by omega)), fun e => ?_⟩
    have := h1.2
    simp [e] at this
  · have : ((rowsZ bs ss es n).map Row.b).Nodup := by rw [rowsZ_b hb]; exact nd
    exact this.sublist (List.Sublist.map Row.b List.filter_sublist)
  · rw [bal_filter, bal_cnt, rowsZ_s hs, rowsZ_e he, cnt_perm pe]; omega
  · have := List.length_filter_le (fun r : Row => !decide (r.s = r.e)) (rowsZ bs ss es n)
    have h2 : (rowsZ bs ss es n).length = n := by simp [rowsZ]
    omega
theorem dNe_S (a b : List Nat) : dNe (S a) (S b) = shB (!decide (a = b)) := by
  unfold dNe
  have h : (fitD deep (S a) && fitD deep (S b)) = true := rfl
  rw [if_pos h, eqv_S]
end Lk52

set_option Elab.async false
set_option linter.all false
set_option maxRecDepth 100000
set_option maxHeartbeats 2000000
namespace Lk52
open PySem RX
theorem dIx_S {l : List (List Nat)} {j : Nat} (h : j < l.length) : dIx (.lst (l.map S)) (.int (j : Int)) = some ⟨.sh, S l[j]!⟩ := by
  rw [dIx_l, atI_S h]; rfl
theorem rows_ev (st : Sto) (hs : Ok st) (most : Int) (h0 : 1 ≤ most) (hm : most ≤ 12) : ∃ (rs : List Row) (st' : Sto), f_l_rows [.sto, .int most] st = .ok ⟨.fr, .lst (rs.map R)⟩ st' ∧ Ok st' ∧ Rows most rs := by
  obtain ⟨f, s1, e1, o1, f0, f1⟩ := take_s st hs 2 (by decide) (by decide)
  by_cases c : f = 0
  · obtain ⟨rs, s2, e2, o2, h2⟩ := arrows_ev s1 o1 most (by omega) hm
    refine ⟨rs, s2, ?_, o2, h2⟩
    simp [f_l_rows, fnM, m_l_rows_ap, callW_sh', e1, c, e2]
  obtain ⟨m, s2, e2, o2, m0, m1⟩ := number_ev s1 o1 0 most (by decide) (by omega) (by omega)
  obtain ⟨r, s3, e3, o3, r0, r1⟩ := take_s s2 o2 most h0 (by omega)
  obtain ⟨ps, s4, e4, o4, ndp, nmp, lp⟩ := names_ev s3 o3 (2 + r) (by omega) (by omega)
  obtain ⟨bx, s5, e5, o5, ndb, nmb, lb⟩ := names_ev s4 o4 m (by omega) (by omega)
  obtain ⟨n, rfl⟩ : ∃ n : Nat, m = n := ⟨m.toNat, by omega⟩
  have hps : ps ≠ [] := fun e => by subst e; simp at lp; omega
  obtain ⟨ss, s6, e6, o6, a6, l6⟩ := begins_loop ps hps (by omega) [.v .sto, .v (.int most), .v (.int n), .v (.lst (ps.map S)), .v (.lst (bx.map S)), .emp, .emp, .emp, .emp, .emp]
    (fun d st => by simp [callW_sh']) (rngD 0 n) [] s5 o5 (by simp)
  rw [rngD_len] at l6
  obtain ⟨es, s7, e7, o7, p7⟩ := shufS_ev s6 o6 ss (by rw [l6]; simp; omega)
  have lss : ss.length = n := by rw [l6]; simp
  have les : es.length = n := by rw [p7.length_eq, lss]
  have lbx : bx.length = n := by omega
  have b1 : (-1000 : Int) ≤ (n : Int) := by omega
  have b2 : (n : Int) ≤ 1000000 := by omega
  have z : (0 : Nat) ≤ line := by decide
  have z3 : (3 : Nat) ≤ line := by decide
  have L1 : mLc (mRng (mCons (mVar 2) mNil)) (gN 6) mYes (mCall0 f_l_pick (mCons (mVar 0) (mCons (mVar 3) mNil))) [6] ⟨[.v .sto, .v (.int most), .v (.int n), .v (.lst (ps.map S)), .v (.lst (bx.map S)), .emp, .emp, .emp, .emp, .emp], s5⟩ = .ok ⟨.fr, .lst (ss.map S)⟩ s6 :=
    lc_ev (ds := rngD 0 n) (st := s5) (by simp [b1, b2]) (by rw [rngD_len]; omega) rfl e6
  have L2' : mLc (mRng (mCons (mVar 2) mNil)) (gN 6) mYes (mTup (mCons (mOp dIx (mVar 4) (mVar 6)) (mCons (mOp dIx (mVar 5) (mVar 6)) (mCons (mOp dIx (mVar 7) (mVar 6)) mNil)))) [6] ⟨[.v .sto, .v (.int most), .v (.int n), .v (.lst (ps.map S)), .v (.lst (bx.map S)), .v (.lst (ss.map S)), .emp, .v (.lst (es.map S)), .emp, .emp], s7⟩ = .ok ⟨.fr, .lst ((rowsZ bx ss es n).map R)⟩ s7 := by
    refine lc_ev (ds := rngD 0 n) (st := s7) (by simp [b1, b2]) (by rw [rngD_len]; omega) rfl ?_
    have q := lcD_pure (tg := gN 6) (tt := mYes) (el := mTup (mCons (mOp dIx (mVar 4) (mVar 6)) (mCons (mOp dIx (mVar 5) (mVar 6)) (mCons (mOp dIx (mVar 7) (mVar 6)) mNil)))) (env := [.v .sto, .v (.int most), .v (.int n), .v (.lst (ps.map S)), .v (.lst (bx.map S)), .v (.lst (ss.map S)), .emp, .v (.lst (es.map S)), .emp, .emp]) (st := s7)
      (fun d => match d with | .int i => some (R (rowZ bx ss es i.toNat)) | _ => none) (rngD 0 n) [] (fun d hd => by
        rw [rngD_0] at hd
        obtain ⟨j, hj, rfl⟩ := List.mem_map.mp hd
        rw [List.mem_range] at hj
        refine ⟨_, rfl, .inr ⟨R (rowZ bx ss es j), .sh, rfl, rfl, ?_, .inl rfl⟩⟩
        simp [dIx_S (l := bx) (j := j) (by omega), dIx_S (l := ss) (j := j) (by omega), dIx_S (l := es) (j := j) (by omega), z3, rowZ])
    have f : (rngD 0 n).filterMap (fun d => match d with | .int i => some (R (rowZ bx ss es i.toNat)) | _ => none) = (rowsZ bx ss es n).map R := by
      rw [rngD_0, List.filterMap_map, rowsZ, List.map_map]
      rw [← List.filterMap_eq_map]
      rfl
    rw [f, List.nil_append] at q
    exact q
  have L3 : mLc (mSrc seqD (mVar 8)) (gN 9) (mB (mOp dNe (mOp dIx (mVar 9) (mC (.int 1))) (mOp dIx (mVar 9) (mC (.int 2))))) (mVar 9) [9] ⟨[.v .sto, .v (.int most), .v (.int n), .v (.lst (ps.map S)), .v (.lst (bx.map S)), .v (.lst (ss.map S)), .emp, .v (.lst (es.map S)), .v (.lst ((rowsZ bx ss es n).map R)), .emp], s7⟩ = .ok ⟨.fr, .lst (((rowsZ bx ss es n).filter fun r => !decide (r.s = r.e)).map R)⟩ s7 := by
    refine lc_ev (ds := (rowsZ bx ss es n).map R) (st := s7) (by simp [seqD]) (by simp [rowsZ]; omega) rfl ?_
    have q : ∀ (rs : List Row) (acc : List D), lcD (gN 9) (mB (mOp dNe (mOp dIx (mVar 9) (mC (.int 1))) (mOp dIx (mVar 9) (mC (.int 2))))) (mVar 9) [.v .sto, .v (.int most), .v (.int n), .v (.lst (ps.map S)), .v (.lst (bx.map S)), .v (.lst (ss.map S)), .emp, .v (.lst (es.map S)), .v (.lst ((rowsZ bx ss es n).map R)), .emp] (rs.map R) s7 acc = .ok (acc ++ ((rs.filter fun r => !decide (r.s = r.e)).map R)) s7 := by
      intro rs
      induction rs with
      | nil => intro acc; simp [lcD]
      | cons r rs ih =>
        intro acc
        have t : (mB (mOp dNe (mOp dIx (mVar 9) (mC (.int 1))) (mOp dIx (mVar 9) (mC (.int 2))))) ⟨[.v .sto, .v (.int most), .v (.int n), .v (.lst (ps.map S)), .v (.lst (bx.map S)), .v (.lst (ss.map S)), .emp, .v (.lst (es.map S)), .v (.lst ((rowsZ bx ss es n).map R)), .v (R r)], s7⟩ = .ok (!decide (r.s = r.e)) s7 := by
          have a1 : dIx (R r) (.int 1) = some ⟨.sh, S r.s⟩ := rfl
          have a2 : dIx (R r) (.int 2) = some ⟨.sh, S r.e⟩ := rfl
          simp only [ap_b, ap_op, ap_var9, ap_c, Rs.bind, a1, a2, ap_ofO, dNe_S, shB, shV, ap_asB]
        rw [List.map_cons]
        unfold lcD
        simp only [ap_gN, List.set, t, List.filter_cons]
        by_cases c : r.s = r.e
        · simp [c, ih]
        · simp [c, ih]
    have := q (rowsZ bx ss es n) []
    rw [List.nil_append] at this
    exact this
  refine ⟨_, s7, ?_, o7, rowsZ_ok most lbx lss les nmb (fun l h => nmp l (a6 l h)) (fun l h => nmp l (a6 l (p7.mem_iff.mp h))) ndb p7 m1⟩
  have main : m_l_rows ⟨[.v .sto, .v (.int most), .emp, .emp, .emp, .emp, .emp, .emp, .emp, .emp], st⟩ = .ok (.ret ⟨.fr, .lst (((rowsZ bx ss es n).filter fun r => !decide (r.s = r.e)).map R)⟩) ⟨[.v .sto, .v (.int most), .v (.int n), .v (.lst (ps.map S)), .v (.lst (bx.map S)), .v (.lst (ss.map S)), .emp, .v (.lst (es.map S)), .v (.lst ((rowsZ bx ss es n).map R)), .emp], s7⟩ := by
    rw [m_l_rows_ap]
    simp [callW_sh', e1, c, e2, e3, e4, e5, L1, e7, L2', L3]
  simp [f_l_rows, fnM, main]
end Lk52

set_option Elab.async false
set_option linter.all false
set_option maxRecDepth 100000
set_option maxHeartbeats 2000000
namespace Lk52
open PySem RX
theorem signs_in : ∀ k : Nat, k < 128 → isSign k = true → decide (k ∈ ("abcdefghijklmnopqrstuvwxyz0123456789" : Str).cps.toList) = true := by decide +kernel
theorem lets_in : ∀ k : Nat, k < 128 → isLet k = true → decide (k ∈ ("abcdefghijklmnopqrstuvwxyz" : Str).cps.toList) = true := by decide +kernel
theorem isSign_lt {k : Nat} (h : isSign k = true) : k < 128 := by
  unfold isSign at h
  simp only [Bool.or_eq_true, Bool.and_eq_true, decide_eq_true_eq] at h
  omega
theorem notIn_sign {c : Nat} (h : isSign c = true) : dNotIn (.str ⟨#[c]⟩) (.str "abcdefghijklmnopqrstuvwxyz0123456789") = shB false := by
  have e := signs_in c (isSign_lt h) h
  show ((if 1 = 1 then some (decide (c ∈ ("abcdefghijklmnopqrstuvwxyz0123456789" : Str).cps.toList)) else none : Option Bool).map fun b => (⟨.sh, .bl (!b)⟩ : Val)) = _
  rw [e]; rfl
theorem notIn_let {c : Nat} (h : isLet c = true) : dNotIn (.str ⟨#[c]⟩) (.str "abcdefghijklmnopqrstuvwxyz") = shB false := by
  have e := lets_in c (isSign_lt (isLet_sign h)) h
  show ((if 1 = 1 then some (decide (c ∈ ("abcdefghijklmnopqrstuvwxyz" : Str).cps.toList)) else none : Option Bool).map fun b => (⟨.sh, .bl (!b)⟩ : Val)) = _
  rw [e]; rfl
theorem is_name_loop (x0 : Slot) : ∀ (cs : List Nat) (x1 : Slot) (st : Sto), (∀ c ∈ cs, isSign c = true) → ∃ x1', forD (gN 1) m_is_name_b1 (cs.map fun c => .str ⟨#[c]⟩) ⟨[x0, x1], st⟩ = .ok .nx ⟨[x0, x1'], st⟩
  | [], x1, st, _ => ⟨x1, rfl⟩
  | c :: cs, x1, st, h => by
    obtain ⟨x', e⟩ := is_name_loop x0 cs (.v (.str ⟨#[c]⟩)) st fun d hd => h d (List.mem_cons_of_mem _ hd)
    refine ⟨x', ?_⟩
    have n := notIn_sign (h c List.mem_cons_self)
    simp [forD_cons, m_is_name_b1_ap, n, e]
theorem is_name_ev (st : Sto) {l : List Nat} (h : Nm l) : f_is_name [S l] st = .ok ⟨.sh, .bl true⟩ st := by
  obtain ⟨c, t, rfl, hc⟩ := h.hd
  have hl := h.len
  obtain ⟨x1, e⟩ := is_name_loop (.v (S (c :: t))) (c :: t) .emp st h.all
  have d1 : dIsi tbB (fun _ => false) [S (c :: t), .ty "str"] = shB true := rfl
  have d2 : dLen [S (c :: t)] = shI ((t.length : Int) + 1) := by rw [dLen_S (by omega)]; simp
  have d3 : dIx (S (c :: t)) (.int 0) = some ⟨.sh, .str ⟨#[c]⟩⟩ := by
    have hl' : (⟨(c :: t).toArray⟩ : Str).length ≤ line := by
      show (c :: t).toArray.size ≤ line
      simp only [List.size_toArray]
      unfold line; omega
    unfold dIx
    simp only [hl', if_true]
    have a : L2.atI (c :: t) 0 = some c := by
      have := atI_nat (xs := c :: t) (i := 0) (by decide) (by simp <;> omega)
      simpa using this
    show Option.map _ (L2.atI (c :: t) 0) = _
    rw [a]
    rfl
  have d4 : seqD (S (c :: t)) = some ((c :: t).map fun c => .str ⟨#[c]⟩) := rfl
  have i1 : (1 : Int) ≤ (t.length : Int) + 1 := by omega
  have i2 : (t.length : Int) + 1 ≤ 8 := by simp at hl; omega
  simp only [List.map_cons] at e d4
  simp [f_is_name, fnM, m_is_name_ap, d1, d2, d3, d4, notIn_let hc, i1, i2, e]
theorem valid_name_ev (st : Sto) {l : List Nat} (h : Nm l) : f_valid_name [S l] st = .ok ⟨.sh, S l⟩ st := by
  simp [f_valid_name, fnM, m_valid_name_ap, callW_sh', is_name_ev st h]
end Lk52

set_option Elab.async false
set_option linter.all false
set_option maxRecDepth 100000
set_option maxHeartbeats 2000000
namespace Lk52
open PySem RX
abbrev key (l : List Nat) : Sum Int Str := .inr ⟨l.toArray⟩
theorem key_inj {a b : List Nat} (h : key a = key b) : a = b := by
  have h : (⟨a.toArray⟩ : Str) = ⟨b.toArray⟩ := Sum.inr.inj h
  have := congrArg (fun x : Str => x.cps.toList) h
  simpa using this
def kd (rs : List Row) : List (Sum Int Str × D) := rs.map fun r => (key r.b, R r)
theorem kd_none {l : List Nat} : ∀ {rs : List Row}, l ∉ rs.map Row.b → kGet (kd rs) (key l) = none
  | [], _ => rfl
  | r :: rs, h => by
    rw [List.map_cons, List.mem_cons, not_or] at h
    have n : ¬ key r.b = key l := fun e => h.1 (key_inj e).symm
    have ih := kd_none (rs := rs) h.2
    unfold kd at ih ⊢
    rw [List.map_cons, kGet, if_neg n]
    exact ih
theorem kd_some {r : Row} : ∀ {rs : List Row}, (rs.map Row.b).Nodup → r ∈ rs → kGet (kd rs) (key r.b) = some (R r)
  | q :: rs, nd, h => by
    rw [List.map_cons, List.nodup_cons] at nd
    unfold kd
    rw [List.map_cons, kGet]
    rcases List.mem_cons.mp h with rfl | h
    · rw [if_pos rfl]
    · have n : ¬ key q.b = key r.b := fun e => nd.1 (by rw [key_inj e]; exact List.mem_map_of_mem h)
      rw [if_neg n]
      exact kd_some nd.2 h
theorem dEq_S (a b : List Nat) : dEq (S a) (S b) = shB (decide (a = b)) := by
  unfold dEq
  have h : (fitD deep (S a) && fitD deep (S b)) = true := rfl
  rw [if_pos h, eqv_S]
theorem require_arrow_ev (st : Sto) {r : Row} (h : RowOk r) {rs : List Row} (n : r.b ∉ rs.map Row.b) : f_require_arrow [R r, .dic (kd rs)] st = .ok ⟨.sh, .non⟩ st := by
  have d1 : dIn (S r.b) (.dic (kd rs)) = shB false := by
    show ((dKey (S r.b)).map fun k => (kGet (kd rs) k).isSome).map _ = _
    have : dKey (S r.b) = some (key r.b) := rfl
    rw [this]
    simp only [Option.map_some, kd_none n]
    rfl
  have d2 : dEq (S r.s) (S r.e) = shB false := by rw [dEq_S, decide_eq_false h.ne]
  have a : mAsgT (gT 3 (gsCons (gN 2) (gsCons (gN 3) (gsCons (gN 4) gsNil)))) (mVar 0) ⟨[.v (R r), .v (.dic (kd rs)), .emp, .emp, .emp], st⟩ = .ok .nx ⟨[.v (R r), .v (.dic (kd rs)), .v (S r.b), .v (S r.s), .v (S r.e)], st⟩ := rfl
  simp only [f_require_arrow, fnM]
  have main : m_require_arrow ⟨[.v (R r), .v (.dic (kd rs)), .emp, .emp, .emp], st⟩ = .ok .nx ⟨[.v (R r), .v (.dic (kd rs)), .v (S r.b), .v (S r.s), .v (S r.e)], st⟩ := by
    rw [m_require_arrow_ap, ap_seq, a]
    simp [callW_sh', valid_name_ev _ h.b, valid_name_ev _ h.s, valid_name_ev _ h.e, d1, d2]
  simp [main]
end Lk52

set_option Elab.async false
set_option linter.all false
set_option maxRecDepth 100000
set_option maxHeartbeats 2000000
namespace Lk52
open PySem RX
theorem kPut_new {α : Type} {k : Sum Int Str} {x : α} : ∀ {ds : List (Sum Int Str × α)}, (∀ q ∈ ds, q.1 ≠ k) → kPut ds k x = ds ++ [(k, x)] := by
  intro ds h
  unfold kPut
  rw [if_neg]
  intro e
  rw [List.any_eq_true] at e
  obtain ⟨q, hq, e⟩ := e
  exact h q hq (of_decide_eq_true e)
theorem kd_new {rs : List Row} {r : Row} (n : r.b ∉ rs.map Row.b) : kPut (kd rs) (key r.b) (R r) = kd (rs ++ [r]) := by
  rw [kPut_new]
  · unfold kd; rw [List.map_append]; rfl
  · intro q hq e
    obtain ⟨r', hr, rfl⟩ := List.mem_map.mp hq
    exact n (by rw [← key_inj e]; exact List.mem_map_of_mem hr)
theorem init_loop (x0 x1 : Slot) : ∀ (ks rs : List Row) (x3 x4 : Slot) (st : Sto), (∀ r ∈ ks, RowOk r) → ((rs ++ ks).map Row.b).Nodup → rs.length + ks.length ≤ 1000 →
    ∃ x3', forD (gN 3) m_Webd__initd__b1 (ks.map R) ⟨[x0, x1, .own (.dic (kd rs)), x3, x4], st⟩ = .ok .nx ⟨[x0, x1, .own (.dic (kd (rs ++ ks))), x3', x4], st⟩
  | [], rs, x3, x4, st, _, _, _ => ⟨x3, by simp [forD]⟩
  | r :: ks, rs, x3, x4, st, h, nd, hl => by
    have e : rs ++ r :: ks = (rs ++ [r]) ++ ks := by simp
    have n : r.b ∉ rs.map Row.b := by
      rw [List.map_append, List.map_cons] at nd
      have := List.nodup_append.mp nd
      exact fun m => this.2.2 _ m _ List.mem_cons_self rfl
    obtain ⟨x3', ih⟩ := init_loop x0 x1 ks (rs ++ [r]) (.v (R r)) x4 st (fun q hq => h q (List.mem_cons_of_mem _ hq)) (by rw [← e]; exact nd) (by simp at hl ⊢; omega)
    refine ⟨x3', ?_⟩
    rw [e, List.map_cons, forD_cons, ap_gN]
    have ra := require_arrow_ev st (h r List.mem_cons_self) n
    have i0 : dIx (R r) (.int 0) = some ⟨.sh, S r.b⟩ := rfl
    have i1 : dIx (R r) (.int 1) = some ⟨.sh, S r.s⟩ := rfl
    have i2 : dIx (R r) (.int 2) = some ⟨.sh, S r.e⟩ := rfl
    have z3 : (3 : Nat) ≤ line := by decide
    have pi : putIx (.dic (kd rs)) (S r.b) (R r) = some (.dic (kd (rs ++ [r]))) := by
      have hk : (kd rs).length < line := by simp [kd]; unfold line; simp at hl; omega
      have dk : dKey (S r.b) = some (key r.b) := rfl
      simp only [putIx, dk, Option.bind_some, hk, if_true, kd_new n]
    have bd : m_Webd__initd__b1 ⟨[x0, x1, .own (.dic (kd rs)), .v (R r), x4], st⟩ = .ok .nx ⟨[x0, x1, .own (.dic (kd (rs ++ [r]))), .v (R r), x4], st⟩ := by
      have cw : callW f_require_arrow [⟨.sh, R r⟩, ⟨.ow 2, .dic (kd rs)⟩] [] st = .ok ⟨.sh, .non⟩ st := by
        unfold callW
        simp [ra]
        exact ⟨rfl, rfl, rfl⟩
      have a1 : mDrop (mCall0 f_require_arrow (mCons (mVar 3) (mCons (mVar 2) mNil))) ⟨[x0, x1, .own (.dic (kd rs)), .v (R r), x4], st⟩ = .ok .nx ⟨[x0, x1, .own (.dic (kd rs)), .v (R r), x4], st⟩ := by
        simp only [ap_drop, ap_call0, ap_cons, ap_var3, ap_own2, ap_nil, Rs.bind, ap_settle, ap_settleO, cw, noEx_ok]
      have a2 : mTup (mCons (mOp dIx (mVar 3) (mC (.int 0))) (mCons (mOp dIx (mVar 3) (mC (.int 1))) (mCons (mOp dIx (mVar 3) (mC (.int 2))) mNil))) ⟨[x0, x1, .own (.dic (kd rs)), .v (R r), x4], st⟩ = .ok ⟨.sh, R r⟩ st := by
        simp [i0, i1, i2, z3]
      have a3 : mOp dIx (mVar 3) (mC (.int 0)) ⟨[x0, x1, .own (.dic (kd rs)), .v (R r), x4], st⟩ = .ok ⟨.sh, S r.b⟩ st := by
        simp [i0]
      rw [m_Webd__initd__b1_ap, ap_seq, a1]
      show mPut 2 _ _ _ = _
      unfold mPut
      rw [a2]
      simp only [liftS, List.getElem?_cons_succ, List.getElem?_cons_zero, a3, pi, List.set]
    show (match m_Webd__initd__b1 ⟨[x0, x1, .own (.dic (kd rs)), .v (R r), x4], st⟩ with | .ok .nx s2 => _ | .ok .ct s2 => _ | .ok .bk s2 => _ | r => r) = _
    rw [bd]
    exact ih
end Lk52

set_option Elab.async false
set_option linter.all false
set_option maxRecDepth 100000
set_option maxHeartbeats 2000000
namespace Lk52
open PySem RX
/-- what each place has left over -/
def sp (ps : List (List Nat)) (f : List Nat → Int) : List (Sum Int Str × D) := ps.map fun p => (key p, .int (f p))
theorem sp_get (f : List Nat → Int) (p : List Nat) : ∀ ps : List (List Nat), kGet (sp ps f) (key p) = if p ∈ ps then some (.int (f p)) else none
  | [] => by simp [sp, kGet]
  | q :: ps => by
    have ih := sp_get f p ps
    unfold sp at ih ⊢
    rw [List.map_cons, kGet, ih]
    by_cases h : q = p
    · subst h; simp
    · have n : ¬ key q = key p := fun e => h (key_inj e)
      have h' : ¬ p = q := fun e => h e.symm
      rw [if_neg n]
      simp [h']
theorem sp_put (f g : List Nat → Int) (p : List Nat) (hg : ∀ q, q ≠ p → g q = f q) (ps : List (List Nat)) : ∃ ps', kPut (sp ps f) (key p) (.int (g p)) = sp ps' g ∧ (∀ q, q ∈ ps' ↔ q = p ∨ q ∈ ps) ∧ ps'.length ≤ ps.length + 1 := by
  by_cases h : p ∈ ps
  · refine ⟨ps, ?_, fun q => ⟨.inr, fun c => c.elim (fun e => e ▸ h) id⟩, by omega⟩
    unfold kPut
    rw [if_pos]
    · unfold sp
      rw [List.map_map]
      apply List.map_congr_left
      intro q _
      by_cases e : q = p
      · subst e; simp
      · have n : ¬ key q = key p := fun x => e (key_inj x)
        simp only [Function.comp, n, if_false, hg q e]
    · rw [List.any_eq_true]
      exact ⟨(key p, .int (f p)), List.mem_map_of_mem (f := fun p => (key p, D.int (f p))) h, decide_eq_true rfl⟩
  · refine ⟨ps ++ [p], ?_, fun q => by simp [or_comm], by simp⟩
    rw [kPut_new]
    · unfold sp
      rw [List.map_append]
      congr 1
      apply List.map_congr_left
      intro q hq
      rw [hg q (fun e => h (e ▸ hq))]
    · intro q hq e
      obtain ⟨r, hr, rfl⟩ := List.mem_map.mp hq
      exact h (key_inj e ▸ hr)
end Lk52

set_option Elab.async false
set_option linter.all false
set_option maxRecDepth 100000
set_option maxHeartbeats 2000000
namespace Lk52
open PySem RX
theorem ind_ne {a q : List Nat} (h : q ≠ a) : ind a q = 0 := if_neg fun e => h e.symm
theorem bal_loop (x0 x3 : Slot) : ∀ (ks rs : List Row) (ps : List (List Nat)) (x2 : Slot) (st : Sto), (∀ q, q ∉ ps → bal q rs = 0) → ps.length + 2 * ks.length ≤ 1000 →
    ∃ (ps' : List (List Nat)) (x2' : Slot), forD (gN 2) m_require_balance_b1 (ks.map R) ⟨[x0, .own (.dic (sp ps fun q => bal q rs)), x2, x3], st⟩ = .ok .nx ⟨[x0, .own (.dic (sp ps' fun q => bal q (rs ++ ks))), x2', x3], st⟩ ∧ ps'.length ≤ ps.length + 2 * ks.length
  | [], rs, ps, x2, st, _, _ => ⟨ps, x2, by simp [forD], by simp⟩
  | r :: ks, rs, ps, x2, st, h, hl => by
    simp only [List.length_cons] at hl
    obtain ⟨ps1, e1, m1, l1⟩ := sp_put (fun q => bal q rs) (fun q => bal q rs + ind r.s q) r.s (fun q hq => by show bal q rs + ind r.s q = bal q rs; rw [ind_ne hq]; omega) ps
    obtain ⟨ps2, e2, m2, l2⟩ := sp_put (fun q => bal q rs + ind r.s q) (fun q => bal q (rs ++ [r])) r.e (fun q hq => by
      show bal q (rs ++ [r]) = bal q rs + ind r.s q
      rw [bal_append]; simp only [bal]; rw [ind_ne hq]; omega) ps1
    have hin : ∀ q, q ∉ ps2 → bal q (rs ++ [r]) = 0 := fun q hq => by
      rw [m2, not_or, m1, not_or] at hq
      rw [bal_append, h q hq.2.2]; simp only [bal]; rw [ind_ne hq.1, ind_ne hq.2.1]; omega
    have ea : rs ++ r :: ks = (rs ++ [r]) ++ ks := by simp
    obtain ⟨ps', x2', ih, lp⟩ := bal_loop x0 x3 ks (rs ++ [r]) ps2 (.v (R r)) st hin (by omega)
    refine ⟨ps', x2', ?_, by simp only [List.length_cons]; omega⟩
    rw [ea, List.map_cons, forD_cons, ap_gN]
    have i1 : dIx (R r) (.int 1) = some ⟨.sh, S r.s⟩ := rfl
    have i2 : dIx (R r) (.int 2) = some ⟨.sh, S r.e⟩ := rfl
    have dk1 : dKey (S r.s) = some (key r.s) := rfl
    have dk2 : dKey (S r.e) = some (key r.e) := rfl
    have g1 : (kGet (sp ps fun q => bal q rs) (key r.s)).getD (.int 0) = .int (bal r.s rs) := by
      rw [sp_get (fun q => bal q rs)]
      by_cases c : r.s ∈ ps
      · rw [if_pos c]; rfl
      · rw [if_neg c, h _ c]; rfl
    have g2 : (kGet (sp ps1 fun q => bal q rs + ind r.s q) (key r.e)).getD (.int 0) = .int (bal r.e rs + ind r.s r.e) := by
      rw [sp_get (fun q => bal q rs + ind r.s q)]
      by_cases c : r.e ∈ ps1
      · rw [if_pos c]; rfl
      · have c' := c
        rw [m1, not_or] at c'
        rw [if_neg c, h _ c'.2, ind_ne c'.1]; rfl
    have p1 : putIx (.dic (sp ps fun q => bal q rs)) (S r.s) (.int (bal r.s rs + 1)) = some (.dic (sp ps1 fun q => bal q rs + ind r.s q)) := by
      have hk : (sp ps fun q => bal q rs).length < line := by simp [sp]; unfold line; omega
      simp only [putIx, dk1, Option.bind_some, hk, if_true, ← e1, ind_self]
    have p2 : putIx (.dic (sp ps1 fun q => bal q rs + ind r.s q)) (S r.e) (.int (bal r.e rs + ind r.s r.e - 1)) = some (.dic (sp ps2 fun q => bal q (rs ++ [r]))) := by
      have hk : (sp ps1 fun q => bal q rs + ind r.s q).length < line := by simp [sp]; unfold line; omega
      have hv : bal r.e (rs ++ [r]) = bal r.e rs + ind r.s r.e - 1 := by rw [bal_append]; simp only [bal, ind_self]; omega
      rw [hv] at e2
      simp only [putIx, dk2, Option.bind_some, hk, if_true, e2]
    have bd : m_require_balance_b1 ⟨[x0, .own (.dic (sp ps fun q => bal q rs)), .v (R r), x3], st⟩ = .ok .nx ⟨[x0, .own (.dic (sp ps2 fun q => bal q (rs ++ [r]))), .v (R r), x3], st⟩ := by
      rw [m_require_balance_b1_ap, ap_seq]
      simp [mPut, mGet2, liftS, i1, i2, dk1, dk2, g1, g2, p1, p2]
    show (match m_require_balance_b1 ⟨[x0, .own (.dic (sp ps fun q => bal q rs)), .v (R r), x3], st⟩ with | .ok .nx s2 => _ | .ok .ct s2 => _ | .ok .bk s2 => _ | r => r) = _
    rw [bd]
    exact ih
end Lk52

set_option Elab.async false
set_option linter.all false
set_option maxRecDepth 100000
set_option maxHeartbeats 2000000
namespace Lk52
open PySem RX
theorem keyStrs_map {α : Type} (g : α → List Nat) (h : α → D) : ∀ l : List α, keyStrs (l.map fun a => (key (g a), h a)) = some (l.map fun a => (⟨(g a).toArray⟩ : Str))
  | [] => rfl
  | a :: l => by
    rw [List.map_cons, keyStrs, keyStrs_map g h l]
    rfl
theorem sort_map {α : Type} (g : α → List Nat) (h : α → D) (l : List α) (hl : l.length < 64) : ∃ ls : List (List Nat), dSortB [.dic (l.map fun a => (key (g a), h a))] = some ⟨.fr, .lst (ls.map S)⟩ ∧ ls.Perm (l.map g) ∧ ls.map S = ((l.map fun a => S (g a)).mergeSort leD) := by
  have e : dSortB [.dic (l.map fun a => (key (g a), h a))] = some ⟨.fr, .lst ((l.map fun a => S (g a)).mergeSort leD)⟩ := by
    show ((keyStrs (l.map fun a => (key (g a), h a))).bind fun ks => if ks.length < 64 then some (⟨.fr, .lst ((ks.map D.str).mergeSort leD)⟩ : Val) else none) = _
    rw [keyStrs_map, Option.bind_some, if_pos (by simpa using hl), List.map_map]
    rfl
  have p : ((l.map fun a => S (g a)).mergeSort leD).Perm ((l.map g).map S) := by
    rw [List.map_map]; exact List.mergeSort_perm _ _
  obtain ⟨ls, e2, q⟩ := perm_mapS p
  exact ⟨ls, by rw [e, e2], q, e2.symm⟩
theorem zero_loop (x0 x2 : Slot) (ps : List (List Nat)) (rs : List Row) (hb : ∀ p, bal p rs = 0) : ∀ (ls : List (List Nat)) (x3 : Slot) (st : Sto), (∀ l ∈ ls, l ∈ ps) → ∃ x3', forD (gN 3) m_require_balance_b2 (ls.map S) ⟨[x0, .own (.dic (sp ps fun q => bal q rs)), x2, x3], st⟩ = .ok .nx ⟨[x0, .own (.dic (sp ps fun q => bal q rs)), x2, x3'], st⟩
  | [], x3, st, _ => ⟨x3, rfl⟩
  | l :: ls, x3, st, h => by
    obtain ⟨x3', e⟩ := zero_loop x0 x2 ps rs hb ls (.v (S l)) st fun q hq => h q (List.mem_cons_of_mem _ hq)
    refine ⟨x3', ?_⟩
    have ix : dIx (.dic (sp ps fun q => bal q rs)) (S l) = some ⟨.sh, .int 0⟩ := by
      show ((dKey (S l)).bind fun k => (kGet (sp ps fun q => bal q rs) k).map fun d => (⟨.sh, d⟩ : Val)) = _
      have dk : dKey (S l) = some (key l) := rfl
      rw [dk, Option.bind_some, sp_get (fun q => bal q rs), if_pos (h l List.mem_cons_self), hb l]
      rfl
    simp [forD_cons, m_require_balance_b2_ap, ix, e]
theorem require_balance_ev (st : Sto) (rs : List Row) (hb : ∀ p, bal p rs = 0) (hl : rs.length ≤ 12) : f_require_balance [.lst (rs.map R)] st = .ok ⟨.sh, .non⟩ st := by
  obtain ⟨ps, x2, e1, l1⟩ := bal_loop (.v (.lst (rs.map R))) .emp rs [] [] .emp st (fun _ _ => rfl) (by simp; omega)
  obtain ⟨ls, e2, p2, _⟩ := sort_map (fun p => p) (fun p => D.int (bal p rs)) ps (by simp at l1; omega)
  obtain ⟨x3, e3⟩ := zero_loop (.v (.lst (rs.map R))) x2 ps rs hb ls .emp st fun l hq => by
    have := p2.mem_iff.mp hq
    simpa using this
  rw [List.nil_append] at e1
  have e0 : (sp [] fun q => bal q []) = [] := rfl
  rw [e0] at e1
  have e2 : dSortB [.dic (sp ps fun q => bal q rs)] = some ⟨.fr, .lst (ls.map S)⟩ := e2
  simp [f_require_balance, fnM, m_require_balance_ap, mDNew, seqD, e1, e2, e3]
end Lk52

set_option Elab.async false
set_option linter.all false
set_option maxRecDepth 100000
set_option maxHeartbeats 2000000
namespace Lk52
open PySem RX
theorem perm_map {α β : Type} {f : α → β} {ds : List β} {rs : List α} (h : ds.Perm (rs.map f)) : ∃ rs' : List α, ds = rs'.map f ∧ rs'.Perm rs := by
  generalize e : rs.map f = es at h
  induction h generalizing rs with
  | nil => exact ⟨[], rfl, by rw [List.map_eq_nil_iff] at e; subst e; exact .nil⟩
  | @cons x l1 l2 _ ih =>
    cases rs with
    | nil => cases e
    | cons r rs =>
      rw [List.map_cons, List.cons.injEq] at e
      obtain ⟨rs', e', p⟩ := ih e.2
      exact ⟨r :: rs', by rw [List.map_cons, e.1, e'], p.cons r⟩
  | swap x y l =>
    match rs, e with
    | r :: r' :: rs, e =>
      rw [List.map_cons, List.map_cons, List.cons.injEq, List.cons.injEq] at e
      obtain ⟨rfl, rfl, rfl⟩ := e
      exact ⟨r' :: r :: rs, rfl, .swap _ _ _⟩
  | trans _ _ i1 i2 =>
    obtain ⟨rs1, e1, p1⟩ := i2 e
    obtain ⟨rs2, e2, p2⟩ := i1 e1.symm
    exact ⟨rs2, e2, p2.trans p1⟩
/-- the rows in the order of their boxes -/
structure Sorted (rs wr : List Row) : Prop where
  perm : wr.Perm rs
  bx : wr.map (fun r => S r.b) = (rs.map fun r => S r.b).mergeSort leD
abbrev web (wr : List Row) : D := .obj "Web" [("web_rows", .tup (wr.map R))]
theorem init_ev (st : Sto) (rs : List Row) (m : Int) (h : Rows m rs) (hm : m ≤ 12) (d : D) (hd : seqD d = some (rs.map R)) (hl : dLen [d] = shI (rs.length : Int)) : ∃ wr, f_Webd__initd_ [d] st = .ok (web wr) st ∧ Sorted rs wr := by
  have h12 : rs.length ≤ 12 := by have := h.len; omega
  obtain ⟨x3, e1⟩ := init_loop (.own (.obj "Web" [])) (.v d) rs [] .emp .emp st h.ok (by rw [List.nil_append]; exact h.nd) (by simp; omega)
  rw [List.nil_append] at e1
  have e0 : kd [] = [] := rfl
  rw [e0] at e1
  have e2 := require_balance_ev st rs h.bl h12
  obtain ⟨ls, e3, p3, s3⟩ := sort_map Row.b R rs (by omega)
  obtain ⟨wr, rfl, pw⟩ := perm_map p3
  refine ⟨wr, ?_, pw, by rw [← s3, List.map_map]; rfl⟩
  have e3 : dSortB [.dic (kd rs)] = some ⟨.fr, .lst ((wr.map Row.b).map S)⟩ := e3
  have lw : wr.length = rs.length := pw.length_eq
  have L : mLc (mSrc seqD (mCB dSortB (mCons (mVar 2) mNil))) (gN 4) mYes (mOp dIx (mVar 2) (mVar 4)) [4] ⟨[.own (.obj "Web" []), .v d, .own (.dic (kd rs)), x3, .emp], st⟩ = .ok ⟨.fr, .lst (wr.map R)⟩ st := by
    refine lc_ev (ds := (wr.map Row.b).map S) (st := st) (by simp [e3, seqD]) (by simp; omega) rfl ?_
    have q : ∀ (ws : List Row) (acc : List D), (∀ r ∈ ws, r ∈ rs) → lcD (gN 4) mYes (mOp dIx (mVar 2) (mVar 4)) [.own (.obj "Web" []), .v d, .own (.dic (kd rs)), x3, .emp] ((ws.map Row.b).map S) st acc = .ok (acc ++ ws.map R) st := by
      intro ws
      induction ws with
      | nil => intro acc _; simp [lcD]
      | cons r ws ih =>
        intro acc hw
        have ix : dIx (.dic (kd rs)) (S r.b) = some ⟨.sh, R r⟩ := by
          show ((dKey (S r.b)).bind fun k => (kGet (kd rs) k).map fun d => (⟨.sh, d⟩ : Val)) = _
          have dk : dKey (S r.b) = some (key r.b) := rfl
          rw [dk, Option.bind_some, kd_some h.nd (hw r List.mem_cons_self)]
          rfl
        have ih := ih (acc ++ [R r]) fun q hq => hw q (List.mem_cons_of_mem _ hq)
        rw [List.map_cons, List.map_cons]
        unfold lcD
        simp only [ap_gN, List.set, mYes, ap_op, ap_own2, ap_var4, Rs.bind, ix, ap_ofO, ih]
        simp
    have := q wr [] fun r hr => pw.mem_iff.mp hr
    rw [List.nil_append] at this
    exact this
  have vals : dVals (.dic (kd rs)) = some ⟨.fr, .lst (rs.map R)⟩ := by
    show some (⟨.fr, .lst ((kd rs).map (·.2))⟩ : Val) = _
    unfold kd
    rw [List.map_map]
    rfl
  have c12 : ¬ ((12 : Int) < (rs.length : Int)) := by omega
  have main : m_Webd__initd_ ⟨[.own (.obj "Web" []), .v d, .emp, .emp, .emp], st⟩ = .ok .nx ⟨[.own (web wr), .v d, .own (.dic (kd rs)), x3, .emp], st⟩ := by
    rw [m_Webd__initd__ap]
    simp [hl, c12, mDNew, hd, e1, mListVals, vals, callW_sh', e2, mSetF, liftS, L, fPut]
  show outI (m_Webd__initd_ ⟨[.own (.obj "Web" []), .v d, .emp, .emp, .emp], st⟩) = _
  rw [main]
  rfl
end Lk52

set_option Elab.async false
set_option linter.all false
set_option maxRecDepth 100000
set_option maxHeartbeats 2000000
namespace Lk52
open PySem RX
theorem fitD_R (r : Row) : fitD 39 (R r) = true := rfl
theorem fitL_R : ∀ rs : List Row, fitL 39 (rs.map R) = true
  | [] => by simp [fitL]
  | r :: rs => by rw [List.map_cons, fitL, fitD_R, fitL_R rs]; rfl
theorem eqv_R (r : Row) : PyData.eqv (toP (R r)) (toP (R r)) = true := by
  have a := eqv_S r.b r.b
  have b := eqv_S r.s r.s
  have c := eqv_S r.e r.e
  show (PyData.eqv (toP (S r.b)) (toP (S r.b)) && (PyData.eqv (toP (S r.s)) (toP (S r.s)) && (PyData.eqv (toP (S r.e)) (toP (S r.e)) && true))) = true
  rw [a, b, c]; simp
theorem eqvAll_R : ∀ rs : List Row, PyData.eqvAll (toPL (rs.map R)) (toPL (rs.map R)) = true
  | [] => rfl
  | r :: rs => by
    rw [List.map_cons, toPL, PyData.eqvAll, eqv_R, eqvAll_R rs]; rfl
theorem dNe_R (rs : List Row) : dNe (.lst (rs.map R)) (.lst (rs.map R)) = shB false := by
  unfold dNe
  have h : fitD deep (.lst (rs.map R)) = true := by
    show (decide (0 < 40) && fitL 39 (rs.map R)) = true
    rw [fitL_R]; rfl
  rw [if_pos (by rw [h]; rfl)]
  show shB (!PyData.eqvAll (toPL (rs.map R)) (toPL (rs.map R))) = _
  rw [eqvAll_R]; rfl
theorem web_ev (st : Sto) (hs : Ok st) (rs : List Row) (m : Int) (h : Rows m rs) (hm : m ≤ 12) : ∃ wr st', f_l_web [.sto, .lst (rs.map R)] st = .ok ⟨.sh, web wr⟩ st' ∧ Ok st' ∧ Sorted rs wr := by
  have hlen : rs.length ≤ 12 := by have := h.len; omega
  obtain ⟨s1, o1, e⟩ := row_of_ev st hs (rs.map R)
  have z3 : (3 : Nat) ≤ line := by decide
  rcases e with e | e
  · obtain ⟨wr, e2, sw⟩ := init_ev s1 rs m h hm (.lst (rs.map R)) rfl (by rw [dLen_l, List.length_map])
    refine ⟨wr, s1, ?_, o1, sw⟩
    have cw : callW (mkV f_Webd__initd_) [⟨.ow 2, .lst (rs.map R)⟩] [] s1 = .ok ⟨.fr, web wr⟩ s1 := by
      have hp : pureW ⟨.fr, web wr⟩ = true := by
        show pureF [("web_rows", .tup (wr.map R))] = true
        simp [pureF, pureD, pureR wr]
      unfold callW
      simp [mkV, e2, hp]
      rfl
    have i1 : dIsi tbB (fun _ => false) [.lst (rs.map R), .ty "list"] = shB true := rfl
    have fa : fAppend (rs.map R) [.tup [.str "zz", .str "y", .str "x"]] = some (rs.map R ++ [.tup [.str "zz", .str "y", .str "x"]], .non) := fAppend_ok (by rw [List.length_map]; unfold line; omega)
    simp [f_l_web, fnM, m_l_web_ap, callW_sh', e, mMake0, mMake, cw, dNe_R, i1, z3, fa]
  · obtain ⟨wr, e2, sw⟩ := init_ev s1 rs m h hm (.tup (rs.map R)) rfl (by rw [dLen_t, List.length_map])
    refine ⟨wr, s1, ?_, o1, sw⟩
    have cw : callW (mkV f_Webd__initd_) [⟨.sh, .tup (rs.map R)⟩] [] s1 = .ok ⟨.fr, web wr⟩ s1 := by
      unfold callW
      simp [mkV, e2]
    have i1 : dIsi tbB (fun _ => false) [.tup (rs.map R), .ty "list"] = shB false := rfl
    simp [f_l_web, fnM, m_l_web_ap, callW_sh', e, mMake0, mMake, cw, dNe_R, i1]
end Lk52

set_option Elab.async false
set_option linter.all false
set_option maxRecDepth 100000
set_option maxHeartbeats 2000000
namespace Lk52
open PySem RX
/-! ### rings, with no program in sight -/
/-- xs in the order of a ring that begins with its first row -/
structure Circ (xs c : List Row) : Prop where
  perm : c.Perm xs
  ch : ∀ i (h : i + 1 < c.length), c[i].e = (c[i + 1]'h).s
  fst : c[0]? = xs[0]?
  pos : 0 < c.length
  cl : (c[c.length - 1]'(by omega)).e = (c[0]'pos).s
  nd : (xs.map Row.s).Nodup
theorem uniq_s {xs : List Row} (nd : (xs.map Row.s).Nodup) {a b : Row} (ha : a ∈ xs) (hb : b ∈ xs) (h : a.s = b.s) : a = b := by
  induction xs with
  | nil => cases ha
  | cons x xs ih =>
    rw [List.map_cons, List.nodup_cons] at nd
    rcases List.mem_cons.mp ha with ea | ha'
    · rcases List.mem_cons.mp hb with eb | hb'
      · rw [ea, eb]
      · exact absurd (by rw [← ea, h]; exact List.mem_map_of_mem hb') nd.1
    · rcases List.mem_cons.mp hb with eb | hb'
      · exact absurd (by rw [← eb, ← h]; exact List.mem_map_of_mem ha') nd.1
      · exact ih nd.2 ha' hb'
/-- the law's step -/
def more (xs row : List Row) (l : Row) : List Row := xs.filter fun r => decide (r.s = l.e) && !decide (r ∈ row)
theorem more_one {xs row : List Row} {l q : Row} (nd : (xs.map Row.s).Nodup) (hq : q ∈ xs) (hs : l.e = q.s) (hn : q ∉ row) : (more xs row l).head? = some q := by
  have hm : q ∈ more xs row l := List.mem_filter.mpr ⟨hq, by simp [hs, hn]⟩
  cases e : more xs row l with
  | nil => rw [e] at hm; cases hm
  | cons a t =>
    have ha : a ∈ more xs row l := by rw [e]; exact List.mem_cons_self
    have := List.mem_filter.mp ha
    have h2 := this.2
    simp only [Bool.and_eq_true, decide_eq_true_eq] at h2
    have : a = q := uniq_s nd this.1 hq (by rw [h2.1, hs])
    rw [this]; rfl
def stepL (xs row : List Row) : List Row := match row[row.length - 1]? with
  | none => row
  | some l => match (more xs row l).head? with
    | none => row
    | some r => row ++ [r]
def walkL (xs : List Row) : Nat → List Row → List Row
  | 0, row => row
  | k + 1, row => walkL xs k (stepL xs row)
theorem Circ.nds {xs c : List Row} (h : Circ xs c) : (c.map Row.s).Nodup := (h.perm.map Row.s).nodup_iff.mpr h.nd
theorem nodup_of_map {α β : Type} {f : α → β} {l : List α} (h : (l.map f).Nodup) : l.Nodup := by
  induction l with
  | nil => exact List.nodup_nil
  | cons a l ih =>
    rw [List.map_cons, List.nodup_cons] at h
    rw [List.nodup_cons]
    exact ⟨fun m => h.1 (List.mem_map_of_mem m), ih h.2⟩
theorem take_succ' {α : Type} {l : List α} {k : Nat} (h : k < l.length) : l.take (k + 1) = l.take k ++ [l[k]] := by
  rw [List.take_succ_eq_append_getElem h]
theorem notin_take {α : Type} {l : List α} (nd : l.Nodup) {k : Nat} (h : k < l.length) : l[k] ∉ l.take k := fun m => by
  obtain ⟨i, hi, e⟩ := List.mem_iff_getElem.mp m
  rw [List.length_take] at hi
  rw [List.getElem_take] at e
  have := nodup_inj nd (by omega) h e
  omega
theorem stepL_circ {xs c : List Row} (h : Circ xs c) {k : Nat} (h1 : 1 ≤ k) (hk : k < c.length) : stepL xs (c.take k) = c.take (k + 1) := by
  have l1 : (c.take k).length = k := by rw [List.length_take]; omega
  have l2 : (c.take k)[(c.take k).length - 1]? = some (c[k - 1]'(by omega)) := by
    rw [l1, List.getElem?_take, if_pos (by omega), List.getElem?_eq_getElem (by omega)]
  unfold stepL
  rw [l2]
  have hq : (c[k]'hk) ∈ xs := h.perm.mem_iff.mp (List.getElem_mem hk)
  have hs : (c[k - 1]'(by omega)).e = (c[k]'hk).s := by
    have := h.ch (k - 1) (by omega)
    simp only [show k - 1 + 1 = k by omega] at this
    exact this
  have m := more_one h.nd hq hs (notin_take (nodup_of_map h.nds) hk)
  simp only [m]
  rw [take_succ' hk]
theorem walkL_circ {xs c : List Row} (h : Circ xs c) : ∀ (n k : Nat), 1 ≤ k → k + n ≤ c.length → walkL xs n (c.take k) = c.take (k + n)
  | 0, k, _, _ => rfl
  | n + 1, k, h1, h2 => by
    show walkL xs n (stepL xs (c.take k)) = _
    rw [stepL_circ h h1 (by omega), walkL_circ h n (k + 1) (by omega) (by omega)]
    congr 1; omega
end Lk52

set_option Elab.async false
set_option linter.all false
set_option maxRecDepth 100000
set_option maxHeartbeats 2000000
namespace Lk52
open PySem RX
theorem perm_of_sub {α : Type} [DecidableEq α] : ∀ {a b : List α}, a.Nodup → (∀ x ∈ a, x ∈ b) → b.length ≤ a.length → a.Perm b
  | [], b, _, _, h => by
    have : b = [] := List.length_eq_zero_iff.mp (by simpa using h)
    subst this; exact .nil
  | x :: a, b, nd, hs, hl => by
    rw [List.nodup_cons] at nd
    have hx := hs x List.mem_cons_self
    have p := List.perm_cons_erase hx
    have le : (b.erase x).length = b.length - 1 := List.length_erase_of_mem hx
    refine ((perm_of_sub (a := a) (b := b.erase x) nd.2 (fun y hy => ?_) (by simp only [List.length_cons] at hl; omega)).cons x).trans p.symm
    have hn : y ≠ x := fun e => nd.1 (e ▸ hy)
    exact (List.mem_erase_of_ne hn).mpr (hs y (List.mem_cons_of_mem _ hy))
/-- a walk along the arrows that has not come home before its last arrow -/
structure Ring (xs row : List Row) : Prop where
  mem : ∀ r ∈ row, r ∈ xs
  ch : ∀ i (h : i + 1 < row.length), row[i].e = (row[i + 1]'h).s
  fst : row[0]? = xs[0]?
  pos : 0 < row.length
  inn : ∀ i (h : i + 1 < row.length), row[i].e ≠ (row[0]'pos).s
def lastE (row : List Row) : List Nat := match row[row.length - 1]? with
  | none => []
  | some r => r.e
theorem lastE_eq {row : List Row} (h : 0 < row.length) : lastE row = (row[row.length - 1]'(by omega)).e := by
  unfold lastE
  rw [List.getElem?_eq_getElem (by omega)]
theorem Ring.one {xs : List Row} (h : 0 < xs.length) : Ring xs [xs[0]] :=
  ⟨fun r hr => by rw [List.mem_singleton] at hr; subst hr; exact List.getElem_mem h, fun i hi => by simp at hi, by simp [h], by simp, fun i hi => by simp at hi⟩
theorem Ring.more {xs row : List Row} (h : Ring xs row) {q : Row} (hq : q ∈ xs) (hs : q.s = lastE row) (hh : lastE row ≠ (row[0]'h.pos).s) : Ring xs (row ++ [q]) := by
  have hp := h.pos
  rw [lastE_eq hp] at hs hh
  refine ⟨fun r hr => ?_, fun i hi => ?_, ?_, by simp, fun i hi => ?_⟩
  · rcases List.mem_append.mp hr with x | x
    · exact h.mem r x
    · rw [List.mem_singleton] at x; subst x; exact hq
  · rw [List.length_append, List.length_singleton] at hi
    rw [List.getElem_append_left (by omega)]
    by_cases c : i + 1 < row.length
    · rw [List.getElem_append_left c]; exact h.ch i c
    · have : i = row.length - 1 := by omega
      subst this
      rw [List.getElem_append_right (by omega)]
      simp [hs]
  · rw [List.getElem?_append_left hp]; exact h.fst
  · rw [List.length_append, List.length_singleton] at hi
    rw [List.getElem_append_left (by omega), List.getElem_append_left hp]
    by_cases c : i + 1 < row.length
    · exact h.inn i c
    · have : i = row.length - 1 := by omega
      subst this
      exact hh
theorem lastE_snoc {row : List Row} {q : Row} : lastE (row ++ [q]) = q.e := by
  unfold lastE
  simp
theorem Ring.same {xs row : List Row} (h : Ring xs row) (nd : (xs.map Row.s).Nodup) {i j : Nat} (hij : i < j) (hj : j < row.length) (e : row[i] = row[j]) : ∀ k (hk : j + k < row.length), (row[i + k]'(by omega)) = row[j + k]
  | 0, _ => e
  | k + 1, hk => by
    have ih := h.same nd hij hj e k (by omega)
    have a := h.ch (i + k) (by omega)
    have b := h.ch (j + k) (by omega)
    rw [ih] at a
    have := uniq_s nd (h.mem _ (List.getElem_mem _)) (h.mem _ (List.getElem_mem _)) (a.symm.trans b)
    exact this
theorem Ring.circ {xs row : List Row} (h : Ring xs row) (nd : (xs.map Row.s).Nodup) (hl : row.length = xs.length) (cl : lastE row = (row[0]'h.pos).s) : Circ xs row := by
  have hp := h.pos
  rw [lastE_eq hp] at cl
  have ndr : row.Nodup := by
    refine List.pairwise_iff_getElem.mpr fun i j hi hj hij e => ?_
    have := h.same nd hij hj e (row.length - 1 - j) (by omega)
    have z : j + (row.length - 1 - j) = row.length - 1 := by omega
    simp only [z] at this
    refine h.inn (i + (row.length - 1 - j)) (by omega) ?_
    rw [this, cl]
  exact ⟨perm_of_sub ndr h.mem (by omega), h.ch, h.fst, hp, cl, nd⟩
/-- a walk that cannot go on, where there is a ring, is the ring -/
theorem Ring.is {xs row c : List Row} (h : Ring xs row) (hc : Circ xs c) (hl : row.length ≤ xs.length) : row = c.take row.length := by
  have lc := hc.perm.length_eq
  have key : ∀ i (hi : i < row.length), row[i] = c[i]'(by omega) := by
    intro i
    induction i with
    | zero =>
      intro hi
      have a := h.fst.trans hc.fst.symm
      rw [List.getElem?_eq_getElem hi, List.getElem?_eq_getElem hc.pos] at a
      exact Option.some.inj a
    | succ i ih =>
      intro hi
      have a := h.ch i hi
      have b := hc.ch i (by omega)
      rw [ih (by omega)] at a
      exact uniq_s hc.nd (h.mem _ (List.getElem_mem _)) (hc.perm.mem_iff.mp (List.getElem_mem _)) (a.symm.trans b)
  apply List.ext_getElem
  · rw [List.length_take]; omega
  · intro i h1 h2
    rw [List.getElem_take]; exact key i h1
theorem Ring.full {xs row c : List Row} (h : Ring xs row) (hc : Circ xs c) (hl : row.length ≤ xs.length) (stop : row.length = xs.length ∨ lastE row = (row[0]'h.pos).s ∨ lastE row ∉ xs.map Row.s) : row = c ∧ lastE row = (row[0]'h.pos).s := by
  have lc := hc.perm.length_eq
  have hp := h.pos
  have e := h.is hc hl
  by_cases hf : row.length = xs.length
  · have rc : row = c := by
      rw [e, List.take_of_length_le (by omega)]
    refine ⟨rc, ?_⟩
    rw [lastE_eq hp]
    have := hc.cl
    subst rc
    exact this
  · exfalso
    have le : lastE row = (c[row.length]'(by omega)).s := by
      rw [lastE_eq hp]
      have b := hc.ch (row.length - 1) (by omega)
      have z : row.length - 1 + 1 = row.length := by omega
      simp only [z] at b
      have q : (row[row.length - 1]'(by omega)) = c[row.length - 1]'(by omega) := by
        have := congrArg (fun l : List Row => l[row.length - 1]?) e
        simp only [List.getElem?_take] at this
        rw [if_pos (by omega), List.getElem?_eq_getElem (by omega), List.getElem?_eq_getElem (by omega)] at this
        exact Option.some.inj this
      rw [q, b]
    rcases stop with s | s | s
    · exact hf s
    · rw [le] at s
      have q0 : (row[0]'hp) = c[0]'hc.pos := by
        have a := h.fst.trans hc.fst.symm
        rw [List.getElem?_eq_getElem hp, List.getElem?_eq_getElem hc.pos] at a
        exact Option.some.inj a
      rw [q0] at s
      have nds := hc.nds
      have := nodup_inj nds (i := row.length) (j := 0) (by rw [List.length_map]; omega) (by rw [List.length_map]; omega) (by simpa using s)
      omega
    · rw [le] at s
      exact s (List.mem_map_of_mem (hc.perm.mem_iff.mp (List.getElem_mem _)))
end Lk52

set_option Elab.async false
set_option linter.all false
set_option maxRecDepth 100000
set_option maxHeartbeats 2000000
namespace Lk52
open PySem RX
/-- what the law's trail says of a row -/
structure Trail (row : List Row) : Prop where
  nb : (row.map Row.b).Nodup
  pos : 0 < row.length
  ch : ∀ i (h : i + 1 < row.length), row[i].e = (row[i + 1]'h).s
  cl : lastE row = (row[0]'pos).s
  ns : (row.map Row.s).Nodup
theorem Trail.circ {xs row : List Row} (h : Trail row) (hm : ∀ r ∈ row, r ∈ xs) (hf : row[0]? = xs[0]?) (hl : row.length = xs.length) : Circ xs row := by
  have p : row.Perm xs := perm_of_sub (nodup_of_map h.nb) hm (by omega)
  refine ⟨p, h.ch, hf, h.pos, ?_, (p.map Row.s).nodup_iff.mp h.ns⟩
  rw [← lastE_eq h.pos]; exact h.cl
theorem Circ.trail {xs c : List Row} (h : Circ xs c) (nb : (xs.map Row.b).Nodup) : Trail c :=
  ⟨(h.perm.map Row.b).nodup_iff.mpr nb, h.pos, h.ch, by rw [lastE_eq h.pos]; exact h.cl, h.nds⟩
theorem stepL_pre (xs row : List Row) : (stepL xs row = row) ∨ ∃ q ∈ xs, stepL xs row = row ++ [q] := by
  unfold stepL
  cases row[row.length - 1]? with
  | none => exact .inl rfl
  | some l =>
    cases e : (more xs row l).head? with
    | none => left; simp only [e]
    | some q =>
      right
      refine ⟨q, ?_, by simp only [e]⟩
      have : q ∈ more xs row l := List.mem_of_head? e
      exact (List.mem_filter.mp this).1
theorem walkL_pre {xs : List Row} : ∀ (k : Nat) (row : List Row), (∀ r ∈ row, r ∈ xs) → 0 < row.length → (∀ r ∈ walkL xs k row, r ∈ xs) ∧ (walkL xs k row)[0]? = row[0]? ∧ (walkL xs k row).length ≤ row.length + k ∧ 0 < (walkL xs k row).length
  | 0, row, h, hp => ⟨h, rfl, Nat.le_refl _, hp⟩
  | k + 1, row, h, hp => by
    rcases stepL_pre xs row with e | ⟨q, hq, e⟩
    · obtain ⟨a, b, c, d⟩ := walkL_pre k row h hp
      show (∀ r ∈ walkL xs k (stepL xs row), r ∈ xs) ∧ (walkL xs k (stepL xs row))[0]? = row[0]? ∧ (walkL xs k (stepL xs row)).length ≤ row.length + (k + 1) ∧ 0 < (walkL xs k (stepL xs row)).length
      rw [e]
      exact ⟨a, b, by omega, d⟩
    · obtain ⟨a, b, c, d⟩ := walkL_pre k (row ++ [q]) (fun r hr => by
        rcases List.mem_append.mp hr with x | x
        · exact h r x
        · rw [List.mem_singleton] at x; subst x; exact hq) (by simp)
      show (∀ r ∈ walkL xs k (stepL xs row), r ∈ xs) ∧ (walkL xs k (stepL xs row))[0]? = row[0]? ∧ (walkL xs k (stepL xs row)).length ≤ row.length + (k + 1) ∧ 0 < (walkL xs k (stepL xs row)).length
      rw [e]
      refine ⟨a, by rw [b, List.getElem?_append_left hp], ?_, d⟩
      rw [List.length_append, List.length_singleton] at c; omega
/-- the law takes the walk for a ring exactly if there is one -/
theorem law_ring {xs : List Row} (nb : (xs.map Row.b).Nodup) (hp : 0 < xs.length) : ((walkL xs (xs.length - 1) [xs[0]]).length = xs.length ∧ Trail (walkL xs (xs.length - 1) [xs[0]])) ↔ ∃ c, Circ xs c := by
  obtain ⟨hm, hf, _, _⟩ := walkL_pre (xs := xs) (xs.length - 1) [xs[0]] (fun r hr => by rw [List.mem_singleton] at hr; subst hr; exact List.getElem_mem hp) (by simp)
  refine ⟨fun ⟨a, b⟩ => ⟨_, b.circ hm (by rw [hf]; simp [hp]) a⟩, fun ⟨c, hc⟩ => ?_⟩
  have lc := hc.perm.length_eq
  have e1 : [xs[0]] = c.take 1 := by
    have f := hc.fst
    rw [List.getElem?_eq_getElem hc.pos, List.getElem?_eq_getElem hp] at f
    have := Option.some.inj f
    rw [take_succ' hc.pos, this]; rfl
  have w := walkL_circ hc (xs.length - 1) 1 (by omega) (by omega)
  rw [← e1, List.take_of_length_le (by omega)] at w
  rw [w]
  exact ⟨lc, hc.trail nb⟩
end Lk52

set_option Elab.async false
set_option linter.all false
set_option maxRecDepth 100000
set_option maxHeartbeats 2000000
namespace Lk52
open PySem RX
/-! ### ring_of -/
def ks (xs : List Row) : List (Sum Int Str × D) := xs.map fun r => (key r.s, R r)
theorem ks_any (l : List Nat) : ∀ xs : List Row, ((ks xs).any fun kv => decide (kv.1 = key l)) = decide (l ∈ xs.map Row.s)
  | [] => rfl
  | r :: xs => by
    have ih := ks_any l xs
    unfold ks at ih ⊢
    rw [List.map_cons, List.any_cons, ih]
    by_cases h : r.s = l
    · subst h; simp
    · have n : ¬ key r.s = key l := fun e => h (key_inj e)
      have h' : ¬ l = r.s := fun e => h e.symm
      simp only [n, decide_false, Bool.false_or, List.map_cons, List.mem_cons, h', false_or]
theorem ks_get {l : List Nat} : ∀ xs : List Row, (kGet (ks xs) (key l)).isSome = decide (l ∈ xs.map Row.s)
  | [] => rfl
  | r :: xs => by
    have ih := ks_get (l := l) xs
    unfold ks at ih ⊢
    rw [List.map_cons, kGet]
    by_cases h : r.s = l
    · subst h; simp
    · have n : ¬ key r.s = key l := fun e => h (key_inj e)
      have h' : ¬ l = r.s := fun e => h e.symm
      rw [if_neg n, ih]
      simp only [List.map_cons, List.mem_cons, h', false_or]
theorem ks_some {r : Row} : ∀ {xs : List Row}, (xs.map Row.s).Nodup → r ∈ xs → kGet (ks xs) (key r.s) = some (R r)
  | q :: xs, nd, h => by
    rw [List.map_cons, List.nodup_cons] at nd
    unfold ks
    rw [List.map_cons, kGet]
    rcases List.mem_cons.mp h with rfl | h
    · rw [if_pos rfl]
    · have n : ¬ key q.s = key r.s := fun e => nd.1 (by rw [key_inj e]; exact List.mem_map_of_mem h)
      rw [if_neg n]
      exact ks_some nd.2 h
def putAll : List Row → List (Sum Int Str × D) → List (Sum Int Str × D)
  | [], acc => acc
  | r :: xs, acc => putAll xs (kPut acc (key r.s) (R r))
theorem putAll_len : ∀ (xs : List Row) (acc : List (Sum Int Str × D)), (putAll xs acc).length ≤ acc.length + xs.length
  | [], acc => Nat.le_refl _
  | r :: xs, acc => by
    have a := putAll_len xs (kPut acc (key r.s) (R r))
    have b := length_kPut acc (key r.s) (R r)
    unfold putAll
    rw [List.length_cons]; omega
theorem putAll_nd : ∀ (xs ys : List Row), ((ys ++ xs).map Row.s).Nodup → putAll xs (ks ys) = ks (ys ++ xs)
  | [], ys, _ => by rw [List.append_nil]; rfl
  | r :: xs, ys, nd => by
    have n : r.s ∉ ys.map Row.s := fun m => by
      rw [List.map_append, List.map_cons] at nd
      exact (List.nodup_append.mp nd).2.2 _ m _ List.mem_cons_self rfl
    have e : kPut (ks ys) (key r.s) (R r) = ks (ys ++ [r]) := by
      unfold kPut
      rw [ks_any, if_neg (by simpa using n)]
      unfold ks
      rw [List.map_append]; rfl
    unfold putAll
    rw [e, putAll_nd xs (ys ++ [r]) (by rw [List.append_assoc]; exact nd), List.append_assoc]
    rfl
theorem putAll_lt : ∀ (xs ys : List Row), (ys.map Row.s).Nodup → ¬ ((ys ++ xs).map Row.s).Nodup → (putAll xs (ks ys)).length < ys.length + xs.length
  | [], ys, h, n => by rw [List.append_nil] at n; exact absurd h n
  | r :: xs, ys, h, n => by
    by_cases m : r.s ∈ ys.map Row.s
    · have e : (kPut (ks ys) (key r.s) (R r)).length = ys.length := by
        unfold kPut
        rw [ks_any, if_pos (by simpa using m), List.length_map]
        unfold ks
        rw [List.length_map]
      have := putAll_len xs (kPut (ks ys) (key r.s) (R r))
      unfold putAll
      rw [List.length_cons]; omega
    · have e : kPut (ks ys) (key r.s) (R r) = ks (ys ++ [r]) := by
        unfold kPut
        rw [ks_any, if_neg (by simpa using m)]
        unfold ks
        rw [List.map_append]; rfl
      have nd' : ((ys ++ [r]).map Row.s).Nodup := by
        rw [List.map_append, List.nodup_append]
        refine ⟨h, by simp, fun a ha b hb e => ?_⟩
        rw [List.map_cons, List.map_nil, List.mem_singleton] at hb
        subst hb; subst e; exact m ha
      have := putAll_lt xs (ys ++ [r]) nd' (by rw [List.append_assoc]; exact n)
      unfold putAll
      rw [e]
      rw [List.length_append, List.length_singleton] at this
      rw [List.length_cons]; omega
@[simp] theorem at3_0 {a b c : D} : L2.atI [a, b, c] 0 = some a := rfl
@[simp] theorem at3_1 {a b c : D} : L2.atI [a, b, c] 1 = some b := rfl
@[simp] theorem at3_2 {a b c : D} : L2.atI [a, b, c] 2 = some c := rfl
theorem ix_s (r : Row) : dIx (R r) (.int 1) = shV (S r.s) := rfl
theorem ix_e (r : Row) : dIx (R r) (.int 2) = shV (S r.e) := rfl
theorem ix_b (r : Row) : dIx (R r) (.int 0) = shV (S r.b) := rfl
theorem dc_loop (x0 x1 x3 x4 x5 : Slot) (st : Sto) : ∀ (xs : List Row) (acc : List (Sum Int Str × D)), dcD (gN 2) mYes (mOp dIx (mVar 2) (mC (.int 1))) (mVar 2) [x0, x1, .emp, x3, x4, x5] (xs.map R) st acc = .ok (putAll xs acc) st
  | [], acc => rfl
  | r :: xs, acc => by
    have ih := dc_loop x0 x1 x3 x4 x5 st xs (kPut acc (key r.s) (R r))
    have dk : dKey (S r.s) = some (key r.s) := rfl
    rw [List.map_cons]
    unfold dcD
    simp only [ap_gN, List.set, mYes, ap_op, ap_var2, ap_c, Rs.bind, ix_s, ap_ofO, dk]
    exact ih
theorem ring_loop (xs : List Row) (nd : (xs.map Row.s).Nodup) (h0 : 0 < xs.length) (hx : xs.length ≤ 1000) (x0 x2 : Slot) (st : Sto) : ∀ (n : Nat) (row : List Row), Ring xs row → row.length ≤ xs.length → xs.length < row.length + n →
    ∃ row', Ring xs row' ∧ row'.length ≤ xs.length ∧ (row'.length = xs.length ∨ lastE row' = xs[0].s ∨ lastE row' ∉ xs.map Row.s) ∧
    whileD (mAnd (mB (mOp dLt (mCB dLen (mCons (mVar 4) mNil)) (mCB dLen (mCons (mVar 0) mNil)))) (mAnd (mB (mOp dNe (mVar 5) (mVar 3))) (mB (mOp dIn (mVar 5) (mVar 1))))) m_ring_of_b1 n
      ⟨[.v (.lst (xs.map R)), .v (.dic (ks xs)), x2, .v (S xs[0].s), .own (.lst (row.map R)), .v (S (lastE row))], st⟩ =
    .ok .nx ⟨[.v (.lst (xs.map R)), .v (.dic (ks xs)), x2, .v (S xs[0].s), .own (.lst (row'.map R)), .v (S (lastE row'))], st⟩
  | 0, row, h, hl, hn => by omega
  | n + 1, row, h, hl, hn => by
    have home : (row[0]'h.pos).s = xs[0].s := by
      have f := h.fst
      rw [List.getElem?_eq_getElem h.pos, List.getElem?_eq_getElem h0] at f
      rw [Option.some.inj f]
    have din : dIn (S (lastE row)) (.dic (ks xs)) = shB (decide (lastE row ∈ xs.map Row.s)) := by
      show ((dKey (S (lastE row))).map fun k => (kGet (ks xs) k).isSome).map _ = _
      have : dKey (S (lastE row)) = some (key (lastE row)) := rfl
      rw [this, Option.map_some, ks_get]
      rfl
    have cast : ((row.length : Int) < (xs.length : Int)) ↔ row.length < xs.length := by omega
    unfold whileD
    by_cases c1 : row.length < xs.length
    · by_cases c2 : lastE row = xs[0].s
      · refine ⟨row, h, hl, .inr (.inl c2), ?_⟩
        simp [cast, c1, c2, dNe_S]
      · by_cases c3 : lastE row ∈ xs.map Row.s
        · obtain ⟨q, hq, hs⟩ := List.mem_map.mp c3
          have h' := h.more hq hs (by rw [home]; exact c2)
          obtain ⟨row', a, b, c, e⟩ := ring_loop xs nd h0 hx x0 x2 st n (row ++ [q]) h' (by rw [List.length_append, List.length_singleton]; omega) (by rw [List.length_append, List.length_singleton]; omega)
          refine ⟨row', a, b, c, ?_⟩
          rw [lastE_snoc] at e
          have ix : dIx (.dic (ks xs)) (S (lastE row)) = shV (R q) := by
            show ((dKey (S (lastE row))).bind fun k => (kGet (ks xs) k).map fun d => (⟨.sh, d⟩ : Val)) = _
            have : dKey (S (lastE row)) = some (key (lastE row)) := rfl
            rw [this, Option.bind_some, ← hs, ks_some nd hq]
            rfl
          have fa : fAppend (row.map R) [R q] = some (row.map R ++ [R q], .non) := fAppend_ok (by rw [List.length_map]; unfold line; omega)
          have cond : (mAnd (mB (mOp dLt (mCB dLen (mCons (mVar 4) mNil)) (mCB dLen (mCons (mVar 0) mNil)))) (mAnd (mB (mOp dNe (mVar 5) (mVar 3))) (mB (mOp dIn (mVar 5) (mVar 1))))) ⟨[.v (.lst (xs.map R)), .v (.dic (ks xs)), x2, .v (S xs[0].s), .own (.lst (row.map R)), .v (S (lastE row))], st⟩ = .ok true st := by
            simp [cast, c1, c2, dNe_S, din, c3]
          rw [cond]
          have body : m_ring_of_b1 ⟨[.v (.lst (xs.map R)), .v (.dic (ks xs)), x2, .v (S xs[0].s), .own (.lst (row.map R)), .v (S (lastE row))], st⟩ = .ok .nx ⟨[.v (.lst (xs.map R)), .v (.dic (ks xs)), x2, .v (S xs[0].s), .own (.lst ((row ++ [q]).map R)), .v (S q.e)], st⟩ := by
            rw [m_ring_of_b1_ap]
            have e2 : (row ++ [q]).map R = row.map R ++ [R q] := by rw [List.map_append]; rfl
            rw [e2]
            simp [ix, fa, ix_e]
          simp only [body]
          exact e
        · refine ⟨row, h, hl, .inr (.inr c3), ?_⟩
          simp [cast, c1, c2, dNe_S, din, c3]
    · refine ⟨row, h, hl, .inl (by omega), ?_⟩
      simp [cast, c1]
theorem ring_of_ev (st : Sto) (xs : List Row) (h0 : 0 < xs.length) (hx : xs.length ≤ 12) : ((¬ ∃ c, Circ xs c) ∧ f_ring_of [.lst (xs.map R)] st = .ok ⟨.sh, .non⟩ st) ∨ ∃ c, Circ xs c ∧ f_ring_of [.lst (xs.map R)] st = .ok ⟨.fr, .lst (c.map R)⟩ st := by
  have dc : mDc (mSrc seqD (mVar 0)) (gN 2) mYes (mOp dIx (mVar 2) (mC (.int 1))) (mVar 2) [2] ⟨[.v (.lst (xs.map R)), .emp, .emp, .emp, .emp, .emp], st⟩ = .ok ⟨.fr, .dic (putAll xs [])⟩ st := by
    have e := dc_loop (.v (.lst (xs.map R))) .emp .emp .emp .emp st xs []
    unfold mDc
    have src : mSrc seqD (mVar 0) ⟨[.v (.lst (xs.map R)), .emp, .emp, .emp, .emp, .emp], st⟩ = .ok (xs.map R) st := rfl
    rw [src, Rs.bind_ok, if_pos ⟨by rw [List.length_map]; unfold line; omega, rfl⟩]
    show (dcD (gN 2) mYes (mOp dIx (mVar 2) (mC (.int 1))) (mVar 2) [.v (.lst (xs.map R)), .emp, .emp, .emp, .emp, .emp] (xs.map R) st []).bind _ = _
    rw [e]; rfl
  by_cases nd : (xs.map Row.s).Nodup
  · have pa : putAll xs [] = ks xs := putAll_nd xs [] nd
    have lk : (ks xs).length = xs.length := by unfold ks; rw [List.length_map]
    obtain ⟨row, a, b, c, e⟩ := ring_loop xs nd h0 (by omega) .emp .emp st 64 [xs[0]] (Ring.one h0) (by simp; omega) (by simp; omega)
    rw [pa] at dc
    have at0 : L2.atI (xs.map R) 0 = some (R xs[0]) := by
      rw [atI_nat (by omega) (by rw [List.length_map]; omega)]
      simp
    have l0 : lastE [xs[0]] = xs[0].e := rfl
    rw [l0] at e
    have home : (row[0]'a.pos).s = xs[0].s := by
      have f := a.fst
      rw [List.getElem?_eq_getElem a.pos, List.getElem?_eq_getElem h0] at f
      rw [Option.some.inj f]
    have cast : ((row.length : Int) = (xs.length : Int)) ↔ row.length = xs.length := by omega
    have z1 : (1 : Nat) ≤ line := by decide
    have e' : mWhile 64 (mAnd (mB (mOp dLt (mCB dLen (mCons (mVar 4) mNil)) (mCB dLen (mCons (mVar 0) mNil)))) (mAnd (mB (mOp dNe (mVar 5) (mVar 3))) (mB (mOp dIn (mVar 5) (mVar 1))))) m_ring_of_b1 ⟨[.v (.lst (xs.map R)), .v (.dic (ks xs)), .emp, .v (S xs[0].s), .own (.lst [R xs[0]]), .v (S xs[0].e)], st⟩ =
      .ok .nx ⟨[.v (.lst (xs.map R)), .v (.dic (ks xs)), .emp, .v (S xs[0].s), .own (.lst (row.map R)), .v (S (lastE row))], st⟩ := e
    by_cases k : lastE row = xs[0].s ∧ row.length = xs.length
    · right
      refine ⟨row, a.circ nd k.2 (by rw [home]; exact k.1), ?_⟩
      simp [f_ring_of, fnM, m_ring_of_ap, dc, lk, at0, ix_s, ix_e, z1, e', dNe_S, cast, k.1, k.2]
    · left
      refine ⟨fun ⟨c', hc⟩ => ?_, ?_⟩
      · obtain ⟨q1, q2⟩ := a.full hc b (by rw [home]; exact c)
        exact k ⟨by rw [q2, home], by rw [q1]; exact hc.perm.length_eq⟩
      · by_cases k1 : lastE row = xs[0].s
        · have k2 : ¬ row.length = xs.length := fun z => k ⟨k1, z⟩
          simp [f_ring_of, fnM, m_ring_of_ap, dc, lk, at0, ix_s, ix_e, z1, e', dNe_S, cast, k1, k2]
        · simp [f_ring_of, fnM, m_ring_of_ap, dc, lk, at0, ix_s, ix_e, z1, e', dNe_S, cast, k1]
  · left
    refine ⟨fun ⟨c, hc⟩ => nd hc.nd, ?_⟩
    have lt := putAll_lt xs [] (by simp) nd
    have e0 : ks [] = [] := rfl
    rw [e0, List.length_nil, Nat.zero_add] at lt
    have cast : ¬ (((putAll xs []).length : Int) = (xs.length : Int)) := by omega
    simp [f_ring_of, fnM, m_ring_of_ap, dc, cast]
end Lk52

set_option Elab.async false
set_option linter.all false
set_option maxRecDepth 100000
set_option maxHeartbeats 2000000
namespace Lk52
open PySem RX
/-! ### sets of arrows by index -/
def bit (i k : Nat) : Bool := decide ((i / 2 ^ k) &&& 1 = 1)
def sel (xs : List Row) (i : Nat) : List Row := (List.range xs.length).filterMap fun k => if bit i k = true then xs[k]? else none
theorem fm_sub {α β : Type} {f g : α → Option β} (h : ∀ a, f a = none ∨ f a = g a) : ∀ l : List α, (l.filterMap f).Sublist (l.filterMap g)
  | [] => .slnil
  | a :: l => by
    have ih := fm_sub h l
    rw [List.filterMap_cons, List.filterMap_cons]
    rcases h a with e | e
    · rw [e]
      cases g a with
      | none => exact ih
      | some b => exact .cons _ ih
    · rw [e]
      cases g a with
      | none => exact ih
      | some b => exact .cons_cons _ ih
theorem fm_range {α : Type} : ∀ xs : List α, (List.range xs.length).filterMap (fun k => xs[k]?) = xs
  | [] => rfl
  | x :: xs => by
    have ih := fm_range xs
    rw [List.length_cons, List.range_succ_eq_map, List.filterMap_cons]
    simp only [List.getElem?_cons_zero, List.filterMap_map]
    have : ((fun k => (x :: xs)[k]?) ∘ Nat.succ) = fun k => xs[k]? := by funext k; simp
    rw [this, ih]
theorem sel_sub (xs : List Row) (i : Nat) : (sel xs i).Sublist xs := by
  have := fm_sub (f := fun k => if bit i k = true then xs[k]? else none) (g := fun k => xs[k]?) (fun k => by by_cases c : bit i k = true <;> simp [c]) (List.range xs.length)
  rw [fm_range] at this
  exact this
theorem bit_some : ∀ n : Nat, n ≤ 6 → ∀ i : Nat, i < 2 ^ n → 1 ≤ i → ((List.range n).any (bit i)) = true := by decide +kernel
theorem sel_pos {xs : List Row} (hn : xs.length ≤ 6) {i : Nat} (h1 : 1 ≤ i) (h2 : i < 2 ^ xs.length) : 0 < (sel xs i).length := by
  obtain ⟨k, hk, hb⟩ := List.any_eq_true.mp (bit_some _ hn i h2 h1)
  rw [List.mem_range] at hk
  have : xs[k] ∈ sel xs i := List.mem_filterMap.mpr ⟨k, List.mem_range.mpr hk, by rw [if_pos hb, List.getElem?_eq_getElem hk]⟩
  exact List.length_pos_of_mem this
theorem sel_len (xs : List Row) (i : Nat) : (sel xs i).length ≤ xs.length := (sel_sub xs i).length_le
theorem sel_nb {xs : List Row} (h : (xs.map Row.b).Nodup) (i : Nat) : ((sel xs i).map Row.b).Nodup := h.sublist ((sel_sub xs i).map Row.b)

/-- the set of this index is one ring -/
noncomputable def rg (xs : List Row) (i : Nat) : Bool := @decide (∃ c, Circ (sel xs i) c) (Classical.propDecidable _)
theorem rg_true {xs : List Row} {i : Nat} : rg xs i = true ↔ ∃ c, Circ (sel xs i) c := @decide_eq_true_iff _ (Classical.propDecidable _)
theorem rg_false {xs : List Row} {i : Nat} : rg xs i = false ↔ ¬ ∃ c, Circ (sel xs i) c := @decide_eq_false_iff_not _ (Classical.propDecidable _)
theorem and_le (i j : Nat) (h : i &&& j = j) : j ≤ i := by
  have := Nat.and_le_left (n := i) (m := j)
  omega
end Lk52

set_option Elab.async false
set_option linter.all false
set_option maxRecDepth 100000
set_option maxHeartbeats 2000000
namespace Lk52
open PySem RX
/-! ### rings_of -/
theorem bitAnd_nat (a b : Nat) : Builtin.bitAnd (a : Int) (b : Int) = ((a &&& b : Nat) : Int) := rfl
theorem dAnd_nat (a b : Nat) : dAndB (.int (a : Nat)) (.int (b : Nat)) = shI ((a &&& b : Nat) : Int) := rfl
theorem dShr_nat (a b : Nat) : dShr (.int (a : Nat)) (.int (b : Nat)) = shI ((a / 2 ^ b : Nat) : Int) := by
  simp [dShr, fI2]
theorem bit_test (i k : Nat) : (dShr (.int (i : Nat)) (.int (k : Nat))).bind (fun x => (dAndB x.d (.int 1)).bind fun y => dEq y.d (.int 1)) = shB (bit i k) := by
  rw [dShr_nat]
  show ((dAndB (.int ((i / 2 ^ k : Nat) : Int)) (.int ((1 : Nat) : Int))).bind fun y => dEq y.d (.int 1)) = _
  rw [dAnd_nat]
  show dEq (.int _) (.int 1) = _
  rw [dEq_ii]
  unfold bit
  congr 2
  have : (((i / 2 ^ k &&& 1 : Nat) : Int) = 1) ↔ (i / 2 ^ k &&& 1 = 1) := by omega
  exact propext this
def gSel (xs : List Row) (i : Nat) (d : D) : Option D := match d with
  | .int k => if bit i k.toNat = true then (xs[k.toNat]?).map R else none
  | _ => none
theorem gSel_map (xs : List Row) (i : Nat) : (rngD 0 xs.length).filterMap (gSel xs i) = (sel xs i).map R := by
  unfold rngD sel
  rw [List.filterMap_map, List.map_filterMap]
  congr 1
  funext k
  show (if bit i ((0 : Int) + (k : Int)).toNat = true then (xs[((0 : Int) + (k : Int)).toNat]?).map R else none) = _
  have : ((0 : Int) + (k : Int)).toNat = k := by omega
  rw [this]
  split <;> rfl
theorem rngD_mem {n : Nat} {d : D} (h : d ∈ rngD 0 n) : ∃ k : Nat, k < n ∧ d = .int (k : Nat) := by
  unfold rngD at h
  obtain ⟨k, hk, rfl⟩ := List.mem_map.mp h
  rw [List.mem_range] at hk
  exact ⟨k, hk, by rw [Int.zero_add]⟩
/-- the chosen rows, of a list or a tuple -/
theorem chosen_ev {f : Fm → Rs Sto Val} {g : Fm → Rs Sto Val} {v : Nat} {env : List Slot} {st : Sto} (xs : List Row) (i : Nat)
    (hf : ∀ k : Nat, f ⟨env.set v (.v (.int k)), st⟩ = ofO ((dShr (.int (i : Nat)) (.int (k : Nat))).bind (fun x => (dAndB x.d (.int 1)).bind fun y => dEq y.d (.int 1))) st)
    (hg : ∀ k : Nat, ∀ h : k < xs.length, g ⟨env.set v (.v (.int k)), st⟩ = .ok ⟨.sh, R xs[k]⟩ st) :
    lcD (gN v) (mB f) g env (rngD 0 xs.length) st [] = .ok ((sel xs i).map R) st := by
  rw [lcD_pure (gSel xs i), List.nil_append, gSel_map]
  intro d hd
  obtain ⟨k, hk, rfl⟩ := rngD_mem hd
  refine ⟨_, rfl, ?_⟩
  have e : mB f ⟨env.set v (.v (.int k)), st⟩ = .ok (bit i k) st := by
    rw [ap_b, hf, bit_test]
    rfl
  have gs : gSel xs i (.int (k : Nat)) = if bit i k = true then some (R xs[k]) else none := by
    show (if bit i ((k : Int)).toNat = true then (xs[((k : Int)).toNat]?).map R else none) = _
    rw [Int.toNat_natCast, List.getElem?_eq_getElem hk]
    rfl
  by_cases c : bit i k = true
  · right
    refine ⟨R xs[k], .sh, by rw [gs, if_pos c], by rw [e, c], ?_, .inl rfl⟩
    exact hg k hk
  · left
    refine ⟨by rw [gs, if_neg c], ?_⟩
    rw [e]
    have : bit i k = false := by simpa using c
    rw [this]
def tix : D → D
  | .tup (d :: _) => d
  | _ => .non
/-- a row of pairs, the first parts told -/
structure Prs (is : List Nat) (ts : List D) : Prop where
  fst : ts.map tix = is.map fun i => .int (i : Nat)
  ix : ∀ t ∈ ts, dIx t (.int 0) = shV (tix t)
theorem Prs.len {is : List Nat} {ts : List D} (h : Prs is ts) : ts.length = is.length := by
  have := congrArg List.length h.fst
  simpa using this
theorem Prs.snoc {is : List Nat} {ts : List D} (h : Prs is ts) (i : Nat) (d : D) : Prs (is ++ [i]) (ts ++ [.tup [.int (i : Nat), d]]) :=
  ⟨by rw [List.map_append, List.map_append, h.fst]; rfl, fun t ht => by
    rcases List.mem_append.mp ht with x | x
    · exact h.ix t x
    · rw [List.mem_singleton] at x; subst x; rfl⟩
theorem atI_R {xs : List Row} {k : Nat} (h : k < xs.length) : L2.atI (xs.map R) (k : Nat) = some (R xs[k]) := by
  rw [atI_nat (by omega) (by rw [List.length_map]; omega)]
  simp
theorem shl_one (n : Nat) (h : n ≤ 12) : dShl (.int 1) (.int (n : Nat)) = shI ((2 ^ n : Nat) : Int) := by
  have h2 : (n : Int) ≤ 1000000 := by omega
  simp [dShl, fI2, h2]
theorem map_b_lc (st : Sto) (env : List Slot) (h : env.length = 8) (c : List Row) : lcD (gN 7) mYes (mOp dIx (mVar 7) (mC (.int 0))) env (c.map R) st [] = .ok (c.map fun r => S r.b) st := by
  rw [lcD_pure (fun d => match d with | .tup (d :: _) => some d | _ => none), List.nil_append, List.filterMap_map]
  · congr 1
    induction c with
    | nil => rfl
    | cons r c ih => rw [List.filterMap_cons, List.map_cons, ih]; rfl
  · intro d hd
    obtain ⟨r, _, rfl⟩ := List.mem_map.mp hd
    refine ⟨_, rfl, .inr ⟨S r.b, .sh, rfl, rfl, ?_, .inl rfl⟩⟩
    have gv : (env.set 7 (.v (R r)))[7]? = some (.v (R r)) := by rw [List.getElem?_set_self]; omega
    simp [ap_var, gv, ix_b]
theorem rings_body (st : Sto) (xs : List Row) (hn : xs.length ≤ 6) (i : Nat) (h1 : 1 ≤ i) (h2 : i < 2 ^ xs.length) (is : List Nat) (ts : List D) (hp : Prs is ts) (hl : is.length ≤ 1000) (x3 x4 x6 : Slot) :
    ∃ ts' x4' x6', m_rings_of_b1 ⟨[.v (.tup (xs.map R)), .v (.int xs.length), .own (.lst ts), .v (.int i), x4, .emp, x6, .emp], st⟩ = .ok .nx ⟨[.v (.tup (xs.map R)), .v (.int xs.length), .own (.lst ts'), .v (.int i), .v x4', .emp, .v x6', .emp], st⟩ ∧ Prs (is ++ if rg xs i = true then [i] else []) ts' := by
  have pos := sel_pos hn h1 h2
  have len := sel_len xs i
  have n0 : (-1000 : Int) ≤ (xs.length : Int) := by omega
  have n1 : (xs.length : Int) ≤ 1000000 := by omega
  have lc : mLc (mRng (mCons (mVar 1) mNil)) (gN 5) (mB (mOp dEq (mOp dAndB (mOp dShr (mVar 3) (mVar 5)) (mC (.int 1))) (mC (.int 1)))) (mOp dIx (mVar 0) (mVar 5)) [5] ⟨[.v (.tup (xs.map R)), .v (.int xs.length), .own (.lst ts), .v (.int i), x4, .emp, x6, .emp], st⟩ = .ok ⟨.fr, .lst ((sel xs i).map R)⟩ st := by
    refine lc_ev (ds := rngD 0 xs.length) (st := st) (by simp [rngR_1 n0 n1]) (by rw [rngD_len]; omega) rfl ?_
    refine chosen_ev xs i (fun k => ?_) (fun k hk => ?_)
    · simp [wipeE, dShr_nat]
      rfl
    · simp [wipeE, atI_R hk]
  have r := ring_of_ev st (sel xs i) pos (by omega)
  rcases r with ⟨nc, e⟩ | ⟨c, hc, e⟩
  · refine ⟨ts, .lst ((sel xs i).map R), .non, ?_, by rw [if_neg (by rw [rg_false.mpr nc]; simp), List.append_nil]; exact hp⟩
    have isn : dIsNot .non .non = shB false := rfl
    rw [m_rings_of_b1_ap]
    simp [lc, callW_sh', e, isn]
  · have lcc : c.length ≤ 6 := by rw [hc.perm.length_eq]; omega
    have isn : dIsNot (.lst (c.map R)) .non = shB true := rfl
    have lc2 : mLc (mSrc seqD (mVar 6)) (gN 7) mYes (mOp dIx (mVar 7) (mC (.int 0))) [7] ⟨[.v (.tup (xs.map R)), .v (.int xs.length), .own (.lst ts), .v (.int i), .v (.lst ((sel xs i).map R)), .emp, .v (.lst (c.map R)), .emp], st⟩ = .ok ⟨.fr, .lst (c.map fun r => S r.b)⟩ st :=
      lc_ev (ds := c.map R) (st := st) (by simp [seqD]) (by rw [List.length_map]; omega) rfl (map_b_lc st _ rfl c)
    have z2 : (2 : Nat) ≤ line := by decide
    have fa : fAppend ts [.tup [.int (i : Nat), .lst (c.map fun r => S r.b)]] = some (ts ++ [.tup [.int (i : Nat), .lst (c.map fun r => S r.b)]], .non) := fAppend_ok (by rw [hp.len]; unfold line; omega)
    refine ⟨ts ++ [.tup [.int (i : Nat), .lst (c.map fun r => S r.b)]], .lst ((sel xs i).map R), .lst (c.map R), ?_, by rw [if_pos (rg_true.mpr ⟨c, hc⟩)]; exact hp.snoc i _⟩
    rw [m_rings_of_b1_ap]
    simp [lc, callW_sh', e, isn, lc2, z2, fa]
end Lk52

set_option Elab.async false
set_option linter.all false
set_option maxRecDepth 100000
set_option maxHeartbeats 2000000
namespace Lk52
open PySem RX
/-! ### the loop of rings_of; tables -/
/-- the indexes of the rings, from lo on -/
noncomputable def ixs (xs : List Row) (lo n : Nat) : List Nat := (List.range' lo n).filter (rg xs)
theorem ixs_succ (xs : List Row) (lo n : Nat) : ixs xs lo (n + 1) = (if rg xs lo = true then [lo] else []) ++ ixs xs (lo + 1) n := by
  unfold ixs
  rw [List.range'_succ, List.filter_cons]
  split <;> rfl
/-- the items of a range, from a told one on -/
def rngN (lo n : Nat) : List D := (List.range' lo n).map fun (k : Nat) => .int (k : Nat)
theorem rngD_N (lo n : Nat) : rngD (lo : Nat) n = rngN lo n := by
  unfold rngD rngN
  rw [List.range'_eq_map_range, List.map_map]
  apply List.map_congr_left
  intro k _
  show D.int _ = D.int _
  congr 1
theorem rings_loop (st : Sto) (xs : List Row) (hn : xs.length ≤ 6) : ∀ (n lo : Nat) (is : List Nat) (ts : List D) (x3 x4 x6 : Slot), 1 ≤ lo → lo + n ≤ 2 ^ xs.length → Prs is ts → is.length + n ≤ 1000 →
    ∃ ts' x3' x4' x6', forD (gN 3) m_rings_of_b1 (rngN lo n) ⟨[.v (.tup (xs.map R)), .v (.int xs.length), .own (.lst ts), x3, x4, .emp, x6, .emp], st⟩ = .ok .nx ⟨[.v (.tup (xs.map R)), .v (.int xs.length), .own (.lst ts'), x3', x4', .emp, x6', .emp], st⟩ ∧ Prs (is ++ ixs xs lo n) ts'
  | 0, lo, is, ts, x3, x4, x6, _, _, hp, _ => ⟨ts, x3, x4, x6, rfl, by unfold ixs; rw [List.range'_zero, List.filter_nil, List.append_nil]; exact hp⟩
  | n + 1, lo, is, ts, x3, x4, x6, h1, h2, hp, hl => by
    obtain ⟨ts1, x4', x6', e, p1⟩ := rings_body st xs hn lo h1 (by omega) is ts hp (by omega) x3 x4 x6
    obtain ⟨ts', y3, y4, y6, e2, p2⟩ := rings_loop st xs hn n (lo + 1) _ ts1 (.v (.int lo)) (.v x4') (.v x6') (by omega) (by omega) p1 (by rw [List.length_append]; split <;> simp <;> omega)
    refine ⟨ts', y3, y4, y6, ?_, by rw [ixs_succ, ← List.append_assoc]; exact p2⟩
    have c : rngN lo (n + 1) = .int (lo : Nat) :: rngN (lo + 1) n := by unfold rngN; rw [List.range'_succ]; rfl
    rw [c, forD_cons, ap_gN]
    show (match m_rings_of_b1 ⟨[.v (.tup (xs.map R)), .v (.int xs.length), .own (.lst ts), .v (.int lo), x4, .emp, x6, .emp], st⟩ with | .ok .nx s2 => _ | .ok .ct s2 => _ | .ok .bk s2 => _ | r => r) = _
    rw [e]
    exact e2
theorem pow_le (n : Nat) (h : n ≤ 6) : 1 ≤ 2 ^ n ∧ 2 ^ n ≤ 64 := by
  have : ∀ n : Nat, n ≤ 6 → 1 ≤ 2 ^ n ∧ 2 ^ n ≤ 64 := by decide
  exact this n h
theorem rngR_pow (st : Sto) (n : Nat) (h : n ≤ 6) : rngR [⟨.sh, .int 1⟩, ⟨.sh, .int ((2 ^ n : Nat) : Int)⟩] st = .ok (rngN 1 (2 ^ n - 1)) st := by
  have p := pow_le n h
  rw [rngR_2 (by omega) (by omega) (by omega) (by omega)]
  have : (((2 ^ n : Nat) : Int) - 1).toNat = 2 ^ n - 1 := by omega
  rw [this]
  exact congrArg (fun l => Rs.ok l st) (rngD_N 1 (2 ^ n - 1))
theorem rings_of_ev (st : Sto) (xs : List Row) (hn : xs.length ≤ 6) : ∃ ts, f_rings_of [.tup (xs.map R)] st = .ok ⟨.fr, .lst ts⟩ st ∧ Prs (ixs xs 1 (2 ^ xs.length - 1)) ts := by
  have p := pow_le _ hn
  obtain ⟨ts, x3, x4, x6, e, pr⟩ := rings_loop st xs hn (2 ^ xs.length - 1) 1 [] [] .emp .emp .emp (by omega) (by omega) ⟨rfl, fun _ h => by cases h⟩ (by simp; omega)
  refine ⟨ts, ?_, by rw [List.nil_append] at pr; exact pr⟩
  have r := rngR_pow st xs.length hn
  have s1 := shl_one xs.length (by omega)
  simp only [f_rings_of, fnM, m_rings_of_ap]
  simp [-Int.natCast_pow, s1, r, e]
/-! tables -/
def nth (T : List Int) (k : Nat) : Int := T[k]!
def inN (i r : Nat) : Bool := decide (i &&& r = r)
def insd (is : List Nat) (i : Nat) : List Nat := is.filter (inN i)
def entry (is : List Nat) (T : List Int) (i : Nat) : Int := maxI (0 :: (insd is i).map fun r => 1 + nth T (i - r))
def tabN (is : List Nat) : Nat → Nat → List Int → List Int
  | _, 0, T => T
  | lo, n + 1, T => tabN is (lo + 1) n (T ++ [entry is T lo])
theorem tabN_len (is : List Nat) : ∀ (n lo : Nat) (T : List Int), (tabN is lo n T).length = T.length + n
  | 0, _, T => rfl
  | n + 1, lo, T => by
    show (tabN is (lo + 1) n (T ++ [entry is T lo])).length = _
    rw [tabN_len is n]; simp; omega
theorem intsD_map : ∀ ns : List Int, intsD (ns.map D.int) = some ns
  | [] => rfl
  | n :: ns => by rw [List.map_cons, intsD, intsD_map ns]; rfl
theorem max_ev (is : List Nat) (T : List Int) (i : Nat) : dMax [.lst (.int 0 :: (insd is i).map fun r => .int (1 + nth T (i - r)))] = shI (entry is T i) := by
  have : (D.int 0 :: (insd is i).map fun r => D.int (1 + nth T (i - r))) = (0 :: (insd is i).map fun r => 1 + nth T (i - r)).map D.int := by
    rw [List.map_cons, List.map_map]; rfl
  show (intsD _).bind _ = _
  rw [this, intsD_map]
  rfl
theorem insd_le {is : List Nat} {i r : Nat} (h : r ∈ insd is i) : r ∈ is ∧ r ≤ i := by
  have := List.mem_filter.mp h
  refine ⟨this.1, and_le i r ?_⟩
  simpa [inN] using this.2
theorem T_at {T : List Int} {i r : Nat} (h : i - r < T.length) : L2.atI (T.map D.int) ((i - r : Nat) : Int) = some (.int (nth T (i - r))) := by
  rw [atI_nat (by omega) (by rw [List.length_map]; omega)]
  simp [nth, h]
theorem dSub_nat {i r : Nat} (h : r ≤ i) : dSub (.int (i : Nat)) (.int (r : Nat)) = shI ((i - r : Nat) : Int) := by
  rw [dSub_ii]
  congr 2
  congr 1
  omega
theorem and_test (i r : Nat) : (dAndB (.int (i : Nat)) (.int (r : Nat))).bind (fun y => dEq y.d (.int (r : Nat))) = shB (inN i r) := by
  rw [dAnd_nat]
  show dEq (.int _) (.int _) = _
  rw [dEq_ii]
  unfold inN
  congr 2
  have : (((i &&& r : Nat) : Int) = (r : Int)) ↔ (i &&& r = r) := by omega
  exact propext this
theorem fm_filter {α β : Type} (p : α → Bool) (f : α → β) : ∀ l : List α, (l.filterMap fun a => if p a = true then some (f a) else none) = (l.filter p).map f
  | [] => rfl
  | a :: l => by
    rw [List.filterMap_cons, List.filter_cons, fm_filter p f l]
    by_cases c : p a = true <;> simp [c]
theorem ixs_pos (xs : List Row) (lo n : Nat) (h : 1 ≤ lo) : ∀ r ∈ ixs xs lo n, 1 ≤ r := fun r hr => by
  have := (List.mem_filter.mp hr).1
  rw [List.mem_range'_1] at this
  omega
theorem ixs_len (xs : List Row) (lo n : Nat) : (ixs xs lo n).length ≤ n := by
  have := List.length_filter_le (rg xs) (List.range' lo n)
  rw [List.length_range'] at this
  exact this
/-- the table of a web -/
noncomputable def tab (xs : List Row) : List Int := tabN (ixs xs 1 (2 ^ xs.length - 1)) 1 (2 ^ xs.length - 1) [0]
theorem tab_len (xs : List Row) : (tab xs).length = 1 + (2 ^ xs.length - 1) := by unfold tab; rw [tabN_len]; rfl
end Lk52

set_option Elab.async false
set_option linter.all false
set_option maxRecDepth 100000
set_option maxHeartbeats 2000000
namespace Lk52
open PySem RX
/-! ### the law's trail -/
theorem lcD_map {α : Type} {tg : D → Fm → Option Fm} {tt : Fm → Rs Sto Bool} {el : Fm → Rs Sto Val} {env : List Slot} {st : Sto} (h : α → D) (p : α → Bool) (f : α → D) : ∀ (l : List α) (acc : List D),
    (∀ a ∈ l, ∃ s1, tg (h a) ⟨env, st⟩ = some s1 ∧ tt s1 = .ok (p a) st ∧ (p a = true → ∃ k, el ⟨s1.env, st⟩ = .ok ⟨k, f a⟩ st ∧ (k = .sh ∨ k = .fr))) → lcD tg tt el env (l.map h) st acc = .ok (acc ++ (l.filter p).map f) st
  | [], acc, _ => by simp [lcD]
  | a :: l, acc, hh => by
    obtain ⟨s1, e1, e2, e3⟩ := hh a List.mem_cons_self
    have ih := fun acc => lcD_map h p f l acc fun d hd => hh d (List.mem_cons_of_mem _ hd)
    rw [List.map_cons, List.filter_cons]
    unfold lcD
    rw [e1]
    by_cases c : p a = true
    · obtain ⟨k, e4, hk⟩ := e3 c
      rcases hk with rfl | rfl <;> simp [e2, c, e4, ih]
    · have c' : p a = false := by simpa using c
      simp [e2, c', ih]
theorem eqv_R2 (a b : Row) : PyData.eqv (toP (R a)) (toP (R b)) = decide (a = b) := by
  show (PyData.eqv (toP (S a.b)) (toP (S b.b)) && (PyData.eqv (toP (S a.s)) (toP (S b.s)) && (PyData.eqv (toP (S a.e)) (toP (S b.e)) && true))) = _
  rw [eqv_S, eqv_S, eqv_S, Bool.and_true]
  obtain ⟨a1, a2, a3⟩ := a
  obtain ⟨b1, b2, b3⟩ := b
  by_cases h1 : a1 = b1 <;> by_cases h2 : a2 = b2 <;> by_cases h3 : a3 = b3 <;> simp [h1, h2, h3]
theorem any_R (a : Row) : ∀ rs : List Row, ((toPL (rs.map R)).any fun z => PyData.eqv z (toP (R a))) = decide (a ∈ rs)
  | [] => by simp [toPL]
  | r :: rs => by
    rw [List.map_cons, toPL, List.any_cons, any_R a rs, eqv_R2]
    by_cases h : a = r
    · subst h; simp
    · have h' : ¬ r = a := fun e => h e.symm
      simp [h, h']
theorem dNotIn_R (a : Row) (rs : List Row) : dNotIn (R a) (.lst (rs.map R)) = shB (!decide (a ∈ rs)) := by
  show (inB (R a) (.lst (rs.map R))).map _ = _
  unfold inB
  have h : (fitD deep (R a) && fitL deep (rs.map R)) = true := by
    have : fitD deep (R a) = true := rfl
    rw [this]
    have : ∀ rs : List Row, fitL deep (rs.map R) = true := by
      intro rs
      induction rs with
      | nil => simp [fitL]
      | cons r rs ih =>
        have : fitD deep (R r) = true := rfl
        rw [List.map_cons, fitL, this, ih]; rfl
    rw [this]; rfl
  simp only [h, if_true, any_R]
  rfl
/-! looking a box up -/
theorem strsD_S : ∀ ls : List (List Nat), strsD (ls.map S) = some (ls.map fun l => (⟨l.toArray⟩ : Str))
  | [] => rfl
  | l :: ls => by rw [List.map_cons, strsD, strsD_S ls]; rfl
theorem uniq_b {xs : List Row} (nd : (xs.map Row.b).Nodup) {a b : Row} (ha : a ∈ xs) (hb : b ∈ xs) (h : a.b = b.b) : a = b := by
  induction xs with
  | nil => cases ha
  | cons x xs ih =>
    rw [List.map_cons, List.nodup_cons] at nd
    rcases List.mem_cons.mp ha with ea | ha'
    · rcases List.mem_cons.mp hb with eb | hb'
      · rw [ea, eb]
      · exact absurd (by rw [← ea, h]; exact List.mem_map_of_mem hb') nd.1
    · rcases List.mem_cons.mp hb with eb | hb'
      · exact absurd (by rw [← eb, ← h]; exact List.mem_map_of_mem ha') nd.1
      · exact ih nd.2 ha' hb'
theorem look {xs : List Row} (nb : (xs.map Row.b).Nodup) {r : Row} (h : r ∈ xs) : ∃ j : Int, dIndex (.lst ((xs.map Row.b).map S)) [S r.b] = shI j ∧ L2.atI (xs.map R) j = some (R r) := by
  have hm : (⟨r.b.toArray⟩ : Str) ∈ (xs.map Row.b).map fun l => (⟨l.toArray⟩ : Str) := List.mem_map_of_mem (List.mem_map_of_mem h)
  refine ⟨((((xs.map Row.b).map fun l => (⟨l.toArray⟩ : Str)).idxOf (⟨r.b.toArray⟩ : Str) : Nat) : Int), ?_, ?_⟩
  · show ((strsD ((xs.map Row.b).map S)).bind fun ks => if (⟨r.b.toArray⟩ : Str) ∈ ks then some (⟨.sh, .int ((ks.idxOf (⟨r.b.toArray⟩ : Str) : Nat) : Int)⟩ : Val) else none) = _
    rw [strsD_S, Option.bind_some, if_pos hm]
  · have lt := List.idxOf_lt_length_of_mem hm
    have g := List.getElem_idxOf lt
    have lt' : ((xs.map Row.b).map fun l => (⟨l.toArray⟩ : Str)).idxOf (⟨r.b.toArray⟩ : Str) < xs.length := by simpa using lt
    rw [atI_R lt']
    congr 1
    congr 1
    refine (uniq_b nb (List.getElem_mem _) h ?_)
    simp only [List.getElem_map] at g
    have := congrArg (fun x : Str => x.cps.toList) g
    simpa using this
/-! the two loops -/
theorem dIx_bs {bs : List (List Nat)} {k : Nat} (h : k < bs.length) : dIx (.lst (bs.map S)) (.int (k : Nat)) = shV (S bs[k]) := by
  rw [dIx_l, atI_nat (by omega) (by rw [List.length_map]; omega)]
  simp
theorem atI_last {α : Type} {l : List α} (h : 0 < l.length) : L2.atI l (-1) = some (l[l.length - 1]'(by omega)) := by
  unfold L2.atI L2.ixN
  have h1 : ¬ (0 : Int) ≤ -1 := by decide
  have h2 : (-(l.length : Int)) ≤ -1 := by omega
  have h3 : ((-1 : Int) + (l.length : Int)).toNat = l.length - 1 := by omega
  have h4 : ((l.length : Int) + (-1 : Int)).toNat = l.length - 1 := by omega
  have h5 : l.length - 1 < l.length := by omega
  simp [h1, h2, h3, h4, h5] <;> omega
theorem rngN_cons (lo n : Nat) : rngN lo (n + 1) = .int (lo : Nat) :: rngN (lo + 1) n := by unfold rngN; rw [List.range'_succ]; rfl
theorem trail1 (st : Sto) (a0 x2 x4 : Slot) (ns bs : List (List Nat)) (hm : ∀ b ∈ bs, b ∈ ns) : ∀ (n lo : Nat) (x5 : Slot), lo + n = bs.length →
    ((∀ k (h : k < bs.length), lo ≤ k → bs[k] ∉ bs.take k) ∧ ∃ x5', forD (gN 5) m_l_is_trail_b1 (rngN lo n) ⟨[a0, .v (.lst (bs.map S)), x2, .v (.lst (ns.map S)), x4, x5, .emp], st⟩ = .ok .nx ⟨[a0, .v (.lst (bs.map S)), x2, .v (.lst (ns.map S)), x4, x5', .emp], st⟩) ∨
    ((¬ ∀ k (h : k < bs.length), lo ≤ k → bs[k] ∉ bs.take k) ∧ ∃ s', forD (gN 5) m_l_is_trail_b1 (rngN lo n) ⟨[a0, .v (.lst (bs.map S)), x2, .v (.lst (ns.map S)), x4, x5, .emp], st⟩ = .ok (.ret ⟨.sh, .bl false⟩) s' ∧ s'.sto = st)
  | 0, lo, x5, h => .inl ⟨fun k hk hl => by omega, x5, rfl⟩
  | n + 1, lo, x5, h => by
    have hk : lo < bs.length := by omega
    have ix := dIx_bs (bs := bs) hk
    have i1 := dNotIn_S bs[lo] ns
    rw [decide_eq_true (hm _ (List.getElem_mem hk))] at i1
    have cu : cut (bs.map S) none (some (lo : Int)) = (bs.take lo).map S := by rw [cut_to, List.map_take]
    have i2 := dIn_S bs[lo] (bs.take lo)
    by_cases c : bs[lo] ∈ bs.take lo
    · right
      refine ⟨fun z => z lo hk (Nat.le_refl _) c, ⟨[a0, .v (.lst (bs.map S)), x2, .v (.lst (ns.map S)), x4, .v (.int lo), .emp], st⟩, ?_, rfl⟩
      rw [decide_eq_true c] at i2
      rw [rngN_cons, forD_cons, ap_gN]
      simp [-List.map_map, -List.map_take, m_l_is_trail_b1_ap, ix, i1, cu, i2]
    · rw [decide_eq_false c] at i2
      have body : m_l_is_trail_b1 ⟨[a0, .v (.lst (bs.map S)), x2, .v (.lst (ns.map S)), x4, .v (.int lo), .emp], st⟩ = .ok .nx ⟨[a0, .v (.lst (bs.map S)), x2, .v (.lst (ns.map S)), x4, .v (.int lo), .emp], st⟩ := by
        simp [-List.map_map, -List.map_take, m_l_is_trail_b1_ap, ix, i1, cu, i2]
      rw [rngN_cons, forD_cons, ap_gN]
      show (_ ∧ ∃ x5', (match m_l_is_trail_b1 ⟨[a0, .v (.lst (bs.map S)), x2, .v (.lst (ns.map S)), x4, .v (.int lo), .emp], st⟩ with | .ok .nx s2 => forD (gN 5) m_l_is_trail_b1 (rngN (lo + 1) n) s2 | .ok .ct s2 => forD (gN 5) m_l_is_trail_b1 (rngN (lo + 1) n) s2 | .ok .bk s2 => .ok .nx s2 | r => r) = _) ∨ (_ ∧ ∃ s', (match m_l_is_trail_b1 ⟨[a0, .v (.lst (bs.map S)), x2, .v (.lst (ns.map S)), x4, .v (.int lo), .emp], st⟩ with | .ok .nx s2 => forD (gN 5) m_l_is_trail_b1 (rngN (lo + 1) n) s2 | .ok .ct s2 => forD (gN 5) m_l_is_trail_b1 (rngN (lo + 1) n) s2 | .ok .bk s2 => .ok .nx s2 | r => r) = _ ∧ _)
      rw [body]
      rcases trail1 st a0 x2 x4 ns bs hm n (lo + 1) (.v (.int lo)) (by omega) with ⟨a, b⟩ | ⟨a, b⟩
      · refine .inl ⟨fun k hk hl => ?_, b⟩
        by_cases z : k = lo
        · subst z; exact c
        · exact a k hk (by omega)
      · exact .inr ⟨fun z => a fun k hk hl => z k hk (by omega), b⟩
/-- what the second loop looks at -/
def Cnd (row : List Row) (k : Nat) (h : k < row.length) : Prop := (if k = 0 then lastE row else (row[k - 1]'(by omega)).e) = row[k].s ∧ row[k].s ∉ (row.map Row.s).take k
theorem trail2 (st : Sto) (xs row : List Row) (nb : (xs.map Row.b).Nodup) (hm : ∀ r ∈ row, r ∈ xs) (hl : row.length ≤ 1000) : ∀ (n lo : Nat) (x4 x5 : Slot), lo + n = row.length →
    ((∀ k (h : k < row.length), lo ≤ k → Cnd row k h) ∧ ∃ s', forD (gN 5) m_l_is_trail_b2 (rngN lo n) ⟨[.v (.lst (xs.map R)), .v (.lst ((row.map Row.b).map S)), .v (.bl true), .v (.lst ((xs.map Row.b).map S)), x4, x5, .own (.lst (((row.map Row.s).take lo).map S))], st⟩ = .ok .nx s' ∧ s'.sto = st ∧ s'.env[1]? = some (.v (.lst ((row.map Row.b).map S)))) ∨
    ((¬ ∀ k (h : k < row.length), lo ≤ k → Cnd row k h) ∧ ∃ s', forD (gN 5) m_l_is_trail_b2 (rngN lo n) ⟨[.v (.lst (xs.map R)), .v (.lst ((row.map Row.b).map S)), .v (.bl true), .v (.lst ((xs.map Row.b).map S)), x4, x5, .own (.lst (((row.map Row.s).take lo).map S))], st⟩ = .ok (.ret ⟨.sh, .bl false⟩) s' ∧ s'.sto = st)
  | 0, lo, x4, x5, h => .inl ⟨fun k hk hl => by omega, _, rfl, rfl, rfl⟩
  | n + 1, lo, x4, x5, h => by
    have hk : lo < row.length := by omega
    have ix : dIx (.lst ((row.map Row.b).map S)) (.int (lo : Nat)) = shV (S row[lo].b) := by
      rw [dIx_bs (by rw [List.length_map]; exact hk), List.getElem_map]
    obtain ⟨j, ej, aj⟩ := look nb (hm _ (List.getElem_mem hk))
    obtain ⟨pr, hpr, pe, ixp⟩ : ∃ pr, pr ∈ row ∧ (if lo = 0 then lastE row else (row[lo - 1]'(by omega)).e) = pr.e ∧ dIx (.lst ((row.map Row.b).map S)) (.int ((lo : Int) - 1)) = shV (S pr.b) := by
      by_cases z : lo = 0
      · subst z
        refine ⟨row[row.length - 1]'(by omega), List.getElem_mem _, by rw [if_pos rfl, lastE_eq hk], ?_⟩
        rw [dIx_l]
        show (L2.atI ((row.map Row.b).map S) (-1)).map _ = _
        rw [atI_last (by simpa using hk)]
        simp
      · refine ⟨row[lo - 1]'(by omega), List.getElem_mem _, by rw [if_neg z], ?_⟩
        have : ((lo : Int) - 1) = ((lo - 1 : Nat) : Int) := by omega
        rw [this, dIx_bs (by rw [List.length_map]; omega), List.getElem_map]
    obtain ⟨j', ej', aj'⟩ := look nb (hm _ hpr)
    have t0 : truD' (.bl true) = some true := rfl
    have din := dIn_S row[lo].s ((row.map Row.s).take lo)
    by_cases c1 : pr.e = row[lo].s
    · by_cases c2 : row[lo].s ∈ (row.map Row.s).take lo
      · right
        rw [decide_eq_true c2] at din
        refine ⟨fun z => (z lo hk (Nat.le_refl _)).2 c2, ⟨[.v (.lst (xs.map R)), .v (.lst ((row.map Row.b).map S)), .v (.bl true), .v (.lst ((xs.map Row.b).map S)), .v (R row[lo]), .v (.int lo), .own (.lst (((row.map Row.s).take lo).map S))], st⟩, ?_, rfl⟩
        rw [rngN_cons, forD_cons, ap_gN]
        simp [-List.map_map, -List.map_take, -dIx_l, dIx_l (ds := xs.map R), m_l_is_trail_b2_ap, mBM, isT, ix, ej, aj, ixp, ej', aj', ix_e, ix_s, dNe_S, c1, t0, din]
      · rw [decide_eq_false c2] at din
        have tk : (row.map Row.s).take (lo + 1) = (row.map Row.s).take lo ++ [row[lo].s] := by
          rw [take_succ' (by rw [List.length_map]; exact hk), List.getElem_map]
        have fa : fAppend (((row.map Row.s).take lo).map S) [S row[lo].s] = some (((row.map Row.s).take lo).map S ++ [S row[lo].s], .non) := fAppend_ok (by rw [List.length_map, List.length_take]; unfold line; omega)
        have body : m_l_is_trail_b2 ⟨[.v (.lst (xs.map R)), .v (.lst ((row.map Row.b).map S)), .v (.bl true), .v (.lst ((xs.map Row.b).map S)), x4, .v (.int lo), .own (.lst (((row.map Row.s).take lo).map S))], st⟩ = .ok .nx ⟨[.v (.lst (xs.map R)), .v (.lst ((row.map Row.b).map S)), .v (.bl true), .v (.lst ((xs.map Row.b).map S)), .v (R row[lo]), .v (.int lo), .own (.lst (((row.map Row.s).take (lo + 1)).map S))], st⟩ := by
          rw [tk, List.map_append]
          simp [-List.map_map, -List.map_take, -dIx_l, dIx_l (ds := xs.map R), m_l_is_trail_b2_ap, mBM, isT, ix, ej, aj, ixp, ej', aj', ix_e, ix_s, dNe_S, c1, t0, din, fa]
        have cnd : Cnd row lo hk := ⟨by rw [pe, c1], c2⟩
        rcases trail2 st xs row nb hm hl n (lo + 1) (.v (R row[lo])) (.v (.int lo)) (by omega) with ⟨a, s', b, b2⟩ | ⟨a, s', b, b2⟩
        · refine .inl ⟨fun k hk hl => ?_, s', ?_, b2⟩
          · by_cases z : k = lo
            · subst z; exact cnd
            · exact a k hk (by omega)
          · rw [rngN_cons, forD_cons, ap_gN]
            show (match m_l_is_trail_b2 ⟨[.v (.lst (xs.map R)), .v (.lst ((row.map Row.b).map S)), .v (.bl true), .v (.lst ((xs.map Row.b).map S)), x4, .v (.int lo), .own (.lst (((row.map Row.s).take lo).map S))], st⟩ with | .ok .nx s2 => forD (gN 5) m_l_is_trail_b2 (rngN (lo + 1) n) s2 | .ok .ct s2 => forD (gN 5) m_l_is_trail_b2 (rngN (lo + 1) n) s2 | .ok .bk s2 => .ok .nx s2 | r => r) = _
            rw [body]
            exact b
        · refine .inr ⟨fun z => a fun k hk hl => z k hk (by omega), s', ?_, b2⟩
          rw [rngN_cons, forD_cons, ap_gN]
          show (match m_l_is_trail_b2 ⟨[.v (.lst (xs.map R)), .v (.lst ((row.map Row.b).map S)), .v (.bl true), .v (.lst ((xs.map Row.b).map S)), x4, .v (.int lo), .own (.lst (((row.map Row.s).take lo).map S))], st⟩ with | .ok .nx s2 => forD (gN 5) m_l_is_trail_b2 (rngN (lo + 1) n) s2 | .ok .ct s2 => forD (gN 5) m_l_is_trail_b2 (rngN (lo + 1) n) s2 | .ok .bk s2 => .ok .nx s2 | r => r) = _
          rw [body]
          exact b
    · right
      refine ⟨fun z => c1 (pe.symm.trans (z lo hk (Nat.le_refl _)).1), ⟨[.v (.lst (xs.map R)), .v (.lst ((row.map Row.b).map S)), .v (.bl true), .v (.lst ((xs.map Row.b).map S)), .v (R row[lo]), .v (.int lo), .own (.lst (((row.map Row.s).take lo).map S))], st⟩, ?_, rfl⟩
      rw [rngN_cons, forD_cons, ap_gN]
      simp [-List.map_map, -List.map_take, -dIx_l, dIx_l (ds := xs.map R), m_l_is_trail_b2_ap, mBM, isT, ix, ej, aj, ixp, ej', aj', ix_e, ix_s, dNe_S, c1]
theorem nodup_take {α : Type} (l : List α) : l.Nodup ↔ ∀ k (h : k < l.length), 0 ≤ k → l[k] ∉ l.take k := by
  constructor
  · intro nd k h _
    exact notin_take nd h
  · intro h
    refine List.pairwise_iff_getElem.mpr fun i j hi hj hij e => h j hj (Nat.zero_le _) ?_
    rw [← e]
    exact List.mem_take_iff_getElem.mpr ⟨i, by omega, rfl⟩
theorem trail_iff (row : List Row) (hp : 0 < row.length) : Trail row ↔ (row.map Row.b).Nodup ∧ ∀ k (h : k < row.length), 0 ≤ k → Cnd row k h := by
  constructor
  · intro t
    refine ⟨t.nb, fun k h _ => ⟨?_, ?_⟩⟩
    · by_cases z : k = 0
      · subst z; rw [if_pos rfl]; exact t.cl
      · rw [if_neg z]
        have := t.ch (k - 1) (by omega)
        have z : k - 1 + 1 = k := by omega
        simp only [z] at this
        exact this
    · have := notin_take t.ns (k := k) (by rw [List.length_map]; exact h)
      rw [List.getElem_map] at this
      exact this
  · rintro ⟨nb, hc⟩
    refine ⟨nb, hp, fun i h => ?_, ?_, ?_⟩
    · have := (hc (i + 1) h (Nat.zero_le _)).1
      rw [if_neg (by omega)] at this
      exact this
    · have := (hc 0 hp (Nat.zero_le _)).1
      rw [if_pos rfl] at this
      exact this
    · refine (nodup_take _).mpr fun k h _ => ?_
      rw [List.length_map] at h
      rw [List.getElem_map]
      exact (hc k h (Nat.zero_le _)).2
theorem is_trail_ev (st : Sto) (xs row : List Row) (nb : (xs.map Row.b).Nodup) (hm : ∀ r ∈ row, r ∈ xs) (hp : 0 < row.length) (hl : row.length ≤ 12) (hx : xs.length ≤ 12) :
    (Trail row ∧ f_l_is_trail [.lst (xs.map R), .lst ((row.map Row.b).map S), .bl true] st = .ok ⟨.sh, .bl true⟩ st) ∨ (¬ Trail row ∧ f_l_is_trail [.lst (xs.map R), .lst ((row.map Row.b).map S), .bl true] st = .ok ⟨.sh, .bl false⟩ st) := by
  have lc : mLc (mSrc seqD (mVar 0)) (gN 4) mYes (mOp dIx (mVar 4) (mC (.int 0))) [4] ⟨[.v (.lst (xs.map R)), .v (.lst ((row.map Row.b).map S)), .v (.bl true), .emp, .emp, .emp, .emp], st⟩ = .ok ⟨.fr, .lst ((xs.map Row.b).map S)⟩ st := by
    refine lc_ev (ds := xs.map R) (st := st) (by simp [seqD]) (by rw [List.length_map]; omega) rfl ?_
    rw [lcD_map R (fun _ => true) (fun r => S r.b), List.nil_append, List.filter_eq_self.mpr (fun _ _ => rfl), List.map_map]
    · rfl
    · intro r _
      exact ⟨_, rfl, rfl, fun _ => ⟨.sh, by simp [wipeE, ix_b], .inl rfl⟩⟩
  have r0 : (row.length : Int) = ((row.map Row.b).map S).length := by simp
  have rr : ∀ st, rngR [⟨.sh, .int (row.length : Nat)⟩] st = .ok (rngN 0 row.length) st := fun st => by
    rw [rngR_1 (by omega) (by omega), Int.toNat_natCast]
    exact congrArg (fun l => Rs.ok l st) (rngD_N 0 row.length)
  have pos : (0 : Int) < (row.length : Int) := by omega
  have z0 : (0 : Nat) ≤ line := by decide
  rcases trail1 st (.v (.lst (xs.map R))) (.v (.bl true)) .emp (xs.map Row.b) (row.map Row.b) (fun b hb => by
    obtain ⟨r, hr, rfl⟩ := List.mem_map.mp hb
    exact List.mem_map_of_mem (hm r hr)) row.length 0 .emp (by rw [List.length_map]; omega) with ⟨a, x5, e1⟩ | ⟨a, s', e1, e2⟩
  · rcases trail2 st xs row nb hm (by omega) row.length 0 .emp x5 (by omega) with ⟨a2, s2, e3, e4, e5⟩ | ⟨a2, s2, e3, e4⟩
    · left
      refine ⟨(trail_iff row hp).mpr ⟨(nodup_take _).mpr a, a2⟩, ?_⟩
      obtain ⟨env2, sto2⟩ := s2
      dsimp only at e4 e5
      subst e4
      have v1 : mVar 1 ⟨env2, sto2⟩ = .ok ⟨.sh, .lst ((row.map Row.b).map S)⟩ sto2 := by rw [ap_var]; simp only [e5]
      rw [List.take_zero, List.map_nil] at e3
      simp only [f_l_is_trail, fnM, m_l_is_trail_ap]
      simp [-List.map_map, -List.map_take, lc, rr, e1, z0, e3, v1, hp]
    · right
      refine ⟨fun t => a2 ((trail_iff row hp).mp t).2, ?_⟩
      rw [List.take_zero, List.map_nil] at e3
      simp only [f_l_is_trail, fnM, m_l_is_trail_ap]
      simp [-List.map_map, -List.map_take, lc, rr, e1, z0, e3, e4]
  · right
    refine ⟨fun t => a ((nodup_take _).mp t.nb), ?_⟩
    simp only [f_l_is_trail, fnM, m_l_is_trail_ap]
    simp [-List.map_map, -List.map_take, lc, rr, e1, e2]
end Lk52

set_option Elab.async false
set_option linter.all false
set_option maxRecDepth 100000
set_option maxHeartbeats 2000000
namespace Lk52
open PySem RX
/-! ### the law's rings and table -/
theorem dEq_Sv (a b : List Nat) : dEq (S a) (S b) = shB (decide (a = b)) := dEq_S a b
theorem cs_b2 (st : Sto) (a0 x1 x2 x6 : Slot) (k : D) (xs row : List Row) (hp : 0 < row.length) (hl : row.length ≤ 100) (hx : xs.length ≤ 100) :
    ∃ d6, m_l_circuit_sets_b2 ⟨[a0, x1, x2, .v (.lst (xs.map R)), .v k, .own (.lst (row.map R)), x6, .emp], st⟩ = .ok .nx ⟨[a0, x1, x2, .v (.lst (xs.map R)), .v k, .own (.lst ((stepL xs row).map R)), .v d6, .emp], st⟩ := by
  have al : L2.atI (row.map R) (-1) = some (R (row[row.length - 1]'(by omega))) := by
    rw [atI_last (by rw [List.length_map]; exact hp)]
    simp
  have l2 : row[row.length - 1]? = some (row[row.length - 1]'(by omega)) := List.getElem?_eq_getElem _
  have n1 : dNeg (.int 1) = shI (-1) := rfl
  have lc : mLc (mSrc seqD (mVar 3)) (gN 7) (mAnd (mB (mOp dEq (mOp dIx (mVar 7) (mC (.int 1))) (mOp dIx (mOp dIx (mVar 5) (mUn dNeg (mC (.int 1)))) (mC (.int 2))))) (mB (mOp dNotIn (mVar 7) (mVar 5)))) (mVar 7) [7] ⟨[a0, x1, x2, .v (.lst (xs.map R)), .v k, .own (.lst (row.map R)), x6, .emp], st⟩ = .ok ⟨.fr, .lst ((more xs row (row[row.length - 1]'(by omega))).map R)⟩ st := by
    refine lc_ev (ds := xs.map R) (st := st) (by simp [seqD]) (by rw [List.length_map]; omega) rfl ?_
    rw [lcD_map R (fun r => decide (r.s = (row[row.length - 1]'(by omega)).e) && !decide (r ∈ row)) R, List.nil_append]
    · rfl
    · intro r _
      refine ⟨_, rfl, ?_, fun _ => ⟨.sh, by simp [wipeE], .inl rfl⟩⟩
      by_cases c : r.s = (row[row.length - 1]'(by omega)).e
      · simp [wipeE, ix_s, ix_e, al, n1, dEq_S, c, dNotIn_R]
      · simp [wipeE, ix_s, ix_e, al, n1, dEq_S, c]
  cases e : more xs row (row[row.length - 1]'(by omega)) with
  | nil =>
    refine ⟨.lst [], ?_⟩
    have s : stepL xs row = row := by unfold stepL; rw [l2]; simp only [e, List.head?_nil]
    have t0 : truD' (.lst []) = some false := rfl
    rw [s, m_l_circuit_sets_b2_ap]
    rw [e] at lc
    simp [lc, t0]
  | cons q t =>
    refine ⟨.lst ((q :: t).map R), ?_⟩
    have s : stepL xs row = row ++ [q] := by unfold stepL; rw [l2]; simp only [e, List.head?_cons]
    have t1 : truD' (.lst ((q :: t).map R)) = some true := rfl
    have a0' : L2.atI ((q :: t).map R) 0 = some (R q) := by rw [atI_nat (by decide) (by simp)]; rfl
    have fa : fAppend (row.map R) [R q] = some (row.map R ++ [R q], .non) := fAppend_ok (by rw [List.length_map]; unfold line; omega)
    rw [s, m_l_circuit_sets_b2_ap, List.map_append]
    rw [e] at lc
    simp [-List.map_cons, lc, t1, a0', fa]
    rfl
theorem cs_walk (st : Sto) (a0 x1 x2 : Slot) (xs : List Row) (hx : xs.length ≤ 12) : ∀ (n lo : Nat) (o4 : Option D) (x6 : Slot) (row : List Row), 0 < row.length → row.length + n ≤ 90 → (∀ r ∈ row, r ∈ xs) →
    ∃ (o4' : Option D) (x6' : Slot), forD (gN 4) m_l_circuit_sets_b2 (rngN lo n) ⟨[a0, x1, x2, .v (.lst (xs.map R)), (match o4 with | none => .emp | some d => .v d), .own (.lst (row.map R)), x6, .emp], st⟩ = .ok .nx ⟨[a0, x1, x2, .v (.lst (xs.map R)), (match o4' with | none => .emp | some d => .v d), .own (.lst ((walkL xs n row).map R)), x6', .emp], st⟩
  | 0, lo, o4, x6, row, _, _, _ => ⟨o4, x6, rfl⟩
  | n + 1, lo, o4, x6, row, hp, hl, hm => by
    obtain ⟨d6, e⟩ := cs_b2 st a0 x1 x2 x6 (.int lo) xs row hp (by omega) (by omega)
    have sp : 0 < (stepL xs row).length ∧ (stepL xs row).length ≤ row.length + 1 ∧ ∀ r ∈ stepL xs row, r ∈ xs := by
      rcases stepL_pre xs row with z | ⟨q, hq, z⟩
      · rw [z]; exact ⟨hp, by omega, hm⟩
      · rw [z]
        refine ⟨by simp, by simp, fun r hr => ?_⟩
        rcases List.mem_append.mp hr with x | x
        · exact hm r x
        · rw [List.mem_singleton] at x; subst x; exact hq
    obtain ⟨o4', x6', e2⟩ := cs_walk st a0 x1 x2 xs hx n (lo + 1) (some (.int lo)) (.v d6) (stepL xs row) sp.1 (by omega) sp.2.2
    refine ⟨o4', x6', ?_⟩
    rw [rngN_cons, forD_cons, ap_gN]
    show (match m_l_circuit_sets_b2 ⟨[a0, x1, x2, .v (.lst (xs.map R)), .v (.int lo), .own (.lst (row.map R)), x6, .emp], st⟩ with | .ok .nx s2 => forD (gN 4) m_l_circuit_sets_b2 (rngN (lo + 1) n) s2 | .ok .ct s2 => forD (gN 4) m_l_circuit_sets_b2 (rngN (lo + 1) n) s2 | .ok .bk s2 => .ok .nx s2 | r => r) = _
    rw [e]
    exact e2
abbrev oS (o : Option D) : Slot := match o with
  | none => .emp
  | some d => .v d
theorem cs_body (st : Sto) (xs : List Row) (hn : xs.length ≤ 6) (nb : (xs.map Row.b).Nodup) (i : Nat) (h1 : 1 ≤ i) (h2 : i < 2 ^ xs.length) (is : List Nat) (hl : is.length ≤ 1000) (x3 x5 x6 : Slot) (o4 : Option D) :
    ∃ (x3' x5' x6' : Slot) (o4' : Option D), m_l_circuit_sets_b1 ⟨[.v (.lst (xs.map R)), .own (.lst (is.map fun (r : Nat) => .int (r : Nat))), .v (.int i), x3, oS o4, x5, x6, .emp], st⟩ =
      .ok .nx ⟨[.v (.lst (xs.map R)), .own (.lst ((is ++ if rg xs i = true then [i] else []).map fun (r : Nat) => .int (r : Nat))), .v (.int i), x3', oS o4', x5', x6', .emp], st⟩ := by
  have pos := sel_pos hn h1 h2
  have len := sel_len xs i
  have nbs := sel_nb nb i
  have n0 : (-1000 : Int) ≤ (xs.length : Int) := by omega
  have n1 : (xs.length : Int) ≤ 1000000 := by omega
  have lc : mLc (mRng (mCons (mCB dLen (mCons (mVar 0) mNil)) mNil)) (gN 4) (mB (mOp dEq (mOp dAndB (mOp dShr (mVar 2) (mVar 4)) (mC (.int 1))) (mC (.int 1)))) (mOp dIx (mVar 0) (mVar 4)) [4] ⟨[.v (.lst (xs.map R)), .own (.lst (is.map fun (r : Nat) => .int (r : Nat))), .v (.int i), x3, oS o4, x5, x6, .emp], st⟩ = .ok ⟨.fr, .lst ((sel xs i).map R)⟩ st := by
    refine lc_ev (ds := rngD 0 xs.length) (st := st) (by simp [rngR_1 n0 n1]) (by rw [rngD_len]; omega) (by cases o4 <;> rfl) ?_
    refine chosen_ev xs i (fun k => ?_) (fun k hk => ?_)
    · simp [wipeE, dShr_nat]
      rfl
    · simp [wipeE, atI_R hk]
  have at0 : L2.atI ((sel xs i).map R) 0 = some (R (sel xs i)[0]) := atI_R (k := 0) pos
  have z1 : (1 : Nat) ≤ line := by decide
  obtain ⟨o4', x6', e⟩ := cs_walk st (.v (.lst (xs.map R))) (.own (.lst (is.map fun (r : Nat) => .int (r : Nat)))) (.v (.int i)) (sel xs i) (by omega) ((sel xs i).length - 1) 0 o4 x6 [(sel xs i)[0]] (by simp) (by simp; omega) (fun r hr => by rw [List.mem_singleton] at hr; subst hr; exact List.getElem_mem pos)
  have lr := law_ring nbs pos
  obtain ⟨wm, wf, wl, wp⟩ := walkL_pre (xs := sel xs i) ((sel xs i).length - 1) [(sel xs i)[0]] (fun r hr => by rw [List.mem_singleton] at hr; subst hr; exact List.getElem_mem pos) (by simp)
  generalize hw : walkL (sel xs i) ((sel xs i).length - 1) [(sel xs i)[0]] = row at e lr wm wf wl wp
  have wl : row.length ≤ 6 := by simp at wl; omega
  have rr : rngR [⟨.sh, .int (((sel xs i).length : Int) - 1)⟩] st = .ok (rngN 0 ((sel xs i).length - 1)) st := by
    rw [rngR_1 (by omega) (by omega)]
    have : (((sel xs i).length : Int) - 1).toNat = (sel xs i).length - 1 := by omega
    rw [this]
    exact congrArg (fun l => Rs.ok l st) (rngD_N 0 _)
  have cast : ((row.length : Int) = ((sel xs i).length : Int)) ↔ row.length = (sel xs i).length := by omega
  have lc2 : mLc (mSrc seqD (mVar 5)) (gN 7) mYes (mOp dIx (mVar 7) (mC (.int 0))) [7] ⟨[.v (.lst (xs.map R)), .own (.lst (is.map fun (r : Nat) => .int (r : Nat))), .v (.int i), .v (.lst ((sel xs i).map R)), oS o4', .v (.lst (row.map R)), x6', .emp], st⟩ = .ok ⟨.fr, .lst (row.map fun r => S r.b)⟩ st :=
    lc_ev (ds := row.map R) (st := st) (by simp [seqD]) (by rw [List.length_map]; omega) rfl (map_b_lc st _ rfl row)
  have mb : (row.map fun r => S r.b) = (row.map Row.b).map S := by rw [List.map_map]; rfl
  rw [mb] at lc2
  have tr := is_trail_ev st (sel xs i) row nbs wm wp (by omega) (by omega)
  have fa : fAppend (is.map fun (r : Nat) => D.int (r : Nat)) [.int (i : Nat)] = some ((is.map fun (r : Nat) => D.int (r : Nat)) ++ [.int (i : Nat)], .non) := fAppend_ok (by rw [List.length_map]; unfold line; omega)
  have e : forD (gN 4) m_l_circuit_sets_b2 (rngN 0 ((sel xs i).length - 1)) ⟨[.v (.lst (xs.map R)), .own (.lst (is.map fun (r : Nat) => .int (r : Nat))), .v (.int i), .v (.lst ((sel xs i).map R)), oS o4, .own (.lst [R (sel xs i)[0]]), x6, .emp], st⟩ = .ok .nx ⟨[.v (.lst (xs.map R)), .own (.lst (is.map fun (r : Nat) => .int (r : Nat))), .v (.int i), .v (.lst ((sel xs i).map R)), oS o4', .own (.lst (row.map R)), x6', .emp], st⟩ := e
  refine ⟨.v (.lst ((sel xs i).map R)), .v (.lst (row.map R)), x6', o4', ?_⟩
  rw [m_l_circuit_sets_b1_ap]
  by_cases c : row.length = (sel xs i).length
  · rcases tr with ⟨t, e3⟩ | ⟨t, e3⟩
    · have g : rg xs i = true := rg_true.mpr (lr.mp ⟨c, t⟩)
      rw [if_pos g, List.map_append]
      simp [-List.map_map, lc, at0, z1, rr, e, mFreeze, lc2, c, callW_sh', e3, fa]
    · have g : ¬ rg xs i = true := fun z => t (lr.mpr (rg_true.mp z)).2
      rw [if_neg g, List.append_nil]
      simp [-List.map_map, lc, at0, z1, rr, e, mFreeze, lc2, c, callW_sh', e3]
  · have g : ¬ rg xs i = true := fun z => c (lr.mpr (rg_true.mp z)).1
    rw [if_neg g, List.append_nil]
    simp [-List.map_map, lc, at0, z1, rr, e, mFreeze, cast, c]
theorem cs_loop (st : Sto) (xs : List Row) (hn : xs.length ≤ 6) (nb : (xs.map Row.b).Nodup) : ∀ (n lo : Nat) (is : List Nat) (x2 x3 x5 x6 : Slot) (o4 : Option D), 1 ≤ lo → lo + n ≤ 2 ^ xs.length → is.length + n ≤ 1000 →
    ∃ (x2' x3' x5' x6' : Slot) (o4' : Option D), forD (gN 2) m_l_circuit_sets_b1 (rngN lo n) ⟨[.v (.lst (xs.map R)), .own (.lst (is.map fun (r : Nat) => .int (r : Nat))), x2, x3, oS o4, x5, x6, .emp], st⟩ =
      .ok .nx ⟨[.v (.lst (xs.map R)), .own (.lst ((is ++ ixs xs lo n).map fun (r : Nat) => .int (r : Nat))), x2', x3', oS o4', x5', x6', .emp], st⟩
  | 0, lo, is, x2, x3, x5, x6, o4, _, _, _ => ⟨x2, x3, x5, x6, o4, by unfold ixs; rw [List.range'_zero, List.filter_nil, List.append_nil]; rfl⟩
  | n + 1, lo, is, x2, x3, x5, x6, o4, h1, h2, hl => by
    obtain ⟨x3', x5', x6', o4', e⟩ := cs_body st xs hn nb lo h1 (by omega) is (by omega) x3 x5 x6 o4
    obtain ⟨y2, y3, y5, y6, p4, e2⟩ := cs_loop st xs hn nb n (lo + 1) (is ++ if rg xs lo = true then [lo] else []) (.v (.int lo)) x3' x5' x6' o4' (by omega) (by omega) (by rw [List.length_append]; split <;> simp <;> omega)
    refine ⟨y2, y3, y5, y6, p4, ?_⟩
    rw [ixs_succ, ← List.append_assoc, rngN_cons, forD_cons, ap_gN]
    show (match m_l_circuit_sets_b1 ⟨[.v (.lst (xs.map R)), .own (.lst (is.map fun (r : Nat) => .int (r : Nat))), .v (.int lo), x3, oS o4, x5, x6, .emp], st⟩ with | .ok .nx s2 => forD (gN 2) m_l_circuit_sets_b1 (rngN (lo + 1) n) s2 | .ok .ct s2 => forD (gN 2) m_l_circuit_sets_b1 (rngN (lo + 1) n) s2 | .ok .bk s2 => .ok .nx s2 | r => r) = _
    rw [e]
    exact e2
theorem circuit_sets_ev (st : Sto) (xs : List Row) (hn : xs.length ≤ 6) (nb : (xs.map Row.b).Nodup) : f_l_circuit_sets [.lst (xs.map R)] st = .ok ⟨.fr, .lst ((ixs xs 1 (2 ^ xs.length - 1)).map fun (r : Nat) => .int (r : Nat))⟩ st := by
  have p := pow_le _ hn
  obtain ⟨x2, x3, x5, x6, o4, e⟩ := cs_loop st xs hn nb (2 ^ xs.length - 1) 1 [] .emp .emp .emp .emp none (by omega) (by omega) (by simp; omega)
  have r := rngR_pow st xs.length hn
  have s1 := shl_one xs.length (by omega)
  have e : forD (gN 2) m_l_circuit_sets_b1 (rngN 1 (2 ^ xs.length - 1)) ⟨[.v (.lst (xs.map R)), .own (.lst []), .emp, .emp, .emp, .emp, .emp, .emp], st⟩ =
      .ok .nx ⟨[.v (.lst (xs.map R)), .own (.lst ((ixs xs 1 (2 ^ xs.length - 1)).map fun (r : Nat) => .int (r : Nat))), x2, x3, oS o4, x5, x6, .emp], st⟩ := e
  simp only [f_l_circuit_sets, fnM, m_l_circuit_sets_ap]
  simp [-Int.natCast_pow, s1, r, e]
/-- the law's turn -/
theorem wt_body (st : Sto) (is : List Nat) (hl : is.length ≤ 100) (i : Nat) (T : List Int) (hT : T.length = i) (h1 : ∀ r ∈ is, 1 ≤ r) (hi : 1 ≤ i) (hi2 : i ≤ 100) (a0 : Slot) :
    m_l_web_table_b1 ⟨[a0, .v (.lst (is.map fun (r : Nat) => .int (r : Nat))), .own (.lst (T.map D.int)), .v (.int i), .emp], st⟩ = .ok .nx ⟨[a0, .v (.lst (is.map fun (r : Nat) => .int (r : Nat))), .own (.lst ((T ++ [entry is T i]).map D.int)), .v (.int i), .emp], st⟩ := by
  have lc : mLc (mSrc seqD (mVar 1)) (gN 4) (mB (mOp dEq (mOp dAndB (mVar 3) (mVar 4)) (mVar 4))) (mOp dAdd (mC (.int 1)) (mOp dIx (mVar 2) (mOp dSub (mVar 3) (mVar 4)))) [4] ⟨[a0, .v (.lst (is.map fun (r : Nat) => .int (r : Nat))), .own (.lst (T.map D.int)), .v (.int i), .emp], st⟩ = .ok ⟨.fr, .lst ((insd is i).map fun r => .int (1 + nth T (i - r)))⟩ st := by
    refine lc_ev (ds := is.map fun (r : Nat) => .int (r : Nat)) (st := st) (by simp [seqD]) (by rw [List.length_map]; omega) rfl ?_
    rw [lcD_map (fun (r : Nat) => D.int (r : Nat)) (inN i) (fun r => D.int (1 + nth T (i - r))), List.nil_append]
    · rfl
    · intro r hr
      have tt := and_test i r
      rw [dAnd_nat] at tt
      have tt : dEq (.int ((i &&& r : Nat) : Int)) (.int (r : Nat)) = shB (inN i r) := tt
      refine ⟨_, rfl, ?_, fun c => ⟨.sh, ?_, .inl rfl⟩⟩
      · simp only [wipeE, ap_b, ap_op, ap_var3, List.set, ap_var4, ap_c, Rs.bind, ap_ofO, dAnd_nat, tt, ap_asB]
      · have le : r ≤ i := and_le i r (by simpa [inN] using c)
        have := h1 r hr
        have ta := T_at (T := T) (i := i) (r := r) (by omega)
        simp only [wipeE, ap_op, ap_c, List.set, ap_own2, ap_var3, ap_var4, Rs.bind, dSub_nat le, ap_ofO, dIx_l, ta, Option.map_some, dAdd_ii]
  have z1 : (1 : Nat) ≤ line := by decide
  have li : (insd is i).length ≤ 100 := Nat.le_trans (List.length_filter_le _ _) hl
  have da : dAdd (.lst [.int 0]) (.lst ((insd is i).map fun r => .int (1 + nth T (i - r)))) = some ⟨.fr, .lst (.int 0 :: (insd is i).map fun r => .int (1 + nth T (i - r)))⟩ := by
    rw [dAdd_l (by rw [List.length_map, List.length_singleton]; unfold line; omega)]
    rfl
  have fa : fAppend (T.map D.int) [.int (entry is T i)] = some (T.map D.int ++ [.int (entry is T i)], .non) := fAppend_ok (by rw [List.length_map]; unfold line; omega)
  rw [m_l_web_table_b1_ap, List.map_append]
  simp [lc, z1, da, max_ev, fa]
theorem wt_loop (st : Sto) (is : List Nat) (hl : is.length ≤ 100) (h1 : ∀ r ∈ is, 1 ≤ r) (a0 : Slot) : ∀ (n lo : Nat) (T : List Int) (x3 : Slot), T.length = lo → 1 ≤ lo → lo + n ≤ 100 →
    ∃ x3', forD (gN 3) m_l_web_table_b1 (rngN lo n) ⟨[a0, .v (.lst (is.map fun (r : Nat) => .int (r : Nat))), .own (.lst (T.map D.int)), x3, .emp], st⟩ = .ok .nx ⟨[a0, .v (.lst (is.map fun (r : Nat) => .int (r : Nat))), .own (.lst ((tabN is lo n T).map D.int)), x3', .emp], st⟩
  | 0, lo, T, x3, _, _, _ => ⟨x3, rfl⟩
  | n + 1, lo, T, x3, hT, h, h2 => by
    have e := wt_body st is hl lo T hT h1 h (by omega) a0
    obtain ⟨y3', e2⟩ := wt_loop st is hl h1 a0 n (lo + 1) (T ++ [entry is T lo]) (.v (.int lo)) (by simp [hT]) (by omega) (by omega)
    refine ⟨y3', ?_⟩
    rw [rngN_cons, forD_cons, ap_gN]
    show (match m_l_web_table_b1 ⟨[a0, .v (.lst (is.map fun (r : Nat) => .int (r : Nat))), .own (.lst (T.map D.int)), .v (.int lo), .emp], st⟩ with | .ok .nx s2 => forD (gN 3) m_l_web_table_b1 (rngN (lo + 1) n) s2 | .ok .ct s2 => forD (gN 3) m_l_web_table_b1 (rngN (lo + 1) n) s2 | .ok .bk s2 => .ok .nx s2 | r => r) = _
    rw [e]
    exact e2
theorem web_table_ev (st : Sto) (xs : List Row) (hn : xs.length ≤ 6) (nb : (xs.map Row.b).Nodup) : f_l_web_table [.lst (xs.map R)] st = .ok ⟨.fr, .lst ((tab xs).map D.int)⟩ st := by
  have p := pow_le _ hn
  have l := ixs_len xs 1 (2 ^ xs.length - 1)
  obtain ⟨x3, e⟩ := wt_loop st (ixs xs 1 (2 ^ xs.length - 1)) (by omega) (ixs_pos xs 1 _ (by omega)) (.v (.lst (xs.map R))) (2 ^ xs.length - 1) 1 [0] .emp rfl (by omega) (by omega)
  have r := rngR_pow st xs.length hn
  have s1 := shl_one xs.length (by omega)
  have z1 : (1 : Nat) ≤ line := by decide
  have cs := circuit_sets_ev st xs hn nb
  have e : forD (gN 3) m_l_web_table_b1 (rngN 1 (2 ^ xs.length - 1)) ⟨[.v (.lst (xs.map R)), .v (.lst ((ixs xs 1 (2 ^ xs.length - 1)).map fun (r : Nat) => .int (r : Nat))), .own (.lst [.int 0]), .emp, .emp], st⟩ = .ok .nx ⟨[.v (.lst (xs.map R)), .v (.lst ((ixs xs 1 (2 ^ xs.length - 1)).map fun (r : Nat) => .int (r : Nat))), .own (.lst ((tab xs).map D.int)), x3, .emp], st⟩ := e
  simp only [f_l_web_table, fnM, m_l_web_table_ap]
  simp [-Int.natCast_pow, callW_sh', cs, s1, r, z1, e]
end Lk52

set_option Elab.async false
set_option linter.all false
set_option maxRecDepth 100000
set_option maxHeartbeats 2000000
namespace Lk52
open PySem RX
/-! ### the rows sorted, by boxes and as tuples -/
theorem leD_S (a b : List Nat) : leD (S a) (S b) = !PyProof.Rows.lexLt PyProof.Rows.itemOrd [.inr b] [.inr a] := rfl
def restK (r : Row) : List (Int ⊕ List Nat) := .inl 1 :: .inr r.s :: .inl 1 :: .inr r.e :: [.inl 0]
theorem leD_R (a b : Row) : leD (R a) (R b) = !PyProof.Rows.lexLt PyProof.Rows.itemOrd (.inl 1 :: .inr b.b :: restK b) (.inl 1 :: .inr a.b :: restK a) := rfl
theorem leD_RS {a b : Row} (h : a = b ∨ a.b ≠ b.b) : leD (S a.b) (S b.b) = leD (R a) (R b) := by
  rw [leD_S, leD_R]
  rcases h with rfl | h
  · rw [PyProof.Rows.lex_irrefl, PyProof.Rows.lex_irrefl]
  · have hne : (Sum.inr b.b : Int ⊕ List Nat) ≠ .inr a.b := fun e => h (Sum.inr.inj e).symm
    have e1 : PyProof.Rows.lexLt PyProof.Rows.itemOrd (.inl 1 :: .inr b.b :: restK b) (.inl 1 :: .inr a.b :: restK a) = PyProof.Rows.lexLt PyProof.Rows.itemOrd (.inr b.b :: restK b) (.inr a.b :: restK a) := PySem.W.lex_pre [.inl 1] _ _
    rw [e1, PySem.W.lex_atom hne (restK b) (restK a)]
theorem map_inj_on {α β : Type} {f : α → β} : ∀ {a b : List α}, (∀ x ∈ a, ∀ y ∈ b, f x = f y → x = y) → a.map f = b.map f → a = b
  | [], [], _, _ => rfl
  | [], _ :: _, _, h => by cases h
  | _ :: _, [], _, h => by cases h
  | x :: a, y :: b, hi, h => by
    rw [List.map_cons, List.map_cons, List.cons.injEq] at h
    rw [hi x List.mem_cons_self y List.mem_cons_self h.1, map_inj_on (fun x hx y hy => hi x (List.mem_cons_of_mem _ hx) y (List.mem_cons_of_mem _ hy)) h.2]
theorem Sorted.mapR {rs wr : List Row} (h : Sorted rs wr) (nd : (rs.map Row.b).Nodup) : (rs.map R).mergeSort leD = wr.map R := by
  have a : (rs.mergeSort fun a b => leD (S a.b) (S b.b)).map R = (rs.map R).mergeSort leD := List.map_mergeSort fun a ha b hb => leD_RS (by
    by_cases c : a.b = b.b
    · exact .inl (uniq_b nd ha hb c)
    · exact .inr c)
  have b : (rs.mergeSort fun a b => leD (S a.b) (S b.b)).map (fun r => S r.b) = (rs.map fun r => S r.b).mergeSort leD := List.map_mergeSort fun a _ b _ => rfl
  have c : wr = rs.mergeSort fun a b => leD (S a.b) (S b.b) := by
    refine map_inj_on (f := fun r => S r.b) (fun x hx y hy e => ?_) (h.bx.trans b.symm)
    refine uniq_b nd (h.perm.mem_iff.mp hx) ((List.mergeSort_perm _ _).mem_iff.mp hy) ?_
    have e : (D.str ⟨x.b.toArray⟩) = D.str ⟨y.b.toArray⟩ := e
    have := congrArg (fun d : D => match d with | .str z => z.cps.toList | _ => []) e
    simpa using this
  rw [← a, ← c]
theorem alike_R (a b : Row) : PySem.W.alike (toP (R a)) (toP (R b)) = true := rfl
theorem dSort_R (rs : List Row) : dSortB [.lst (rs.map R)] = some ⟨.fr, .lst ((rs.map R).mergeSort leD)⟩ := by
  show dSortL (rs.map R) = _
  unfold dSortL
  have f : fitL deep (rs.map R) = true := by
    induction rs with
    | nil => simp [fitL]
    | cons r rs ih =>
      have : fitD deep (R r) = true := rfl
      rw [List.map_cons, fitL, this, ih]; rfl
  have a : alikeB ((rs.map R).map toP) = true := by
    unfold alikeB
    simp only [List.all_eq_true, List.mem_map]
    rintro _ ⟨_, ⟨x, _, rfl⟩, rfl⟩ _ ⟨_, ⟨y, _, rfl⟩, rfl⟩
    exact alike_R x y
  have s : sortableB ((rs.map R).map toP) = true := by
    unfold sortableB
    rw [Bool.or_eq_true]
    left
    simp only [List.all_eq_true, List.mem_map]
    rintro _ ⟨_, ⟨x, _, rfl⟩, rfl⟩
    rfl
  rw [if_pos (by rw [f, a, s]; rfl)]
theorem sort_ev {rs wr : List Row} (h : Sorted rs wr) (nd : (rs.map Row.b).Nodup) : dSortB [.lst (rs.map R)] = some ⟨.fr, .lst (wr.map R)⟩ := by
  rw [dSort_R, h.mapR nd]
/-! ### the law's sameness -/
theorem same_int (n : Nat) (i j : Int) (st : Sto) : f_l_same (n + 1) [.int i, .int j] st = .ok ⟨.sh, .bl (decide (i = j))⟩ st := by
  have b1 : ∀ i : Int, dIsi tbB (fun _ => false) [.int i, .ty "bool"] = shB false := fun _ => rfl
  have b2 : ∀ i : Int, dIsi tbB (fun _ => false) [.int i, .ty "int"] = shB true := fun _ => rfl
  have i1 : ∀ i : Int, dIs (.int i) .non = shB false := fun _ => rfl
  simp [f_l_same, fnM, m_l_same_ap, b1, b2, i1]
theorem same_loop (st : Sto) (n : Nat) (T : List Int) (x2 : Slot) : ∀ (m lo : Nat) (x2 : Slot), lo + m = T.length → ∃ x2', forD (gN 2) (m_l_same_b1 (f_l_same (n + 1))) (rngN lo m) ⟨[.v (.lst (T.map D.int)), .v (.lst (T.map D.int)), x2], st⟩ = .ok .nx ⟨[.v (.lst (T.map D.int)), .v (.lst (T.map D.int)), x2'], st⟩
  | 0, lo, x2, _ => ⟨x2, rfl⟩
  | m + 1, lo, x2, h => by
    obtain ⟨x2', e⟩ := same_loop st n T x2 m (lo + 1) (.v (.int lo)) (by omega)
    refine ⟨x2', ?_⟩
    have hk : lo < T.length := by omega
    have at_ : L2.atI (T.map D.int) (lo : Nat) = some (.int T[lo]) := by
      rw [atI_nat (by omega) (by rw [List.length_map]; omega)]
      simp
    rw [rngN_cons, forD_cons, ap_gN]
    simp [m_l_same_b1_ap, at_, callW_sh', same_int, e]
theorem same_ints (n : Nat) (T : List Int) (hT : T.length ≤ 1000) (st : Sto) : f_l_same (n + 2) [.lst (T.map D.int), .lst (T.map D.int)] st = .ok ⟨.sh, .bl true⟩ st := by
  have b1 : ∀ l : List D, dIsi tbB (fun _ => false) [.lst l, .ty "bool"] = shB false := fun _ => rfl
  have b2 : ∀ l : List D, dIsi tbB (fun _ => false) [.lst l, .ty "int"] = shB false := fun _ => rfl
  have b3 : ∀ l : List D, dIsi tbB (fun _ => false) [.lst l, .ty "str"] = shB false := fun _ => rfl
  have b4 : ∀ l : List D, dIsi tbB (fun _ => false) [.lst l, .ty "dict"] = shB false := fun _ => rfl
  have b5 : ∀ l : List D, dIsi tbB (fun _ => false) [.lst l, .ty "list"] = shB true := fun _ => rfl
  have b6 : ∀ l : List D, dIsi tbB (fun _ => false) [.lst l, .ty "tuple"] = shB false := fun _ => rfl
  have b7 : ∀ l : List D, dIsi tbB (fun _ => false) [.lst l, .tup [.ty "list", .ty "tuple"]] = shB true := fun _ => rfl
  have i1 : ∀ l : List D, dIs (.lst l) .non = shB false := fun _ => rfl
  have z2 : (2 : Nat) ≤ line := by decide
  obtain ⟨x2, e⟩ := same_loop st n T .emp T.length 0 .emp (by omega)
  have rr : ∀ st, rngR [⟨.sh, .int (T.length : Nat)⟩] st = .ok (rngN 0 T.length) st := fun st => by
    rw [rngR_1 (by omega) (by omega), Int.toNat_natCast]
    exact congrArg (fun l => Rs.ok l st) (rngD_N 0 T.length)
  simp [f_l_same, fnM, m_l_same_ap, b1, b2, b3, b4, b5, b6, b7, i1, z2, rr]
  have e' := e
  simp only [f_l_same] at e'
  simp [e']
end Lk52

set_option Elab.async false
set_option linter.all false
set_option maxRecDepth 100000
set_option maxHeartbeats 2000000
namespace Lk52
open PySem RX
/-! ### items of tables -/
theorem len_ev (wr : List Row) (st : Sto) : f_Webd__lend_ [web wr] st = .ok ⟨.sh, .int wr.length⟩ st := by
  have d : dFld "Web" "web_rows" (web wr) = shV (.tup (wr.map R)) := rfl
  simp [f_Webd__lend_, fnM, m_Webd__lend__ap, mFld, d]
theorem lenO_ev (wr : List Row) (hw : wr.length ≤ 12) (st : Sto) : mLenO0 "Web" f_Webd__lend_ (mCons (mVar 0) mNil) ⟨[.v (web wr)], st⟩ = .ok ⟨.sh, .int wr.length⟩ st := by
  have c := callW_sh' (f := f_Webd__lend_) (ws := [⟨.sh, web wr⟩]) (st := st) rfl
  have e := len_ev wr st
  have sm : smR (wr.length : Int) = true := smR_of (by omega) (by omega)
  have p : (0 : Int) ≤ wr.length := by omega
  show noEx ((mCons (mVar 0) mNil ⟨[.v (web wr)], st⟩).bind _) = _
  simp only [ap_cons, ap_var0, ap_nil, Rs.bind, ap_settle, if_true, c, List.map, e]
  rw [if_pos ⟨p, sm⟩]
  rfl
theorem con_ev (wr : List Row) (st : Sto) : mCon "Web" "MOST_SEARCHED" (.int 6) (mVar 0) ⟨[.v (web wr)], st⟩ = .ok ⟨.sh, .int 6⟩ st := rfl
abbrev tooMany (n : Nat) : List (Str × D) := [("limit", .int 6), ("many", .int (n : Nat))]
theorem searchable_ok (wr : List Row) (hw : wr.length ≤ 6) (st : Sto) : f_require_searchable [web wr] st = .ok ⟨.sh, .non⟩ st := by
  have l := lenO_ev wr (by omega) st
  have c := con_ev wr st
  have n : ¬ (6 : Int) < wr.length := by omega
  simp [f_require_searchable, fnM, m_require_searchable_ap, l, c, n]
theorem searchable_ex (wr : List Row) (hw : wr.length ≤ 12) (h6 : 6 < wr.length) (st : Sto) : f_require_searchable [web wr] st = .ex "TooMany" (tooMany wr.length) st := by
  have l := lenO_ev wr hw st
  have c := con_ev wr st
  have n : (6 : Int) < wr.length := by omega
  have r : mRaise "TooMany" ["many", "limit"] (mCons (mLenO0 "Web" f_Webd__lend_ (mCons (mVar 0) mNil)) (mCons (mCon "Web" "MOST_SEARCHED" (.int 6) (mVar 0)) mNil)) ⟨[.v (web wr)], st⟩ = .ex "TooMany" (tooMany wr.length) ⟨[.v (web wr)], st⟩ := by
    unfold mRaise
    simp [l, c]
  have main : m_require_searchable ⟨[.v (web wr)], st⟩ = .ex "TooMany" (tooMany wr.length) ⟨[.v (web wr)], st⟩ := by
    rw [m_require_searchable_ap]
    simp [l, c, n, r]
  show outF (m_require_searchable ⟨[.v (web wr)], st⟩) = _
  rw [main]
  rfl
abbrev isi (d : D) (t : String) : Option Val := dIsi tbB (fun _ => false) [d, .ty t]
/-- a plain value that may stand in a table -/
structure Itm (d : D) : Prop where
  ii : (∃ i : Int, d = .int i) ∨ (isi d "int" = shB false ∧ isi d "bool" = shB false ∧ ∀ i : Int, d ≠ .int i)
  tt : isi d "tuple" = shB false ∨ isi d "tuple" = shB true
  cp : ∀ n st, ∃ k, f_l_copy (n + 3) [d] st = .ok ⟨k, d⟩ st ∧ (k = .sh ∨ k = .fr)
  sm : ∀ n st, f_l_same (n + 3) [d, d] st = .ok ⟨.sh, .bl true⟩ st
theorem itm_int (i : Int) : Itm (.int i) := by
  refine ⟨.inl ⟨i, rfl⟩, .inl rfl, fun n st => ⟨.sh, rfl, .inl rfl⟩, fun n st => ?_⟩
  have := same_int (n + 2) i i st
  rw [decide_eq_true rfl] at this
  exact this
theorem fit_eq (a : Str) : dEq (.str a) (.str a) = shB true := by
  unfold dEq
  have h : (fitD deep (.str a) && fitD deep (.str a)) = true := rfl
  rw [if_pos h]
  show shB (a == a) = _
  rw [beq_self_eq_true]
theorem itm_str (a : Str) : Itm (.str a) := by
  refine ⟨.inr ⟨rfl, rfl, fun i h => by cases h⟩, .inl rfl, fun n st => ⟨.sh, rfl, .inl rfl⟩, fun n st => ?_⟩
  have b1 : dIsi tbB (fun _ => false) [.str a, .ty "bool"] = shB false := rfl
  have b2 : dIsi tbB (fun _ => false) [.str a, .ty "int"] = shB false := rfl
  have b3 : dIsi tbB (fun _ => false) [.str a, .ty "str"] = shB true := rfl
  have i1 : dIs (.str a) .non = shB false := rfl
  simp [f_l_same, fnM, m_l_same_ap, b1, b2, b3, i1, fit_eq]
theorem itm_non : Itm .non := by
  refine ⟨.inr ⟨rfl, rfl, fun i h => by cases h⟩, .inl rfl, fun n st => ⟨.sh, rfl, .inl rfl⟩, fun n st => ?_⟩
  have i1 : dIs .non .non = shB true := rfl
  simp [f_l_same, fnM, m_l_same_ap, i1]
/-! lists and tuples of items -/
theorem copy_items (n : Nat) (env : List Slot) (he : env.length = 4) (st : Sto) (ds : List D) (h : ∀ d ∈ ds, ∃ k, f_l_copy n [d] st = .ok ⟨k, d⟩ st ∧ (k = .sh ∨ k = .fr)) : lcD (gN 1) mYes (mCall0 (f_l_copy n) (mCons (mVar 1) mNil)) env ds st [] = .ok ds st := by
  have := lcD_map (tg := gN 1) (tt := mYes) (el := mCall0 (f_l_copy n) (mCons (mVar 1) mNil)) (env := env) (st := st) (fun d => d) (fun _ => true) (fun d => d) ds [] (fun d hd => by
    obtain ⟨k, e, hk⟩ := h d hd
    refine ⟨_, rfl, rfl, fun _ => ⟨k, ?_, hk⟩⟩
    have gv : (env.set 1 (.v d))[1]? = some (.v d) := by rw [List.getElem?_set_self]; omega
    rcases hk with rfl | rfl <;> simp [ap_var, gv, callW_sh', e])
  rw [List.map_id', List.nil_append, List.filter_eq_self.mpr (fun _ _ => rfl), List.map_id'] at this
  exact this
theorem copy_lst (n : Nat) (st : Sto) (ds : List D) (hl : ds.length ≤ 1000) (h : ∀ d ∈ ds, ∃ k, f_l_copy n [d] st = .ok ⟨k, d⟩ st ∧ (k = .sh ∨ k = .fr)) : f_l_copy (n + 1) [.lst ds] st = .ok ⟨.fr, .lst ds⟩ st := by
  have b5 : dIsi tbB (fun _ => false) [.lst ds, .ty "list"] = shB true := rfl
  have lc : mLc (mSrc seqD (mVar 0)) (gN 1) mYes (mCall0 (f_l_copy n) (mCons (mVar 1) mNil)) [1] ⟨[.v (.lst ds), .emp, .emp, .emp], st⟩ = .ok ⟨.fr, .lst ds⟩ st :=
    lc_ev (ds := ds) (st := st) (by simp [seqD]) hl rfl (copy_items n _ rfl st ds h)
  simp [f_l_copy, fnM, m_l_copy_ap, b5, lc]
theorem copy_tup (n : Nat) (st : Sto) (ds : List D) (hl : ds.length ≤ 1000) (h : ∀ d ∈ ds, ∃ k, f_l_copy n [d] st = .ok ⟨k, d⟩ st ∧ (k = .sh ∨ k = .fr)) : f_l_copy (n + 1) [.tup ds] st = .ok ⟨.sh, .tup ds⟩ st := by
  have b5 : dIsi tbB (fun _ => false) [.tup ds, .ty "list"] = shB false := rfl
  have b6 : dIsi tbB (fun _ => false) [.tup ds, .ty "tuple"] = shB true := rfl
  have lc : mLc (mSrc seqD (mVar 0)) (gN 1) mYes (mCall0 (f_l_copy n) (mCons (mVar 1) mNil)) [1] ⟨[.v (.tup ds), .emp, .emp, .emp], st⟩ = .ok ⟨.fr, .lst ds⟩ st :=
    lc_ev (ds := ds) (st := st) (by simp [seqD]) hl rfl (copy_items n _ rfl st ds h)
  simp [f_l_copy, fnM, m_l_copy_ap, b5, b6, lc]
theorem same_items (st : Sto) (n : Nat) (ds : List D) (a b : D) (ha : ∀ k (h : k < ds.length), dIx a (.int (k : Nat)) = shV ds[k]) (hb : ∀ k (h : k < ds.length), dIx b (.int (k : Nat)) = shV ds[k])
    (h : ∀ d ∈ ds, f_l_same n [d, d] st = .ok ⟨.sh, .bl true⟩ st) : ∀ (m lo : Nat) (x2 : Slot), lo + m = ds.length → ∃ x2', forD (gN 2) (m_l_same_b1 (f_l_same n)) (rngN lo m) ⟨[.v a, .v b, x2], st⟩ = .ok .nx ⟨[.v a, .v b, x2'], st⟩
  | 0, lo, x2, _ => ⟨x2, rfl⟩
  | m + 1, lo, x2, hl => by
    obtain ⟨x2', e⟩ := same_items st n ds a b ha hb h m (lo + 1) (.v (.int lo)) (by omega)
    refine ⟨x2', ?_⟩
    have hk : lo < ds.length := by omega
    have e1 := ha lo hk
    have e2 := hb lo hk
    have e3 := h _ (List.getElem_mem hk)
    rw [rngN_cons, forD_cons, ap_gN]
    simp [m_l_same_b1_ap, e1, e2, callW_sh', e3, e]
theorem rng_len (st : Sto) (n : Nat) (h : n ≤ 1000) : rngR [⟨.sh, .int (n : Nat)⟩] st = .ok (rngN 0 n) st := by
  rw [rngR_1 (by omega) (by omega), Int.toNat_natCast]
  exact congrArg (fun l => Rs.ok l st) (rngD_N 0 n)
theorem same_lst (n : Nat) (st : Sto) (ds : List D) (hl : ds.length ≤ 1000) (h : ∀ d ∈ ds, f_l_same n [d, d] st = .ok ⟨.sh, .bl true⟩ st) : f_l_same (n + 1) [.lst ds, .lst ds] st = .ok ⟨.sh, .bl true⟩ st := by
  have b1 : ∀ l : List D, dIsi tbB (fun _ => false) [.lst l, .ty "bool"] = shB false := fun _ => rfl
  have b2 : ∀ l : List D, dIsi tbB (fun _ => false) [.lst l, .ty "int"] = shB false := fun _ => rfl
  have b3 : ∀ l : List D, dIsi tbB (fun _ => false) [.lst l, .ty "str"] = shB false := fun _ => rfl
  have b4 : ∀ l : List D, dIsi tbB (fun _ => false) [.lst l, .ty "dict"] = shB false := fun _ => rfl
  have b5 : ∀ l : List D, dIsi tbB (fun _ => false) [.lst l, .ty "list"] = shB true := fun _ => rfl
  have b6 : ∀ l : List D, dIsi tbB (fun _ => false) [.lst l, .ty "tuple"] = shB false := fun _ => rfl
  have b7 : ∀ l : List D, dIsi tbB (fun _ => false) [.lst l, .tup [.ty "list", .ty "tuple"]] = shB true := fun _ => rfl
  have i1 : ∀ l : List D, dIs (.lst l) .non = shB false := fun _ => rfl
  have z2 : (2 : Nat) ≤ line := by decide
  obtain ⟨x2, e⟩ := same_items st n ds (.lst ds) (.lst ds) (fun k h => by rw [dIx_l, atI_nat (by omega) (by omega)]; simp) (fun k h => by rw [dIx_l, atI_nat (by omega) (by omega)]; simp) h ds.length 0 .emp (by omega)
  have rr : ∀ st, rngR [⟨.sh, .int (ds.length : Nat)⟩] st = .ok (rngN 0 ds.length) st := fun st => rng_len st _ hl
  simp [f_l_same, fnM, m_l_same_ap, b1, b2, b3, b4, b5, b6, b7, i1, z2, rr, e]
theorem same_tup (n : Nat) (st : Sto) (ds : List D) (hl : ds.length ≤ 1000) (h : ∀ d ∈ ds, f_l_same n [d, d] st = .ok ⟨.sh, .bl true⟩ st) : f_l_same (n + 1) [.tup ds, .tup ds] st = .ok ⟨.sh, .bl true⟩ st := by
  have b1 : ∀ l : List D, dIsi tbB (fun _ => false) [.tup l, .ty "bool"] = shB false := fun _ => rfl
  have b2 : ∀ l : List D, dIsi tbB (fun _ => false) [.tup l, .ty "int"] = shB false := fun _ => rfl
  have b3 : ∀ l : List D, dIsi tbB (fun _ => false) [.tup l, .ty "str"] = shB false := fun _ => rfl
  have b4 : ∀ l : List D, dIsi tbB (fun _ => false) [.tup l, .ty "dict"] = shB false := fun _ => rfl
  have b5 : ∀ l : List D, dIsi tbB (fun _ => false) [.tup l, .ty "list"] = shB false := fun _ => rfl
  have b6 : ∀ l : List D, dIsi tbB (fun _ => false) [.tup l, .ty "tuple"] = shB true := fun _ => rfl
  have b7 : ∀ l : List D, dIsi tbB (fun _ => false) [.tup l, .tup [.ty "list", .ty "tuple"]] = shB true := fun _ => rfl
  have i1 : ∀ l : List D, dIs (.tup l) .non = shB false := fun _ => rfl
  have z2 : (2 : Nat) ≤ line := by decide
  obtain ⟨x2, e⟩ := same_items st n ds (.tup ds) (.tup ds) (fun k h => by rw [dIx_t, atI_nat (by omega) (by omega)]; simp) (fun k h => by rw [dIx_t, atI_nat (by omega) (by omega)]; simp) h ds.length 0 .emp (by omega)
  have rr : ∀ st, rngR [⟨.sh, .int (ds.length : Nat)⟩] st = .ok (rngN 0 ds.length) st := fun st => rng_len st _ hl
  simp [f_l_same, fnM, m_l_same_ap, b1, b2, b3, b4, b5, b6, b7, i1, z2, rr, e]
/-- ints, texts, None: what a short inner list holds -/
def Flat (d : D) : Prop := (∃ i : Int, d = .int i) ∨ (∃ a, d = .str a) ∨ d = .non
theorem flat_cp {d : D} (h : Flat d) (n : Nat) (st : Sto) : ∃ k, f_l_copy (n + 1) [d] st = .ok ⟨k, d⟩ st ∧ (k = .sh ∨ k = .fr) := by
  rcases h with ⟨i, rfl⟩ | ⟨a, rfl⟩ | rfl
  · exact ⟨.sh, rfl, .inl rfl⟩
  · exact ⟨.sh, rfl, .inl rfl⟩
  · exact ⟨.sh, rfl, .inl rfl⟩
theorem flat_sm {d : D} (h : Flat d) (n : Nat) (st : Sto) : f_l_same (n + 1) [d, d] st = .ok ⟨.sh, .bl true⟩ st := by
  rcases h with ⟨i, rfl⟩ | ⟨a, rfl⟩ | rfl
  · have := same_int n i i st
    rw [decide_eq_true rfl] at this
    exact this
  · have b1 : dIsi tbB (fun _ => false) [.str a, .ty "bool"] = shB false := rfl
    have b2 : dIsi tbB (fun _ => false) [.str a, .ty "int"] = shB false := rfl
    have b3 : dIsi tbB (fun _ => false) [.str a, .ty "str"] = shB true := rfl
    have i1 : dIs (.str a) .non = shB false := rfl
    simp [f_l_same, fnM, m_l_same_ap, b1, b2, b3, i1, fit_eq]
  · have i1 : dIs .non .non = shB true := rfl
    simp [f_l_same, fnM, m_l_same_ap, i1]
theorem itm_lst (ds : List D) (hl : ds.length ≤ 1000) (h : ∀ d ∈ ds, Flat d) : Itm (.lst ds) :=
  ⟨.inr ⟨rfl, rfl, fun i h => by cases h⟩, .inl rfl, fun n st => ⟨.fr, copy_lst (n + 2) st ds hl fun d hd => flat_cp (h d hd) (n + 1) st, .inr rfl⟩, fun n st => same_lst (n + 2) st ds hl fun d hd => flat_sm (h d hd) (n + 1) st⟩
theorem itm_tup (ds : List D) (hl : ds.length ≤ 1000) (h : ∀ d ∈ ds, Flat d) : Itm (.tup ds) :=
  ⟨.inr ⟨rfl, rfl, fun i h => by cases h⟩, .inr rfl, fun n st => ⟨.sh, copy_tup (n + 2) st ds hl fun d hd => flat_cp (h d hd) (n + 1) st, .inl rfl⟩, fun n st => same_tup (n + 2) st ds hl fun d hd => flat_sm (h d hd) (n + 1) st⟩
/-! odd values -/
def oddL : List D := [.str "", .str "a", .str "A b", .str "zzzzzzzzz", .str "0", .int 0, .int 1, .int (-1), .int 10000000000000000000, .non, .tup [], .lst [], .tup [.str "a"], .lst [.str "a", .int 0], .tup [.str "a", .str "b"], .lst [.non]]
theorem odd_itm : ∀ d ∈ oddL, Itm d := by
  intro d hd
  simp only [oddL, List.mem_cons, List.not_mem_nil, or_false] at hd
  rcases hd with rfl | rfl | rfl | rfl | rfl | rfl | rfl | rfl | rfl | rfl | rfl | rfl | rfl | rfl | rfl | rfl
  · exact itm_str _
  · exact itm_str _
  · exact itm_str _
  · exact itm_str _
  · exact itm_str _
  · exact itm_int _
  · exact itm_int _
  · exact itm_int _
  · exact itm_int _
  · exact itm_non
  · exact itm_tup _ (by decide) (by simp)
  · exact itm_lst _ (by decide) (by simp)
  · exact itm_tup _ (by simp) (by simp [Flat])
  · exact itm_lst _ (by simp) (by simp [Flat])
  · exact itm_tup _ (by simp) (by simp [Flat])
  · exact itm_lst _ (by simp) (by simp [Flat])
theorem odd_ev (st : Sto) (hs : Ok st) : ∃ (d : D) (st' : Sto), f_l_odd [.sto] st = .ok ⟨.sh, d⟩ st' ∧ Ok st' ∧ Itm d := by
  obtain ⟨d, s1, e1, o1, hd⟩ := pick_ev st hs oddL (by simp [oddL]) (by simp [oddL])
  refine ⟨d, s1, ?_, o1, odd_itm d hd⟩
  have z0 : (0 : Nat) ≤ line := by decide
  have z1 : (1 : Nat) ≤ line := by decide
  have z2 : (2 : Nat) ≤ line := by decide
  have z16 : (16 : Nat) ≤ line := by decide
  have n1 : dNeg (.int 1) = shI (-1) := rfl
  have p19 : dPow (.int 10) (.int 19) = shI 10000000000000000000 := rfl
  simp only [oddL] at e1
  simp [f_l_odd, fnM, m_l_odd_ap, z0, z1, z2, z16, n1, p19, callW_sh', e1]
end Lk52

set_option Elab.async false
set_option linter.all false
set_option maxRecDepth 100000
set_option maxHeartbeats 2000000
namespace Lk52
open PySem RX
/-! ### is_bound, of the program and of the law -/
def toI : D → Int
  | .int i => i
  | _ => 0
def nn : D → Bool
  | .int i => decide (0 ≤ i)
  | _ => false
theorem nn_ints : ∀ {ds : List D}, ds.all nn = true → ds = (ds.map toI).map D.int
  | [], _ => rfl
  | d :: ds, h => by
    rw [List.all_cons, Bool.and_eq_true] at h
    have ih := nn_ints h.2
    cases d with
    | int i => rw [List.map_cons, List.map_cons, ← ih]; rfl
    | _ => cases h.1
def badR (T : List Int) (size r : Nat) : Bool := ((List.range' 0 size).filter fun i => inN i r).any fun i => decide (nth T i < 1 + nth T (i - r))
noncomputable def isB (xs : List Row) (ds : List D) (num : Int) : Bool :=
  decide (ds.length = 2 ^ xs.length) && (ds.all nn && (!(ixs xs 1 (2 ^ xs.length - 1)).any (badR (ds.map toI) (2 ^ xs.length)) && decide (nth (ds.map toI) (2 ^ xs.length - 1) = num)))
theorem whole_ev (d : D) (h : Itm d) (st : Sto) : ∃ b, f_is_whole [d] st = .ok ⟨.sh, .bl b⟩ st ∧ ((b = true ∧ ∃ i, d = .int i) ∨ (b = false ∧ nn d = false)) := by
  rcases h.ii with ⟨i, rfl⟩ | ⟨a, b, c⟩
  · have b1 : dIsi tbB (fun _ => false) [.int i, .ty "bool"] = shB false := rfl
    have b2 : dIsi tbB (fun _ => false) [.int i, .ty "int"] = shB true := rfl
    exact ⟨true, by simp [f_is_whole, fnM, m_is_whole_ap, b1, b2], .inl ⟨rfl, i, rfl⟩⟩
  · refine ⟨false, by simp [f_is_whole, fnM, m_is_whole_ap, a], .inr ⟨rfl, ?_⟩⟩
    cases d with
    | int i => exact absurd rfl (c i)
    | _ => rfl
theorem integer_ev (d : D) (h : Itm d) (st : Sto) : ∃ b, f_l_is_integer [d] st = .ok ⟨.sh, .bl b⟩ st ∧ ((b = true ∧ ∃ i, d = .int i) ∨ (b = false ∧ nn d = false)) := by
  rcases h.ii with ⟨i, rfl⟩ | ⟨a, b, c⟩
  · have b1 : dIsi tbB (fun _ => false) [.int i, .ty "bool"] = shB false := rfl
    have b2 : dIsi tbB (fun _ => false) [.int i, .ty "int"] = shB true := rfl
    exact ⟨true, by simp [f_l_is_integer, fnM, m_l_is_integer_ap, b1, b2], .inl ⟨rfl, i, rfl⟩⟩
  · refine ⟨false, by simp [f_l_is_integer, fnM, m_l_is_integer_ap, a], .inr ⟨rfl, ?_⟩⟩
    cases d with
    | int i => exact absurd rfl (c i)
    | _ => rfl
theorem all_bl (f : D → Bool) : ∀ ds : List D, dAll [.lst (ds.map fun d => .bl (f d))] = shB (ds.all f) := fun ds => by
  have : (ds.map fun d => D.bl (f d)) = (ds.map f).map D.bl := by rw [List.map_map]; rfl
  show (boolsD _).map _ = _
  rw [this, boolsD_map]
  show some _ = some _
  simp
theorem any_bl {α : Type} (f : α → Bool) (l : List α) : dAny [.lst (l.map fun d => .bl (f d))] = shB (l.any f) := by
  have : (l.map fun d => D.bl (f d)) = (l.map f).map D.bl := by rw [List.map_map]; rfl
  show (boolsD _).map _ = _
  rw [this, boolsD_map]
  show some _ = some _
  simp
theorem ix_T {d : D} {T : List Int} (hd : d = .lst (T.map D.int) ∨ d = .tup (T.map D.int)) {k : Nat} (h : k < T.length) : dIx d (.int (k : Nat)) = shI (nth T k) := by
  have a : L2.atI (T.map D.int) (k : Nat) = some (.int (nth T k)) := by
    rw [atI_nat (by omega) (by rw [List.length_map]; omega)]
    simp [nth, h]
  rcases hd with rfl | rfl
  · rw [dIx_l, a]; rfl
  · rw [dIx_t, a]; rfl
theorem bound_body (st : Sto) (w d num : D) (T : List Int) (hd : d = .lst (T.map D.int) ∨ d = .tup (T.map D.int)) (hT : T.length ≤ 100) (t : D) (r : Nat) (hx : dIx t (.int 0) = shI (r : Nat)) (h1 : 1 ≤ r) (o6 o7 : Option D) :
    ∃ o6' o7', m_Web_is_bound_b1 ⟨[.v w, .v d, .v num, .v (.int (T.length : Nat)), .emp, .v t, oS o6, oS o7, .emp], st⟩ =
      (if badR T T.length r = true then .ok (.ret ⟨.sh, .bl false⟩) ⟨[.v w, .v d, .v num, .v (.int (T.length : Nat)), .emp, .v t, oS o6', oS o7', .emp], st⟩ else .ok .nx ⟨[.v w, .v d, .v num, .v (.int (T.length : Nat)), .emp, .v t, oS o6', oS o7', .emp], st⟩) := by
  have rr : ∀ st, rngR [⟨.sh, .int (T.length : Nat)⟩] st = .ok (rngN 0 T.length) st := fun st => rng_len st _ (by omega)
  have lc1 : mLc (mRng (mCons (mVar 3) mNil)) (gN 8) (mB (mOp dEq (mOp dAndB (mVar 8) (mVar 6)) (mVar 6))) (mVar 8) [8] ⟨[.v w, .v d, .v num, .v (.int (T.length : Nat)), .emp, .v t, .v (.int (r : Nat)), oS o7, .emp], st⟩ =
      .ok ⟨.fr, .lst (((List.range' 0 T.length).filter fun i => inN i r).map fun (i : Nat) => .int (i : Nat))⟩ st := by
    refine lc_ev (ds := rngN 0 T.length) (st := st) (by simp [rr]) (by unfold rngN; rw [List.length_map, List.length_range']; omega) rfl ?_
    unfold rngN
    rw [lcD_map (fun (i : Nat) => D.int (i : Nat)) (fun i => inN i r) (fun (i : Nat) => D.int (i : Nat)), List.nil_append]
    intro i _
    have tt := and_test i r
    rw [dAnd_nat] at tt
    have tt : dEq (.int ((i &&& r : Nat) : Int)) (.int (r : Nat)) = shB (inN i r) := tt
    refine ⟨_, rfl, ?_, fun _ => ⟨.sh, by simp [wipeE], .inl rfl⟩⟩
    simp only [wipeE, ap_b, ap_op, List.set, ap_var8, ap_var6, ap_c, Rs.bind, ap_ofO, dAnd_nat, tt, ap_asB]
  have lc2 : mLc (mSrc seqD (mVar 7)) (gN 8) mYes (mOp dLt (mOp dIx (mVar 1) (mVar 8)) (mOp dAdd (mC (.int 1)) (mOp dIx (mVar 1) (mOp dSub (mVar 8) (mVar 6))))) [8] ⟨[.v w, .v d, .v num, .v (.int (T.length : Nat)), .emp, .v t, .v (.int (r : Nat)), .v (.lst (((List.range' 0 T.length).filter fun i => inN i r).map fun (i : Nat) => .int (i : Nat))), .emp], st⟩ =
      .ok ⟨.fr, .lst (((List.range' 0 T.length).filter fun i => inN i r).map fun i => .bl (decide (nth T i < 1 + nth T (i - r))))⟩ st := by
    refine lc_ev (ds := ((List.range' 0 T.length).filter fun i => inN i r).map fun (i : Nat) => .int (i : Nat)) (st := st) (by simp [seqD]) (by
      rw [List.length_map]
      have := List.length_filter_le (fun i => inN i r) (List.range' 0 T.length)
      rw [List.length_range'] at this; omega) rfl ?_
    rw [lcD_map (fun (i : Nat) => D.int (i : Nat)) (fun _ => true) (fun i => D.bl (decide (nth T i < 1 + nth T (i - r)))), List.nil_append, List.filter_eq_self.mpr (fun _ _ => rfl)]
    intro i hi
    have m := List.mem_filter.mp hi
    have lt : i < T.length := by
      have := m.1
      rw [List.mem_range'_1] at this; omega
    have le : r ≤ i := and_le i r (by simpa [inN] using m.2)
    have x1 := ix_T hd lt
    have x2 := ix_T hd (k := i - r) (by omega)
    refine ⟨_, rfl, rfl, fun _ => ⟨.sh, ?_, .inl rfl⟩⟩
    simp only [wipeE, ap_op, List.set, ap_var1, ap_var8, ap_var6, ap_c, Rs.bind, ap_ofO, x1, dSub_nat le, x2, dAdd_ii, dLt_ii]
  have an := any_bl (fun i => decide (nth T i < 1 + nth T (i - r))) ((List.range' 0 T.length).filter fun i => inN i r)
  refine ⟨some (.int (r : Nat)), some (.lst (((List.range' 0 T.length).filter fun i => inN i r).map fun (i : Nat) => .int (i : Nat))), ?_⟩
  rw [m_Web_is_bound_b1_ap]
  have an : dAny [.lst (((List.range' 0 T.length).filter fun i => inN i r).map fun i => .bl (decide (nth T i < 1 + nth T (i - r))))] = shB (badR T T.length r) := an
  by_cases c : badR T T.length r = true
  · rw [c] at an
    simp [hx, lc1, lc2, an, c]
  · have c : badR T T.length r = false := by simpa using c
    rw [c] at an
    simp [hx, lc1, lc2, an, c]
theorem bound_loop (st : Sto) (w d num : D) (T : List Int) (hd : d = .lst (T.map D.int) ∨ d = .tup (T.map D.int)) (hT : T.length ≤ 100) : ∀ (ts : List D) (is : List Nat) (h5 : Slot) (o6 o7 : Option D), Prs is ts → (∀ r ∈ is, 1 ≤ r) →
    (is.any (badR T T.length) = true ∧ ∃ s', forD (gN 5) m_Web_is_bound_b1 ts ⟨[.v w, .v d, .v num, .v (.int (T.length : Nat)), .emp, h5, oS o6, oS o7, .emp], st⟩ = .ok (.ret ⟨.sh, .bl false⟩) s' ∧ s'.sto = st) ∨
    (is.any (badR T T.length) = false ∧ ∃ h5' o6' o7', forD (gN 5) m_Web_is_bound_b1 ts ⟨[.v w, .v d, .v num, .v (.int (T.length : Nat)), .emp, h5, oS o6, oS o7, .emp], st⟩ = .ok .nx ⟨[.v w, .v d, .v num, .v (.int (T.length : Nat)), .emp, h5', oS o6', oS o7', .emp], st⟩)
  | [], is, h5, o6, o7, hp, _ => by
    have : is = [] := by
      have := hp.len
      exact List.length_eq_zero_iff.mp this.symm
    subst this
    exact .inr ⟨rfl, h5, o6, o7, rfl⟩
  | t :: ts, is, h5, o6, o7, hp, h1 => by
    cases is with
    | nil => have := hp.len; simp at this
    | cons r is =>
      have f := hp.fst
      rw [List.map_cons, List.map_cons, List.cons.injEq] at f
      have hx := hp.ix t List.mem_cons_self
      rw [f.1] at hx
      have hp' : Prs is ts := ⟨f.2, fun u hu => hp.ix u (List.mem_cons_of_mem _ hu)⟩
      obtain ⟨o6', o7', e⟩ := bound_body st w d num T hd hT t r hx (h1 r List.mem_cons_self) o6 o7
      rw [List.any_cons]
      by_cases c : badR T T.length r = true
      · rw [if_pos c] at e
        refine .inl ⟨by rw [c]; rfl, ⟨[.v w, .v d, .v num, .v (.int (T.length : Nat)), .emp, .v t, oS o6', oS o7', .emp], st⟩, ?_, rfl⟩
        rw [forD_cons, ap_gN]
        show (match m_Web_is_bound_b1 ⟨[.v w, .v d, .v num, .v (.int (T.length : Nat)), .emp, .v t, oS o6, oS o7, .emp], st⟩ with | .ok .nx s2 => forD (gN 5) m_Web_is_bound_b1 ts s2 | .ok .ct s2 => forD (gN 5) m_Web_is_bound_b1 ts s2 | .ok .bk s2 => .ok .nx s2 | r => r) = _
        rw [e]
      · rw [if_neg c] at e
        have c' : badR T T.length r = false := by simpa using c
        rw [c', Bool.false_or, forD_cons, ap_gN]
        rcases bound_loop st w d num T hd hT ts is (.v t) o6' o7' hp' (fun q hq => h1 q (List.mem_cons_of_mem _ hq)) with ⟨a, s', b, b2⟩ | ⟨a, p, q, u, b⟩
        · refine .inl ⟨a, s', ?_, b2⟩
          show (match m_Web_is_bound_b1 ⟨[.v w, .v d, .v num, .v (.int (T.length : Nat)), .emp, .v t, oS o6, oS o7, .emp], st⟩ with | .ok .nx s2 => forD (gN 5) m_Web_is_bound_b1 ts s2 | .ok .ct s2 => forD (gN 5) m_Web_is_bound_b1 ts s2 | .ok .bk s2 => .ok .nx s2 | r => r) = _
          rw [e]; exact b
        · refine .inr ⟨a, p, q, u, ?_⟩
          show (match m_Web_is_bound_b1 ⟨[.v w, .v d, .v num, .v (.int (T.length : Nat)), .emp, .v t, oS o6, oS o7, .emp], st⟩ with | .ok .nx s2 => forD (gN 5) m_Web_is_bound_b1 ts s2 | .ok .ct s2 => forD (gN 5) m_Web_is_bound_b1 ts s2 | .ok .bk s2 => .ok .nx s2 | r => r) = _
          rw [e]; exact b
theorem is_bound_ev (wr : List Row) (hw : wr.length ≤ 6) (d : D) (ds : List D) (hd : d = .lst ds ∨ d = .tup ds) (hi : ∀ x ∈ ds, Itm x) (hl : ds.length ≤ 200) (num : Int) (st : Sto) : f_Web_is_bound [web wr, d, .int num] st = .ok ⟨.sh, .bl (isB wr ds num)⟩ st := by
  have q := searchable_ok wr hw st
  have p := pow_le _ hw
  have dw : dFld "Web" "web_rows" (web wr) = shV (.tup (wr.map R)) := rfl
  have s1 := shl_one wr.length (by omega)
  have dl : dLen [d] = shI ds.length := by rcases hd with rfl | rfl <;> rfl
  have sq : seqD d = some ds := by rcases hd with rfl | rfl <;> rfl
  obtain ⟨ts, e1, pr⟩ := rings_of_ev st wr hw
  have lc : mLc (mSrc seqD (mVar 1)) (gN 4) mYes (mAndV (mCall0 f_is_whole (mCons (mVar 4) mNil)) (mOp dGe (mVar 4) (mC (.int 0)))) [4] ⟨[.v (web wr), .v d, .v (.int num), .v (.int ((2 ^ wr.length : Nat) : Int)), .emp, .emp, .emp, .emp, .emp], st⟩ = .ok ⟨.fr, .lst (ds.map fun x => .bl (nn x))⟩ st := by
    refine lc_ev (ds := ds) (st := st) (by simp [sq]) (by omega) rfl ?_
    have := lcD_map (tg := gN 4) (tt := mYes) (el := mAndV (mCall0 f_is_whole (mCons (mVar 4) mNil)) (mOp dGe (mVar 4) (mC (.int 0)))) (env := wipeE [.v (web wr), .v d, .v (.int num), .v (.int ((2 ^ wr.length : Nat) : Int)), .emp, .emp, .emp, .emp, .emp] [4]) (st := st) (fun d => d) (fun _ => true) (fun x => D.bl (nn x)) ds [] (fun x hx => by
      obtain ⟨b, e, hb⟩ := whole_ev x (hi x hx) st
      refine ⟨_, rfl, rfl, fun _ => ⟨.sh, ?_, .inl rfl⟩⟩
      rcases hb with ⟨rfl, i, rfl⟩ | ⟨rfl, hn⟩
      · simp [wipeE, callW_sh', e, nn]
      · simp [wipeE, callW_sh', e, hn])
    rw [List.map_id', List.nil_append, List.filter_eq_self.mpr (fun _ _ => rfl)] at this
    exact this
  have al := all_bl nn ds
  have cast : ((ds.length : Int) = ((2 ^ wr.length : Nat) : Int)) ↔ ds.length = 2 ^ wr.length := by omega
  have wn : f_is_whole [.int num] st = .ok ⟨.sh, .bl true⟩ st := by
    have b1 : dIsi tbB (fun _ => false) [.int num, .ty "bool"] = shB false := rfl
    have b2 : dIsi tbB (fun _ => false) [.int num, .ty "int"] = shB true := rfl
    simp [f_is_whole, fnM, m_is_whole_ap, b1, b2]
  have start : startE 9 [web wr, d, .int num] = [.v (web wr), .v d, .v (.int num), .emp, .emp, .emp, .emp, .emp, .emp] := rfl
  show outF (m_Web_is_bound ⟨[.v (web wr), .v d, .v (.int num), .emp, .emp, .emp, .emp, .emp, .emp], st⟩) = _
  rw [m_Web_is_bound_ap]
  unfold isB
  by_cases c1 : ds.length = 2 ^ wr.length
  · by_cases c2 : ds.all nn = true
    · have ti := nn_ints c2
      have hT : (ds.map toI).length = 2 ^ wr.length := by rw [List.length_map]; exact c1
      have hd' : d = .lst ((ds.map toI).map D.int) ∨ d = .tup ((ds.map toI).map D.int) := by rw [← ti]; exact hd
      have L := bound_loop st (web wr) d (.int num) (ds.map toI) hd' (by omega) ts _ .emp none none pr (ixs_pos wr 1 _ (by omega))
      rw [hT] at L
      rw [c2] at al
      have sq2 : seqD (.lst ts) = some ts := rfl
      rcases L with ⟨a, s', b, b2⟩ | ⟨a, h5, o6, o7, b⟩
      · dsimp only [oS] at b
        simp [sq2, -Int.natCast_pow, mFld, dw, callW_sh', q, s1, dl, cast, c1, lc, al, e1, b, b2, c2, a]
      · have ixl := ix_T hd' (k := 2 ^ wr.length - 1) (by omega)
        have sb : ((2 ^ wr.length : Nat) : Int) - 1 = ((2 ^ wr.length - 1 : Nat) : Int) := by omega
        dsimp only [oS] at b
        simp [sq2, -Int.natCast_pow, mFld, dw, callW_sh', q, s1, dl, cast, c1, lc, al, e1, b, c2, a, wn, sb, ixl]
    · have c2 : ds.all nn = false := by simpa using c2
      rw [c2] at al
      simp [-Int.natCast_pow, mFld, dw, callW_sh', q, s1, dl, cast, c1, lc, al, c2]
  · simp [-Int.natCast_pow, mFld, dw, callW_sh', q, s1, dl, cast, c1]
theorem is_bound_ex (wr : List Row) (hw : wr.length ≤ 12) (h6 : 6 < wr.length) (d num : D) (st : Sto) : f_Web_is_bound [web wr, d, num] st = .ex "TooMany" (tooMany wr.length) st := by
  have q := searchable_ex wr hw h6 st
  have main : m_Web_is_bound ⟨[.v (web wr), .v d, .v num, .emp, .emp, .emp, .emp, .emp, .emp], st⟩ = .ex "TooMany" (tooMany wr.length) ⟨[.v (web wr), .v d, .v num, .emp, .emp, .emp, .emp, .emp, .emp], st⟩ := by
    rw [m_Web_is_bound_ap]
    simp [callW_sh', q]
  show outF (m_Web_is_bound ⟨[.v (web wr), .v d, .v num, .emp, .emp, .emp, .emp, .emp, .emp], st⟩) = _
  rw [main]
  rfl
/-! the law's -/
theorem lb_items (st : Sto) (a t n : D) (x4 x5 : Slot) : ∀ (ds : List D) (x3 : Slot), (∀ d ∈ ds, Itm d) →
    (ds.all nn = true ∧ ∃ x3', forD (gN 3) m_l_is_bound_b1 ds ⟨[.v a, .v t, .v n, x3, x4, x5], st⟩ = .ok .nx ⟨[.v a, .v t, .v n, x3', x4, x5], st⟩) ∨
    (ds.all nn = false ∧ ∃ s', forD (gN 3) m_l_is_bound_b1 ds ⟨[.v a, .v t, .v n, x3, x4, x5], st⟩ = .ok (.ret ⟨.sh, .bl false⟩) s' ∧ s'.sto = st)
  | [], x3, _ => .inl ⟨rfl, x3, rfl⟩
  | d :: ds, x3, h => by
    obtain ⟨b, e, hb⟩ := integer_ev d (h d List.mem_cons_self) st
    rw [List.all_cons, forD_cons, ap_gN]
    rcases hb with ⟨rfl, i, rfl⟩ | ⟨rfl, hn⟩
    · by_cases c : i < 0
      · have n0 : nn (.int i) = false := by show decide (0 ≤ i) = false; rw [decide_eq_false_iff_not]; omega
        refine .inr ⟨by rw [n0]; rfl, ⟨[.v a, .v t, .v n, .v (.int i), x4, x5], st⟩, ?_, rfl⟩
        simp [m_l_is_bound_b1_ap, callW_sh', e, c]
      · have n0 : nn (.int i) = true := by show decide (0 ≤ i) = true; rw [decide_eq_true_eq]; omega
        have body : m_l_is_bound_b1 ⟨[.v a, .v t, .v n, .v (.int i), x4, x5], st⟩ = .ok .nx ⟨[.v a, .v t, .v n, .v (.int i), x4, x5], st⟩ := by
          simp [m_l_is_bound_b1_ap, callW_sh', e, c]
        rw [n0, Bool.true_and]
        rcases lb_items st a t n x4 x5 ds (.v (.int i)) (fun q hq => h q (List.mem_cons_of_mem _ hq)) with ⟨p, x, q⟩ | ⟨p, s', q, q2⟩
        · refine .inl ⟨p, x, ?_⟩
          show (match m_l_is_bound_b1 ⟨[.v a, .v t, .v n, .v (.int i), x4, x5], st⟩ with | .ok .nx s2 => forD (gN 3) m_l_is_bound_b1 ds s2 | .ok .ct s2 => forD (gN 3) m_l_is_bound_b1 ds s2 | .ok .bk s2 => .ok .nx s2 | r => r) = _
          rw [body]; exact q
        · refine .inr ⟨p, s', ?_, q2⟩
          show (match m_l_is_bound_b1 ⟨[.v a, .v t, .v n, .v (.int i), x4, x5], st⟩ with | .ok .nx s2 => forD (gN 3) m_l_is_bound_b1 ds s2 | .ok .ct s2 => forD (gN 3) m_l_is_bound_b1 ds s2 | .ok .bk s2 => .ok .nx s2 | r => r) = _
          rw [body]; exact q
    · refine .inr ⟨by rw [hn]; rfl, ⟨[.v a, .v t, .v n, .v d, x4, x5], st⟩, ?_, rfl⟩
      simp [m_l_is_bound_b1_ap, callW_sh', e]
theorem lb_in (st : Sto) (a n : D) (x3 : Slot) (T : List Int) (r : Nat) (h1 : 1 ≤ r) : ∀ (m lo : Nat) (x5 : Slot), lo + m ≤ T.length →
    (((List.range' lo m).any fun i => inN i r && decide (nth T i < 1 + nth T (i - r))) = false ∧ ∃ x5', forD (gN 5) m_l_is_bound_b3 (rngN lo m) ⟨[.v a, .v (.lst (T.map D.int)), .v n, x3, .v (.int (r : Nat)), x5], st⟩ = .ok .nx ⟨[.v a, .v (.lst (T.map D.int)), .v n, x3, .v (.int (r : Nat)), x5'], st⟩) ∨
    (((List.range' lo m).any fun i => inN i r && decide (nth T i < 1 + nth T (i - r))) = true ∧ ∃ s', forD (gN 5) m_l_is_bound_b3 (rngN lo m) ⟨[.v a, .v (.lst (T.map D.int)), .v n, x3, .v (.int (r : Nat)), x5], st⟩ = .ok (.ret ⟨.sh, .bl false⟩) s' ∧ s'.sto = st)
  | 0, lo, x5, _ => .inl ⟨rfl, x5, rfl⟩
  | m + 1, lo, x5, h => by
    have tt := and_test lo r
    rw [dAnd_nat] at tt
    have tt : dEq (.int ((lo &&& r : Nat) : Int)) (.int (r : Nat)) = shB (inN lo r) := tt
    have x1 := ix_T (d := .lst (T.map D.int)) (.inl rfl) (k := lo) (by omega)
    rw [List.range'_succ, List.any_cons, rngN_cons, forD_cons, ap_gN]
    have goOn : ∀ c : Bool, c = false → m_l_is_bound_b3 ⟨[.v a, .v (.lst (T.map D.int)), .v n, x3, .v (.int (r : Nat)), .v (.int (lo : Nat))], st⟩ = .ok .nx ⟨[.v a, .v (.lst (T.map D.int)), .v n, x3, .v (.int (r : Nat)), .v (.int (lo : Nat))], st⟩ →
        ((c || (List.range' (lo + 1) m).any fun i => inN i r && decide (nth T i < 1 + nth T (i - r))) = false ∧ ∃ x5', (match m_l_is_bound_b3 ⟨[.v a, .v (.lst (T.map D.int)), .v n, x3, .v (.int (r : Nat)), .v (.int (lo : Nat))], st⟩ with | .ok .nx s2 => forD (gN 5) m_l_is_bound_b3 (rngN (lo + 1) m) s2 | .ok .ct s2 => forD (gN 5) m_l_is_bound_b3 (rngN (lo + 1) m) s2 | .ok .bk s2 => .ok .nx s2 | r => r) = .ok .nx ⟨[.v a, .v (.lst (T.map D.int)), .v n, x3, .v (.int (r : Nat)), x5'], st⟩) ∨
        ((c || (List.range' (lo + 1) m).any fun i => inN i r && decide (nth T i < 1 + nth T (i - r))) = true ∧ ∃ s', (match m_l_is_bound_b3 ⟨[.v a, .v (.lst (T.map D.int)), .v n, x3, .v (.int (r : Nat)), .v (.int (lo : Nat))], st⟩ with | .ok .nx s2 => forD (gN 5) m_l_is_bound_b3 (rngN (lo + 1) m) s2 | .ok .ct s2 => forD (gN 5) m_l_is_bound_b3 (rngN (lo + 1) m) s2 | .ok .bk s2 => .ok .nx s2 | r => r) = .ok (.ret ⟨.sh, .bl false⟩) s' ∧ s'.sto = st) := by
      rintro c rfl body
      rw [body, Bool.false_or]
      exact lb_in st a n x3 T r h1 m (lo + 1) (.v (.int lo)) (by omega)
    by_cases c1 : inN lo r = true
    · have le : r ≤ lo := and_le lo r (by simpa [inN] using c1)
      have x2 := ix_T (d := .lst (T.map D.int)) (.inl rfl) (k := lo - r) (by omega)
      by_cases c2 : nth T lo < 1 + nth T (lo - r)
      · refine .inr ⟨by rw [c1, decide_eq_true c2]; rfl, ⟨[.v a, .v (.lst (T.map D.int)), .v n, x3, .v (.int (r : Nat)), .v (.int (lo : Nat))], st⟩, ?_, rfl⟩
        have body : m_l_is_bound_b3 ⟨[.v a, .v (.lst (T.map D.int)), .v n, x3, .v (.int (r : Nat)), .v (.int (lo : Nat))], st⟩ = .ok (.ret ⟨.sh, .bl false⟩) ⟨[.v a, .v (.lst (T.map D.int)), .v n, x3, .v (.int (r : Nat)), .v (.int (lo : Nat))], st⟩ := by
          rw [m_l_is_bound_b3_ap]
          simp [-dIx_l, -dSub_ii, dAnd_nat, tt, c1, x1, dSub_nat le, x2, c2]
        show (match m_l_is_bound_b3 ⟨[.v a, .v (.lst (T.map D.int)), .v n, x3, .v (.int (r : Nat)), .v (.int (lo : Nat))], st⟩ with | .ok .nx s2 => forD (gN 5) m_l_is_bound_b3 (rngN (lo + 1) m) s2 | .ok .ct s2 => forD (gN 5) m_l_is_bound_b3 (rngN (lo + 1) m) s2 | .ok .bk s2 => .ok .nx s2 | r => r) = _
        rw [body]
      · refine goOn _ (by rw [c1, decide_eq_false c2]; rfl) ?_
        rw [m_l_is_bound_b3_ap]
        simp [-dIx_l, -dSub_ii, dAnd_nat, tt, c1, x1, dSub_nat le, x2, c2]
    · have c1 : inN lo r = false := by simpa using c1
      refine goOn _ (by rw [c1]; rfl) ?_
      rw [m_l_is_bound_b3_ap]
      simp [dAnd_nat, tt, c1]
theorem badR_any (T : List Int) (size r : Nat) : ((List.range' 0 size).any fun i => inN i r && decide (nth T i < 1 + nth T (i - r))) = badR T size r := by
  unfold badR
  rw [List.any_filter]
theorem lb_rings (st : Sto) (a n : D) (T : List Int) (hT : T.length ≤ 100) (x3 : Slot) : ∀ (is : List Nat) (x4 x5 : Slot), (∀ r ∈ is, 1 ≤ r) →
    (is.any (badR T T.length) = false ∧ ∃ x4' x5', forD (gN 4) m_l_is_bound_b2 (is.map fun (r : Nat) => .int (r : Nat)) ⟨[.v a, .v (.lst (T.map D.int)), .v n, x3, x4, x5], st⟩ = .ok .nx ⟨[.v a, .v (.lst (T.map D.int)), .v n, x3, x4', x5'], st⟩) ∨
    (is.any (badR T T.length) = true ∧ ∃ s', forD (gN 4) m_l_is_bound_b2 (is.map fun (r : Nat) => .int (r : Nat)) ⟨[.v a, .v (.lst (T.map D.int)), .v n, x3, x4, x5], st⟩ = .ok (.ret ⟨.sh, .bl false⟩) s' ∧ s'.sto = st)
  | [], x4, x5, _ => .inl ⟨rfl, x4, x5, rfl⟩
  | r :: is, x4, x5, h => by
    have rr : ∀ st, rngR [⟨.sh, .int (T.length : Nat)⟩] st = .ok (rngN 0 T.length) st := fun st => rng_len st _ (by omega)
    rw [List.any_cons, List.map_cons, forD_cons, ap_gN]
    have dl : dLen [.lst (T.map D.int)] = shI (T.length : Nat) := by rw [dLen_l, List.length_map]
    have open_ : m_l_is_bound_b2 ⟨[.v a, .v (.lst (T.map D.int)), .v n, x3, .v (.int (r : Nat)), x5], st⟩ = forD (gN 5) m_l_is_bound_b3 (rngN 0 T.length) ⟨[.v a, .v (.lst (T.map D.int)), .v n, x3, .v (.int (r : Nat)), x5], st⟩ := by
      rw [m_l_is_bound_b2_ap]
      simp [rr]
    rcases lb_in st a n x3 T r (h r List.mem_cons_self) T.length 0 x5 (by omega) with ⟨p, y5, q⟩ | ⟨p, s', q, q2⟩
    · rw [badR_any] at p
      rw [p, Bool.false_or]
      rcases lb_rings st a n T hT x3 is (.v (.int r)) y5 (fun q hq => h q (List.mem_cons_of_mem _ hq)) with ⟨u, z4, z5, v⟩ | ⟨u, s', v, v2⟩
      · refine .inl ⟨u, z4, z5, ?_⟩
        show (match m_l_is_bound_b2 ⟨[.v a, .v (.lst (T.map D.int)), .v n, x3, .v (.int (r : Nat)), x5], st⟩ with | .ok .nx s2 => forD (gN 4) m_l_is_bound_b2 (is.map fun (r : Nat) => .int (r : Nat)) s2 | .ok .ct s2 => forD (gN 4) m_l_is_bound_b2 (is.map fun (r : Nat) => .int (r : Nat)) s2 | .ok .bk s2 => .ok .nx s2 | r => r) = _
        rw [open_, q]; exact v
      · refine .inr ⟨u, s', ?_, v2⟩
        show (match m_l_is_bound_b2 ⟨[.v a, .v (.lst (T.map D.int)), .v n, x3, .v (.int (r : Nat)), x5], st⟩ with | .ok .nx s2 => forD (gN 4) m_l_is_bound_b2 (is.map fun (r : Nat) => .int (r : Nat)) s2 | .ok .ct s2 => forD (gN 4) m_l_is_bound_b2 (is.map fun (r : Nat) => .int (r : Nat)) s2 | .ok .bk s2 => .ok .nx s2 | r => r) = _
        rw [open_, q]; exact v
    · rw [badR_any] at p
      refine .inr ⟨by rw [p]; rfl, s', ?_, q2⟩
      show (match m_l_is_bound_b2 ⟨[.v a, .v (.lst (T.map D.int)), .v n, x3, .v (.int (r : Nat)), x5], st⟩ with | .ok .nx s2 => forD (gN 4) m_l_is_bound_b2 (is.map fun (r : Nat) => .int (r : Nat)) s2 | .ok .ct s2 => forD (gN 4) m_l_is_bound_b2 (is.map fun (r : Nat) => .int (r : Nat)) s2 | .ok .bk s2 => .ok .nx s2 | r => r) = _
      rw [open_, q]
theorem l_is_bound_ev (xs : List Row) (hw : xs.length ≤ 6) (nb : (xs.map Row.b).Nodup) (ds : List D) (hi : ∀ x ∈ ds, Itm x) (hl : ds.length ≤ 200) (num : Int) (st : Sto) : f_l_is_bound [.lst (xs.map R), .lst ds, .int num] st = .ok ⟨.sh, .bl (isB xs ds num)⟩ st := by
  have p := pow_le _ hw
  have s1 := shl_one xs.length (by omega)
  have cs := circuit_sets_ev st xs hw nb
  have cast : ((ds.length : Int) = ((2 ^ xs.length : Nat) : Int)) ↔ ds.length = 2 ^ xs.length := by omega
  show outF (m_l_is_bound ⟨[.v (.lst (xs.map R)), .v (.lst ds), .v (.int num), .emp, .emp, .emp], st⟩) = _
  rw [m_l_is_bound_ap]
  unfold isB
  by_cases c1 : ds.length = 2 ^ xs.length
  · rcases lb_items st (.lst (xs.map R)) (.lst ds) (.int num) .emp .emp ds .emp hi with ⟨a, x3, e⟩ | ⟨a, s', e, e2⟩
    · have ti := nn_ints a
      have hT : (ds.map toI).length = 2 ^ xs.length := by rw [List.length_map]; exact c1
      have L := lb_rings st (.lst (xs.map R)) (.int num) (ds.map toI) (by omega) x3 (ixs xs 1 (2 ^ xs.length - 1)) .emp .emp (ixs_pos xs 1 _ (by omega))
      rw [← ti, hT] at L
      rcases L with ⟨b, x4, x5, f⟩ | ⟨b, s', f, f2⟩
      · have ixl := ix_T (d := .lst ds) (T := ds.map toI) (by rw [← ti]; exact .inl rfl) (k := 2 ^ xs.length - 1) (by omega)
        have sb : ((2 ^ xs.length : Nat) : Int) - 1 = ((2 ^ xs.length - 1 : Nat) : Int) := by omega
        simp [-Int.natCast_pow, -dIx_l, s1, cast, c1, seqD, e, callW_sh', cs, f, a, b, sb, ixl]
      · simp [-Int.natCast_pow, s1, cast, c1, seqD, e, callW_sh', cs, f, f2, a, b]
    · simp [-Int.natCast_pow, s1, cast, c1, seqD, e, e2, a]
  · simp [-Int.natCast_pow, s1, cast, c1]
end Lk52

set_option Elab.async false
set_option linter.all false
set_option maxRecDepth 100000
set_option maxHeartbeats 2000000
namespace Lk52
open PySem RX
/-! ### the tables that the law makes -/
theorem mPut_ev {j : Nat} {ei ev : Fm → Rs Sto Val} {env : List Slot} {st st1 st2 : Sto} {k ki : Kd} {c c' d i : D} (h1 : ev ⟨env, st⟩ = .ok ⟨k, d⟩ st1) (hk : k = .sh ∨ k = .fr) (ho : env[j]? = some (.own c)) (h2 : ei ⟨env, st1⟩ = .ok ⟨ki, i⟩ st2) (h3 : putIx c i d = some c') : mPut j ei ev ⟨env, st⟩ = .ok .nx ⟨env.set j (.own c'), st2⟩ := by
  unfold mPut liftS
  rw [h1]
  rcases hk with rfl | rfl
  · simp only [ho, h2, h3]
  · simp only [ho, h2, h3]
theorem putIx_nat {ds : List D} {k : Nat} (h : k < ds.length) (d : D) : putIx (.lst ds) (.int (k : Nat)) d = some (.lst (ds.set k d)) := by
  show (L2.ixN ds.length (k : Nat)).map _ = _
  have : L2.ixN ds.length (k : Nat) = some k := by
    unfold L2.ixN
    simp [h]
  rw [this]; rfl
theorem dOr_nat (a b : Nat) : dOrB (.int (a : Nat)) (.int (b : Nat)) = shI ((a ||| b : Nat) : Int) := by
  have h1 : ∀ a : Nat, (0 ≤ Builtin.bitNot (a : Int)) = False := fun a => by
    unfold Builtin.bitNot
    simp only [eq_iff_iff, iff_false]
    omega
  have h2 : ∀ a : Nat, (Builtin.bitNot (Builtin.bitNot (a : Int))).toNat = a := fun a => by
    unfold Builtin.bitNot
    omega
  have h3 : ∀ a : Nat, Builtin.bitNot (Builtin.bitNot (a : Int)) = a := fun a => by
    unfold Builtin.bitNot
    omega
  show some (⟨.sh, .int (Builtin.bitOr (a : Int) (b : Int))⟩ : Val) = _
  unfold Builtin.bitOr Builtin.bitAnd
  have d1 : decide (0 ≤ Builtin.bitNot (a : Int)) = false := by rw [decide_eq_false_iff_not, h1]; exact id
  have d2 : decide (0 ≤ Builtin.bitNot (b : Int)) = false := by rw [decide_eq_false_iff_not, h1]; exact id
  simp only [d1, d2, h2, h3, Int.toNat_natCast]
theorem put_ev (ds : List D) (k : Nat) (d : D) (st : Sto) (hl : ds.length ≤ 1000) : f_l_put [.lst ds, .int (k : Nat), d] st = .ok ⟨.fr, .lst (ds.take k ++ [d] ++ ds.drop k)⟩ st := by
  have z1 : (1 : Nat) ≤ line := by decide
  have c1 := cut_to ds k
  have c2 := cut_from ds k
  have l1 : (ds.take k).length ≤ 1000 := by rw [List.length_take]; omega
  have l2 : (ds.drop k).length ≤ 1000 := by rw [List.length_drop]; omega
  have a1 := dAdd_l (a := ds.take k) (b := [d]) (by rw [List.length_singleton]; unfold line; omega)
  have a2 := dAdd_l (a := ds.take k ++ [d]) (b := ds.drop k) (by rw [List.length_append, List.length_singleton]; unfold line; omega)
  rw [List.append_assoc] at a2
  simp [f_l_put, fnM, m_l_put_ap, z1, c1, c2, a1, a2]
theorem mem_put {ds : List D} {k : Nat} {d x : D} (h : x ∈ ds.take k ++ [d] ++ ds.drop k) : x ∈ ds ∨ x = d := by
  rcases List.mem_append.mp h with h | h
  · rcases List.mem_append.mp h with h | h
    · exact .inl (List.mem_of_mem_take h)
    · exact .inr (List.mem_singleton.mp h)
  · exact .inl (List.mem_of_mem_drop h)
theorem len_put (ds : List D) (k : Nat) (d : D) : (ds.take k ++ [d] ++ ds.drop k).length = ds.length + 1 := by
  rw [List.length_append, List.length_append, List.length_singleton, List.length_take, List.length_drop]; omega
theorem ints_itm (T : List Int) : ∀ d ∈ T.map D.int, Itm d := fun d h => by
  obtain ⟨i, _, rfl⟩ := List.mem_map.mp h
  exact itm_int i
theorem ixN_nat {n k : Nat} (h : k < n) : L2.ixN n (k : Nat) = some k := by
  unfold L2.ixN
  simp [h]
theorem nth_get {T : List Int} {k : Nat} (h : k < T.length) : T[k] = nth T k := by simp [nth, h]
theorem bent_ev (st : Sto) (hs : Ok st) (T : List Int) (h0 : 0 < T.length) (hT : T.length ≤ 100) : ∃ (ds : List D) (st' : Sto), f_l_bent 1 [.sto, .lst (T.map D.int), .int 0] st = .ok ⟨.fr, .lst ds⟩ st' ∧ Ok st' ∧ (∀ d ∈ ds, Itm d) ∧ ds.length ≤ 101 := by
  obtain ⟨m, s1, e1, o1, m0, m1⟩ := take_s st hs 8 (by decide) (by decide)
  obtain ⟨a, s2, e2, o2, a0, a1⟩ := take_s s1 o1 T.length (by omega) (by omega)
  obtain ⟨at_, rfl⟩ : ∃ n : Nat, a = n := ⟨a.toNat, by omega⟩
  have hk : at_ < T.length := by omega
  have b6 : ∀ l : List D, dIsi tbB (fun _ => false) [.lst l, .ty "tuple"] = shB false := fun _ => rfl
  have tr : truD' (.lst (T.map D.int)) = some true := by
    cases T with
    | nil => simp at h0
    | cons x T => rfl
  have ixT := ix_T (d := .lst (T.map D.int)) (.inl rfl) hk
  have ii : dIsi tbB (fun _ => false) [.int (nth T at_), .tup [.ty "list", .ty "tuple"]] = shB false := rfl
  have z2 : (2 : Nat) ≤ line := by decide
  have n0 : dListB [.lst (T.map D.int)] = some ⟨.fr, .lst (T.map D.int)⟩ := rfl
  have start : startE 6 [.sto, .lst (T.map D.int), .int 0] = [.v .sto, .v (.lst (T.map D.int)), .v (.int 0), .emp, .emp, .emp] := rfl
  have cw : callW f_l_take [⟨.sh, .sto⟩, ⟨.sh, .int (T.length : Nat)⟩] [] s1 = .ok ⟨.sh, .int (at_ : Nat)⟩ s2 := by rw [callW_sh' rfl]; exact e2
  have m3 : m = 0 ∨ m = 1 ∨ m = 2 ∨ m = 3 ∨ 3 < m := by omega
  rcases m3 with rfl | rfl | rfl | rfl | m4
  · obtain ⟨q, s3, e3, o3, q0, q1⟩ := number_ev s2 o2 0 T.length (by decide) (by omega) (by omega)
    obtain ⟨qn, rfl⟩ : ∃ n : Nat, q = n := ⟨q.toNat, by omega⟩
    obtain ⟨d, s4, e4, o4, id⟩ := odd_ev s3 o3
    have pe := put_ev (T.map D.int) qn d s4 (by rw [List.length_map]; omega)
    refine ⟨(T.map D.int).take qn ++ [d] ++ (T.map D.int).drop qn, s4, ?_, o4, fun x hx => ?_, by rw [len_put, List.length_map]; omega⟩
    · simp only [f_l_bent, fnM]
      simp [-List.map_take, -List.map_drop, m_l_bent_ap, callW_sh', e1, cw, mFreeze, e3, e4, pe, b6]
    · rcases mem_put hx with h | h
      · exact ints_itm T x h
      · rw [h]; exact id
  · have fp : fPopAt (T.map D.int) [.int (at_ : Nat)] = some ((T.map D.int).eraseIdx at_, .int (nth T at_)) := by
      show (L2.ixN (T.map D.int).length (at_ : Nat)).bind _ = _
      rw [ixN_nat (by rw [List.length_map]; exact hk), Option.bind_some, if_pos ⟨by unfold big; omega, by unfold big; omega⟩]
      simp [hk, nth_get hk]
    refine ⟨(T.map D.int).eraseIdx at_, s2, ?_, o2, fun x hx => ints_itm T x (List.mem_of_mem_eraseIdx hx), by
      have := List.length_eraseIdx_le (T.map D.int) at_
      rw [List.length_map] at this; omega⟩
    simp only [f_l_bent, fnM]
    simp [m_l_bent_ap, callW_sh', e1, cw, tr, fp, b6]
  · have pe := put_ev (T.map D.int) at_ (.int (nth T at_)) s2 (by rw [List.length_map]; omega)
    refine ⟨(T.map D.int).take at_ ++ [.int (nth T at_)] ++ (T.map D.int).drop at_, s2, ?_, o2, fun x hx => ?_, by rw [len_put, List.length_map]; omega⟩
    · simp only [f_l_bent, fnM]
      simp [-List.map_take, -List.map_drop, -dIx_l, m_l_bent_ap, callW_sh', e1, cw, tr, mFreeze, ixT, pe, b6]
    · rcases mem_put hx with h | h
      · exact ints_itm T x h
      · rw [h]; exact itm_int _
  · obtain ⟨d, s4, e4, o4, id⟩ := odd_ev s2 o2
    obtain ⟨b, e5, hb⟩ := integer_ev (.int (nth T at_)) (itm_int _) s2
    have is : dIsi tbB (fun _ => false) [.int (nth T at_), .ty "str"] = shB false := rfl
    have pt : mPut 3 (mVar 5) (mCall0 f_l_odd (mCons (mVar 0) mNil)) ⟨[.v .sto, .v (.lst (T.map D.int)), .v (.int 0), .own (.lst (T.map D.int)), .v (.int 3), .v (.int (at_ : Nat))], s2⟩ = .ok .nx ⟨[.v .sto, .v (.lst (T.map D.int)), .v (.int 0), .own (.lst ((T.map D.int).set at_ d)), .v (.int 3), .v (.int (at_ : Nat))], s4⟩ :=
      mPut_ev (k := .sh) (by simp [callW_sh', e4]) (.inl rfl) rfl rfl (putIx_nat (by rw [List.length_map]; exact hk) d)
    refine ⟨(T.map D.int).set at_ d, s4, ?_, o4, fun x hx => ?_, by rw [List.length_set, List.length_map]; omega⟩
    · simp only [f_l_bent, fnM]
      simp [-List.map_set, -dIx_l, m_l_bent_ap, callW_sh', e1, cw, tr, ixT, z2, ii, e5, is, pt, b6]
    · rcases List.mem_or_eq_of_mem_set hx with h | h
      · exact ints_itm T x h
      · rw [h]; exact id
  · obtain ⟨b, e5, hb⟩ := integer_ev (.int (nth T at_)) (itm_int _) s2
    have bt : b = true := by
      rcases hb with ⟨h, _⟩ | ⟨_, h⟩
      · exact h
      · cases b with
        | true => rfl
        | false =>
          have b1 : dIsi tbB (fun _ => false) [.int (nth T at_), .ty "bool"] = shB false := rfl
          have b2 : dIsi tbB (fun _ => false) [.int (nth T at_), .ty "int"] = shB true := rfl
          simp [f_l_is_integer, fnM, m_l_is_integer_ap, b1, b2] at e5
    subst bt
    obtain ⟨d, s3, e3, o3, hd⟩ := pick_ev s2 o2 [.int 1, .int (-1), .int 2, .int (-(nth T at_)), .int (-2 * nth T at_), .int 1000000000000] (by simp) (by simp)
    obtain ⟨v, rfl⟩ : ∃ v : Int, d = .int v := by
      simp only [List.mem_cons, List.not_mem_nil, or_false] at hd
      rcases hd with h | h | h | h | h | h <;> exact ⟨_, h⟩
    have n1 : dNeg (.int 1) = shI (-1) := rfl
    have n2 : dNeg (.int 2) = shI (-2) := rfl
    have n3 : dNeg (.int (nth T at_)) = shI (-(nth T at_)) := rfl
    have s2' : small64 (-2) = true := rfl
    have p12 : dPow (.int 10) (.int 12) = shI 1000000000000 := rfl
    have z6 : (6 : Nat) ≤ line := by decide
    have pt : mPut 3 (mVar 5) (mOp dAdd (mOp dIx (mVar 3) (mVar 5)) (mCall0 f_l_pick (mCons (mVar 0) (mCons (mLst (mCons (mC (.int 1)) (mCons (mUn dNeg (mC (.int 1))) (mCons (mC (.int 2)) (mCons (mUn dNeg (mOp dIx (mVar 3) (mVar 5))) (mCons (mOp dMul (mUn dNeg (mC (.int 2))) (mOp dIx (mVar 3) (mVar 5))) (mCons (mOp dPow (mC (.int 10)) (mC (.int 12))) mNil))))))) mNil)))) ⟨[.v .sto, .v (.lst (T.map D.int)), .v (.int 0), .own (.lst (T.map D.int)), .v (.int m), .v (.int (at_ : Nat))], s2⟩ = .ok .nx ⟨[.v .sto, .v (.lst (T.map D.int)), .v (.int 0), .own (.lst ((T.map D.int).set at_ (.int (nth T at_ + v)))), .v (.int m), .v (.int (at_ : Nat))], s3⟩ :=
      mPut_ev (k := .sh) (by
        simp [-dIx_l, ixT, n1, n2, n3, dMul_l s2', p12, z6, callW_sh']
        simp [e3]) (.inl rfl) rfl rfl (putIx_nat (by rw [List.length_map]; exact hk) _)
    refine ⟨(T.map D.int).set at_ (.int (nth T at_ + v)), s3, ?_, o3, fun x hx => ?_, by rw [List.length_set, List.length_map]; omega⟩
    · have g1 : ¬ m = 0 := by omega
      have g2 : ¬ m = 1 := by omega
      have g3 : ¬ m = 2 := by omega
      simp only [f_l_bent, fnM]
      simp [-List.map_set, -dIx_l, m_l_bent_ap, callW_sh', e1, cw, tr, ixT, z2, ii, e5, m4, g1, g2, g3, pt, b6]
    · rcases List.mem_or_eq_of_mem_set hx with h | h
      · exact ints_itm T x h
      · rw [h]; exact itm_int _
/-- a draw below a middling bound -/
theorem take_u (st : Sto) (hs : Ok st) (n : Int) (h1 : 1 ≤ n) (hn : n < 2 ^ 100) : ∃ (r : Int) (st' : Sto), f_l_take [.sto, .int n] st = .ok ⟨.sh, .int r⟩ st' ∧ Ok st' ∧ 0 ≤ r ∧ r < n := by
  obtain ⟨r, st', e, a, b, c⟩ := take_ev st hs n (by
    have : n.natAbs < 2 ^ 100 := by omega
    exact Nat.lt_of_lt_of_le (PySem.Flt.log2_lt_of (by decide) this) (by decide))
  exact ⟨r, st', e, a, b, by omega⟩
theorem ixs_lt {xs : List Row} {lo n r : Nat} (h : r ∈ ixs xs lo n) : lo ≤ r ∧ r < lo + n := by
  have := (List.mem_filter.mp h).1
  rw [List.mem_range'_1] at this
  exact this
def spI : Fm → Rs Fm Fl := (mIf (mAnd (mB (mOp dLt (mVar 5) (mC (.int 3)))) (mTru' (mVar 4))) (mSeq (mSet 7 (mCall0 f_l_pick (mCons (mVar 0) (mCons (mVar 4) mNil))))
    (mPut 3 (mOp dOrB (mVar 6) (mVar 7)) (mOp dSub (mOp dIx (mVar 3) (mOp dSub (mOp dOrB (mVar 6) (mVar 7)) (mVar 7))) (mCall0 f_l_take (mCons (mVar 0) (mCons (mC (.int 2)) mNil)))))) (mIf (mB (mOp dEq (mVar 5) (mC (.int 3)))) (mPut 3 (mVar 6) (mOp dSub (mUn dNeg (mC (.int 1))) (mCall0 f_l_take (mCons (mVar 0) (mCons (mOp dPow (mC (.int 10)) (mC (.int 20))) mNil))))) (mIf (mB (mOp dEq (mVar 5) (mC (.int 4)))) (mPut 3 (mVar 6) (mOp dSub (mOp dAdd (mOp dIx (mVar 3) (mVar 6)) (mC (.int 1))) (mOp dMul (mC (.int 2)) (mCall0 f_l_take (mCons (mVar 0) (mCons (mC (.int 2)) mNil)))))) (mIf (mB (mOp dEq (mVar 5) (mC (.int 5)))) (mPut 3 (mVar 6) (mCall0 f_l_odd (mCons (mVar 0) mNil))) (fun s => (mSetO 3 (mCall0 (f_l_bent 1) (mCons (mVar 0) (mCons (mVar 3) (mCons (mC (.int 0)) mNil))))) (mFreeze 3 s))))))
theorem spI_ap (s : Fm) : spI s = (mIf (mAnd (mB (mOp dLt (mVar 5) (mC (.int 3)))) (mTru' (mVar 4))) (mSeq (mSet 7 (mCall0 f_l_pick (mCons (mVar 0) (mCons (mVar 4) mNil))))
    (mPut 3 (mOp dOrB (mVar 6) (mVar 7)) (mOp dSub (mOp dIx (mVar 3) (mOp dSub (mOp dOrB (mVar 6) (mVar 7)) (mVar 7))) (mCall0 f_l_take (mCons (mVar 0) (mCons (mC (.int 2)) mNil)))))) (mIf (mB (mOp dEq (mVar 5) (mC (.int 3)))) (mPut 3 (mVar 6) (mOp dSub (mUn dNeg (mC (.int 1))) (mCall0 f_l_take (mCons (mVar 0) (mCons (mOp dPow (mC (.int 10)) (mC (.int 20))) mNil))))) (mIf (mB (mOp dEq (mVar 5) (mC (.int 4)))) (mPut 3 (mVar 6) (mOp dSub (mOp dAdd (mOp dIx (mVar 3) (mVar 6)) (mC (.int 1))) (mOp dMul (mC (.int 2)) (mCall0 f_l_take (mCons (mVar 0) (mCons (mC (.int 2)) mNil)))))) (mIf (mB (mOp dEq (mVar 5) (mC (.int 5)))) (mPut 3 (mVar 6) (mCall0 f_l_odd (mCons (mVar 0) mNil))) (fun s => (mSetO 3 (mCall0 (f_l_bent 1) (mCons (mVar 0) (mCons (mVar 3) (mCons (mC (.int 0)) mNil))))) (mFreeze 3 s)))))) s := rfl
theorem spoilt_parts (s : Fm) : m_l_spoilt s = mSeq (mSetO 3 (mCB dListB (mCons (mVar 2) mNil))) (mSeq (mSet 4 (mCall0 f_l_circuit_sets (mCons (mVar 1) mNil))) (mSeq (mSet 5 (mCall0 f_l_take (mCons (mVar 0) (mCons (mC (.int 7)) mNil)))) (mSeq (mSet 6 (mCall0 f_l_take (mCons (mVar 0) (mCons (mCB dLen (mCons (mVar 3) mNil)) mNil)))) (mSeq spI (mRet (mVar 3)))))) s := rfl
theorem spoilt_ev (st : Sto) (hs : Ok st) (xs : List Row) (hw : xs.length ≤ 6) (nb : (xs.map Row.b).Nodup) (T : List Int) (hT : T.length = 2 ^ xs.length) : ∃ (ds : List D) (st' : Sto), f_l_spoilt [.sto, .lst (xs.map R), .lst (T.map D.int)] st = .ok ⟨.fr, .lst ds⟩ st' ∧ Ok st' ∧ (∀ d ∈ ds, Itm d) ∧ ds.length ≤ 101 := by
  have p := pow_le _ hw
  have cs := circuit_sets_ev st xs hw nb
  have hlt : ∀ r ∈ ixs xs 1 (2 ^ xs.length - 1), 1 ≤ r ∧ r < 2 ^ xs.length := fun r hr => by
    have := ixs_lt hr
    omega
  have lis := ixs_len xs 1 (2 ^ xs.length - 1)
  generalize ixs xs 1 (2 ^ xs.length - 1) = is at cs hlt lis
  obtain ⟨m, s1, e1, o1, m0, m1⟩ := take_s st hs 7 (by decide) (by decide)
  obtain ⟨a, s2, e2, o2, a0, a1⟩ := take_s s1 o1 T.length (by omega) (by omega)
  obtain ⟨at_, rfl⟩ : ∃ n : Nat, a = n := ⟨a.toNat, by omega⟩
  have hk : at_ < T.length := by omega
  have ixT := ix_T (d := .lst (T.map D.int)) (.inl rfl) hk
  have cw : callW f_l_take [⟨.sh, .sto⟩, ⟨.sh, .int (T.length : Nat)⟩] [] s1 = .ok ⟨.sh, .int (at_ : Nat)⟩ s2 := by rw [callW_sh' rfl]; exact e2
  have tr : truD' (.lst (is.map fun (r : Nat) => D.int (r : Nat))) = some (!is.isEmpty) := by
    cases is <;> rfl
  have main : ∀ (ds : List D) (x7 : Slot) (s3 : Sto), spI ⟨[.v .sto, .v (.lst (xs.map R)), .v (.lst (T.map D.int)), .own (.lst (T.map D.int)), .v (.lst (is.map fun (r : Nat) => .int (r : Nat))), .v (.int m), .v (.int (at_ : Nat)), .emp], s2⟩ = .ok .nx ⟨[.v .sto, .v (.lst (xs.map R)), .v (.lst (T.map D.int)), .own (.lst ds), .v (.lst (is.map fun (r : Nat) => .int (r : Nat))), .v (.int m), .v (.int (at_ : Nat)), x7], s3⟩ →
      f_l_spoilt [.sto, .lst (xs.map R), .lst (T.map D.int)] st = .ok ⟨.fr, .lst ds⟩ s3 := fun ds x7 s3 he => by
    simp only [f_l_spoilt, fnM, spoilt_parts]
    simp [callW_sh', cs, e1, cw, he]
  by_cases c : m < 3 ∧ is ≠ []
  · obtain ⟨c1, c2⟩ := c
    have ne : is.isEmpty = false := by cases is with | nil => exact absurd rfl c2 | cons a l => rfl
    obtain ⟨d, s3, e3, o3, hd⟩ := pick_ev s2 o2 (is.map fun (r : Nat) => D.int (r : Nat)) (by simpa using c2) (by rw [List.length_map]; omega)
    obtain ⟨r, hr, rfl⟩ := List.mem_map.mp hd
    obtain ⟨r1, r2⟩ := hlt r hr
    obtain ⟨f, s4, e4, o4, f0, f1⟩ := take_s s3 o3 2 (by decide) (by decide)
    have ub : at_ ||| r < 2 ^ xs.length := Nat.or_lt_two_pow (by omega) r2
    have lb : r ≤ at_ ||| r := Nat.right_le_or
    have x2 := ix_T (d := .lst (T.map D.int)) (.inl rfl) (k := (at_ ||| r) - r) (by omega)
    have pt : mPut 3 (mOp dOrB (mVar 6) (mVar 7)) (mOp dSub (mOp dIx (mVar 3) (mOp dSub (mOp dOrB (mVar 6) (mVar 7)) (mVar 7))) (mCall0 f_l_take (mCons (mVar 0) (mCons (mC (.int 2)) mNil)))) ⟨[.v .sto, .v (.lst (xs.map R)), .v (.lst (T.map D.int)), .own (.lst (T.map D.int)), .v (.lst (is.map fun (r : Nat) => .int (r : Nat))), .v (.int m), .v (.int (at_ : Nat)), .v (.int (r : Nat))], s3⟩ =
        .ok .nx ⟨[.v .sto, .v (.lst (xs.map R)), .v (.lst (T.map D.int)), .own (.lst ((T.map D.int).set (at_ ||| r) (.int (nth T ((at_ ||| r) - r) - f)))), .v (.lst (is.map fun (r : Nat) => .int (r : Nat))), .v (.int m), .v (.int (at_ : Nat)), .v (.int (r : Nat))], s4⟩ :=
      mPut_ev (k := .sh) (by simp [-dIx_l, -dSub_ii, dOr_nat, dSub_nat lb, x2, callW_sh', e4]; rfl) (.inl rfl) rfl (by simp [dOr_nat]; rfl) (putIx_nat (by rw [List.length_map]; omega) _)
    refine ⟨(T.map D.int).set (at_ ||| r) (.int (nth T ((at_ ||| r) - r) - f)), s4, ?_, o4, fun x hx => ?_, by rw [List.length_set, List.length_map]; omega⟩
    · refine main _ (.v (.int (r : Nat))) _ ?_
      rw [spI_ap]
      simp [-List.map_set, c1, tr, ne, callW_sh', e3, pt]
    · rcases List.mem_or_eq_of_mem_set hx with h | h
      · exact ints_itm T x h
      · rw [h]; exact itm_int _
  · have cond : (mAnd (mB (mOp dLt (mVar 5) (mC (.int 3)))) (mTru' (mVar 4))) ⟨[.v .sto, .v (.lst (xs.map R)), .v (.lst (T.map D.int)), .own (.lst (T.map D.int)), .v (.lst (is.map fun (r : Nat) => .int (r : Nat))), .v (.int m), .v (.int (at_ : Nat)), .emp], s2⟩ = .ok false s2 := by
      by_cases c1 : m < 3
      · have c2 : is.isEmpty = true := by
          cases is with
          | nil => rfl
          | cons a l => exact absurd ⟨c1, by simp⟩ c
        simp [c1, tr, c2]
      · simp [c1]
    have m3 : m = 3 ∨ m = 4 ∨ m = 5 ∨ (¬ m = 3 ∧ ¬ m = 4 ∧ ¬ m = 5) := by omega
    rcases m3 with rfl | rfl | rfl | ⟨g3, g4, g5⟩
    · obtain ⟨f, s4, e4, o4, f0, f1⟩ := take_u s2 o2 100000000000000000000 (by omega) (by omega)
      have n1 : dNeg (.int 1) = shI (-1) := rfl
      have p20 : dPow (.int 10) (.int 20) = shI 100000000000000000000 := rfl
      have pt : mPut 3 (mVar 6) (mOp dSub (mUn dNeg (mC (.int 1))) (mCall0 f_l_take (mCons (mVar 0) (mCons (mOp dPow (mC (.int 10)) (mC (.int 20))) mNil)))) ⟨[.v .sto, .v (.lst (xs.map R)), .v (.lst (T.map D.int)), .own (.lst (T.map D.int)), .v (.lst (is.map fun (r : Nat) => .int (r : Nat))), .v (.int 3), .v (.int (at_ : Nat)), .emp], s2⟩ =
          .ok .nx ⟨[.v .sto, .v (.lst (xs.map R)), .v (.lst (T.map D.int)), .own (.lst ((T.map D.int).set at_ (.int (-1 - f)))), .v (.lst (is.map fun (r : Nat) => .int (r : Nat))), .v (.int 3), .v (.int (at_ : Nat)), .emp], s4⟩ :=
        mPut_ev (k := .sh) (by simp [n1, p20, callW_sh', e4]) (.inl rfl) rfl rfl (putIx_nat (by rw [List.length_map]; omega) _)
      refine ⟨(T.map D.int).set at_ (.int (-1 - f)), s4, ?_, o4, fun x hx => ?_, by rw [List.length_set, List.length_map]; omega⟩
      · refine main _ .emp _ ?_
        rw [spI_ap, ap_if, cond]
        simp [-List.map_set, pt]
      · rcases List.mem_or_eq_of_mem_set hx with h | h
        · exact ints_itm T x h
        · rw [h]; exact itm_int _
    · obtain ⟨f, s4, e4, o4, f0, f1⟩ := take_s s2 o2 2 (by decide) (by decide)
      have s2' : small64 2 = true := rfl
      have pt : mPut 3 (mVar 6) (mOp dSub (mOp dAdd (mOp dIx (mVar 3) (mVar 6)) (mC (.int 1))) (mOp dMul (mC (.int 2)) (mCall0 f_l_take (mCons (mVar 0) (mCons (mC (.int 2)) mNil))))) ⟨[.v .sto, .v (.lst (xs.map R)), .v (.lst (T.map D.int)), .own (.lst (T.map D.int)), .v (.lst (is.map fun (r : Nat) => .int (r : Nat))), .v (.int 4), .v (.int (at_ : Nat)), .emp], s2⟩ =
          .ok .nx ⟨[.v .sto, .v (.lst (xs.map R)), .v (.lst (T.map D.int)), .own (.lst ((T.map D.int).set at_ (.int (nth T at_ + 1 - 2 * f)))), .v (.lst (is.map fun (r : Nat) => .int (r : Nat))), .v (.int 4), .v (.int (at_ : Nat)), .emp], s4⟩ :=
        mPut_ev (k := .sh) (by simp [-dIx_l, ixT, callW_sh', e4, dMul_l s2']) (.inl rfl) rfl rfl (putIx_nat (by rw [List.length_map]; omega) _)
      refine ⟨(T.map D.int).set at_ (.int (nth T at_ + 1 - 2 * f)), s4, ?_, o4, fun x hx => ?_, by rw [List.length_set, List.length_map]; omega⟩
      · refine main _ .emp _ ?_
        rw [spI_ap, ap_if, cond]
        simp [-List.map_set, pt]
      · rcases List.mem_or_eq_of_mem_set hx with h | h
        · exact ints_itm T x h
        · rw [h]; exact itm_int _
    · obtain ⟨d, s4, e4, o4, id⟩ := odd_ev s2 o2
      have pt : mPut 3 (mVar 6) (mCall0 f_l_odd (mCons (mVar 0) mNil)) ⟨[.v .sto, .v (.lst (xs.map R)), .v (.lst (T.map D.int)), .own (.lst (T.map D.int)), .v (.lst (is.map fun (r : Nat) => .int (r : Nat))), .v (.int 5), .v (.int (at_ : Nat)), .emp], s2⟩ =
          .ok .nx ⟨[.v .sto, .v (.lst (xs.map R)), .v (.lst (T.map D.int)), .own (.lst ((T.map D.int).set at_ d)), .v (.lst (is.map fun (r : Nat) => .int (r : Nat))), .v (.int 5), .v (.int (at_ : Nat)), .emp], s4⟩ :=
        mPut_ev (k := .sh) (by simp [callW_sh', e4]) (.inl rfl) rfl rfl (putIx_nat (by rw [List.length_map]; omega) _)
      refine ⟨(T.map D.int).set at_ d, s4, ?_, o4, fun x hx => ?_, by rw [List.length_set, List.length_map]; omega⟩
      · refine main _ .emp _ ?_
        rw [spI_ap, ap_if, cond]
        simp [-List.map_set, pt]
      · rcases List.mem_or_eq_of_mem_set hx with h | h
        · exact ints_itm T x h
        · rw [h]; exact id
    · obtain ⟨ds, s4, e4, o4, hi, hl⟩ := bent_ev s2 o2 T (by omega) (by omega)
      refine ⟨ds, s4, ?_, o4, hi, hl⟩
      refine main _ .emp _ ?_
      rw [spI_ap, ap_if, cond]
      simp [g3, g4, g5, mFreeze, callW_sh', e4]
end Lk52

set_option Elab.async false
set_option linter.all false
set_option maxRecDepth 100000
set_option maxHeartbeats 2000000
namespace Lk52
open PySem RX
/-! ### tables that bound -/
structure GoodT (xs : List Row) (T : List Int) : Prop where
  len : T.length = 2 ^ xs.length
  pos : ∀ i, i < 2 ^ xs.length → 0 ≤ nth T i
  up : ∀ i, i < 2 ^ xs.length → ∀ r ∈ ixs xs 1 (2 ^ xs.length - 1), inN i r = true → 1 + nth T (i - r) ≤ nth T i
theorem toI_map (T : List Int) : (T.map D.int).map toI = T := by
  rw [List.map_map]
  exact List.map_id' T
theorem nn_map : ∀ T : List Int, (∀ x ∈ T, 0 ≤ x) → (T.map D.int).all nn = true
  | [], _ => rfl
  | x :: T, h => by
    rw [List.map_cons, List.all_cons, nn_map T fun y hy => h y (List.mem_cons_of_mem _ hy)]
    have := h x List.mem_cons_self
    show (decide (0 ≤ x) && true) = true
    rw [decide_eq_true this]; rfl
theorem GoodT.all {xs : List Row} {T : List Int} (h : GoodT xs T) : (T.map D.int).all nn = true := nn_map T fun x hx => by
  obtain ⟨i, hi, rfl⟩ := List.mem_iff_getElem.mp hx
  rw [nth_get hi]
  exact h.pos i (by rw [← h.len]; exact hi)
theorem GoodT.ok {xs : List Row} {T : List Int} (h : GoodT xs T) : (ixs xs 1 (2 ^ xs.length - 1)).any (badR T (2 ^ xs.length)) = false := by
  rw [List.any_eq_false]
  intro r hr c
  unfold badR at c
  obtain ⟨i, hi, c⟩ := List.any_eq_true.mp c
  have m := List.mem_filter.mp hi
  have lt := m.1
  rw [List.mem_range'_1] at lt
  have := h.up i (by omega) r hr m.2
  have c := of_decide_eq_true c
  omega
theorem GoodT.isB {xs : List Row} {T : List Int} (h : GoodT xs T) (num : Int) : isB xs (T.map D.int) num = decide (nth T (2 ^ xs.length - 1) = num) := by
  unfold Lk52.isB
  rw [toI_map, h.all, h.ok, List.length_map, decide_eq_true h.len]
  simp
theorem isB_len {xs : List Row} {ds : List D} {num : Int} (h : ds.length ≠ 2 ^ xs.length) : isB xs ds num = false := by
  unfold isB
  rw [decide_eq_false h]; rfl
theorem nth_map_add {T : List Int} {m : Int} {i : Nat} (h : i < T.length) : nth (T.map fun x => x + m) i = nth T i + m := by
  have h' : i < (T.map fun x => x + m).length := by rw [List.length_map]; exact h
  rw [← nth_get h', ← nth_get h, List.getElem_map]
theorem GoodT.add {xs : List Row} {T : List Int} (h : GoodT xs T) {m : Int} (hm : 0 ≤ m) : GoodT xs (T.map fun x => x + m) := by
  refine ⟨by rw [List.length_map]; exact h.len, fun i hi => ?_, fun i hi r hr c => ?_⟩
  · rw [nth_map_add (by rw [h.len]; exact hi)]
    have := h.pos i hi
    omega
  · rw [nth_map_add (i := i) (by rw [h.len]; exact hi), nth_map_add (i := i - r) (by rw [h.len]; omega)]
    have := h.up i hi r hr c
    omega
/-! the greatest numbers bound -/
theorem maxI_le {x : Int} : ∀ {l : List Int}, x ∈ l → x ≤ maxI l
  | [], h => by cases h
  | a :: l, h => by
    have f := foldl_max l a
    show x ≤ l.foldl (fun a b => if b > a then b else a) a
    rcases List.mem_cons.mp h with rfl | h
    · exact f.2.1
    · exact f.2.2 x h
structure TabOk (is : List Nat) (T : List Int) : Prop where
  pos : ∀ i, i < T.length → 0 ≤ nth T i
  up : ∀ i, i < T.length → ∀ r ∈ is, inN i r = true → 1 + nth T (i - r) ≤ nth T i
theorem nth_app_l {T : List Int} {x : Int} {i : Nat} (h : i < T.length) : nth (T ++ [x]) i = nth T i := by
  have h' : i < (T ++ [x]).length := by simp; omega
  rw [← nth_get h', ← nth_get h, List.getElem_append_left h]
theorem nth_app_r {T : List Int} {x : Int} : nth (T ++ [x]) T.length = x := by
  have h' : T.length < (T ++ [x]).length := by simp
  rw [← nth_get h']
  simp
theorem tabN_ok (is : List Nat) (h1 : ∀ r ∈ is, 1 ≤ r) : ∀ (n lo : Nat) (T : List Int), T.length = lo → TabOk is T → TabOk is (tabN is lo n T)
  | 0, _, _, _, h => h
  | n + 1, lo, T, hl, h => by
    refine tabN_ok is h1 n (lo + 1) (T ++ [entry is T lo]) (by simp [hl]) ⟨fun i hi => ?_, fun i hi r hr c => ?_⟩
    · rw [List.length_append, List.length_singleton] at hi
      by_cases z : i < T.length
      · rw [nth_app_l z]; exact h.pos i z
      · have : i = T.length := by omega
        subst this
        rw [nth_app_r]
        exact maxI_le List.mem_cons_self
    · rw [List.length_append, List.length_singleton] at hi
      have r1 := h1 r hr
      have le : r ≤ i := and_le i r (by simpa [inN] using c)
      by_cases z : i < T.length
      · rw [nth_app_l z, nth_app_l (by omega)]; exact h.up i z r hr c
      · have : i = T.length := by omega
        subst this
        rw [nth_app_r, nth_app_l (by omega)]
        unfold entry
        refine maxI_le (List.mem_cons_of_mem _ ?_)
        rw [← hl]
        exact List.mem_map.mpr ⟨r, List.mem_filter.mpr ⟨hr, c⟩, rfl⟩
theorem tab_good (xs : List Row) (hw : xs.length ≤ 6) : GoodT xs (tab xs) := by
  have p := pow_le _ hw
  have l := tab_len xs
  have ok := tabN_ok (ixs xs 1 (2 ^ xs.length - 1)) (ixs_pos xs 1 _ (by omega)) (2 ^ xs.length - 1) 1 [0] rfl ⟨fun i hi => by
    have : i = 0 := by simp at hi; omega
    subst this
    show (0 : Int) ≤ nth [0] 0
    decide, fun i hi r hr c => by
    have : i = 0 := by simp at hi; omega
    subst this
    have le : r ≤ 0 := and_le 0 r (by simpa [inN] using c)
    have := ixs_pos xs 1 _ (by omega) r hr
    omega⟩
  exact ⟨by omega, fun i hi => ok.pos i (by show i < (tab xs).length; omega), fun i hi r hr c => ok.up i (by show i < (tab xs).length; omega) r hr c⟩
/-! so do the numbers of arrows -/
def popc (n i : Nat) : Nat := ((List.range n).filter (bit i)).length
theorem popc_up : ∀ n : Nat, n ≤ 6 → ∀ i : Nat, i < 2 ^ n → ∀ r : Nat, r < 2 ^ n → 1 ≤ r → inN i r = true → popc n (i - r) + 1 ≤ popc n i := by decide +kernel
def popT (n : Nat) : List Int := (List.range' 0 (2 ^ n)).map fun i => (popc n i : Int)
theorem nth_pop {n i : Nat} (h : i < 2 ^ n) : nth (popT n) i = (popc n i : Int) := by
  simp [nth, popT, h]
theorem pop_good (xs : List Row) (hw : xs.length ≤ 6) : GoodT xs (popT xs.length) := by
  refine ⟨by unfold popT; simp, fun i hi => by rw [nth_pop hi]; omega, fun i hi r hr c => ?_⟩
  have lt := ixs_lt hr
  have p := pow_le _ hw
  have := popc_up _ hw i hi r (by omega) (by omega) c
  rw [nth_pop hi, nth_pop (by omega)]
  omega
theorem base_body (st : Sto) (xs : List Row) (hw : xs.length ≤ 6) (i : Nat) (acc : List D) (ha : acc.length ≤ 200) (x0 x5 x6 : Slot) : m_l_base_b1 ⟨[x0, .v (.lst (xs.map R)), .own (.lst acc), .v (.int (i : Nat)), .emp, x5, x6], st⟩ = .ok .nx ⟨[x0, .v (.lst (xs.map R)), .own (.lst (acc ++ [.int (popc xs.length i : Nat)])), .v (.int (i : Nat)), .emp, x5, x6], st⟩ := by
  have rr : ∀ st, rngR [⟨.sh, .int (xs.length : Nat)⟩] st = .ok (rngN 0 xs.length) st := fun st => rng_len st _ (by omega)
  have lc : mLc (mRng (mCons (mCB dLen (mCons (mVar 1) mNil)) mNil)) (gN 4) (mB (mOp dEq (mOp dAndB (mOp dShr (mVar 3) (mVar 4)) (mC (.int 1))) (mC (.int 1)))) (mVar 4) [4] ⟨[x0, .v (.lst (xs.map R)), .own (.lst acc), .v (.int (i : Nat)), .emp, x5, x6], st⟩ = .ok ⟨.fr, .lst (((List.range' 0 xs.length).filter (bit i)).map fun (k : Nat) => .int (k : Nat))⟩ st := by
    refine lc_ev (ds := rngN 0 xs.length) (st := st) (by simp [rr]) (by unfold rngN; rw [List.length_map, List.length_range']; omega) rfl ?_
    unfold rngN
    rw [lcD_map (fun (k : Nat) => D.int (k : Nat)) (bit i) (fun (k : Nat) => D.int (k : Nat)), List.nil_append]
    intro k _
    have bt := bit_test i k
    rw [dShr_nat] at bt
    have bt : ((dAndB (.int ((i / 2 ^ k : Nat) : Int)) (.int 1)).bind fun y => dEq y.d (.int 1)) = shB (bit i k) := bt
    have da : dAndB (.int ((i / 2 ^ k : Nat) : Int)) (.int 1) = shI ((i / 2 ^ k &&& 1 : Nat) : Int) := dAnd_nat _ 1
    rw [da] at bt
    have bt : dEq (.int ((i / 2 ^ k &&& 1 : Nat) : Int)) (.int 1) = shB (bit i k) := bt
    refine ⟨_, rfl, ?_, fun _ => ⟨.sh, by simp [wipeE], .inl rfl⟩⟩
    simp only [wipeE, ap_b, ap_op, List.set, ap_var3, ap_var4, ap_c, Rs.bind, ap_ofO, dShr_nat, da, bt, ap_asB]
  have e : (List.range' 0 xs.length).filter (bit i) = (List.range xs.length).filter (bit i) := by rw [List.range_eq_range']
  have fa : fAppend acc [.int (popc xs.length i : Nat)] = some (acc ++ [.int (popc xs.length i : Nat)], .non) := fAppend_ok (by unfold line; omega)
  have dl : dLen [.lst (((List.range' 0 xs.length).filter (bit i)).map fun (k : Nat) => .int (k : Nat))] = shI (popc xs.length i : Nat) := by
    rw [dLen_l, List.length_map, e]; rfl
  rw [m_l_base_b1_ap]
  simp [-dLen_l, dLen_l (ds := xs.map R), lc, dl, fa]
theorem base_loop (st : Sto) (xs : List Row) (hw : xs.length ≤ 6) (x0 x5 x6 : Slot) : ∀ (n lo : Nat) (acc : List D) (x3 : Slot), acc.length + n ≤ 200 →
    ∃ x3', forD (gN 3) m_l_base_b1 (rngN lo n) ⟨[x0, .v (.lst (xs.map R)), .own (.lst acc), x3, .emp, x5, x6], st⟩ = .ok .nx ⟨[x0, .v (.lst (xs.map R)), .own (.lst (acc ++ (List.range' lo n).map fun i => .int (popc xs.length i : Nat))), x3', .emp, x5, x6], st⟩
  | 0, lo, acc, x3, _ => ⟨x3, by rw [List.range'_zero, List.map_nil, List.append_nil]; rfl⟩
  | n + 1, lo, acc, x3, h => by
    have b := base_body st xs hw lo acc (by omega) x0 x5 x6
    obtain ⟨x3', e⟩ := base_loop st xs hw x0 x5 x6 n (lo + 1) (acc ++ [.int (popc xs.length lo : Nat)]) (.v (.int lo)) (by rw [List.length_append, List.length_singleton]; omega)
    refine ⟨x3', ?_⟩
    rw [List.range'_succ, List.map_cons, rngN_cons, forD_cons, ap_gN]
    show (match m_l_base_b1 ⟨[x0, .v (.lst (xs.map R)), .own (.lst acc), .v (.int (lo : Nat)), .emp, x5, x6], st⟩ with | .ok .nx s2 => forD (gN 3) m_l_base_b1 (rngN (lo + 1) n) s2 | .ok .ct s2 => forD (gN 3) m_l_base_b1 (rngN (lo + 1) n) s2 | .ok .bk s2 => .ok .nx s2 | r => r) = _
    rw [b]
    rw [List.append_assoc] at e
    exact e
def bB : Fm → Rs Fm Fl := (mIf (mB (mOp dEq (mCall0 f_l_take (mCons (mVar 0) (mCons (mC (.int 2)) mNil))) (mC (.int 0)))) (mSeq (mSetO 2 (mLst mNil))
    (mFor (mRng (mCons (mOp dShl (mC (.int 1)) (mCB dLen (mCons (mVar 1) mNil))) mNil)) (gN 3) m_l_base_b1)) mNext)
theorem bB_ap (s : Fm) : bB s = (mIf (mB (mOp dEq (mCall0 f_l_take (mCons (mVar 0) (mCons (mC (.int 2)) mNil))) (mC (.int 0)))) (mSeq (mSetO 2 (mLst mNil))
    (mFor (mRng (mCons (mOp dShl (mC (.int 1)) (mCB dLen (mCons (mVar 1) mNil))) mNil)) (gN 3) m_l_base_b1)) mNext) s := rfl
def bD : Fm → Rs Fm Fl := (mIf (mB (mOp dEq (mCall0 f_l_take (mCons (mVar 0) (mCons (mC (.int 2)) mNil))) (mC (.int 0)))) (mSet 5 (mCall0 f_l_take (mCons (mVar 0) (mCons (mOp dAdd (mOp dPow (mC (.int 10)) (mC (.int 20))) (mC (.int 1))) mNil)))) mNext)
theorem bD_ap (s : Fm) : bD s = (mIf (mB (mOp dEq (mCall0 f_l_take (mCons (mVar 0) (mCons (mC (.int 2)) mNil))) (mC (.int 0)))) (mSet 5 (mCall0 f_l_take (mCons (mVar 0) (mCons (mOp dAdd (mOp dPow (mC (.int 10)) (mC (.int 20))) (mC (.int 1))) mNil)))) mNext) s := rfl
theorem base_parts (s : Fm) : m_l_base s = mSeq (mSetO 2 (mCall0 f_l_web_table (mCons (mVar 1) mNil))) (mSeq bB (mSeq (mSet 5 (mC (.int 0))) (mSeq bD (fun s => (mRet (mLc (mSrc seqD (mVar 2)) (gN 6) mYes (mOp dAdd (mVar 6) (mVar 5)) [6])) (mFreeze 2 s))))) s := rfl
theorem bB_ev (st : Sto) (hs : Ok st) (xs : List Row) (hw : xs.length ≤ 6) : ∃ (T : List Int) (x3 : Slot) (st' : Sto), bB ⟨[.v .sto, .v (.lst (xs.map R)), .own (.lst ((tab xs).map D.int)), .emp, .emp, .emp, .emp], st⟩ = .ok .nx ⟨[.v .sto, .v (.lst (xs.map R)), .own (.lst (T.map D.int)), x3, .emp, .emp, .emp], st'⟩ ∧ Ok st' ∧ GoodT xs T := by
  obtain ⟨m, s1, e1, o1, m0, m1⟩ := take_s st hs 2 (by decide) (by decide)
  have p := pow_le _ hw
  by_cases c : m = 0
  · obtain ⟨x3, e⟩ := base_loop s1 xs hw (.v .sto) .emp .emp (2 ^ xs.length) 0 [] .emp (by simp; omega)
    have rr : ∀ st, rngR [⟨.sh, .int ((2 ^ xs.length : Nat) : Int)⟩] st = .ok (rngN 0 (2 ^ xs.length)) st := fun st => rng_len st _ (by omega)
    have s1' := shl_one xs.length (by omega)
    refine ⟨popT xs.length, x3, s1, ?_, o1, pop_good xs hw⟩
    have pm : (popT xs.length).map D.int = [] ++ (List.range' 0 (2 ^ xs.length)).map fun i => .int (popc xs.length i : Nat) := by
      unfold popT
      rw [List.map_map, List.nil_append]; rfl
    rw [pm, bB_ap]
    simp [-Int.natCast_pow, -List.nil_append, callW_sh', e1, c, s1', rr, e]
  · refine ⟨tab xs, .emp, s1, ?_, o1, tab_good xs hw⟩
    rw [bB_ap]
    simp [callW_sh', e1, c]
theorem bD_ev (st : Sto) (hs : Ok st) (a b x3 : Slot) (c : D) : ∃ (m : Int) (st' : Sto), bD ⟨[.v .sto, a, .own c, x3, .emp, .v (.int 0), .emp], st⟩ = .ok .nx ⟨[.v .sto, a, .own c, x3, .emp, .v (.int m), .emp], st'⟩ ∧ Ok st' ∧ 0 ≤ m := by
  obtain ⟨m, s1, e1, o1, m0, m1⟩ := take_s st hs 2 (by decide) (by decide)
  have p20 : dPow (.int 10) (.int 20) = shI 100000000000000000000 := rfl
  by_cases c : m = 0
  · obtain ⟨f, s2, e2, o2, f0, f1⟩ := take_u s1 o1 100000000000000000001 (by omega) (by omega)
    refine ⟨f, s2, ?_, o2, f0⟩
    rw [bD_ap]
    simp [callW_sh', e1, c, p20, e2]
  · refine ⟨0, s1, ?_, o1, Int.le_refl _⟩
    rw [bD_ap]
    simp [callW_sh', e1, c]
theorem base_ev (st : Sto) (hs : Ok st) (xs : List Row) (hw : xs.length ≤ 6) (nb : (xs.map Row.b).Nodup) : ∃ (T : List Int) (st' : Sto), f_l_base [.sto, .lst (xs.map R)] st = .ok ⟨.fr, .lst (T.map D.int)⟩ st' ∧ Ok st' ∧ GoodT xs T := by
  have p := pow_le _ hw
  have wt := web_table_ev st xs hw nb
  obtain ⟨T, x3, s1, e1, o1, g⟩ := bB_ev st hs xs hw
  obtain ⟨m, s2, e2, o2, m0⟩ := bD_ev s1 o1 (.v (.lst (xs.map R))) .emp x3 (.lst (T.map D.int))
  refine ⟨T.map fun x => x + m, s2, ?_, o2, g.add m0⟩
  have lT := g.len
  have lc : mLc (mSrc seqD (mVar 2)) (gN 6) mYes (mOp dAdd (mVar 6) (mVar 5)) [6] ⟨[.v .sto, .v (.lst (xs.map R)), .v (.lst (T.map D.int)), x3, .emp, .v (.int m), .emp], s2⟩ = .ok ⟨.fr, .lst ((T.map fun x => x + m).map D.int)⟩ s2 := by
    refine lc_ev (ds := T.map D.int) (st := s2) (by simp [seqD]) (by rw [List.length_map]; omega) rfl ?_
    rw [lcD_map D.int (fun _ => true) (fun x => D.int (x + m)), List.nil_append, List.filter_eq_self.mpr (fun _ _ => rfl), List.map_map]
    · rfl
    · intro x _
      exact ⟨_, rfl, rfl, fun _ => ⟨.sh, by simp [wipeE], .inl rfl⟩⟩
  simp only [f_l_base, fnM, base_parts]
  simp [-List.map_map, callW_sh', wt, e1, e2, mFreeze, lc]
/-! ### refused -/
theorem meth_ev1 (mn : Str) (f : List D → Sto → Rs Sto Val) (wr : List Row) (i : Nat) (a : Fm → Rs Sto (List Val)) (us : List Val) (env : List Slot) (st st1 : Sto) (he : env[i]? = some (.v (web wr))) (ha : a ⟨env, st⟩ = .ok us st1) (hu : us.any isOw = false) (hm : (([("web_rows", .tup (wr.map R))] : List (Str × D)).lookup mn = none)) : mMeth "Web" mn f [] (mVar i) a ⟨env, st⟩ = f (web wr :: us.map Val.d) st1 := by
  have c := callW_sh' (f := f) (ws := ⟨.sh, web wr⟩ :: us) (st := st1) (by rw [List.any_cons, hu]; rfl)
  unfold mMeth
  simp only [ap_var, he, Rs.bind]
  rw [if_pos ⟨trivial, hm⟩]
  simp only [ha, ap_settle]
  exact c
theorem meth0_ev1 (mn : Str) (f : List D → Sto → Rs Sto Val) (wr : List Row) (i : Nat) (a : Fm → Rs Sto (List Val)) (us : List Val) (env : List Slot) (st st1 : Sto) (he : env[i]? = some (.v (web wr))) (ha : a ⟨env, st⟩ = .ok us st1) (hu : us.any isOw = false) (hm : (([("web_rows", .tup (wr.map R))] : List (Str × D)).lookup mn = none)) : mMeth0 "Web" mn f (mVar i) a ⟨env, st⟩ = noEx (f (web wr :: us.map Val.d) st1) := by
  have c := callW_sh' (f := f) (ws := ⟨.sh, web wr⟩ :: us) (st := st1) (by rw [List.any_cons, hu]; rfl)
  unfold mMeth0
  simp only [ap_var, he, Rs.bind]
  rw [if_pos ⟨trivial, hm⟩]
  simp only [ha, ap_settle]
  exact congrArg noEx c
theorem sameh_int (i : Int) (st : Sto) : fh_l_same [.int i, .int i] st = .ok ⟨.sh, .bl true⟩ st := by
  have b1 : ∀ i : Int, dIsi tbB (fun _ => false) [.int i, .ty "bool"] = shB false := fun _ => rfl
  have b2 : ∀ i : Int, dIsi tbB (fun _ => false) [.int i, .ty "int"] = shB true := fun _ => rfl
  have i1 : ∀ i : Int, dIs (.int i) .non = shB false := fun _ => rfl
  simp [fh_l_same, fnM, mh_l_same, b1, b2, i1]
theorem refused_body (wr : List Row) (hw : wr.length ≤ 12) (h6 : 6 < wr.length) (d : D) (x3 : Slot) (st : Sto) : m_l_refused_b1 ⟨[.v (web wr), .v (.int wr.length), .v d, x3], st⟩ = .ok .nx ⟨[.v (web wr), .v (.int wr.length), .v d, .emp], st⟩ := by
  have a := is_bound_ex wr hw h6 d (.int 0) st
  have m1 : mMeth "Web" "is_bound" f_Web_is_bound [] (mVar 0) (mCons (mVar 2) (mCons (mC (.int 0)) mNil)) ⟨[.v (web wr), .v (.int wr.length), .v d, x3], st⟩ = .ex "TooMany" (tooMany wr.length) st := by
    rw [meth_ev1 "is_bound" f_Web_is_bound wr 0 _ [⟨.sh, d⟩, ⟨.sh, .int 0⟩] _ st st rfl (by simp) rfl rfl]
    exact a
  rw [m_l_refused_b1_ap]
  have body : (mSeq (mDrop (mMeth "Web" "is_bound" f_Web_is_bound [] (mVar 0) (mCons (mVar 2) (mCons (mC (.int 0)) mNil)))) (mRet (mC (.bl false)))) ⟨[.v (web wr), .v (.int wr.length), .v d, x3], st⟩ = .ex "TooMany" (tooMany wr.length) ⟨[.v (web wr), .v (.int wr.length), .v d, x3], st⟩ := by
    simp [m1]
  unfold mTry
  rw [body]
  have z3 : (3 : Nat) ≤ line := by decide
  have i1 : isA1 "TooMany" "TooMany" = some true := rfl
  have x1 : mXis (tbL tabX) (okx1 "TooMany") (mC (.cls "NestError")) "TooMany" (tooMany wr.length) ⟨[.v (web wr), .v (.int wr.length), .v d, .emp], st⟩ = .ok ⟨.sh, .bl true⟩ st := rfl
  have x2 : mXis (tbL tabX) (okx1 "TooMany") (mTup (mCons (mC (.cls "BadCount")) (mCons (mC (.cls "BadNumber")) (mCons (mC (.cls "Refusal")) mNil)))) "TooMany" (tooMany wr.length) ⟨[.v (web wr), .v (.int wr.length), .v d, .emp], st⟩ = .ok ⟨.sh, .bl false⟩ st := by
    unfold mXis
    rw [if_pos ⟨rfl, by simp⟩]
    simp [z3]
    rfl
  have f1 : mXf "TooMany" "many" "TooMany" (tooMany wr.length) ⟨[.v (web wr), .v (.int wr.length), .v d, .emp], st⟩ = .ok ⟨.sh, .int wr.length⟩ st := rfl
  have f2 : mXf "TooMany" "limit" "TooMany" (tooMany wr.length) ⟨[.v (web wr), .v (.int wr.length), .v d, .emp], st⟩ = .ok ⟨.sh, .int 6⟩ st := rfl
  have s1 := sameh_int wr.length st
  have s2 := sameh_int 6 st
  simp only [i1, List.length, if_pos (show 3 < 0 + 1 + 1 + 1 + 1 by decide), List.set]
  simp [mXif, mXor, mXnot, mXB, mXcall, mXcons, x1, x2, f1, f2, callW_sh', s1, s2, clearX]
theorem refused_loop (wr : List Row) (hw : wr.length ≤ 12) (h6 : 6 < wr.length) (st : Sto) : ∀ (ds : List D) (x2 x3 : Slot), ∃ x2' x3', forD (gN 2) m_l_refused_b1 ds ⟨[.v (web wr), .v (.int wr.length), x2, x3], st⟩ = .ok .nx ⟨[.v (web wr), .v (.int wr.length), x2', x3'], st⟩
  | [], x2, x3 => ⟨x2, x3, rfl⟩
  | d :: ds, x2, x3 => by
    obtain ⟨y2, y3, e⟩ := refused_loop wr hw h6 st ds (.v d) .emp
    refine ⟨y2, y3, ?_⟩
    have b := refused_body wr hw h6 d x3 st
    rw [forD_cons, ap_gN]
    show (match m_l_refused_b1 ⟨[.v (web wr), .v (.int wr.length), .v d, x3], st⟩ with | .ok .nx s2 => forD (gN 2) m_l_refused_b1 ds s2 | .ok .ct s2 => forD (gN 2) m_l_refused_b1 ds s2 | .ok .bk s2 => .ok .nx s2 | r => r) = _
    rw [b]; exact e
theorem refused_ev (wr : List Row) (hw : wr.length ≤ 12) (h6 : 6 < wr.length) (st : Sto) : f_l_refused [web wr, .int wr.length] st = .ok ⟨.sh, .bl true⟩ st := by
  have dm : ∃ l, dMul (.lst [.int 0]) (.int 64) = some ⟨.fr, .lst l⟩ := ⟨_, rfl⟩
  obtain ⟨l, dm⟩ := dm
  have z0 : (0 : Nat) ≤ line := by decide
  have z1 : (1 : Nat) ≤ line := by decide
  have z2 : (2 : Nat) ≤ line := by decide
  have z4 : (4 : Nat) ≤ line := by decide
  obtain ⟨x2, x3, e⟩ := refused_loop wr hw h6 st [.lst [], .lst [.str "x"], .lst [.int 0, .non], .lst l] .emp .emp
  simp only [f_l_refused, fnM, m_l_refused_ap]
  simp [dm, z0, z1, z2, z4, seqD, e]
end Lk52

set_option Elab.async false
set_option linter.all false
set_option maxRecDepth 100000
set_option maxHeartbeats 2000000
namespace Lk52
open PySem RX
/-! ### agrees -/
theorem same_bl (n : Nat) (b : Bool) (st : Sto) : f_l_same (n + 1) [.bl b, .bl b] st = .ok ⟨.sh, .bl true⟩ st := by
  have b1 : ∀ b : Bool, dIsi tbB (fun _ => false) [.bl b, .ty "bool"] = shB true := fun _ => rfl
  have i1 : ∀ b : Bool, dIs (.bl b) .non = shB false := fun _ => rfl
  have e : dEq (.bl b) (.bl b) = shB true := by cases b <;> rfl
  simp [f_l_same, fnM, m_l_same_ap, b1, i1, e]
theorem itm_copy {ds : List D} (hi : ∀ x ∈ ds, Itm x) (hl : ds.length ≤ 1000) {d : D} (hd : d = .lst ds ∨ d = .tup ds) (st : Sto) : ∃ k, f_l_copy 5 [d] st = .ok ⟨k, d⟩ st ∧ (k = .sh ∨ k = .fr) := by
  rcases hd with rfl | rfl
  · exact ⟨.fr, copy_lst 4 st ds hl fun x hx => (hi x hx).cp 1 st, .inr rfl⟩
  · exact ⟨.sh, copy_tup 4 st ds hl fun x hx => (hi x hx).cp 1 st, .inl rfl⟩
theorem itm_same {ds : List D} (hi : ∀ x ∈ ds, Itm x) (hl : ds.length ≤ 1000) {d : D} (hd : d = .lst ds ∨ d = .tup ds) (st : Sto) : f_l_same 5 [d, d] st = .ok ⟨.sh, .bl true⟩ st := by
  rcases hd with rfl | rfl
  · exact same_lst 4 st ds hl fun x hx => (hi x hx).sm 1 st
  · exact same_tup 4 st ds hl fun x hx => (hi x hx).sm 1 st
/-- a row in a list or a tuple -/
theorem row_of2 (st : Sto) (hs : Ok st) (ds : List D) : ∃ (d : D) (k : Kd) (st' : Sto), Ok st' ∧ (d = .lst ds ∨ d = .tup ds) ∧ (k = .sh ∨ k = .fr) ∧ f_l_row_of [.sto, .lst ds] st = .ok ⟨k, d⟩ st' := by
  obtain ⟨s1, o1, e | e⟩ := row_of_ev st hs ds
  · exact ⟨_, _, s1, o1, .inl rfl, .inr rfl, e⟩
  · exact ⟨_, _, s1, o1, .inr rfl, .inl rfl, e⟩
theorem agrees_ev (st : Sto) (hs : Ok st) (wr : List Row) (hw : wr.length ≤ 6) (nb : (wr.map Row.b).Nodup) (ds : List D) (hi : ∀ x ∈ ds, Itm x) (hl : ds.length ≤ 200) (num : Int) : ∃ st', f_l_agrees [.sto, web wr, .lst (wr.map R), .lst ds, .int num] st = .ok ⟨.sh, .bl true⟩ st' ∧ Ok st' := by
  obtain ⟨d, k, s1, o1, hd, hk, e1⟩ := row_of2 st hs ds
  obtain ⟨k2, e2, hk2⟩ := itm_copy hi (by omega) hd s1
  have e3 := is_bound_ev wr hw d ds hd hi hl num s1
  have e4 := l_is_bound_ev wr hw nb ds hi hl num s1
  have e5 := same_bl 4 (isB wr ds num) s1
  have e6 := itm_same hi (by omega) hd s1
  refine ⟨s1, ?_, o1⟩
  have m1 : ∀ x6 x7 : Slot, mMeth0 "Web" "is_bound" f_Web_is_bound (mVar 1) (mCons (mVar 5) (mCons (mVar 4) mNil)) ⟨[.v .sto, .v (web wr), .v (.lst (wr.map R)), .v (.lst ds), .v (.int num), .v d, x6, x7], s1⟩ = .ok ⟨.sh, .bl (isB wr ds num)⟩ s1 := fun x6 x7 => by
    rw [meth0_ev1 "is_bound" f_Web_is_bound wr 1 _ [⟨.sh, d⟩, ⟨.sh, .int num⟩] _ s1 s1 rfl (by simp) rfl rfl]
    exact congrArg noEx e3
  have start : startE 8 [.sto, web wr, .lst (wr.map R), .lst ds, .int num] = [.v .sto, .v (web wr), .v (.lst (wr.map R)), .v (.lst ds), .v (.int num), .emp, .emp, .emp] := rfl
  simp only [f_l_agrees, fnM, m_l_agrees_ap, start]
  rcases hk with rfl | rfl <;> rcases hk2 with rfl | rfl <;> simp [callW_sh', e1, e2, m1, e4, e5, e6]
/-! ### the law -/
@[simp] theorem ap_var10 {a b c x y z u v w t : Slot} {d : D} {e : List Slot} {st : Sto} : mVar 10 ⟨a :: b :: c :: x :: y :: z :: u :: v :: w :: t :: .v d :: e, st⟩ = .ok ⟨.sh, d⟩ st := rfl
@[simp] theorem ap_var11 {a b c x y z u v w t s : Slot} {d : D} {e : List Slot} {st : Sto} : mVar 11 ⟨a :: b :: c :: x :: y :: z :: u :: v :: w :: t :: s :: .v d :: e, st⟩ = .ok ⟨.sh, d⟩ st := rfl
@[simp] theorem ap_var12 {a b c x y z u v w t s r : Slot} {d : D} {e : List Slot} {st : Sto} : mVar 12 ⟨a :: b :: c :: x :: y :: z :: u :: v :: w :: t :: s :: r :: .v d :: e, st⟩ = .ok ⟨.sh, d⟩ st := rfl
theorem itm_map (T : List Int) : ∀ x ∈ T.map D.int, Itm x := ints_itm T
theorem turn1 (st : Sto) (hs : Ok st) (wr : List Row) (hw : wr.length ≤ 6) (nb : (wr.map Row.b).Nodup) (T : List Int) (g : GoodT wr T) (d2 d3 d5 : D) (k : D) (x10 x11 x12 : Slot) :
    ∃ (x10' x11' : Slot) (st' : Sto), m_law_b1 ⟨[.emp, .v .sto, .v d2, .v d3, .v (web wr), .v d5, .v (.lst (wr.map R)), .v (.lst (T.map D.int)), .v (.int (nth T (2 ^ wr.length - 1))), .v k, x10, x11, x12], st⟩ = .ok .nx ⟨[.emp, .v .sto, .v d2, .v d3, .v (web wr), .v d5, .v (.lst (wr.map R)), .v (.lst (T.map D.int)), .v (.int (nth T (2 ^ wr.length - 1))), .v k, x10', x11', x12], st'⟩ ∧ Ok st' := by
  have lT := g.len
  have p := pow_le _ hw
  obtain ⟨ds, s1, e1, o1, hi, hl⟩ := spoilt_ev st hs wr hw nb T lT
  have tr : truD' (.lst ds) = some (!ds.isEmpty) := rfl
  obtain ⟨last, hlast⟩ : ∃ last : Int, ∀ (x11 : Slot), (mIf (mAnd (mTru' (mVar 10)) (mB (mCall0 f_l_is_integer (mCons (mOp dIx (mVar 10) (mOp dSub (mCB dLen (mCons (mVar 10) mNil)) (mC (.int 1)))) mNil)))) (mSet 11 (mOp dIx (mVar 10) (mOp dSub (mCB dLen (mCons (mVar 10) mNil)) (mC (.int 1))))) mNext) ⟨[.emp, .v .sto, .v d2, .v d3, .v (web wr), .v d5, .v (.lst (wr.map R)), .v (.lst (T.map D.int)), .v (.int (nth T (2 ^ wr.length - 1))), .v k, .v (.lst ds), .v (.int (nth T (2 ^ wr.length - 1))), x12], s1⟩ =
      .ok .nx ⟨[.emp, .v .sto, .v d2, .v d3, .v (web wr), .v d5, .v (.lst (wr.map R)), .v (.lst (T.map D.int)), .v (.int (nth T (2 ^ wr.length - 1))), .v k, .v (.lst ds), .v (.int last), x12], s1⟩ := by
    by_cases c : ds.isEmpty = true
    · exact ⟨nth T (2 ^ wr.length - 1), fun _ => by simp [tr, c]⟩
    · have c : ds.isEmpty = false := by simpa using c
      have pos : 0 < ds.length := by
        cases ds with
        | nil => cases c
        | cons a l => simp
      have sb : (ds.length : Int) - 1 = ((ds.length - 1 : Nat) : Int) := by omega
      have al : L2.atI ds ((ds.length - 1 : Nat) : Int) = some (ds[ds.length - 1]'(by omega)) := by
        rw [atI_nat (by omega) (by omega)]
        simp
      obtain ⟨b, e2, hb⟩ := integer_ev _ (hi _ (List.getElem_mem (show ds.length - 1 < ds.length by omega))) s1
      rcases hb with ⟨rfl, i, hx⟩ | ⟨rfl, _⟩
      · rw [hx] at e2 al
        exact ⟨i, fun _ => by simp [tr, c, sb, al, callW_sh', e2]⟩
      · exact ⟨nth T (2 ^ wr.length - 1), fun _ => by simp [tr, c, sb, al, callW_sh', e2]⟩
  obtain ⟨s2, e2, o2⟩ := agrees_ev s1 o1 wr hw nb ds hi (by omega) last
  obtain ⟨d, kd, s3, o3, hd, hk, e3⟩ := row_of2 s2 o2 (T.map D.int)
  have e4 := is_bound_ev wr hw d (T.map D.int) hd (itm_map T) (by rw [List.length_map]; omega) (nth T (2 ^ wr.length - 1)) s3
  rw [g.isB, decide_eq_true rfl] at e4
  have m1 : ∀ x11 : Slot, mMeth0 "Web" "is_bound" f_Web_is_bound (mVar 4) (mCons (mCall0 f_l_row_of (mCons (mVar 1) (mCons (mVar 7) mNil))) (mCons (mVar 8) mNil)) ⟨[.emp, .v .sto, .v d2, .v d3, .v (web wr), .v d5, .v (.lst (wr.map R)), .v (.lst (T.map D.int)), .v (.int (nth T (2 ^ wr.length - 1))), .v k, .v (.lst ds), x11, x12], s2⟩ = .ok ⟨.sh, .bl true⟩ s3 := fun x11 => by
    rw [meth0_ev1 "is_bound" f_Web_is_bound wr 4 _ [⟨.sh, d⟩, ⟨.sh, .int (nth T (2 ^ wr.length - 1))⟩] _ s2 s3 rfl (by rcases hk with rfl | rfl <;> simp [callW_sh', e3]) rfl rfl]
    exact congrArg noEx e4
  have ii : dIsNot (.bl true) (.bl true) = shB false := rfl
  refine ⟨.v (.lst ds), .v (.int last), s3, ?_, o3⟩
  rw [m_law_b1_ap]
  have hl' := hlast .emp
  simp only [ap_seq, ap_set, ap_call0, ap_cons, ap_var1, ap_var6, ap_var7, ap_nil, Rs.bind, ap_settle, callW_sh' (f := f_l_spoilt) (ws := [⟨.sh, .sto⟩, ⟨.sh, .lst (wr.map R)⟩, ⟨.sh, .lst (T.map D.int)⟩]) rfl, List.map, e1, noEx_ok, ap_storeVf, List.set, ap_var8, ap_storeV, hl']
  simp [callW_sh', e2, m1, ii]
theorem turn2 (st : Sto) (hs : Ok st) (wr : List Row) (hw : wr.length ≤ 6) (num : Int) (env : List Slot) (ds : List D) (hi : ∀ x ∈ ds, Itm x) (hl : ds.length ≤ 200) (hb : ds.length ≠ 2 ^ wr.length)
    (d2 d3 d5 d6 d7 k : D) (x10 x11 x12 : Slot) : ∃ st', m_law_b2 ⟨[.emp, .v .sto, .v d2, .v d3, .v (web wr), .v d5, .v d6, .v d7, .v (.int num), .v k, x10, x11, .v (.lst ds)], st⟩ = .ok .nx ⟨[.emp, .v .sto, .v d2, .v d3, .v (web wr), .v d5, .v d6, .v d7, .v (.int num), .v k, x10, x11, .v (.lst ds)], st'⟩ ∧ Ok st' := by
  obtain ⟨d, kd, s3, o3, hd, hk, e3⟩ := row_of2 st hs ds
  have e4 := is_bound_ev wr hw d ds hd hi hl num s3
  rw [isB_len hb] at e4
  have m1 : mMeth0 "Web" "is_bound" f_Web_is_bound (mVar 4) (mCons (mCall0 f_l_row_of (mCons (mVar 1) (mCons (mVar 12) mNil))) (mCons (mVar 8) mNil)) ⟨[.emp, .v .sto, .v d2, .v d3, .v (web wr), .v d5, .v d6, .v d7, .v (.int num), .v k, x10, x11, .v (.lst ds)], st⟩ = .ok ⟨.sh, .bl false⟩ s3 := by
    rw [meth0_ev1 "is_bound" f_Web_is_bound wr 4 _ [⟨.sh, d⟩, ⟨.sh, .int num⟩] _ st s3 rfl (by rcases hk with rfl | rfl <;> simp [callW_sh', e3]) rfl rfl]
    exact congrArg noEx e4
  have ii : dIsNot (.bl false) (.bl false) = shB false := rfl
  refine ⟨s3, ?_, o3⟩
  rw [m_law_b2_ap]
  simp [m1, ii]
theorem math (cells : List Int) : ∃ k s', m_law (lawS 13 cells) = .ok (.ret ⟨k, .bl true⟩) s' := by
  have o0 : Ok ⟨cells, 0, 0, 0, 1, 0⟩ := Int.le_refl _
  have st0 : lawS 13 cells = ⟨[.emp, .v .sto, .emp, .emp, .emp, .emp, .emp, .emp, .emp, .emp, .emp, .emp, .emp], ⟨cells, 0, 0, 0, 1, 0⟩⟩ := rfl
  generalize (⟨cells, 0, 0, 0, 1, 0⟩ : Sto) = s0 at o0 st0
  rw [st0]
  obtain ⟨r1, s1, e1, o1, h1⟩ := rows_ev s0 o0 6 (by decide) (by decide)
  obtain ⟨r2, s2, e2, o2, h2⟩ := rows_ev s1 o1 12 (by decide) (by decide)
  obtain ⟨w1, t1, g1, p1, q1⟩ := web_ev s2 o2 r1 6 h1 (by decide)
  obtain ⟨w2, t2, g2, p2, q2⟩ := web_ev t1 p1 r2 12 h2 (by decide)
  have len1 := h1.len
  have len2 := h2.len
  have hw1 : w1.length ≤ 6 := by rw [q1.perm.length_eq]; omega
  have l2 : w2.length = r2.length := q2.perm.length_eq
  have nb1 : (w1.map Row.b).Nodup := (q1.perm.map Row.b).nodup_iff.mpr h1.nd
  have so := sort_ev q1 h1.nd
  have pw := pow_le _ hw1
  obtain ⟨T, t3, e3, o3, g⟩ := base_ev t2 p2 w1 hw1 nb1
  have lT := g.len
  have num := ix_T (d := .lst (T.map D.int)) (.inl rfl) (k := 2 ^ w1.length - 1) (by omega)
  have i1 : dIs (web w1) .non = shB false := rfl
  have i2 : dIs (web w2) .non = shB false := rfl
  have sb : (T.length : Int) - 1 = ((2 ^ w1.length - 1 : Nat) : Int) := by omega
  have at_ : L2.atI (T.map D.int) ((2 ^ w1.length - 1 : Nat) : Int) = some (.int (nth T (2 ^ w1.length - 1))) := by
    rw [atI_nat (by omega) (by rw [List.length_map]; omega)]
    have : 2 ^ w1.length - 1 < T.length := by omega
    simp [nth, this]
  obtain ⟨a10, a11, u1, f1, v1⟩ := turn1 t3 o3 w1 hw1 nb1 T g (.lst (r1.map R)) (.lst (r2.map R)) (web w2) (.int 0) .emp .emp .emp
  obtain ⟨b10, b11, u2, f2, v2⟩ := turn1 u1 v1 w1 hw1 nb1 T g (.lst (r1.map R)) (.lst (r2.map R)) (web w2) (.int 1) a10 a11 .emp
  obtain ⟨c10, c11, u3, f3, v3⟩ := turn1 u2 v2 w1 hw1 nb1 T g (.lst (r1.map R)) (.lst (r2.map R)) (web w2) (.int 2) b10 b11 .emp
  obtain ⟨u4, f4, v4⟩ := turn2 u3 v3 w1 hw1 (nth T (2 ^ w1.length - 1)) [] (T.map D.int ++ [.int (nth T (2 ^ w1.length - 1))]) (fun x hx => by
    rcases List.mem_append.mp hx with h | h
    · exact itm_map T x h
    · rw [List.mem_singleton] at h; subst h; exact itm_int _) (by rw [List.length_append, List.length_map, List.length_singleton]; omega) (by rw [List.length_append, List.length_map, List.length_singleton]; omega)
    (.lst (r1.map R)) (.lst (r2.map R)) (web w2) (.lst (w1.map R)) (.lst (T.map D.int)) (.int 2) c10 c11 .emp
  obtain ⟨u5, f5, v5⟩ := turn2 u4 v4 w1 hw1 (nth T (2 ^ w1.length - 1)) [] ((T.map D.int).drop 1) (fun x hx => itm_map T x (List.mem_of_mem_drop hx)) (by rw [List.length_drop, List.length_map]; omega) (by rw [List.length_drop, List.length_map]; omega)
    (.lst (r1.map R)) (.lst (r2.map R)) (web w2) (.lst (w1.map R)) (.lst (T.map D.int)) (.int 2) c10 c11 .emp
  have cu : cut (T.map D.int) (some 1) none = (T.map D.int).drop 1 := cut_from _ 1
  have da := dAdd_l (a := T.map D.int) (b := [.int (nth T (2 ^ w1.length - 1))]) (by rw [List.length_map, List.length_singleton]; unfold line; omega)
  have z1 : (1 : Nat) ≤ line := by decide
  have z2 : (2 : Nat) ≤ line := by decide
  have n1 : dNeg (.int 1) = shI (-1) := rfl
  have e6 := is_bound_ev w1 hw1 (.lst (T.map D.int)) (T.map D.int) (.inl rfl) (itm_map T) (by rw [List.length_map]; omega) (nth T (2 ^ w1.length - 1) + 1) u5
  rw [g.isB, decide_eq_false (by omega)] at e6
  have e7 := is_bound_ev w1 hw1 (.lst (T.map D.int)) (T.map D.int) (.inl rfl) (itm_map T) (by rw [List.length_map]; omega) (-1) u5
  have np := g.pos (2 ^ w1.length - 1) (by omega)
  rw [g.isB, decide_eq_false (by omega)] at e7
  have r3 : rngD 0 3 = [.int 0, .int 1, .int 2] := rfl
  have m1 : ∀ x12, mMeth0 "Web" "is_bound" f_Web_is_bound (mVar 4) (mCons (mVar 7) (mCons (mOp dAdd (mVar 8) (mC (.int 1))) mNil)) ⟨[.emp, .v .sto, .v (.lst (r1.map R)), .v (.lst (r2.map R)), .v (web w1), .v (web w2), .v (.lst (w1.map R)), .v (.lst (T.map D.int)), .v (.int (nth T (2 ^ w1.length - 1))), .v (.int 2), c10, c11, x12], u5⟩ = .ok ⟨.sh, .bl false⟩ u5 := fun x12 => by
    rw [meth0_ev1 "is_bound" f_Web_is_bound w1 4 _ [⟨.sh, .lst (T.map D.int)⟩, ⟨.sh, .int (nth T (2 ^ w1.length - 1) + 1)⟩] _ u5 u5 rfl (by simp) rfl rfl]
    exact congrArg noEx e6
  have m2 : ∀ x12, mMeth0 "Web" "is_bound" f_Web_is_bound (mVar 4) (mCons (mVar 7) (mCons (mUn dNeg (mC (.int 1))) mNil)) ⟨[.emp, .v .sto, .v (.lst (r1.map R)), .v (.lst (r2.map R)), .v (web w1), .v (web w2), .v (.lst (w1.map R)), .v (.lst (T.map D.int)), .v (.int (nth T (2 ^ w1.length - 1))), .v (.int 2), c10, c11, x12], u5⟩ = .ok ⟨.sh, .bl false⟩ u5 := fun x12 => by
    rw [meth0_ev1 "is_bound" f_Web_is_bound w1 4 _ [⟨.sh, .lst (T.map D.int)⟩, ⟨.sh, .int (-1)⟩] _ u5 u5 rfl (by simp [n1]) rfl rfl]
    exact congrArg noEx e7
  have ii : dIs (.bl false) (.bl false) = shB true := rfl
  refine ⟨.sh, ⟨[.emp, .v .sto, .v (.lst (r1.map R)), .v (.lst (r2.map R)), .v (web w1), .v (web w2), .v (.lst (w1.map R)), .v (.lst (T.map D.int)), .v (.int (nth T (2 ^ w1.length - 1))), .v (.int 2), c10, c11, .v (.lst ((T.map D.int).drop 1))], u5⟩, ?_⟩
  rw [m_law_ap]
  have ref : (6 : Int) < r2.length → f_l_refused [web w2, .int r2.length] t2 = .ok ⟨.sh, .bl true⟩ t2 := fun h => by
    have := refused_ev w2 (by omega) (by omega) t2
    rw [l2] at this
    exact this
  by_cases c : (6 : Int) < r2.length
  · have rf := ref c
    simp [-List.map_drop, -List.drop_one, callW_sh', e1, e2, g1, g2, i1, i2, c, rf, so, e3, sb, at_, r3, forD, f1, f2, f3, cu, da, z1, z2, seqD, f4, f5, m1, m2, ii]
  · simp [-List.map_drop, -List.drop_one, callW_sh', e1, e2, g1, g2, i1, i2, c, so, e3, sb, at_, r3, forD, f1, f2, f3, cu, da, z1, z2, seqD, f4, f5, m1, m2, ii]
end Lk52

set_option Elab.async false
set_option linter.all false
set_option maxRecDepth 100000
set_option maxHeartbeats 0
namespace Lk52
open PySem PySem.Spec PyProof.Rows L2 RX
def fa : List He.Fa := [.glo "BadCount", .glo "BadNumber", .glo "NestError", .glo "Refusal", .glo "TooMany", .glo "Web", .cls "Web", .str "LETTERS" "abcdefghijklmnopqrstuvwxyz", .int "MOST_ARROWS" 12, .int "MOST_SIGNS" 8, .str "SIGNS" "abcdefghijklmnopqrstuvwxyz0123456789", .exm "TooMany" "TooMany" true, .free "abs", .free "all", .free "any", .free "bool", .free "dict", .free "int", .free "isinstance", .free "len", .free "list", .free "max", .free "min", .free "range", .free "sorted", .free "str", .free "tuple", .glo "_law_agrees", .glo "_law_arrows", .glo "_law_base", .glo "_law_bent", .glo "_law_circuit_sets", .glo "_law_copy", .glo "_law_is_bound", .glo "_law_is_integer", .glo "_law_is_trail", .glo "_law_mix", .glo "_law_name", .glo "_law_name_like", .glo "_law_name_of", .glo "_law_names", .glo "_law_number", .glo "_law_odd", .glo "_law_pick", .glo "_law_put", .glo "_law_refused", .glo "_law_row_of", .glo "_law_rows", .glo "_law_same", .glo "_law_shuffled", .glo "_law_sign", .glo "_law_spoilt", .glo "_law_store", .glo "_law_take", .glo "_law_unlike", .glo "_law_web", .glo "_law_web_table", .glo "is_name", .glo "is_whole", .glo "law", .glo "require_arrow", .glo "require_balance", .glo "require_searchable", .glo "ring_of", .glo "rings_of", .glo "valid_name", .meth "Web" "__len__", .meth "Web" "is_bound", .mkr "Web", .noat "TooMany" "limit", .noat "TooMany" "many", .noat "Web" "web_rows"]
def fn : List He.DefD := [⟨("TooMany", some "__init__"), "__init__", "TooMany.__init__", defArgs (mst 10 0), defBody (mst 10 0), defScope (mst 10 0), [], []⟩, ⟨("Web", some "__init__"), "__init__", "Web.__init__", defArgs (mst 27 1), defBody (mst 27 1), defScope (mst 27 1), [], []⟩, ⟨("Web", some "__len__"), "__len__", "Web.__len__", defArgs (mst 27 4), defBody (mst 27 4), defScope (mst 27 4), [], []⟩, ⟨("Web", some "is_bound"), "is_bound", "Web.is_bound", defArgs (mst 27 12), defBody (mst 27 12), defScope (mst 27 12), [], []⟩, ⟨("_law_agrees", none), "_law_agrees", "_law_agrees", defArgs (st 58), defBody (st 58), defScope (st 58), [], []⟩, ⟨("_law_arrows", none), "_law_arrows", "_law_arrows", defArgs (st 48), defBody (st 48), defScope (st 48), [], []⟩, ⟨("_law_base", none), "_law_base", "_law_base", defArgs (st 55), defBody (st 55), defScope (st 55), [], []⟩, ⟨("_law_bent", none), "_law_bent", "_law_bent", defArgs (st 47), defBody (st 47), defScope (st 47), [], []⟩, ⟨("_law_circuit_sets", none), "_law_circuit_sets", "_law_circuit_sets", defArgs (st 50), defBody (st 50), defScope (st 50), [], []⟩, ⟨("_law_copy", none), "_law_copy", "_law_copy", defArgs (st 45), defBody (st 45), defScope (st 45), [], []⟩, ⟨("_law_is_bound", none), "_law_is_bound", "_law_is_bound", defArgs (st 52), defBody (st 52), defScope (st 52), [], []⟩, ⟨("_law_is_integer", none), "_law_is_integer", "_law_is_integer", defArgs (st 43), defBody (st 43), defScope (st 43), [], []⟩, ⟨("_law_is_trail", none), "_law_is_trail", "_law_is_trail", defArgs (st 49), defBody (st 49), defScope (st 49), [], []⟩, ⟨("_law_mix", none), "_law_mix", "_law_mix", defArgs (st 30), defBody (st 30), defScope (st 30), [], []⟩, ⟨("_law_name", none), "_law_name", "_law_name", defArgs (st 39), defBody (st 39), defScope (st 39), [], []⟩, ⟨("_law_name_like", none), "_law_name_like", "_law_name_like", defArgs (st 41), defBody (st 41), defScope (st 41), [], []⟩, ⟨("_law_name_of", none), "_law_name_of", "_law_name_of", defArgs (st 38), defBody (st 38), defScope (st 38), [], []⟩, ⟨("_law_names", none), "_law_names", "_law_names", defArgs (st 42), defBody (st 42), defScope (st 42), [], []⟩, ⟨("_law_number", none), "_law_number", "_law_number", defArgs (st 32), defBody (st 32), defScope (st 32), [], []⟩, ⟨("_law_odd", none), "_law_odd", "_law_odd", defArgs (st 46), defBody (st 46), defScope (st 46), [], []⟩, ⟨("_law_pick", none), "_law_pick", "_law_pick", defArgs (st 33), defBody (st 33), defScope (st 33), [], []⟩, ⟨("_law_put", none), "_law_put", "_law_put", defArgs (st 36), defBody (st 36), defScope (st 36), [], []⟩, ⟨("_law_refused", none), "_law_refused", "_law_refused", defArgs (st 57), defBody (st 57), defScope (st 57), [], []⟩, ⟨("_law_row_of", none), "_law_row_of", "_law_row_of", defArgs (st 35), defBody (st 35), defScope (st 35), [], []⟩, ⟨("_law_rows", none), "_law_rows", "_law_rows", defArgs (st 53), defBody (st 53), defScope (st 53), [], []⟩, ⟨("_law_same", none), "_law_same", "_law_same", defArgs (st 44), defBody (st 44), defScope (st 44), [], []⟩, ⟨("_law_shuffled", none), "_law_shuffled", "_law_shuffled", defArgs (st 34), defBody (st 34), defScope (st 34), [], []⟩, ⟨("_law_sign", none), "_law_sign", "_law_sign", defArgs (st 37), defBody (st 37), defScope (st 37), [], []⟩, ⟨("_law_spoilt", none), "_law_spoilt", "_law_spoilt", defArgs (st 56), defBody (st 56), defScope (st 56), [], []⟩, ⟨("_law_store", none), "_law_store", "_law_store", defArgs (st 29), defBody (st 29), defScope (st 29), [], []⟩, ⟨("_law_take", none), "_law_take", "_law_take", defArgs (st 31), defBody (st 31), defScope (st 31), [], []⟩, ⟨("_law_unlike", none), "_law_unlike", "_law_unlike", defArgs (st 40), defBody (st 40), defScope (st 40), [], []⟩, ⟨("_law_web", none), "_law_web", "_law_web", defArgs (st 54), defBody (st 54), defScope (st 54), [], []⟩, ⟨("_law_web_table", none), "_law_web_table", "_law_web_table", defArgs (st 51), defBody (st 51), defScope (st 51), [], []⟩, ⟨("is_name", none), "is_name", "is_name", defArgs (st 15), defBody (st 15), defScope (st 15), [], []⟩, ⟨("is_whole", none), "is_whole", "is_whole", defArgs (st 19), defBody (st 19), defScope (st 19), [], []⟩, ⟨("law", none), "law", "law", defArgs (st 59), defBody (st 59), defScope (st 59), [], []⟩, ⟨("require_arrow", none), "require_arrow", "require_arrow", defArgs (st 20), defBody (st 20), defScope (st 20), [], []⟩, ⟨("require_balance", none), "require_balance", "require_balance", defArgs (st 21), defBody (st 21), defScope (st 21), [], []⟩, ⟨("require_searchable", none), "require_searchable", "require_searchable", defArgs (st 22), defBody (st 22), defScope (st 22), [], []⟩, ⟨("ring_of", none), "ring_of", "ring_of", defArgs (st 23), defBody (st 23), defScope (st 23), [], []⟩, ⟨("rings_of", none), "rings_of", "rings_of", defArgs (st 24), defBody (st 24), defScope (st 24), [], []⟩, ⟨("valid_name", none), "valid_name", "valid_name", defArgs (st 16), defBody (st 16), defScope (st 16), [], []⟩]
def ex (K : PySem.W.Frag) : Bool := (He.conB K "Web" "MOST_SEARCHED" (.int 6) && (excCB K (cl K "TooMany") && (tabX.all (kitB1 K) && (oexB K (cl K "TooMany") (He.fAd K ("TooMany", some "__init__")) && (xfB K (cl K "TooMany") && true)))))
abbrev hR : PySem.W.OpenRow := PySem.W.OpenLaw.row PySem.Challenge.rw_nestweigh_k52_spoilt_bounds
abbrev hk : PySem.W.Hook := RX.hookY 4 fa fn ex
def ob (s : PySem.W.SharedT) : RX.AlY := RX.obsY 4 fa fn ex (HandSHeadRun.getT s)
theorem ob_eq (s : PySem.W.SharedT) : ob s = hk.obs s.abs := RX.obsY_eq (HandSHeadRun.getT_eq s)
def nm0 : List Str := ["_wall", "NestError", "BadName", "BadNumber", "BadCount", "Twice", "Refusal", "Idle", "Unbalanced", "TooMany", "MOST_SIGNS", "LETTERS", "SIGNS", "is_name", "valid_name", "MOST_ARROWS", "is_whole", "require_arrow", "require_balance", "require_searchable", "ring_of", "rings_of", "table_of", "best_rings", "Web", "_law_store", "_law_mix", "_law_take", "_law_number", "_law_pick"]
def nm1 : List Str := ["_law_shuffled", "_law_row_of", "_law_put", "_law_sign", "_law_name_of", "_law_name", "_law_unlike", "_law_name_like", "_law_names", "_law_is_integer", "_law_same", "_law_copy", "_law_odd", "_law_bent", "_law_arrows", "_law_is_trail", "_law_circuit_sets", "_law_web_table", "_law_is_bound", "_law_rows", "_law_web", "_law_base", "_law_spoilt", "_law_refused", "_law_agrees"]
def names : List Str := nm0 ++ nm1
theorem run (w : PySem.World) : HandSHeadRun.RunEq hR (PySem.W.view hR.prog [59]) hk ob 12000 names w := by
  intro os
  kernel_rfl
theorem ft {K : PySem.W.Frag} {h : Heap} {mg : Str → Option Value} (X : K.In h) (G : h.Ns mainGlobals mg) (c : He.SaysD fa fn K) (e : ex K = true) : Ft K mg where
    cc_Web_MOST_SEARCHED := (He.conB_ok (He.ba e).1)
    g_BadCount := He.glo_ok X G (c.fact 0 rfl)
    g_BadNumber := He.glo_ok X G (c.fact 1 rfl)
    g_NestError := He.glo_ok X G (c.fact 2 rfl)
    g_Refusal := He.glo_ok X G (c.fact 3 rfl)
    g_TooMany := He.glo_ok X G (c.fact 4 rfl)
    g_Web := He.glo_ok X G (c.fact 5 rfl)
    k_Web := He.cls_ok (c.fact 6 rfl)
    c_LETTERS := He.str_ok X G (c.fact 7 rfl)
    c_MOST_ARROWS := He.int_ok X G (c.fact 8 rfl)
    c_MOST_SIGNS := He.int_ok X G (c.fact 9 rfl)
    c_SIGNS := He.str_ok X G (c.fact 10 rfl)
    d_TooManyd__initd_ := c.def_ 0 rfl
    d_Webd__initd_ := c.def_ 1 rfl
    d_Webd__lend_ := c.def_ 2 rfl
    d_Web_is_bound := c.def_ 3 rfl
    d_l_agrees := c.def_ 4 rfl
    d_l_arrows := c.def_ 5 rfl
    d_l_base := c.def_ 6 rfl
    d_l_bent := c.def_ 7 rfl
    d_l_circuit_sets := c.def_ 8 rfl
    d_l_copy := c.def_ 9 rfl
    d_l_is_bound := c.def_ 10 rfl
    d_l_is_integer := c.def_ 11 rfl
    d_l_is_trail := c.def_ 12 rfl
    d_l_mix := c.def_ 13 rfl
    d_l_name := c.def_ 14 rfl
    d_l_name_like := c.def_ 15 rfl
    d_l_name_of := c.def_ 16 rfl
    d_l_names := c.def_ 17 rfl
    d_l_number := c.def_ 18 rfl
    d_l_odd := c.def_ 19 rfl
    d_l_pick := c.def_ 20 rfl
    d_l_put := c.def_ 21 rfl
    d_l_refused := c.def_ 22 rfl
    d_l_row_of := c.def_ 23 rfl
    d_l_rows := c.def_ 24 rfl
    d_l_same := c.def_ 25 rfl
    d_l_shuffled := c.def_ 26 rfl
    d_l_sign := c.def_ 27 rfl
    d_l_spoilt := c.def_ 28 rfl
    d_l_store := c.def_ 29 rfl
    d_l_take := c.def_ 30 rfl
    d_l_unlike := c.def_ 31 rfl
    d_l_web := c.def_ 32 rfl
    d_l_web_table := c.def_ 33 rfl
    d_is_name := c.def_ 34 rfl
    d_is_whole := c.def_ 35 rfl
    d_law := c.def_ 36 rfl
    d_require_arrow := c.def_ 37 rfl
    d_require_balance := c.def_ 38 rfl
    d_require_searchable := c.def_ 39 rfl
    d_ring_of := c.def_ 40 rfl
    d_rings_of := c.def_ 41 rfl
    d_valid_name := c.def_ 42 rfl
    xc_TooMany := (excCB_ok (He.ba (He.ba e).2).1)
    em_TooMany := He.exm_ok (c.fact 11 rfl)
    n_abs := He.free_ok X G (c.fact 12 rfl)
    n_all := He.free_ok X G (c.fact 13 rfl)
    n_any := He.free_ok X G (c.fact 14 rfl)
    n_bool := He.free_ok X G (c.fact 15 rfl)
    n_dict := He.free_ok X G (c.fact 16 rfl)
    n_int := He.free_ok X G (c.fact 17 rfl)
    n_isinstance := He.free_ok X G (c.fact 18 rfl)
    n_len := He.free_ok X G (c.fact 19 rfl)
    n_list := He.free_ok X G (c.fact 20 rfl)
    n_max := He.free_ok X G (c.fact 21 rfl)
    n_min := He.free_ok X G (c.fact 22 rfl)
    n_range := He.free_ok X G (c.fact 23 rfl)
    n_sorted := He.free_ok X G (c.fact 24 rfl)
    n_str := He.free_ok X G (c.fact 25 rfl)
    n_tuple := He.free_ok X G (c.fact 26 rfl)
    g__law_agrees := He.glo_ok X G (c.fact 27 rfl)
    g__law_arrows := He.glo_ok X G (c.fact 28 rfl)
    g__law_base := He.glo_ok X G (c.fact 29 rfl)
    g__law_bent := He.glo_ok X G (c.fact 30 rfl)
    g__law_circuit_sets := He.glo_ok X G (c.fact 31 rfl)
    g__law_copy := He.glo_ok X G (c.fact 32 rfl)
    g__law_is_bound := He.glo_ok X G (c.fact 33 rfl)
    g__law_is_integer := He.glo_ok X G (c.fact 34 rfl)
    g__law_is_trail := He.glo_ok X G (c.fact 35 rfl)
    g__law_mix := He.glo_ok X G (c.fact 36 rfl)
    g__law_name := He.glo_ok X G (c.fact 37 rfl)
    g__law_name_like := He.glo_ok X G (c.fact 38 rfl)
    g__law_name_of := He.glo_ok X G (c.fact 39 rfl)
    g__law_names := He.glo_ok X G (c.fact 40 rfl)
    g__law_number := He.glo_ok X G (c.fact 41 rfl)
    g__law_odd := He.glo_ok X G (c.fact 42 rfl)
    g__law_pick := He.glo_ok X G (c.fact 43 rfl)
    g__law_put := He.glo_ok X G (c.fact 44 rfl)
    g__law_refused := He.glo_ok X G (c.fact 45 rfl)
    g__law_row_of := He.glo_ok X G (c.fact 46 rfl)
    g__law_rows := He.glo_ok X G (c.fact 47 rfl)
    g__law_same := He.glo_ok X G (c.fact 48 rfl)
    g__law_shuffled := He.glo_ok X G (c.fact 49 rfl)
    g__law_sign := He.glo_ok X G (c.fact 50 rfl)
    g__law_spoilt := He.glo_ok X G (c.fact 51 rfl)
    g__law_store := He.glo_ok X G (c.fact 52 rfl)
    g__law_take := He.glo_ok X G (c.fact 53 rfl)
    g__law_unlike := He.glo_ok X G (c.fact 54 rfl)
    g__law_web := He.glo_ok X G (c.fact 55 rfl)
    g__law_web_table := He.glo_ok X G (c.fact 56 rfl)
    g_is_name := He.glo_ok X G (c.fact 57 rfl)
    g_is_whole := He.glo_ok X G (c.fact 58 rfl)
    g_law := He.glo_ok X G (c.fact 59 rfl)
    g_require_arrow := He.glo_ok X G (c.fact 60 rfl)
    g_require_balance := He.glo_ok X G (c.fact 61 rfl)
    g_require_searchable := He.glo_ok X G (c.fact 62 rfl)
    g_ring_of := He.glo_ok X G (c.fact 63 rfl)
    g_rings_of := He.glo_ok X G (c.fact 64 rfl)
    g_valid_name := He.glo_ok X G (c.fact 65 rfl)
    kx := (kitB1_ok (He.ba (He.ba (He.ba e).2).2).1)
    lo_Web := (He.meth_ok (x := "Web") (m := "__len__") (c.fact 66 rfl)).at_
    lf_Web := (He.meth_ok (x := "Web") (m := "__len__") (c.fact 66 rfl)).fn
    m_Web_is_bound := He.meth_ok (c.fact 67 rfl)
    mk_Web := He.mkr_ok (c.fact 68 rfl)
    na_TooMany_limit := He.noat_ok (c.fact 69 rfl)
    na_TooMany_many := He.noat_ok (c.fact 70 rfl)
    na_Web_web_rows := He.noat_ok (c.fact 71 rfl)
    ox_TooMany := (oexB_ok (He.ba (He.ba (He.ba (He.ba e).2).2).2).1).1
    oi_TooMany := (oexB_ok (He.ba (He.ba (He.ba (He.ba e).2).2).2).1).2.1
    ot_TooMany := (oexB_ok (He.ba (He.ba (He.ba (He.ba e).2).2).2).1).2.2
    xf_TooMany := (xfB_ok (He.ba (He.ba (He.ba (He.ba (He.ba e).2).2).2).2).1)
end Lk52
open PySem PySem.W PySem.Calls PyProof.Rows
theorem PySem.Challenge.cw_nestweigh_k52_spoilt_bounds_holds : PySem.Challenge.rw_nestweigh_k52_spoilt_bounds.Holds := by
  w_on; o_law
  refine HandSHeadRun.head_any (r := OpenLaw.row PySem.Challenge.rw_nestweigh_k52_spoilt_bounds) (q := view (OpenLaw.row PySem.Challenge.rw_nestweigh_k52_spoilt_bounds).prog [59]) (H := Lk52.hk) (ob := Lk52.ob) (M := 12000) (loose := Lk52.names) (d := HandSHeadRun.topDef (OpenLaw.row PySem.Challenge.rw_nestweigh_k52_spoilt_bounds).prog 59) (kwd := []) Lk52.ob_eq
    (by kernel_rfl) (fun s => by kernel_rfl) Lk52.run (by kernel_rfl) (by kernel_rfl) (by kernel_rfl) (by rfl) (by first | assumption | decide +kernel) (by decide +kernel) ⟨rfl, rfl, rfl, rfl, rfl, by decide +kernel⟩ ?hw ?hc
  case hw => w_witness2
  case hc =>
    refine RX.walk_W (l := PySem.Challenge.rw_nestweigh_k52_spoilt_bounds) (n := 63) (k := 9) (x := "_law_script") rfl (by decide) (by kernel_rfl) ⟨rfl, by decide, by decide⟩ ?F
    intro w mg fa h Y G hmg0
    obtain ⟨K, KX, c, ce⟩ := Y
    have hmg : mg ("law" : PySem.Str) = some (.ref fa) := by
      have e : (HandSHeadRun.topDef (OpenLaw.row PySem.Challenge.rw_nestweigh_k52_spoilt_bounds).prog 59).name = ("law" : PySem.Str) := by kernel_rfl
      rw [← e]
      exact hmg0
    have T := Lk52.ft KX G c ce
    have ea := hmg.symm.trans T.g_law
    cases ea
    obtain ⟨fd, F⟩ := T.d_law
    refine ⟨K, fd, RX.spLaw K, KX, fun s u => L2.FunD.bindsA (ps := ["_law_script"]) F (fun _ _ _ _ _ _ us hl => match us, hl with | [_], _ => rfl) s [u] rfl, fun H a ns hl hS => ⟨a, ns, rfl, hS, fun _ => rfl⟩, fun base _ _ => Lk52.ok_law T F (fun cells => Lk52.math cells)⟩

