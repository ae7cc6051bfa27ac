import PyProof.Rows.All
import Wide.All
import OpenK.AllK
import Wide.FinOn
import HandS.ForMost
import HandS.Exc
import HandS.ExcOwn
import HandS.WordsExc
import HandS.TryOnly
import HandS.CallSlots
import HandS.Defaults
import HandS.HeadHook1
import HandS.HeadHook2
import HandS.Walk
import HandS.Set
import HandS.TupSets
import HandS.SetTxt0
import PyProof.Rows.SortShellSt
import HandS.Strs
import HandS.Style
import PyProof.ListStr
import PyProof.StrOps2
import HandS.IsInst
import HandS.Codes
import HandS.More
import HandS.Wide
import HandS.Small
import PyProof.ExcBaseAll.ValueError
import HandS.Head0
import HandS.Head1
import HandS.Head2
import HandS.HeadEnd
import KE.KExcSuper
import HandS.ExcField
import HandS.ExcIs
import KE.KExcIs
import HandS.HotCalls
import HandS.TupAny
import HandS.TupMul
import PySem.Challenge.RW_townlines_k07_errors_apart
set_option Elab.async false
set_option linter.all false
set_option maxRecDepth 100000
/-! Symbolic states over plain data: what a value stands for (D), what is owned (Res), what a reading does to them. -/
namespace Tl
open PySem L2

/-- plain data behind a value -/
inductive D where
  | non | bl (b : Bool) | int (i : Int) | str (z : Str)
  | tup (ds : List D) | lst (ds : List D)
  | obj (c : Str) (ns : List Str) (ds : List D)
  | dct (ks : List Key) (ds : List D)
  | glo (x : Str)
  | ty (n : String)

def Ex (H J : Hp) : Prop := ∀ a o, H a = some o → J a = some o
theorem Ex.rfl {H : Hp} : Ex H H := fun _ _ h => h
theorem Ex.tr {H J L : Hp} (x : Ex H J) (y : Ex J L) : Ex H L := fun a o h => y a o (x a o h)
theorem ex_new {H : Hp} {p : Addr} {o : HO} (h : H p = none) : Ex H (upd H p o) := fun a u e => by
  rw [upd_ne (ne_of_none e h)]; exact e

mutual
/-- the value v, over the settled heap F, stands for the datum -/
def Rep (K : PySem.W.Frag) (F : Hp) : D → V → Prop
  | .non, v => v = .non
  | .bl b, v => v = .bl b
  | .int i, v => v = .int i
  | .str z, v => v = .str z
  | .tup ds, v => ∃ a vs, v = .ref a ∧ F a = some (.tup vs) ∧ RepL K F ds vs
  | .lst ds, v => ∃ a vs, v = .ref a ∧ F a = some (.lst vs) ∧ RepL K F ds vs
  | .obj c ns ds, v => ∃ a dx vs, v = .ref a ∧ F a = some (.ins (He.ga K c) dx (ns.zip vs)) ∧ F dx = some (.own a) ∧ ns.length = vs.length ∧ RepL K F ds vs
  | .dct ks ds, v => ∃ a vs, v = .ref a ∧ F a = some (.dK (ks.zip vs)) ∧ ks.length = vs.length ∧ RepL K F ds vs
  | .glo x, v => v = .ref (He.ga K x)
  | .ty n, v => v = .ty n
def RepL (K : PySem.W.Frag) (F : Hp) : List D → List V → Prop
  | [], vs => vs = []
  | d :: ds, vs => ∃ v r, vs = v :: r ∧ Rep K F d v ∧ RepL K F ds r
end

mutual
theorem Rep.up {K : PySem.W.Frag} {F J : Hp} (x : Ex F J) : ∀ (d : D) (v : V), Rep K F d v → Rep K J d v
  | .non, _, h => by unfold Rep at h ⊢; exact h
  | .bl _, _, h => by unfold Rep at h ⊢; exact h
  | .int _, _, h => by unfold Rep at h ⊢; exact h
  | .str _, _, h => by unfold Rep at h ⊢; exact h
  | .glo _, _, h => by unfold Rep at h ⊢; exact h
  | .ty _, _, h => by unfold Rep at h ⊢; exact h
  | .tup ds, _, h => by
    unfold Rep at h ⊢
    obtain ⟨a, vs, e, f, r⟩ := h
    exact ⟨a, vs, e, x _ _ f, RepL.up x ds vs r⟩
  | .lst ds, _, h => by
    unfold Rep at h ⊢
    obtain ⟨a, vs, e, f, r⟩ := h
    exact ⟨a, vs, e, x _ _ f, RepL.up x ds vs r⟩
  | .obj c ns ds, _, h => by
    unfold Rep at h ⊢
    obtain ⟨a, dx, vs, e, f, g, l, r⟩ := h
    exact ⟨a, dx, vs, e, x _ _ f, x _ _ g, l, RepL.up x ds vs r⟩
  | .dct ks ds, _, h => by
    unfold Rep at h ⊢
    obtain ⟨a, vs, e, f, l, r⟩ := h
    exact ⟨a, vs, e, x _ _ f, l, RepL.up x ds vs r⟩
theorem RepL.up {K : PySem.W.Frag} {F J : Hp} (x : Ex F J) : ∀ (ds : List D) (vs : List V), RepL K F ds vs → RepL K J ds vs
  | [], _, h => by unfold RepL at h ⊢; exact h
  | d :: ds, vs, h => by
    unfold RepL at h ⊢
    obtain ⟨v, r, e, a, b⟩ := h
    exact ⟨v, r, e, Rep.up x d v a, RepL.up x ds r b⟩
end

section
variable {K : PySem.W.Frag} {F J : Hp}
theorem rep_non : Rep K F .non .non := by unfold Rep; rfl
theorem rep_bl (b : Bool) : Rep K F (.bl b) (.bl b) := by unfold Rep; rfl
theorem rep_int (i : Int) : Rep K F (.int i) (.int i) := by unfold Rep; rfl
theorem rep_str (z : Str) : Rep K F (.str z) (.str z) := by unfold Rep; rfl
theorem rep_glo (x : Str) : Rep K F (.glo x) (.ref (He.ga K x)) := by unfold Rep; rfl
theorem rep_ty (n : String) : Rep K F (.ty n) (.ty n) := by unfold Rep; rfl
theorem of_non {v : V} (h : Rep K F .non v) : v = .non := by unfold Rep at h; exact h
theorem of_bl {b : Bool} {v : V} (h : Rep K F (.bl b) v) : v = .bl b := by unfold Rep at h; exact h
theorem of_int {i : Int} {v : V} (h : Rep K F (.int i) v) : v = .int i := by unfold Rep at h; exact h
theorem of_str {z : Str} {v : V} (h : Rep K F (.str z) v) : v = .str z := by unfold Rep at h; exact h
theorem of_glo {x : Str} {v : V} (h : Rep K F (.glo x) v) : v = .ref (He.ga K x) := by unfold Rep at h; exact h
theorem of_ty {n : String} {v : V} (h : Rep K F (.ty n) v) : v = .ty n := by unfold Rep at h; exact h
theorem of_tup {ds : List D} {v : V} (h : Rep K F (.tup ds) v) : ∃ a vs, v = .ref a ∧ F a = some (.tup vs) ∧ RepL K F ds vs := by unfold Rep at h; exact h
theorem of_lst {ds : List D} {v : V} (h : Rep K F (.lst ds) v) : ∃ a vs, v = .ref a ∧ F a = some (.lst vs) ∧ RepL K F ds vs := by unfold Rep at h; exact h
theorem of_obj {c : Str} {ns : List Str} {ds : List D} {v : V} (h : Rep K F (.obj c ns ds) v) : ∃ a dx vs, v = .ref a ∧ F a = some (.ins (He.ga K c) dx (ns.zip vs)) ∧ F dx = some (.own a) ∧ ns.length = vs.length ∧ RepL K F ds vs := by unfold Rep at h; exact h
theorem of_dct {ks : List Key} {ds : List D} {v : V} (h : Rep K F (.dct ks ds) v) : ∃ a vs, v = .ref a ∧ F a = some (.dK (ks.zip vs)) ∧ ks.length = vs.length ∧ RepL K F ds vs := by unfold Rep at h; exact h
theorem mk_tup {ds : List D} {a : Addr} {vs : List V} (h : F a = some (.tup vs)) (r : RepL K F ds vs) : Rep K F (.tup ds) (.ref a) := by unfold Rep; exact ⟨a, vs, rfl, h, r⟩
theorem mk_lst {ds : List D} {a : Addr} {vs : List V} (h : F a = some (.lst vs)) (r : RepL K F ds vs) : Rep K F (.lst ds) (.ref a) := by unfold Rep; exact ⟨a, vs, rfl, h, r⟩
theorem mk_obj {c : Str} {ns : List Str} {ds : List D} {a dx : Addr} {vs : List V} (h : F a = some (.ins (He.ga K c) dx (ns.zip vs))) (o : F dx = some (.own a)) (l : ns.length = vs.length) (r : RepL K F ds vs) : Rep K F (.obj c ns ds) (.ref a) := by
  unfold Rep; exact ⟨a, dx, vs, rfl, h, o, l, r⟩
theorem mk_dct {ks : List Key} {ds : List D} {a : Addr} {vs : List V} (h : F a = some (.dK (ks.zip vs))) (l : ks.length = vs.length) (r : RepL K F ds vs) : Rep K F (.dct ks ds) (.ref a) := by
  unfold Rep; exact ⟨a, vs, rfl, h, l, r⟩
theorem repL_nil : RepL K F [] [] := by unfold RepL; rfl
theorem repL_cons {d : D} {ds : List D} {v : V} {vs : List V} (h : Rep K F d v) (t : RepL K F ds vs) : RepL K F (d :: ds) (v :: vs) := by unfold RepL; exact ⟨v, vs, rfl, h, t⟩
theorem of_repL_nil {vs : List V} (h : RepL K F [] vs) : vs = [] := by unfold RepL at h; exact h
theorem of_repL_cons {d : D} {ds : List D} {vs : List V} (h : RepL K F (d :: ds) vs) : ∃ v r, vs = v :: r ∧ Rep K F d v ∧ RepL K F ds r := by unfold RepL at h; exact h
theorem RepL.len : ∀ {ds : List D} {vs : List V}, RepL K F ds vs → vs.length = ds.length
  | [], _, h => by rw [of_repL_nil h]; rfl
  | _ :: ds, _, h => by
    obtain ⟨v, r, rfl, _, t⟩ := of_repL_cons h
    rw [List.length_cons, List.length_cons, RepL.len t]
theorem RepL.app : ∀ {ds es : List D} {vs ws : List V}, RepL K F ds vs → RepL K F es ws → RepL K F (ds ++ es) (vs ++ ws)
  | [], _, _, _, h, t => by rw [of_repL_nil h]; exact t
  | _ :: ds, _, _, _, h, t => by
    obtain ⟨v, r, rfl, a, b⟩ := of_repL_cons h
    exact repL_cons a (RepL.app b t)
theorem RepL.get : ∀ {ds : List D} {vs : List V} {i : Nat} {d : D}, RepL K F ds vs → ds[i]? = some d → ∃ v, vs[i]? = some v ∧ Rep K F d v
  | [], _, _, _, _, e => by simp at e
  | x :: ds, _, 0, d, h, e => by
    obtain ⟨v, r, rfl, a, _⟩ := of_repL_cons h
    have q : x = d := Option.some.inj e
    subst q
    exact ⟨v, rfl, a⟩
  | _ :: ds, _, i + 1, d, h, e => by
    obtain ⟨v, r, rfl, _, b⟩ := of_repL_cons h
    exact RepL.get (i := i) b e
theorem RepL.get' : ∀ {ds : List D} {vs : List V} {i : Nat} {v : V}, RepL K F ds vs → vs[i]? = some v → ∃ d, ds[i]? = some d ∧ Rep K F d v
  | [], _, _, _, h, e => by rw [of_repL_nil h] at e; simp at e
  | x :: ds, _, 0, v, h, e => by
    obtain ⟨w, r, rfl, a, _⟩ := of_repL_cons h
    have q : w = v := Option.some.inj e
    subst q
    exact ⟨x, rfl, a⟩
  | _ :: ds, _, i + 1, v, h, e => by
    obtain ⟨w, r, rfl, _, b⟩ := of_repL_cons h
    exact RepL.get' (i := i) b e
theorem RepL.set : ∀ {ds : List D} {vs : List V} {d : D} {v : V} (i : Nat), RepL K F ds vs → Rep K F d v → RepL K F (ds.set i d) (vs.set i v)
  | [], _, _, _, _, h, _ => by rw [of_repL_nil h]; exact repL_nil
  | _ :: ds, _, _, _, 0, h, a => by
    obtain ⟨w, r, rfl, _, b⟩ := of_repL_cons h
    exact repL_cons a b
  | _ :: ds, _, _, _, i + 1, h, a => by
    obtain ⟨w, r, rfl, c, b⟩ := of_repL_cons h
    exact repL_cons c (RepL.set i b a)
theorem RepL.take : ∀ {ds : List D} {vs : List V} (n : Nat), RepL K F ds vs → RepL K F (ds.take n) (vs.take n)
  | _, _, 0, _ => by rw [List.take_zero, List.take_zero]; exact repL_nil
  | [], _, _ + 1, h => by rw [of_repL_nil h]; exact repL_nil
  | _ :: ds, _, n + 1, h => by
    obtain ⟨w, r, rfl, c, b⟩ := of_repL_cons h
    exact repL_cons c (RepL.take n b)
theorem RepL.drop : ∀ {ds : List D} {vs : List V} (n : Nat), RepL K F ds vs → RepL K F (ds.drop n) (vs.drop n)
  | _, _, 0, h => by rw [List.drop_zero, List.drop_zero]; exact h
  | [], _, _ + 1, h => by rw [of_repL_nil h]; exact repL_nil
  | _ :: ds, _, n + 1, h => by
    obtain ⟨w, r, rfl, c, b⟩ := of_repL_cons h
    exact RepL.drop n b
theorem RepL.eraseIdx : ∀ {ds : List D} {vs : List V} (n : Nat), RepL K F ds vs → RepL K F (ds.eraseIdx n) (vs.eraseIdx n)
  | [], _, _, h => by rw [of_repL_nil h]; exact repL_nil
  | _ :: ds, _, 0, h => by
    obtain ⟨w, r, rfl, c, b⟩ := of_repL_cons h
    exact b
  | _ :: ds, _, n + 1, h => by
    obtain ⟨w, r, rfl, c, b⟩ := of_repL_cons h
    exact repL_cons c (RepL.eraseIdx n b)
theorem repL_ints : ∀ ns : List Int, RepL K F (ns.map D.int) (ns.map V.int)
  | [] => repL_nil
  | n :: ns => repL_cons (rep_int n) (repL_ints ns)
theorem repL_strs : ∀ ns : List Str, RepL K F (ns.map D.str) (ns.map V.str)
  | [] => repL_nil
  | n :: ns => repL_cons (rep_str n) (repL_strs ns)
theorem of_repL_strs : ∀ {ns : List Str} {vs : List V}, RepL K F (ns.map D.str) vs → vs = ns.map V.str
  | [], _, h => of_repL_nil h
  | n :: ns, _, h => by
    obtain ⟨v, r, rfl, a, b⟩ := of_repL_cons h
    rw [of_str a, of_repL_strs b]; rfl
theorem of_repL_ints : ∀ {ns : List Int} {vs : List V}, RepL K F (ns.map D.int) vs → vs = ns.map V.int
  | [], _, h => of_repL_nil h
  | n :: ns, _, h => by
    obtain ⟨v, r, rfl, a, b⟩ := of_repL_cons h
    rw [of_int a, of_repL_ints b]; rfl
theorem of_repL_bls : ∀ {ns : List Bool} {vs : List V}, RepL K F (ns.map D.bl) vs → vs = ns.map V.bl
  | [], _, h => of_repL_nil h
  | n :: ns, _, h => by
    obtain ⟨v, r, rfl, a, b⟩ := of_repL_cons h
    rw [of_bl a, of_repL_bls b]; rfl
end

/-! ### what is owned -/
inductive Res where
  | lst (p : Addr) (ds : List D)
  | bag (b l : Addr)
  | ins (x dx : Addr) (c : Str) (ns : List Str) (ds : List D)
  | exc (dd : Addr) (f : Str) (x : D)
def Res.fp : Res → List Addr
  | .lst p _ => [p]
  | .bag b l => [b, l]
  | .ins x dx _ _ _ => [x, dx]
  | .exc dd _ _ => [dd]
abbrev fps (R : List Res) : List Addr := R.flatMap Res.fp
def BagAt (H : Hp) (b l : Addr) : Prop := ∃ (ns : List Int) (a s c : Int), H b = some (.lst [.ref l, .int a, .int s, .int c]) ∧ H l = some (.lst (ns.map V.int)) ∧ ns.length ≤ 63 ∧ 0 ≤ a ∧ 0 ≤ s ∧ s < 2147483647 ∧ 0 ≤ c
def Res.ok (K : PySem.W.Frag) (F H : Hp) : Res → Prop
  | .lst p ds => ∃ vs, H p = some (.lst vs) ∧ RepL K F ds vs
  | .bag b l => BagAt H b l
  | .ins x dx c ns ds => ∃ vs, H x = some (.ins (He.ga K c) dx (ns.zip vs)) ∧ H dx = some (.own x) ∧ ns.length = vs.length ∧ RepL K F ds vs
  | .exc dd f x => ∃ v, H dd = some (.xd [(f, v)]) ∧ Rep K F x v
theorem Res.ok.stay {K : PySem.W.Frag} {F J H L : Hp} {r : Res} (h : r.ok K F H) (x : Ex F J) (k : ∀ p ∈ r.fp, ∀ o, H p = some o → L p = some o) : r.ok K J L := by
  cases r with
  | lst p ds =>
    obtain ⟨vs, a, b⟩ := h
    exact ⟨vs, k p (List.mem_singleton.mpr rfl) _ a, RepL.up x _ _ b⟩
  | bag b l =>
    obtain ⟨ns, a, s, c, h1, h2, r⟩ := h
    exact ⟨ns, a, s, c, k b (by simp [Res.fp]) _ h1, k l (by simp [Res.fp]) _ h2, r⟩
  | ins y dy c ns ds =>
    obtain ⟨vs, a, b, l, r⟩ := h
    exact ⟨vs, k y (by simp [Res.fp]) _ a, k dy (by simp [Res.fp]) _ b, l, RepL.up x _ _ r⟩
  | exc dd f y =>
    obtain ⟨v, a, b⟩ := h
    exact ⟨v, k dd (List.mem_singleton.mpr rfl) _ a, Rep.up x _ _ b⟩
theorem Res.ok.there {K : PySem.W.Frag} {F H : Hp} {r : Res} (h : r.ok K F H) {p : Addr} (m : p ∈ r.fp) : ∃ o, H p = some o := by
  cases r with
  | lst q ds =>
    obtain ⟨vs, a, b⟩ := h
    rw [List.mem_singleton.mp m]; exact ⟨_, a⟩
  | bag b l =>
    obtain ⟨ns, a, s, c, h1, h2, r⟩ := h
    rcases List.mem_cons.mp m with e | m
    · rw [e]; exact ⟨_, h1⟩
    · rw [List.mem_singleton.mp m]; exact ⟨_, h2⟩
  | ins y dy c ns ds =>
    obtain ⟨vs, a, b, l, r⟩ := h
    rcases List.mem_cons.mp m with e | m
    · rw [e]; exact ⟨_, a⟩
    · rw [List.mem_singleton.mp m]; exact ⟨_, b⟩
  | exc dd f y =>
    obtain ⟨v, a, b⟩ := h
    rw [List.mem_singleton.mp m]; exact ⟨_, a⟩
structure ROk (K : PySem.W.Frag) (F H : Hp) (R : List Res) : Prop where
  ok : ∀ r ∈ R, r.ok K F H
  nd : (fps R).Nodup
  off : ∀ p ∈ fps R, F p = none
theorem ROk.there {K : PySem.W.Frag} {F H : Hp} {R : List Res} (h : ROk K F H R) {p : Addr} (m : p ∈ fps R) : ∃ o, H p = some o := by
  obtain ⟨r, hr, hp⟩ := List.mem_flatMap.mp m
  exact (h.ok r hr).there hp

/-- from (F, H, R) to (F', H', R'): what a piece of code may have done -/
structure Fin (K : PySem.W.Frag) (F H : Hp) (R : List Res) (F' H' : Hp) (R' : List Res) : Prop where
  ff : Ex F F'
  fh : Ex F' H'
  kp : ∀ a o, H a = some o → a ∉ fps R → H' a = some o
  dm : ∀ a, H' a = none → H a = none
  nw : ∀ a, F a = none → F' a ≠ none → H a = none ∨ a ∈ fps R
  rk : ROk K F' H' R'
  rn : ∀ p ∈ fps R', p ∈ fps R ∨ H p = none
theorem Fin.same {K : PySem.W.Frag} {F H : Hp} {R : List Res} (x : Ex F H) (r : ROk K F H R) : Fin K F H R F H R :=
  ⟨Ex.rfl, x, fun _ _ h _ => h, fun _ h => h, fun _ h z => absurd h z, r, fun _ h => .inl h⟩
theorem Fin.tr {K : PySem.W.Frag} {F H F1 H1 F2 H2 : Hp} {R R1 R2 : List Res} (x : Fin K F H R F1 H1 R1) (y : Fin K F1 H1 R1 F2 H2 R2) : Fin K F H R F2 H2 R2 where
  ff := x.ff.tr y.ff
  fh := y.fh
  kp := fun a o h n => y.kp a o (x.kp a o h n) fun m => by
    rcases x.rn a m with z | z
    · exact n z
    · rw [h] at z; cases z
  dm := fun a h => x.dm a (y.dm a h)
  nw := fun a h z => by
    cases e : F1 a with
    | none =>
      rcases y.nw a e z with q | q
      · exact .inl (x.dm a q)
      · exact (x.rn a q).symm
    | some o => exact x.nw a h (by rw [e]; exact fun q => nomatch q)
  rk := y.rk
  rn := fun p m => by
    rcases y.rn p m with z | z
    · exact x.rn p z
    · exact .inr (x.dm p z)

/-! ### slots -/
inductive En where
  | no | val (d : D) | adr (p : Addr)
def EnOk (K : PySem.W.Frag) (F : Hp) : En → Option V → Prop
  | .no, _ => True
  | .val d, o => ∃ v, o = some v ∧ Rep K F d v
  | .adr p, o => o = some (.ref p)
theorem EnOk.up {K : PySem.W.Frag} {F J : Hp} (x : Ex F J) {e : En} {o : Option V} (h : EnOk K F e o) : EnOk K J e o := by
  cases e with
  | no => trivial
  | val d =>
    obtain ⟨v, q, r⟩ := h
    exact ⟨v, q, Rep.up x d v r⟩
  | adr p => exact h
def EnvOk (K : PySem.W.Frag) (F : Hp) : List En → St → Prop
  | [], σ => σ = []
  | e :: env, σ => ∃ o r, σ = o :: r ∧ EnOk K F e o ∧ EnvOk K F env r
section
variable {K : PySem.W.Frag} {F J : Hp}
theorem EnvOk.up (x : Ex F J) : ∀ {env : List En} {σ : St}, EnvOk K F env σ → EnvOk K J env σ
  | [], _, h => h
  | _ :: _, _, h => by
    obtain ⟨o, r, q, a, b⟩ := h
    exact ⟨o, r, q, a.up x, EnvOk.up x b⟩
theorem EnvOk.get : ∀ {env : List En} {σ : St} {i : Nat} {e : En}, EnvOk K F env σ → env[i]? = some e → ∃ o, σ[i]? = some o ∧ EnOk K F e o
  | [], _, _, _, _, q => by simp at q
  | x :: env, _, 0, e, h, q => by
    obtain ⟨o, r, rfl, a, b⟩ := h
    have z : x = e := Option.some.inj q
    subst z
    exact ⟨o, rfl, a⟩
  | _ :: env, _, i + 1, e, h, q => by
    obtain ⟨o, r, rfl, a, b⟩ := h
    exact EnvOk.get (i := i) b q
theorem EnvOk.set : ∀ {env : List En} {σ : St} (i : Nat) {e : En} {o : Option V}, EnvOk K F env σ → EnOk K F e o → EnvOk K F (env.set i e) (σ.set i o)
  | [], _, _, _, _, h, _ => by rw [show _ = ([] : St) from h]; rfl
  | _ :: env, _, 0, e, o, h, a => by
    obtain ⟨_, r, rfl, _, b⟩ := h
    exact ⟨o, r, rfl, a, b⟩
  | _ :: env, _, i + 1, e, o, h, a => by
    obtain ⟨x, r, rfl, c, b⟩ := h
    exact ⟨x, r.set i o, rfl, c, EnvOk.set i b a⟩
def wipeE (env : List En) : List Nat → List En
  | [] => env
  | v :: vs => (wipeE env vs).set v .no
theorem EnvOk.wipe {env : List En} {σ : St} (h : EnvOk K F env σ) : ∀ vs : List Nat, EnvOk K F (wipeE env vs) (L2.wipe σ vs)
  | [] => h
  | v :: vs => EnvOk.set v (EnvOk.wipe h vs) trivial
end
def EnsOk (K : PySem.W.Frag) (F : Hp) : List En → List V → Prop
  | [], vs => vs = []
  | e :: es, vs => ∃ v r, vs = v :: r ∧ EnOk K F e (some v) ∧ EnsOk K F es r
theorem EnsOk.up {K : PySem.W.Frag} {F J : Hp} (x : Ex F J) : ∀ {es : List En} {vs : List V}, EnsOk K F es vs → EnsOk K J es vs
  | [], _, h => h
  | _ :: _, _, h => by
    obtain ⟨o, r, q, a, b⟩ := h
    exact ⟨o, r, q, a.up x, EnsOk.up x b⟩
theorem EnsOk.len {K : PySem.W.Frag} {F : Hp} : ∀ {es : List En} {vs : List V}, EnsOk K F es vs → vs.length = es.length
  | [], _, h => by rw [show _ = ([] : List V) from h]; rfl
  | _ :: es, _, h => by
    obtain ⟨o, r, rfl, a, b⟩ := h
    rw [List.length_cons, List.length_cons, EnsOk.len b]
theorem EnsOk.app {K : PySem.W.Frag} {F : Hp} : ∀ {es fs : List En} {vs ws : List V}, EnsOk K F es vs → EnsOk K F fs ws → EnsOk K F (es ++ fs) (vs ++ ws)
  | [], _, _, _, h, g => by rw [show _ = ([] : List V) from h]; exact g
  | _ :: es, _, _, _, h, g => by
    obtain ⟨o, r, rfl, a, b⟩ := h
    exact ⟨o, _, rfl, a, EnsOk.app b g⟩
/-- all are data -/
theorem EnsOk.vals {K : PySem.W.Frag} {F : Hp} : ∀ {ds : List D} {vs : List V}, EnsOk K F (ds.map En.val) vs → RepL K F ds vs
  | [], _, h => by rw [show _ = ([] : List V) from h]; exact repL_nil
  | _ :: ds, _, h => by
    obtain ⟨o, r, rfl, ⟨v, q, a⟩, b⟩ := h
    cases q
    exact repL_cons a (EnsOk.vals b)

/-! ### states and judgements -/
structure Bs where
  F : Hp
  H : Hp
  R : List Res
structure S (K : PySem.W.Frag) (B : Bs) (env : List En) (R : List Res) (σ : St) (F H : Hp) : Prop where
  fin : Fin K B.F B.H B.R F H R
  en : EnvOk K F env σ
theorem S.go {K : PySem.W.Frag} {B : Bs} {env : List En} {R R' : List Res} {σ : St} {F H F' H' : Hp} (s : S K B env R σ F H) (f : Fin K F H R F' H' R') : S K B env R' σ F' H' := ⟨s.fin.tr f, s.en.up f.ff⟩
theorem S.now {K : PySem.W.Frag} {B : Bs} {env : List En} {R : List Res} {σ : St} {F H : Hp} (s : S K B env R σ F H) : Fin K F H R F H R := .same s.fin.fh s.fin.rk

section
variable (K : PySem.W.Frag) (B : Bs)
def Ev (te : TE) (env : List En) (R : List Res) (Φ : En → List Res → Prop) : Prop := ∀ σ F H, S K B env R σ F H → ∀ Q : VK,
  (∀ o R' v F' H', Φ o R' → S K B env R' σ F' H' → Ex F F' → EnOk K F' o (some v) → Q v H') → te σ H Q
def EvA (ta : TA) (env : List En) (R : List Res) (Φ : List En → List Res → Prop) : Prop := ∀ σ F H, S K B env R σ F H → ∀ Q : List V → Hp → Prop,
  (∀ os R' vs F' H', Φ os R' → S K B env R' σ F' H' → Ex F F' → EnsOk K F' os vs → Q vs H') → ta σ H Q
def EvT (tt : TT) (env : List En) (R : List Res) (Φ : Bool → List Res → Prop) : Prop := ∀ σ F H, S K B env R σ F H → ∀ Q : Bool → Hp → Prop,
  (∀ b R' F' H', Φ b R' → S K B env R' σ F' H' → Ex F F' → Q b H') → tt σ H Q
structure Post where
  nx : List En → List Res → Prop
  rt : En → List Res → Prop
  bk : List En → List Res → Prop := fun _ _ => False
  ct : List En → List Res → Prop := fun _ _ => False
structure Wish (E : Ends) (P : Post) : Prop where
  nx : ∀ env R σ F H, P.nx env R → S K B env R σ F H → E.nx σ H
  rt : ∀ o R v F H, P.rt o R → Fin K B.F B.H B.R F H R → EnOk K F o (some v) → E.rt v H
  bk : ∀ env R σ F H, P.bk env R → S K B env R σ F H → E.bk σ H
  ct : ∀ env R σ F H, P.ct env R → S K B env R σ F H → E.ct σ H
def Do (ts : TS) (env : List En) (R : List Res) (P : Post) : Prop := ∀ σ F H E, S K B env R σ F H → Wish K B E P → ts E σ H
end
/-! ### steps of states -/
section
variable {K : PySem.W.Frag} {F H H' : Hp} {R A B : List Res} {p : Addr} {o : HO}
theorem fps_mid {r : Res} : fps (A ++ r :: B) = fps A ++ (r.fp ++ fps B) := by
  unfold fps
  rw [List.flatMap_append, List.flatMap_cons]
theorem Ex.none (x : Ex F H) (h : H p = none) : F p = none := by
  cases e : F p with
  | none => rfl
  | some u => rw [x p u e] at h; cases h
theorem ROk.fresh (r : ROk K F H R) (h : H p = none) : p ∉ fps R := fun m => by
  obtain ⟨u, e⟩ := r.there m
  rw [h] at e; cases e
/-- a new settled object -/
theorem Fin.newF (x : Ex F H) (r : ROk K F H R) (h : H p = none) : Fin K F H R (upd F p o) (upd H p o) R := by
  have nf := x.none h
  have np := r.fresh h
  refine ⟨ex_new nf, fun a u e => ?_, fun a u e _ => ?_, fun a e => ?_, fun a e z => ?_, ⟨fun s hs => ?_, r.nd, fun q m => ?_⟩, fun q m => .inl m⟩
  · by_cases q : a = p
    · rw [q, upd_same] at e ⊢; exact e
    · rw [upd_ne q] at e ⊢; exact x a u e
  · rw [upd_ne (ne_of_none e h)]; exact e
  · by_cases q : a = p
    · rw [q]; exact h
    · rw [upd_ne q] at e; exact e
  · by_cases q : a = p
    · rw [q]; exact .inl h
    · rw [upd_ne q] at z; exact absurd e z
  · refine (r.ok s hs).stay (ex_new nf) fun q m u e => ?_
    rw [upd_ne (ne_of_none e h)]; exact e
  · have hq : q ≠ p := fun e => np (by rw [← e]; exact m)
    rw [upd_ne hq]; exact r.off q m
/-- a new owned object: s tells it -/
theorem Fin.newR {s : Res} (x : Ex F H) (r : ROk K F H R) (ex : Ex H H') (hn : ∀ q ∈ s.fp, H q = Option.none) (hd : ∀ a, H' a = Option.none → H a = Option.none) (nd : s.fp.Nodup) (ok : s.ok K F H') : Fin K F H R F H' (s :: R) := by
  have ne : ∀ q ∈ s.fp, q ∉ fps R := fun q m => r.fresh (hn q m)
  refine ⟨Ex.rfl, x.tr ex, fun a u e _ => ex a u e, hd, fun a e z => absurd e z, ⟨fun t ht => ?_, ?_, fun q m => ?_⟩, fun q m => ?_⟩
  · rcases List.mem_cons.mp ht with e | m
    · rw [e]; exact ok
    · exact (r.ok t m).stay Ex.rfl fun q _ u e => ex q u e
  · show (s.fp ++ fps R).Nodup
    exact List.nodup_append.mpr ⟨nd, r.nd, fun a ha b hb e => ne a ha (e ▸ hb)⟩
  · rcases List.mem_append.mp (show q ∈ s.fp ++ fps R from m) with m | m
    · exact x.none (hn q m)
    · exact r.off q m
  · rcases List.mem_append.mp (show q ∈ s.fp ++ fps R from m) with m | m
    · exact .inr (hn q m)
    · exact .inl m
theorem Fin.newL {ds : List D} {vs : List V} (x : Ex F H) (r : ROk K F H R) (h : H p = Option.none) (l : RepL K F ds vs) : Fin K F H R F (upd H p (.lst vs)) (.lst p ds :: R) :=
  Fin.newR (s := .lst p ds) x r (ex_new h) (fun q m => by rw [List.mem_singleton.mp m]; exact h) (fun a e => by
    by_cases q : a = p
    · rw [q]; exact h
    · rw [upd_ne q] at e; exact e) (List.nodup_cons.mpr ⟨List.not_mem_nil, List.nodup_nil⟩) ⟨vs, upd_same, l⟩
/-- an owned object changes -/
theorem Fin.mut {r s : Res} (x : Ex F H) (k : ROk K F H (A ++ r :: B)) (fp : s.fp = r.fp) (sm : ∀ a, a ∉ r.fp → H' a = H a) (hd : ∀ a ∈ r.fp, H' a ≠ Option.none) (ok : s.ok K F H') : Fin K F H (A ++ r :: B) F H' (A ++ s :: B) := by
  have nd := k.nd
  rw [fps_mid, List.nodup_append] at nd
  obtain ⟨_, nd2, d1⟩ := nd
  rw [List.nodup_append] at nd2
  obtain ⟨_, _, d2⟩ := nd2
  have inr : ∀ a ∈ r.fp, a ∈ fps (A ++ r :: B) := fun a m => by rw [fps_mid]; simp [m]
  have nF : ∀ a ∈ r.fp, F a = Option.none := fun a m => k.off a (inr a m)
  have eqf : fps (A ++ s :: B) = fps (A ++ r :: B) := by rw [fps_mid, fps_mid, fp]
  refine ⟨Ex.rfl, fun a u e => ?_, fun a u e m => ?_, fun a e => ?_, fun a e z => absurd e z, ⟨fun t ht => ?_, by rw [eqf]; exact k.nd, fun q m => by rw [eqf] at m; exact k.off q m⟩, fun q m => by rw [eqf] at m; exact .inl m⟩
  · rw [sm a fun m => by rw [nF a m] at e; cases e]; exact x a u e
  · rw [sm a fun z => m (inr a z)]; exact e
  · by_cases m : a ∈ r.fp
    · exact absurd e (hd a m)
    · rw [← sm a m]; exact e
  · have other : ∀ t ∈ A ++ r :: B, (∀ q ∈ t.fp, q ∉ r.fp) → t.ok K F H' := fun t ht hq => (k.ok t ht).stay Ex.rfl fun q m u e => by rw [sm q (hq q m)]; exact e
    rcases List.mem_append.mp ht with m | m
    · exact other t (List.mem_append_left _ m) fun q hq z => d1 q (List.mem_flatMap.mpr ⟨t, m, hq⟩) q (List.mem_append_left _ z) rfl
    · rcases List.mem_cons.mp m with e | m
      · rw [e]; exact ok
      · exact other t (List.mem_append_right _ (List.mem_cons_of_mem _ m)) fun q hq z => d2 q z q (List.mem_flatMap.mpr ⟨t, m, hq⟩) rfl
theorem Fin.mutL {ds es : List D} {ws : List V} (x : Ex F H) (k : ROk K F H (A ++ .lst p ds :: B)) (l : RepL K F es ws) : Fin K F H (A ++ .lst p ds :: B) F (upd H p (.lst ws)) (A ++ .lst p es :: B) :=
  Fin.mut (r := .lst p ds) (s := .lst p es) x k rfl (fun a m => upd_ne fun e => m (by rw [e]; exact List.mem_singleton.mpr rfl)) (fun a m => by rw [List.mem_singleton.mp m, upd_same]; exact fun z => nomatch z) ⟨ws, upd_same, l⟩
/-- an owned list is settled -/
theorem Fin.frz {ds : List D} (x : Ex F H) (k : ROk K F H (A ++ .lst p ds :: B)) : ∃ vs, H p = some (.lst vs) ∧ RepL K F ds vs ∧ Fin K F H (A ++ .lst p ds :: B) (upd F p (.lst vs)) H (A ++ B) := by
  obtain ⟨vs, hp, l⟩ := k.ok (.lst p ds) (List.mem_append_right _ List.mem_cons_self)
  have mp : p ∈ fps (A ++ .lst p ds :: B) := by rw [fps_mid]; simp [Res.fp]
  have np : F p = Option.none := k.off p mp
  have nd := k.nd
  rw [fps_mid, List.nodup_append] at nd
  obtain ⟨nA, nd2, d1⟩ := nd
  have nd3 : ([p] ++ fps B).Nodup := nd2
  rw [List.nodup_append] at nd3
  obtain ⟨_, nB, d2⟩ := nd3
  have pA : p ∉ fps A := fun m => d1 p m p (List.mem_append_left _ (show p ∈ [p] from List.mem_singleton.mpr rfl)) rfl
  have pB : p ∉ fps B := fun m => d2 p (List.mem_singleton.mpr rfl) p m rfl
  have eAB : fps (A ++ B) = fps A ++ fps B := by unfold fps; rw [List.flatMap_append]
  have sub : ∀ q ∈ fps (A ++ B), q ∈ fps (A ++ .lst p ds :: B) := fun q m => by
    rw [eAB] at m
    rw [fps_mid]
    rcases List.mem_append.mp m with m | m
    · exact List.mem_append_left _ m
    · exact List.mem_append_right _ (List.mem_append_right _ m)
  refine ⟨vs, hp, l, ex_new np, fun a u e => ?_, fun a u e _ => e, fun a e => e, fun a e z => ?_, ⟨fun t ht => ?_, ?_, fun q m => ?_⟩, fun q m => .inl (sub q m)⟩
  · by_cases q : a = p
    · rw [q, upd_same] at e
      rw [q, ← e]; exact hp
    · rw [upd_ne q] at e; exact x a u e
  · by_cases q : a = p
    · rw [q]; exact .inr mp
    · rw [upd_ne q] at z; exact absurd e z
  · have ht2 : t ∈ A ++ Res.lst p ds :: B := by
      rcases List.mem_append.mp ht with m | m
      · exact List.mem_append_left _ m
      · exact List.mem_append_right _ (List.mem_cons_of_mem _ m)
    exact (k.ok t ht2).stay (ex_new np) fun q _ u e => e
  · rw [eAB, List.nodup_append]
    exact ⟨nA, nB, fun a ha b hb => d1 a ha b (List.mem_append_right _ hb)⟩
  · have hq : q ≠ p := fun e => by
      rw [eAB] at m
      rcases List.mem_append.mp m with m | m
      · exact pA (e ▸ m)
      · exact pB (e ▸ m)
    rw [upd_ne hq]; exact k.off q (sub q m)
theorem split_at : ∀ {R : List Res} {k : Nat} {r : Res}, R[k]? = some r → ∃ A B, R = A ++ r :: B ∧ R.eraseIdx k = A ++ B ∧ ∀ s, R.set k s = A ++ s :: B
  | [], _, _, h => by simp at h
  | x :: R, 0, r, h => by
    have e : x = r := Option.some.inj h
    subst e
    exact ⟨[], R, rfl, rfl, fun _ => rfl⟩
  | x :: R, k + 1, r, h => by
    obtain ⟨A, B, e, f, g⟩ := split_at (R := R) (k := k) h
    refine ⟨x :: A, B, by rw [e]; rfl, ?_, fun s => ?_⟩
    · show x :: R.eraseIdx k = _
      rw [f]; rfl
    · show x :: R.set k s = _
      rw [g s]; rfl
end
section
variable {K : PySem.W.Frag} {B : Bs} {env : List En} {R : List Res} {σ : St} {F H : Hp} {p : Addr}
theorem S.newF {o : HO} (s : S K B env R σ F H) (h : H p = none) : S K B env R σ (upd F p o) (upd H p o) ∧ Ex F (upd F p o) :=
  ⟨s.go (.newF s.fin.fh s.fin.rk h), ex_new (s.fin.fh.none h)⟩
theorem S.newL {ds : List D} {vs : List V} (s : S K B env R σ F H) (h : H p = none) (l : RepL K F ds vs) : S K B env (.lst p ds :: R) σ F (upd H p (.lst vs)) := s.go (.newL s.fin.fh s.fin.rk h l)
theorem S.own {k : Nat} {ds : List D} (s : S K B env R σ F H) (h : R[k]? = some (.lst p ds)) : ∃ vs, H p = some (.lst vs) ∧ RepL K F ds vs := s.fin.rk.ok _ (List.mem_of_getElem? h)
theorem S.mutL {k : Nat} {ds es : List D} {ws : List V} (s : S K B env R σ F H) (h : R[k]? = some (.lst p ds)) (l : RepL K F es ws) : S K B env (R.set k (.lst p es)) σ F (upd H p (.lst ws)) := by
  obtain ⟨X, Y, e, _, g⟩ := split_at h
  subst e
  rw [g]
  exact s.go (.mutL s.fin.fh s.fin.rk l)
theorem S.frz {k : Nat} {ds : List D} (s : S K B env R σ F H) (h : R[k]? = some (.lst p ds)) : ∃ F', S K B env (R.eraseIdx k) σ F' H ∧ Ex F F' ∧ Rep K F' (.lst ds) (.ref p) := by
  obtain ⟨X, Y, e, f, _⟩ := split_at h
  subst e
  rw [f]
  obtain ⟨vs, hp, l, z⟩ := Fin.frz s.fin.fh s.fin.rk
  exact ⟨_, s.go z, z.ff, mk_lst upd_same (RepL.up z.ff _ _ l)⟩
end
end Tl
/-! The rules: code on the one side, plain data on the other. -/
namespace Tl
open PySem L2

/-! ### errors -/
inductive Er where
  | plain (c : Str)
  | fld (c f : Str) (x : D)
def ErOk (K : PySem.W.Frag) (F H : Hp) (cls : Value) (d : Option Addr) : Er → Prop
  | .plain c => cls = .ref (He.ga K c) ∧ d = none
  | .fld c f x => cls = .ref (He.ga K c) ∧ ∃ dd v, d = some dd ∧ H dd = some (.xd [(f, v)]) ∧ F dd = none ∧ Rep K F x v
abbrev XP := Er → List En → List Res → Prop
def Acc (K : PySem.W.Frag) (B : Bs) (W : WX) (Ψ : XP) : Prop := ∀ er env R σ F H cls d, Ψ er env R → S K B env R σ F H → ErOk K F H cls d er → (∀ dd, d = some dd → dd ∉ fps R ∧ B.H dd = none) → W cls d σ H
structure Tk (X : Cx) (W : WX) : Prop where
  takes : Takes X W
  own : PassesOwn (model X.prog X.w) X.A X.env X.xe

abbrev WE := List En → List Res → (En → List Res → Prop) → XP → Prop
abbrev WA := List En → List Res → (List En → List Res → Prop) → XP → Prop
abbrev WT := List En → List Res → (Bool → List Res → Prop) → XP → Prop
abbrev WS := List En → List Res → Post → XP → Prop
/-- an operation on values -/
abbrev KO := En → En → List Res → (En → List Res → Prop) → Prop
abbrev KC := List En → List Res → (En → List Res → Prop) → Prop

structure DE (X : Cx) (W : WX) (e : Expr) (te : TE) (w : WE) : Prop where
  p : PE X e te
  v : ∀ B env R Φ Ψ, Acc X.K B W Ψ → w env R Φ Ψ → Ev X.K B te env R Φ
structure DA (X : Cx) (W : WX) (es : List Expr) (ta : TA) (w : WA) : Prop where
  p : PA X es ta
  v : ∀ B env R Φ Ψ, Acc X.K B W Ψ → w env R Φ Ψ → EvA X.K B ta env R Φ
structure DT (X : Cx) (W : WX) (e : Expr) (tt : TT) (w : WT) : Prop where
  p : PT X e tt
  v : ∀ B env R Φ Ψ, Acc X.K B W Ψ → w env R Φ Ψ → EvT X.K B tt env R Φ
structure DW (X : Cx) (W : WX) (e : Expr) (tt : TT) (w : WT) : Prop where
  p : PW X e tt
  v : ∀ B env R Φ Ψ, Acc X.K B W Ψ → w env R Φ Ψ → EvT X.K B tt env R Φ
structure DS (X : Cx) (W : WX) (st : Stmt) (ts : TS) (w : WS) : Prop where
  p : PS X st ts
  v : ∀ B env R P Ψ, Acc X.K B W Ψ → w env R P Ψ → Do X.K B ts env R P
structure DSs (X : Cx) (W : WX) (sts : List Stmt) (ts : TS) (w : WS) : Prop where
  p : PSs X sts ts
  v : ∀ B env R P Ψ, Acc X.K B W Ψ → w env R P Ψ → Do X.K B ts env R P

section
variable {X : Cx} {W : WX} {e a b : Expr} {te ta tb : TE} {wa wb we : WE} {pos : Pos} {r : R2}

/-! ### names, constants -/
def wVar (i : Nat) : WE := fun env R Φ _ => match env[i]? with
  | some (.val d) => Φ (.val d) R
  | some (.adr p) => Φ (.adr p) R
  | _ => False
theorem dv (i : Nat) {x : Str} {pos : Pos} (hN : X.N[i]? = some x := by rfl) (hv : Vis X.env.scope x := by first | exact Or.inl rfl | exact Or.inr (Or.inl rfl) | exact Or.inr (Or.inr rfl)) (hd : (x == ("__debug__" : Str)) = false := by decide)
    (hcd : (x == ("__classdict__" : Str)) = false := by decide) : DE X W (.Name x pos) (tVar i) (wVar i) := ⟨pe_var hN hv hd hcd, fun B env R Φ Ψ acc h σ F H s Q k => by
  unfold wVar at h
  cases q : env[i]? with
  | none => rw [q] at h; exact h.elim
  | some e =>
    obtain ⟨o, z, y⟩ := s.en.get q
    rw [q] at h
    cases e with
    | no => exact h.elim
    | val d =>
      obtain ⟨v, rfl, r⟩ := y
      exact ⟨v, z, k _ _ v F H h s Ex.rfl ⟨v, rfl, r⟩⟩
    | adr p =>
      have y' : o = some (.ref p) := y
      subst y'
      exact ⟨_, z, k _ _ _ F H h s Ex.rfl rfl⟩⟩
def wC (d : D) : WE := fun _ R Φ _ => Φ (.val d) R
theorem de_c {v : V} {d : D} (h : PE X e (tC v)) (r : ∀ F, Rep X.K F d v) : DE X W e (tC v) (wC d) := ⟨h, fun B env R Φ Ψ acc w σ F H s Q k => k _ _ v F H w s Ex.rfl ⟨v, rfl, r F⟩⟩
theorem d_int {i : Int} {j : Nat} {pos : Pos} : DE X W (.Constant (.int i) j pos) (tC (.int i)) (wC (.int i)) := de_c pe_int fun _ => rep_int i
theorem d_bl {i : Bool} {j : Nat} {pos : Pos} : DE X W (.Constant (.bool i) j pos) (tC (.bl i)) (wC (.bl i)) := de_c pe_bl fun _ => rep_bl i
theorem d_non {j : Nat} {pos : Pos} : DE X W (.Constant .none j pos) (tC .non) (wC .non) := de_c pe_non fun _ => rep_non
theorem d_str {i : Str} {j : Nat} {pos : Pos} : DE X W (.Constant (.str i) j pos) (tC (.str i)) (wC (.str i)) := de_c pe_str fun _ => rep_str i
/-- a module's name: a text, an int -/
theorem d_gs {x z : Str} {pos : Pos} (h : ∃ t, X.mg x = some (.str z t)) (hg : Gl X x := by rfl) (hd : (x == ("__debug__" : Str)) = false := by decide) : DE X W (.Name x pos) (tC (.str z)) (wC (.str z)) := by
  obtain ⟨t, m⟩ := h
  exact de_c (pe_glob (v := .str z) hg m ⟨t, rfl⟩ hd) fun _ => rep_str z
theorem d_gi {x : Str} {i : Int} {pos : Pos} (h : ∃ t, X.mg x = some (.int i t)) (hg : Gl X x := by rfl) (hd : (x == ("__debug__" : Str)) = false := by decide) : DE X W (.Name x pos) (tC (.int i)) (wC (.int i)) := by
  obtain ⟨t, m⟩ := h
  exact de_c (pe_glob (v := .int i) hg m ⟨t, rfl⟩ hd) fun _ => rep_int i
/-- a module's name: a class or a def of its own -/
theorem d_gr {x : Str} {pos : Pos} (m : X.mg x = some (.ref (He.ga X.K x))) (hg : Gl X x := by rfl) (hd : (x == ("__debug__" : Str)) = false := by decide) : DE X W (.Name x pos) (tC (.ref (He.ga X.K x))) (wC (.glo x)) :=
  de_c (pe_glob (v := .ref (He.ga X.K x)) hg m rfl hd) fun _ => rep_glo x
/-- a built-in class -/
theorem d_ty {x : Str} {n : String} {pos : Pos} (hm : X.mg x = none) (hv : bootBuiltins x = some (.type n)) (hg : Gl X x := by rfl) (hn : x ≠ "__name__" := by decide) (hd : (x == ("__debug__" : Str)) = false := by decide) : DE X W (.Name x pos) (tC (.ty n)) (wC (.ty n)) :=
  de_c (pe_bltn (v := .ty n) hg hm hv rfl hn hd) fun _ => rep_ty n

/-! ### settling -/
def settle (k : Nat) (o : En) (R : List Res) (Φ : En → List Res → Prop) : Prop := match o with
  | .adr p => ∃ ds, R[k]? = some (.lst p ds) ∧ Φ (.val (.lst ds)) (R.eraseIdx k)
  | .val d => Φ (.val d) R
  | .no => False
def wSet (k : Nat) (w : WE) : WE := fun env R Φ Ψ => w env R (fun o R1 => settle k o R1 Φ) Ψ
theorem de_set (k : Nat) (h : DE X W e te we) : DE X W e te (wSet k we) := by
  refine ⟨h.p, fun B env R Φ Ψ acc w σ F H s Q q => h.v B env R _ Ψ acc w σ F H s Q fun o R1 v F1 H1 φ s1 x1 eo => ?_⟩
  cases o with
  | no => exact φ.elim
  | val d => exact q _ _ v F1 H1 φ s1 x1 eo
  | adr p =>
    obtain ⟨ds, g, φ⟩ := φ
    obtain ⟨F2, s2, x2, r⟩ := s1.frz g
    have ev : some v = some (V.ref p) := eo
    cases ev
    exact q _ _ _ F2 H1 φ s2 (x1.tr x2) ⟨_, rfl, r⟩

/-! ### operators -/
structure DOp (X : Cx) (f : Value → Value → Sem Value) (r : R2) (k : KO) : Prop where
  p : OpR X f r
  v : ∀ B env R σ F H x y v u Φ (Q : VK), S X.K B env R σ F H → EnOk X.K F x (some v) → EnOk X.K F y (some u) → k x y R Φ →
    (∀ o R' z F' H', Φ o R' → S X.K B env R' σ F' H' → Ex F F' → EnOk X.K F' o (some z) → Q z H') → r v u H Q
def w2 (wa wb : WE) (k : KO) : WE := fun env R Φ Ψ => wa env R (fun x R1 => wb env R1 (fun y R2 => k x y R2 Φ) Ψ) Ψ
theorem run2 {k : KO} {B : Bs} {env : List En} {R : List Res} {Φ : En → List Res → Prop} {Ψ : XP} (acc : Acc X.K B W Ψ)
    (hr : ∀ B env R σ F H x y v u Φ (Q : VK), S X.K B env R σ F H → EnOk X.K F x (some v) → EnOk X.K F y (some u) → k x y R Φ → (∀ o R' z F' H', Φ o R' → S X.K B env R' σ F' H' → Ex F F' → EnOk X.K F' o (some z) → Q z H') → r v u H Q)
    (ha : ∀ B env R Φ Ψ, Acc X.K B W Ψ → wa env R Φ Ψ → Ev X.K B ta env R Φ) (hb : ∀ B env R Φ Ψ, Acc X.K B W Ψ → wb env R Φ Ψ → Ev X.K B tb env R Φ) (h : w2 wa wb k env R Φ Ψ) : Ev X.K B (tOp r ta tb) env R Φ := by
  intro σ F H s Q q
  refine ha B env R _ Ψ acc h σ F H s _ fun x R1 v F1 H1 φ1 s1 x1 e1 => ?_
  refine hb B env R1 _ Ψ acc φ1 σ F1 H1 s1 _ fun y R2 u F2 H2 φ2 s2 x2 e2 => ?_
  exact hr B env R2 σ F2 H2 x y v u Φ Q s2 (e1.up x2) e2 φ2 fun o R3 z F3 H3 φ3 s3 x3 e3 => q o R3 z F3 H3 φ3 s3 ((x1.tr x2).tr x3) e3
theorem d_op {op : Operator} {k : KO} (ho : DOp X (binaryOp op) r k) (ha : DE X W a ta wa) (hb : DE X W b tb wb) : DE X W (.BinOp a op b pos) (tOp r ta tb) (w2 wa wb k) :=
  ⟨pe_op ho.p ha.p hb.p, fun B env R Φ Ψ acc w => run2 acc ho.v ha.v hb.v w⟩
theorem d_cmp {op : CmpOp} {k : KO} (ho : DOp X (compareOp op) r k) (ha : DE X W a ta wa) (hb : DE X W b tb wb) (hm : behindInMarks op b = false := by first | exact nomark _ | rfl) : DE X W (.Compare a [op] [b] pos) (tOp r ta tb) (w2 wa wb k) :=
  ⟨pe_cmpR ho.p ha.p hb.p hm, fun B env R Φ Ψ acc w => run2 acc ho.v ha.v hb.v w⟩
def wTst (w : WE) : WT := fun env R Φ Ψ => w env R (fun o R1 => match o with | .val (.bl b) => Φ b R1 | _ => False) Ψ
theorem tst_ok {B : Bs} {env : List En} {R : List Res} {Φ : Bool → List Res → Prop} (h : Ev X.K B te env R (fun o R1 => match o with | .val (.bl b) => Φ b R1 | _ => False)) : EvT X.K B (tTest te) env R Φ := by
  intro σ F H s Q q
  refine h σ F H s _ fun o R1 v F1 H1 φ s1 x1 e1 => ?_
  cases o with
  | no => exact φ.elim
  | adr p => exact φ.elim
  | val d =>
    cases d with
    | bl k =>
      obtain ⟨u, e, r⟩ := e1
      cases e
      exact ⟨k, of_bl r, q k R1 F1 H1 φ s1 x1⟩
    | _ => exact φ.elim
theorem t_cmp {op : CmpOp} {k : KO} (ho : DOp X (compareOp op) r k) (ha : DE X W a ta wa) (hb : DE X W b tb wb) (hm : behindInMarks op b = false := by first | exact nomark _ | rfl) : DT X W (.Compare a [op] [b] pos) (tTest (tOp r ta tb)) (wTst (w2 wa wb k)) :=
  ⟨pt_cmpR ho.p ha.p hb.p hm, fun B env R Φ Ψ acc w => tst_ok (run2 acc ho.v ha.v hb.v w)⟩
theorem t_val (h : DE X W e te we) (he : ∀ whole, isTrue e X.env whole = (do let v ← whole; standAt e.pos; holding [v] (truthy v)) := by intro _; rfl) : DT X W e (tB te) (wTst we) :=
  ⟨pt_val h.p he, fun B env R Φ Ψ acc w => tst_ok (h.v B env R _ Ψ acc w)⟩
/-- both operands are ints -/
def kI (C : Int → Int → Prop) (g : Int → Int → D) : KO := fun x y R Φ => match x, y with
  | .val (.int i), .val (.int j) => C i j ∧ Φ (.val (g i j)) R
  | _, _ => False
theorem dop_I {f : Value → Value → Sem Value} {C : Int → Int → Prop} {g : Int → Int → V} {gd : Int → Int → D} (h : OpR X f (rI C g)) (hg : ∀ F i j, Rep X.K F (gd i j) (g i j)) : DOp X f (rI C g) (kI C gd) := ⟨h, fun B env R σ F H x y v u Φ Q s ex ey k q => by
  cases x with
  | no => exact k.elim
  | adr p => exact k.elim
  | val d =>
    cases d with
    | int i =>
      cases y with
      | no => exact k.elim
      | adr p => exact k.elim
      | val d =>
        cases d with
        | int j =>
          obtain ⟨_, e, r⟩ := ex
          cases e
          obtain ⟨_, e, r2⟩ := ey
          cases e
          exact ⟨i, j, of_int r, of_int r2, k.1, q _ R _ F H k.2 s Ex.rfl ⟨_, rfl, hg F i j⟩⟩
        | _ => exact k.elim
    | _ => exact k.elim⟩
theorem rI_of {f : Value → Value → Sem Value} {g : Int → Int → V} (h : OpR X f (rI0 g)) : OpR X f (rI (fun _ _ => True) g) := fun pins s σ H x y v u Q I rx ry z => by
  obtain ⟨i, j, e1, e2, _, q⟩ := z
  exact h pins s σ H x y v u Q I rx ry ⟨i, j, e1, e2, q⟩
theorem o_add : DOp X (binaryOp .Add) (rI (fun _ _ => True) fun i j => .int (i + j)) (kI (fun _ _ => True) fun i j => .int (i + j)) := dop_I (rI_of op_add) fun _ _ _ => rep_int _
theorem o_sub : DOp X (binaryOp .Sub) (rI (fun _ _ => True) fun i j => .int (i - j)) (kI (fun _ _ => True) fun i j => .int (i - j)) := dop_I (rI_of op_sub) fun _ _ _ => rep_int _
theorem o_mul : DOp X (binaryOp .Mult) (rI CMul fun i j => .int (i * j)) (kI CMul fun i j => .int (i * j)) := dop_I op_mul fun _ _ _ => rep_int _
theorem o_mod : DOp X (binaryOp .Mod) (rI (fun _ j => 0 < j) fun i j => .int (i % j)) (kI (fun _ j => 0 < j) fun i j => .int (i % j)) := dop_I op_mod fun _ _ _ => rep_int _
theorem o_fdiv : DOp X (binaryOp .FloorDiv) (rI CDiv fun i j => .int (i / j)) (kI CDiv fun i j => .int (i / j)) := dop_I op_fdiv fun _ _ _ => rep_int _
theorem o_lt : DOp X (compareOp .Lt) (rI (fun _ _ => True) fun i j => .bl (decide (i < j))) (kI (fun _ _ => True) fun i j => .bl (decide (i < j))) := dop_I (rI_of op_lt) fun _ _ _ => rep_bl _
theorem o_le : DOp X (compareOp .LtE) (rI (fun _ _ => True) fun i j => .bl (decide (i ≤ j))) (kI (fun _ _ => True) fun i j => .bl (decide (i ≤ j))) := dop_I (rI_of op_le) fun _ _ _ => rep_bl _
theorem o_gt : DOp X (compareOp .Gt) (rI (fun _ _ => True) fun i j => .bl (decide (j < i))) (kI (fun _ _ => True) fun i j => .bl (decide (j < i))) := dop_I (rI_of op_gt) fun _ _ _ => rep_bl _
theorem o_ge : DOp X (compareOp .GtE) (rI (fun _ _ => True) fun i j => .bl (decide (j ≤ i))) (kI (fun _ _ => True) fun i j => .bl (decide (j ≤ i))) := dop_I (rI_of op_ge) fun _ _ _ => rep_bl _
/-- both operands are texts -/
def rS (C : Str → Str → Prop) (g : Str → Str → V) : R2 := fun x y H Q => ∃ i j, x = .str i ∧ y = .str j ∧ C i j ∧ Q (g i j) H
def kS (C : Str → Str → Prop) (g : Str → Str → D) : KO := fun x y R Φ => match x, y with
  | .val (.str i), .val (.str j) => C i j ∧ Φ (.val (g i j)) R
  | _, _ => False
theorem dop_S {f : Value → Value → Sem Value} {C : Str → Str → Prop} {g : Str → Str → V} {gd : Str → Str → D} (h : OpR X f (rS C g)) (hg : ∀ F i j, Rep X.K F (gd i j) (g i j)) : DOp X f (rS C g) (kS C gd) := ⟨h, fun B env R σ F H x y v u Φ Q s ex ey k q => by
  cases x with
  | no => exact k.elim
  | adr p => exact k.elim
  | val d =>
    cases d with
    | str i =>
      cases y with
      | no => exact k.elim
      | adr p => exact k.elim
      | val d =>
        cases d with
        | str j =>
          obtain ⟨_, e, r⟩ := ex
          cases e
          obtain ⟨_, e, r2⟩ := ey
          cases e
          exact ⟨i, j, of_str r, of_str r2, k.1, q _ R _ F H k.2 s Ex.rfl ⟨_, rfl, hg F i j⟩⟩
        | _ => exact k.elim
    | _ => exact k.elim⟩
theorem rS_of {f : Value → Value → Sem Value} {g : Str → Str → V} (h : OpR X f (fun x y H Q => ∃ i j, x = .str i ∧ y = .str j ∧ Q (g i j) H)) : OpR X f (rS (fun _ _ => True) g) := fun pins s σ H x y v u Q I rx ry z => by
  obtain ⟨i, j, e1, e2, _, q⟩ := z
  exact h pins s σ H x y v u Q I rx ry ⟨i, j, e1, e2, q⟩
theorem o_addS : DOp X (binaryOp .Add) (rS (fun i j => i.length + j.length ≤ sizeLine) fun i j => .str (i ++ j)) (kS (fun i j => i.length + j.length ≤ sizeLine) fun i j => .str (i ++ j)) := dop_S op_add_str fun _ _ _ => rep_str _
theorem o_ltS : DOp X (compareOp .Lt) (rS (fun _ _ => True) fun i j => .bl (decide (i.cps.toList < j.cps.toList))) (kS (fun _ _ => True) fun i j => .bl (decide (i.cps.toList < j.cps.toList))) := dop_S (rS_of op_lt_str) fun _ _ _ => rep_bl _
theorem o_gtS : DOp X (compareOp .Gt) (rS (fun _ _ => True) fun i j => .bl (decide (j.cps.toList < i.cps.toList))) (kS (fun _ _ => True) fun i j => .bl (decide (j.cps.toList < i.cps.toList))) := dop_S (rS_of op_gt_str) fun _ _ _ => rep_bl _
/-- one sign in a text -/
def rIn (neg : Bool) : R2 := fun x y H Q => ∃ (c : Nat) (z : Str), x = .str ⟨#[c]⟩ ∧ y = .str z ∧ Q (.bl (if neg then !decide (c ∈ z.cps.toList) else decide (c ∈ z.cps.toList))) H
def kIn (neg : Bool) : KO := fun x y R Φ => match x, y with
  | .val (.str i), .val (.str j) => ∃ c, i = ⟨#[c]⟩ ∧ Φ (.val (.bl (if neg then !decide (c ∈ j.cps.toList) else decide (c ∈ j.cps.toList)))) R
  | _, _ => False
theorem dop_in {f : Value → Value → Sem Value} {neg : Bool} (h : OpR X f (rIn neg)) : DOp X f (rIn neg) (kIn neg) := ⟨h, fun B env R σ F H x y v u Φ Q s ex ey k q => by
  cases x with
  | no => exact k.elim
  | adr p => exact k.elim
  | val d =>
    cases d with
    | str i =>
      cases y with
      | no => exact k.elim
      | adr p => exact k.elim
      | val d =>
        cases d with
        | str j =>
          obtain ⟨_, e, r⟩ := ex
          cases e
          obtain ⟨_, e, r2⟩ := ey
          cases e
          obtain ⟨c, rfl, k⟩ := k
          exact ⟨c, j, of_str r, of_str r2, q _ R _ F H k s Ex.rfl ⟨_, rfl, rep_bl _⟩⟩
        | _ => exact k.elim
    | _ => exact k.elim⟩
theorem o_inS : DOp X (compareOp .In) (rIn false) (kIn false) := dop_in op_in_sign
theorem o_ninS : DOp X (compareOp .NotIn) (rIn true) (kIn true) := dop_in op_notIn_sign
/-- == of plain things -/
def scD : D → D → Option Bool
  | .non, .non => some true | .non, .int _ => some false | .int _, .non => some false | .non, .bl _ => some false | .bl _, .non => some false | .non, .str _ => some false | .str _, .non => some false
  | .int i, .int j => some (decide (i = j)) | .bl i, .bl j => some (decide (i = j)) | .str i, .str j => some (decide (i = j))
  | .int _, .str _ => some false | .str _, .int _ => some false | .bl _, .str _ => some false | .str _, .bl _ => some false
  | _, _ => none
theorem scD_ok {K : PySem.W.Frag} {F : Hp} {x y : D} {b : Bool} {v u : V} (h : scD x y = some b) (rx : Rep K F x v) (ry : Rep K F y u) : scal v u = true ∧ decide (v = u) = b := by
  cases x <;> cases y <;> first | cases h | skip
  all_goals first | (have ex := of_non rx; subst ex) | (have ex := of_bl rx; subst ex) | (have ex := of_int rx; subst ex) | (have ex := of_str rx; subst ex)
  all_goals first | (have ey := of_non ry; subst ey) | (have ey := of_bl ry; subst ey) | (have ey := of_int ry; subst ey) | (have ey := of_str ry; subst ey)
  all_goals (refine ⟨rfl, ?_⟩)
  all_goals first | (simp; done) | rfl
def rEqN (neg : Bool) : R2 := fun x y H Q => scal x y = true ∧ Q (.bl (if neg then !decide (x = y) else decide (x = y))) H
def kEq (neg : Bool) : KO := fun x y R Φ => match x, y with
  | .val i, .val j => ∃ b, scD i j = some b ∧ Φ (.val (.bl (if neg then !b else b))) R
  | _, _ => False
theorem dop_eq {f : Value → Value → Sem Value} {neg : Bool} (h : OpR X f (rEqN neg)) : DOp X f (rEqN neg) (kEq neg) := ⟨h, fun B env R σ F H x y v u Φ Q s ex ey k q => by
  cases x with
  | no => exact k.elim
  | adr p => exact k.elim
  | val d =>
    cases y with
    | no => exact k.elim
    | adr p => exact k.elim
    | val d2 =>
      obtain ⟨_, e, r⟩ := ex
      cases e
      obtain ⟨_, e, r2⟩ := ey
      cases e
      obtain ⟨b, e, k⟩ := k
      obtain ⟨h1, h2⟩ := scD_ok e r r2
      refine ⟨h1, ?_⟩
      rw [h2]
      exact q _ R _ F H k s Ex.rfl ⟨_, rfl, rep_bl _⟩⟩
theorem o_eq : DOp X (compareOp .Eq) (rEqN false) (kEq false) := dop_eq op_eq
theorem o_ne : DOp X (compareOp .NotEq) (rEqN true) (kEq true) := dop_eq op_ne
/-- is None, is not None -/
def isNon : D → Bool
  | .non => true
  | _ => false
theorem isNon_ok {K : PySem.W.Frag} {F : Hp} {x : D} {v : V} (r : Rep K F x v) : decide (v = .non) = isNon x := by
  cases x with
  | non => rw [of_non r]; rfl
  | bl b => rw [of_bl r]; rfl
  | int b => rw [of_int r]; rfl
  | str b => rw [of_str r]; rfl
  | glo b => rw [of_glo r]; rfl
  | ty b => rw [of_ty r]; rfl
  | tup ds => obtain ⟨a, vs, rfl, _⟩ := of_tup r; rfl
  | lst ds => obtain ⟨a, vs, rfl, _⟩ := of_lst r; rfl
  | obj c ns ds => obtain ⟨a, dx, vs, rfl, _⟩ := of_obj r; rfl
  | dct ks ds => obtain ⟨a, vs, rfl, _⟩ := of_dct r; rfl
def rIsNn (neg : Bool) : R2 := fun x y H Q => y = .non ∧ Q (.bl (if neg then !decide (x = .non) else decide (x = .non))) H
def kIs (neg : Bool) : KO := fun x y R Φ => match x, y with
  | .val i, .val .non => Φ (.val (.bl (if neg then !isNon i else isNon i))) R
  | _, _ => False
theorem dop_is {f : Value → Value → Sem Value} {neg : Bool} (h : OpR X f (rIsNn neg)) : DOp X f (rIsNn neg) (kIs neg) := ⟨h, fun B env R σ F H x y v u Φ Q s ex ey k q => by
  cases x with
  | no => exact k.elim
  | adr p => exact k.elim
  | val d =>
    cases y with
    | no => exact k.elim
    | adr p => exact k.elim
    | val d2 =>
      cases d2 with
      | non =>
        obtain ⟨_, e, r⟩ := ex
        cases e
        obtain ⟨_, e, r2⟩ := ey
        cases e
        refine ⟨of_non r2, ?_⟩
        rw [isNon_ok r]
        exact q _ R _ F H k s Ex.rfl ⟨_, rfl, rep_bl _⟩
      | _ => exact k.elim⟩
theorem o_isN : DOp X (compareOp .Is) (rIsNn false) (kIs false) := dop_is op_isN
theorem o_notN : DOp X (compareOp .IsNot) (rIsNn true) (kIs true) := dop_is op_notN
end
end Tl
/-! The rules: tests, statements, loops. -/
namespace Tl
open PySem L2
section
variable {X : Cx} {W : WX} {e a b c : Expr} {wa wb we : WE} {ta tb : WT} {t u : TT} {te tf tg : TE} {pos : Pos} {rest : List Expr}

/-! ### and, or, not -/
def wAnd (s t : WT) : WT := fun env R Φ Ψ => s env R (fun k R1 => if k = true then t env R1 Φ Ψ else Φ false R1) Ψ
def wOr (s t : WT) : WT := fun env R Φ Ψ => s env R (fun k R1 => if k = true then Φ true R1 else t env R1 Φ Ψ) Ψ
def wNot (s : WT) : WT := fun env R Φ Ψ => s env R (fun k R1 => Φ (!k) R1) Ψ
theorem DW.tst (h : DW X W e t ta) : DT X W e t ta := ⟨h.p.pt, h.v⟩
theorem t_and1 (h : DT X W a t ta) : DW X W (.BoolOp .And [a] pos) t ta := ⟨pw_and1 h.p, h.v⟩
theorem t_or1 (h : DT X W a t ta) : DW X W (.BoolOp .Or [a] pos) t ta := ⟨pw_or1 h.p, h.v⟩
theorem t_and (h : DT X W a t ta) (g : DW X W (.BoolOp .And (b :: rest) pos) u tb) : DW X W (.BoolOp .And (a :: b :: rest) pos) (tAnd t u) (wAnd ta tb) := by
  obtain ⟨p, q⟩ := h
  obtain ⟨p2, q2⟩ := g
  refine ⟨pw_and p p2, fun B env R Φ Ψ acc w σ F H s Q k => q B env R _ Ψ acc w σ F H s _ fun b R1 F1 H1 φ s1 x1 => ?_⟩
  cases b with
  | true => exact q2 B env R1 Φ Ψ acc φ σ F1 H1 s1 Q fun b R2 F2 H2 φ s2 x2 => k b R2 F2 H2 φ s2 (x1.tr x2)
  | false => exact k false R1 F1 H1 φ s1 x1
theorem t_or (h : DT X W a t ta) (g : DW X W (.BoolOp .Or (b :: rest) pos) u tb) : DW X W (.BoolOp .Or (a :: b :: rest) pos) (tOr t u) (wOr ta tb) := by
  obtain ⟨p, q⟩ := h
  obtain ⟨p2, q2⟩ := g
  refine ⟨pw_or p p2, fun B env R Φ Ψ acc w σ F H s Q k => q B env R _ Ψ acc w σ F H s _ fun b R1 F1 H1 φ s1 x1 => ?_⟩
  cases b with
  | true => exact k true R1 F1 H1 φ s1 x1
  | false => exact q2 B env R1 Φ Ψ acc φ σ F1 H1 s1 Q fun b R2 F2 H2 φ s2 x2 => k b R2 F2 H2 φ s2 (x1.tr x2)
theorem t_not (h : DT X W a t ta) : DT X W (.UnaryOp .Not a pos) (tNot t) (wNot ta) := by
  obtain ⟨p, q⟩ := h
  exact ⟨pt_not p, fun B env R Φ Ψ acc w σ F H s Q k => q B env R _ Ψ acc w σ F H s _ fun b R1 F1 H1 φ s1 x1 => k _ R1 F1 H1 φ s1 x1⟩
/-- the same as values: all parts are True or False -/
def wBl (o : En) (k : Bool → Prop) : Prop := match o with
  | .val (.bl b) => k b
  | _ => False
def wAndV (s t : WE) : WE := fun env R Φ Ψ => s env R (fun o R1 => wBl o fun k => if k = true then t env R1 Φ Ψ else Φ (.val (.bl false)) R1) Ψ
def wOrV (s t : WE) : WE := fun env R Φ Ψ => s env R (fun o R1 => wBl o fun k => if k = true then Φ (.val (.bl true)) R1 else t env R1 Φ Ψ) Ψ
def wNotV (s : WE) : WE := fun env R Φ Ψ => s env R (fun o R1 => wBl o fun k => Φ (.val (.bl (!k))) R1) Ψ
theorem bl_of {K : PySem.W.Frag} {F : Hp} {o : En} {v : V} {k : Bool → Prop} (h : wBl o k) (e : EnOk K F o (some v)) : ∃ b, v = .bl b ∧ k b := by
  cases o with
  | no => exact h.elim
  | adr p => exact h.elim
  | val d =>
    cases d with
    | bl b =>
      obtain ⟨u, q, r⟩ := e
      cases q
      exact ⟨b, of_bl r, h⟩
    | _ => exact h.elim
theorem d_one {op : BoolOp} (h : DE X W a te wa) : DE X W (.BoolOp op [a] pos) te wa := ⟨pe_one h.p, h.v⟩
theorem d_and (h : DE X W a te wa) (g : DE X W (.BoolOp .And (b :: rest) pos) tf wb) : DE X W (.BoolOp .And (a :: b :: rest) pos) (tAndV te tf) (wAndV wa wb) := by
  obtain ⟨p, q⟩ := h
  obtain ⟨p2, q2⟩ := g
  refine ⟨pe_and p p2, fun B env R Φ Ψ acc w σ F H s Q k => q B env R _ Ψ acc w σ F H s _ fun o R1 v F1 H1 φ s1 x1 eo => ?_⟩
  obtain ⟨b, rfl, φ⟩ := bl_of φ eo
  refine ⟨b, rfl, ?_⟩
  cases b with
  | true => exact q2 B env R1 Φ Ψ acc φ σ F1 H1 s1 Q fun b R2 v F2 H2 φ s2 x2 => k b R2 v F2 H2 φ s2 (x1.tr x2)
  | false => exact k _ R1 _ F1 H1 φ s1 x1 ⟨_, rfl, rep_bl _⟩
theorem d_or (h : DE X W a te wa) (g : DE X W (.BoolOp .Or (b :: rest) pos) tf wb) : DE X W (.BoolOp .Or (a :: b :: rest) pos) (tOrV te tf) (wOrV wa wb) := by
  obtain ⟨p, q⟩ := h
  obtain ⟨p2, q2⟩ := g
  refine ⟨pe_or p p2, fun B env R Φ Ψ acc w σ F H s Q k => q B env R _ Ψ acc w σ F H s _ fun o R1 v F1 H1 φ s1 x1 eo => ?_⟩
  obtain ⟨b, rfl, φ⟩ := bl_of φ eo
  refine ⟨b, rfl, ?_⟩
  cases b with
  | true => exact k _ R1 _ F1 H1 φ s1 x1 ⟨_, rfl, rep_bl _⟩
  | false => exact q2 B env R1 Φ Ψ acc φ σ F1 H1 s1 Q fun b R2 v F2 H2 φ s2 x2 => k b R2 v F2 H2 φ s2 (x1.tr x2)
theorem d_not (h : DE X W a te wa) : DE X W (.UnaryOp .Not a pos) (tNotV te) (wNotV wa) := by
  obtain ⟨p, q⟩ := h
  refine ⟨pe_not p, fun B env R Φ Ψ acc w σ F H s Q k => q B env R _ Ψ acc w σ F H s _ fun o R1 v F1 H1 φ s1 x1 eo => ?_⟩
  obtain ⟨b, rfl, φ⟩ := bl_of φ eo
  exact ⟨b, rfl, k _ R1 _ F1 H1 φ s1 x1 ⟨_, rfl, rep_bl _⟩⟩
def wIfE (t : WT) (wa wb : WE) : WE := fun env R Φ Ψ => t env R (fun k R1 => if k = true then wa env R1 Φ Ψ else wb env R1 Φ Ψ) Ψ
theorem d_ifE (h : DT X W c t ta) (ha : DE X W a te wa) (hb : DE X W b tf wb) : DE X W (.IfExp c a b pos) (tIf t te tf) (wIfE ta wa wb) := by
  obtain ⟨p, q⟩ := h
  obtain ⟨p2, q2⟩ := ha
  obtain ⟨p3, q3⟩ := hb
  refine ⟨pe_ifExp p p2 p3, fun B env R Φ Ψ acc w σ F H s Q k => q B env R _ Ψ acc w σ F H s _ fun o R1 F1 H1 φ s1 x1 => ?_⟩
  cases o with
  | true => exact q2 B env R1 Φ Ψ acc φ σ F1 H1 s1 Q fun b R2 v F2 H2 φ s2 x2 => k b R2 v F2 H2 φ s2 (x1.tr x2)
  | false => exact q3 B env R1 Φ Ψ acc φ σ F1 H1 s1 Q fun b R2 v F2 H2 φ s2 x2 => k b R2 v F2 H2 φ s2 (x1.tr x2)

/-! ### arguments, displays -/
def aNil : WA := fun _ R Φ _ => Φ [] R
def aCons (w : WE) (v : WA) : WA := fun env R Φ Ψ => w env R (fun o R1 => v env R1 (fun os R2 => Φ (o :: os) R2) Ψ) Ψ
theorem a_nil : DA X W [] tNil aNil := ⟨pa_nil, fun B env R Φ Ψ acc w σ F H s Q k => k [] R [] F H w s Ex.rfl rfl⟩
theorem a_cons {es : List Expr} {v : WA} {ts : TA} (h : DE X W e te we) (g : DA X W es ts v) (hs : starEach (e :: es) X.env = (false, eval e X.env) :: starEach es X.env := by rfl) : DA X W (e :: es) (tCons te ts) (aCons we v) := by
  obtain ⟨p, q⟩ := h
  obtain ⟨p2, q2⟩ := g
  exact ⟨pa_cons p p2 hs, fun B env R Φ Ψ acc w σ F H s Q k => q B env R _ Ψ acc w σ F H s _ fun o R1 v F1 H1 φ s1 x1 eo =>
    q2 B env R1 _ Ψ acc φ σ F1 H1 s1 _ fun os R2 vs F2 H2 φ2 s2 x2 eos => k (o :: os) R2 (v :: vs) F2 H2 φ2 s2 (x1.tr x2) ⟨v, vs, rfl, eo.up x2, eos⟩⟩
/-- all outcomes are data -/
def vals : List En → Option (List D)
  | [] => some []
  | .val d :: r => (vals r).map (d :: ·)
  | _ :: _ => none
theorem vals_ok {K : PySem.W.Frag} {F : Hp} : ∀ {os : List En} {vs : List V} {ds : List D}, vals os = some ds → EnsOk K F os vs → RepL K F ds vs
  | [], _, _, h, e => by
    cases h
    rw [show _ = ([] : List V) from e]; exact repL_nil
  | .val d :: r, _, ds, h, e => by
    obtain ⟨v, w, rfl, ⟨u, q, a⟩, b⟩ := e
    cases q
    have h2 : (vals r).map (d :: ·) = some ds := h
    cases z : vals r with
    | none => rw [z] at h2; cases h2
    | some l =>
      rw [z] at h2
      have h3 : d :: l = ds := Option.some.inj h2
      rw [← h3]
      exact repL_cons a (vals_ok z b)
  | .no :: _, _, _, h, _ => nomatch h
  | .adr _ :: _, _, _, h, _ => nomatch h
def wTup (v : WA) : WE := fun env R Φ Ψ => v env R (fun os R1 => ∃ ds, vals os = some ds ∧ ds.length ≤ sizeLine ∧ Φ (.val (.tup ds)) R1) Ψ
def wLst (v : WA) : WE := fun env R Φ Ψ => v env R (fun os R1 => ∃ ds, vals os = some ds ∧ ds.length ≤ sizeLine ∧ ∀ p, Φ (.adr p) (.lst p ds :: R1)) Ψ
theorem d_tup {es : List Expr} {v : WA} {ts : TA} {j : Nat} (h : DA X W es ts v) : DE X W (.Tuple es j pos) (tTup ts) (wTup v) := by
  obtain ⟨p, q⟩ := h
  refine ⟨pe_tup p, fun B env R Φ Ψ acc w σ F H s Q k => q B env R _ Ψ acc w σ F H s _ fun os R1 vs F1 H1 φ s1 x1 eos => ?_⟩
  obtain ⟨ds, e, l, φ⟩ := φ
  have r := vals_ok e eos
  refine ⟨by rw [r.len]; exact l, fun p hp => ?_⟩
  obtain ⟨s2, x2⟩ := s1.newF (o := .tup vs) hp
  exact k _ R1 _ _ _ φ s2 (x1.tr x2) ⟨_, rfl, mk_tup upd_same (RepL.up x2 _ _ r)⟩
theorem d_lst {es : List Expr} {v : WA} {ts : TA} (h : DA X W es ts v) : DE X W (.List es pos) (tLst ts) (wLst v) := by
  obtain ⟨p, q⟩ := h
  refine ⟨pe_lst p, fun B env R Φ Ψ acc w σ F H s Q k => q B env R _ Ψ acc w σ F H s _ fun os R1 vs F1 H1 φ s1 x1 eos => ?_⟩
  obtain ⟨ds, e, l, φ⟩ := φ
  have r := vals_ok e eos
  refine ⟨by rw [r.len]; exact l, fun p hp => ?_⟩
  exact k _ _ _ _ _ (φ p) (s1.newL hp r) x1 rfl

/-! ### built-in functions by values -/
structure DCall (X : Cx) (f : Value) (r : List V → Hp → VK → Prop) (k : KC) : Prop where
  p : CallR X f r
  v : ∀ B env R σ F H os vs Φ (Q : VK), S X.K B env R σ F H → EnsOk X.K F os vs → k os R Φ →
    (∀ o R' z F' H', Φ o R' → S X.K B env R' σ F' H' → Ex F F' → EnOk X.K F' o (some z) → Q z H') → r vs H Q
def wCB (v : WA) (k : KC) : WE := fun env R Φ Ψ => v env R (fun os R1 => k os R1 Φ) Ψ
theorem d_callB {x : Str} {id : String} {es : List Expr} {v : WA} {ts : TA} {r : List V → Hp → VK → Prop} {k : KC} {p pos : Pos} (hc : DCall X (.builtin id) r k) (hm : X.mg x = none) (hv : bootBuiltins x = some (.builtin id)) (h : DA X W (e :: es) ts v) (hg : Gl X x := by rfl) (hn : x ≠ "__name__" := by decide) (hdb : (x == ("__debug__" : Str)) = false := by decide)
    (he : starEach (e :: es) X.env = (false, eval e X.env) :: starEach es X.env := by rfl) (hpl : (backTo pos (starEach es X.env)).any (·.1) = false := by rfl) : DE X W (.Call (.Name x p) (e :: es) [] pos) (tCB r ts) (wCB v k) := by
  obtain ⟨hr, hk⟩ := hc
  obtain ⟨pt, q⟩ := h
  exact ⟨pe_callB hr hg hm hv pt hn hdb he hpl, fun B env R Φ Ψ acc w σ F H s Q kk => q B env R _ Ψ acc w σ F H s _ fun os R1 vs F1 H1 φ s1 x1 eos =>
    hk B env R1 σ F1 H1 os vs Φ Q s1 eos φ fun o R2 z F2 H2 φ2 s2 x2 e2 => kk o R2 z F2 H2 φ2 s2 (x1.tr x2) e2⟩
theorem d_callTy {x : Str} {T : String} {es : List Expr} {v : WA} {ts : TA} {r : List V → Hp → VK → Prop} {k : KC} {p pos : Pos} (hc : DCall X (.type T) r k) (hm : X.mg x = none) (hv : bootBuiltins x = some (.type T)) (h : DA X W (e :: es) ts v) (hg : Gl X x := by rfl) (hn : x ≠ "__name__" := by decide) (hdb : (x == ("__debug__" : Str)) = false := by decide)
    (he : starEach (e :: es) X.env = (false, eval e X.env) :: starEach es X.env := by rfl) (hpl : (backTo pos (starEach es X.env)).any (·.1) = false := by rfl) : DE X W (.Call (.Name x p) (e :: es) [] pos) (tCB r ts) (wCB v k) := by
  obtain ⟨hr, hk⟩ := hc
  obtain ⟨pt, q⟩ := h
  exact ⟨pe_callTy hr hg hm hv pt hn hdb he hpl, fun B env R Φ Ψ acc w σ F H s Q kk => q B env R _ Ψ acc w σ F H s _ fun os R1 vs F1 H1 φ s1 x1 eos =>
    hk B env R1 σ F1 H1 os vs Φ Q s1 eos φ fun o R2 z F2 H2 φ2 s2 x2 e2 => kk o R2 z F2 H2 φ2 s2 (x1.tr x2) e2⟩

/-! ### statements -/
variable {st : Stmt} {sts : List Stmt} {ws vs us : WS} {z y : TS}
def sNext : WS := fun env R P _ => P.nx env R
def sSeq (w v : WS) : WS := fun env R P Ψ => w env R { P with nx := fun env' R' => v env' R' P Ψ } Ψ
theorem ss_nil : DSs X W [] tNext sNext := ⟨pss_nil, fun B env R P Ψ acc w σ F H E s k => k.nx env R σ F H w s⟩
theorem ss_cons (h : DS X W st z ws) (g : DSs X W sts y vs) : DSs X W (st :: sts) (tSeq z y) (sSeq ws vs) := by
  obtain ⟨p, q⟩ := h
  obtain ⟨p2, q2⟩ := g
  exact ⟨pss_cons p p2, fun B env R P Ψ acc w σ F H E s k => q B env R _ Ψ acc w σ F H _ s
    ⟨fun env' R' σ' F' H' φ s' => q2 B env' R' P Ψ acc φ σ' F' H' E s' k, k.rt, k.bk, k.ct⟩⟩
theorem ss_one (h : DS X W st z ws) : DSs X W [st] z ws := ⟨pss_one h.p, h.v⟩
def sNever : WS := fun _ _ _ _ => False
theorem s_never : DS X W st tNever sNever := ⟨ps_never, fun B env R P Ψ acc w => w.elim⟩
theorem ss_never : DSs X W sts tNever sNever := ⟨pss_never, fun B env R P Ψ acc w => w.elim⟩
theorem s_pass : DS X W (.Pass pos) tNext sNext := ⟨ps_pass, fun B env R P Ψ acc w σ F H E s k => k.nx env R σ F H w s⟩
def sBreak : WS := fun env R P _ => P.bk env R
def sCont : WS := fun env R P _ => P.ct env R
theorem s_break : DS X W (.Break pos) tBreak sBreak := ⟨ps_break, fun B env R P Ψ acc w σ F H E s k => k.bk env R σ F H w s⟩
theorem s_cont : DS X W (.Continue pos) tCont sCont := ⟨ps_continue, fun B env R P Ψ acc w σ F H E s k => k.ct env R σ F H w s⟩
def sDrop (w : WE) : WS := fun env R P Ψ => w env R (fun _ R1 => P.nx env R1) Ψ
theorem s_expr (h : DE X W e te we) (hs : swapsWith e none pos.line X.env = pure false := by rfl) : DS X W (.Expr e pos) (tDrop te) (sDrop we) := by
  obtain ⟨p, q⟩ := h
  exact ⟨ps_expr p hs, fun B env R P Ψ acc w σ F H E s k => q B env R _ Ψ acc w σ F H s _ fun o R1 v F1 H1 φ s1 x1 eo => k.nx env R1 σ F1 H1 φ s1⟩
def sRet (w : WE) : WS := fun env R P Ψ => w env R (fun o R1 => P.rt o R1) Ψ
theorem s_ret (h : DE X W e te we) : DS X W (.Return (some e) pos) (tRet te) (sRet we) := by
  obtain ⟨p, q⟩ := h
  exact ⟨ps_ret p, fun B env R P Ψ acc w σ F H E s k => q B env R _ Ψ acc w σ F H s _ fun o R1 v F1 H1 φ s1 x1 eo => k.rt o R1 v F1 H1 φ s1.fin eo⟩
def sIf (t : WT) (w v : WS) : WS := fun env R P Ψ => t env R (fun k R1 => if k = true then w env R1 P Ψ else v env R1 P Ψ) Ψ
theorem s_if {l m : List Stmt} (h : DT X W c t ta) (ha : DSs X W l z ws) (hb : DSs X W m y vs) : DS X W (.If c l m pos) (tIfS t z y) (sIf ta ws vs) := by
  obtain ⟨p, q⟩ := h
  obtain ⟨p2, q2⟩ := ha
  obtain ⟨p3, q3⟩ := hb
  refine ⟨ps_if p p2 p3, fun B env R P Ψ acc w σ F H E s k => q B env R _ Ψ acc w σ F H s _ fun o R1 F1 H1 φ s1 x1 => ?_⟩
  cases o with
  | true => exact q2 B env R1 P Ψ acc φ σ F1 H1 E s1 k
  | false => exact q3 B env R1 P Ψ acc φ σ F1 H1 E s1 k
/-- x = e, x in slot i -/
def sSet (i : Nat) (w : WE) : WS := fun env R P Ψ => w env R (fun o R1 => P.nx (env.set i o) R1) Ψ
theorem S.set {K : PySem.W.Frag} {B : Bs} {env : List En} {R : List Res} {σ : St} {F H : Hp} {o : En} {v : V} (s : S K B env R σ F H) (i : Nat) (h : EnOk K F o (some v)) : S K B (env.set i o) R (σ.set i (some v)) F H := ⟨s.fin, s.en.set i h⟩
theorem s_set {i : Nat} {x : Str} {pos' : Pos} (hN : X.N.Nodup) (h : DE X W e te we) (hi : X.N[i]? = some x := by rfl) (hx : Loc X.env.scope x := by first | exact Or.inl rfl | exact Or.inr rfl)
    (hs : swapsWith e (some (.Name x pos')) pos.line X.env = pure false := by rfl) (hf : X.fn x = true ∨ X.env.scope.names.lookup x = some .local := by first | exact .inl rfl | exact .inr rfl | assumption) : DS X W (.Assign [.Name x pos'] e pos) (tAsg te (gName i)) (sSet i we) := by
  obtain ⟨p, q⟩ := h
  exact ⟨ps_set (i := i) hN hi hx p hs hf, fun B env R P Ψ acc w σ F H E s k => q B env R _ Ψ acc w σ F H s _ fun o R1 v F1 H1 φ s1 x1 eo => k.nx _ R1 _ F1 H1 φ (s1.set i eo)⟩
/-- the owned list in slot i is settled (ahead of the statements) -/
def sSettle (i k : Nat) (w : WS) : WS := fun env R P Ψ => match env[i]? with
  | some (.adr p) => ∃ ds, R[k]? = some (.lst p ds) ∧ w (env.set i (.val (.lst ds))) (R.eraseIdx k) P Ψ
  | _ => False
theorem set_self {α : Type} : ∀ {l : List α} {i : Nat} {x : α}, l[i]? = some x → l.set i x = l
  | [], _, _, h => by simp at h
  | y :: l, 0, x, h => by
    have e : y = x := Option.some.inj h
    rw [e]; rfl
  | y :: l, i + 1, x, h => by
    show y :: l.set i x = y :: l
    rw [set_self (l := l) (i := i) h]
theorem ss_settle (i k : Nat) (h : DSs X W sts z ws) : DSs X W sts z (sSettle i k ws) := by
  obtain ⟨p, q⟩ := h
  refine ⟨p, fun B env R P Ψ acc w σ F H E s kk => ?_⟩
  unfold sSettle at w
  cases z : env[i]? with
  | none => rw [z] at w; exact w.elim
  | some o =>
    rw [z] at w
    cases o with
    | no => exact w.elim
    | val d => exact w.elim
    | adr p =>
      obtain ⟨ds, g, w⟩ := w
      obtain ⟨o, zo, eo⟩ := s.en.get z
      have e2 : o = some (.ref p) := eo
      subst e2
      obtain ⟨F2, s2, x2, r⟩ := s.frz g
      have s3 := s2.set i (o := .val (.lst ds)) (v := .ref p) ⟨_, rfl, r⟩
      rw [set_self zo] at s3
      exact q B _ _ P Ψ acc w σ F2 H E s3 kk
end
end Tl
/-! The rules: targets, loops, comprehensions, defs and their calls. -/
namespace Tl
open PySem L2

theorem Fin.base {K : PySem.W.Frag} {B : Bs} {env : List En} {R R1 : List Res} {σ : St} {F H F1 H1 : Hp} (b : Fin K B.F B.H B.R F1 H1 R1) (s : S K ⟨F1, H1, R1⟩ env R σ F H) : S K B env R σ F H := ⟨b.tr s.fin, s.en⟩
theorem Acc.base {K : PySem.W.Frag} {B : Bs} {W : WX} {Ψ : XP} {R1 : List Res} {F1 H1 : Hp} (a : Acc K B W Ψ) (b : Fin K B.F B.H B.R F1 H1 R1) : Acc K ⟨F1, H1, R1⟩ W Ψ :=
  fun er env R σ F H cls d h s e n => a er env R σ F H cls d h (b.base s) e fun dd z => ⟨(n dd z).1, b.dm dd (n dd z).2⟩

/-! ### targets -/
abbrev WG := En → List En → List Res → (List En → List Res → Prop) → Prop
structure DG (X : Cx) (tg : Expr) (g : TG) (w : WG) : Prop where
  p : PG X tg g
  v : ∀ B env R σ F H o v k (Q : St → Hp → Prop), S X.K B env R σ F H → EnOk X.K F o (some v) → w o env R k → (∀ env' R' σ' F' H', k env' R' → S X.K B env' R' σ' F' H' → Ex F F' → Q σ' H') → g v σ H Q
structure DGs (X : Cx) (ts : List Expr) (g : TGs) (w : List D → List En → List Res → (List En → List Res → Prop) → Prop) : Prop where
  p : PGs X ts g
  v : ∀ B env R σ F H ds vs k (Q : St → Hp → Prop), S X.K B env R σ F H → RepL X.K F ds vs → w ds env R k → (∀ env' R' σ' F' H', k env' R' → S X.K B env' R' σ' F' H' → Ex F F' → Q σ' H') → g vs σ H Q
section
variable {X : Cx} {e : Expr} {es : List Expr} {g : TG} {w : WG} {gs : TGs} {ws : List D → List En → List Res → (List En → List Res → Prop) → Prop} {pos : Pos}
def gSet (i : Nat) : WG := fun o env R k => k (env.set i o) R
theorem g_name {i : Nat} {x : Str} (hN : X.N.Nodup) (hi : X.N[i]? = some x := by rfl) (hx : Loc X.env.scope x := by first | exact Or.inl rfl | exact Or.inr rfl) (hf : X.fn x = true ∨ X.env.scope.names.lookup x = some .local := by first | exact .inl rfl | exact .inr rfl | assumption) : DG X (.Name x pos) (gName i) (gSet i) :=
  ⟨pg_name hN hi hx hf, fun B env R σ F H o v k Q s eo h q => q _ R _ F H h (s.set i eo) Ex.rfl⟩
def gsNil : List D → List En → List Res → (List En → List Res → Prop) → Prop := fun ds env R k => ds = [] ∧ k env R
def gsCons (w : WG) (ws : List D → List En → List Res → (List En → List Res → Prop) → Prop) : List D → List En → List Res → (List En → List Res → Prop) → Prop := fun ds env R k => match ds with
  | d :: r => w (.val d) env R fun env' R' => ws r env' R' k
  | [] => False
theorem gs_nil : DGs X [] gNil gsNil := ⟨pgs_nil, fun B env R σ F H ds vs k Q s r h q => by
  obtain ⟨rfl, h⟩ := h
  exact ⟨of_repL_nil r, q env R σ F H h s Ex.rfl⟩⟩
theorem gs_cons (h1 : DG X e g w) (h2 : DGs X es gs ws) (hs : (assignEach (e :: es) X.env).map (·.2) = assign e X.env :: (assignEach es X.env).map (·.2) := by rfl) : DGs X (e :: es) (gCons g gs) (gsCons w ws) := ⟨pgs_cons h1.p h2.p hs, fun B env R σ F H ds vs k Q s r h q => by
  cases ds with
  | nil => exact h.elim
  | cons d ds =>
    obtain ⟨v, vr, rfl, rv, rr⟩ := of_repL_cons r
    exact ⟨v, vr, rfl, h1.v B env R σ F H (.val d) v _ _ s ⟨v, rfl, rv⟩ h fun env1 R1 σ1 F1 H1 h s1 x1 => h2.v B env1 R1 σ1 F1 H1 ds vr k Q s1 (RepL.up x1 _ _ rr) h fun env2 R2 σ2 F2 H2 h s2 x2 => q env2 R2 σ2 F2 H2 h s2 (x1.tr x2)⟩⟩
def gsTup (n : Nat) (ws : List D → List En → List Res → (List En → List Res → Prop) → Prop) : WG := fun o env R k => match o with
  | .val (.tup ds) => ds.length = n ∧ ws ds env R k
  | _ => False
theorem g_tup {k n : Nat} (hc : X.calm = true) (h : DGs X es gs ws) (hn : (assignEach es X.env).length = n := by rfl) (hst : (assignEach es X.env).findIdx? (·.1) = none := by rfl) : DG X (.Tuple es k pos) (gTup X.K n gs) (gsTup n ws) := ⟨pg_tup hc h.p hn hst, fun B env R σ F H o v k Q s eo hw q => by
  cases o with
  | no => exact hw.elim
  | adr p => exact hw.elim
  | val d =>
    cases d with
    | tup ds =>
      obtain ⟨u, e, r⟩ := eo
      cases e
      obtain ⟨a, vs, rfl, fa, rl⟩ := of_tup r
      exact ⟨a, vs, rfl, .inl (.inl (s.fin.fh _ _ fa)), by rw [rl.len]; exact hw.1, h.v B env R σ F H ds vs k Q s rl hw.2 q⟩
    | _ => exact hw.elim⟩
/-- x = e by any target -/
def sAsg (w : WE) (g : WG) : WS := fun env R P Ψ => w env R (fun o R1 => g o env R1 P.nx) Ψ
theorem s_asg {W : WX} {tg a : Expr} {te : TE} {we : WE} (h : DE X W a te we) (hg : DG X tg g w) (hs : swapsWithSole [tg] a pos.line X.env = pure false := by rfl) (hw : swappedStores [tg] a X.env = pure none := by rfl) (h1 : (assignEach [tg] X.env).map (·.2) = [assign tg X.env] := by rfl) : DS X W (.Assign [tg] a pos) (tAsg te g) (sAsg we w) :=
  ⟨ps_asg h.p hg.p hs hw h1, fun B env R P Ψ acc z σ F H E s k => h.v B env R _ Ψ acc z σ F H s _ fun o R1 v F1 H1 φ s1 x1 eo => hg.v B env R1 σ F1 H1 o v _ _ s1 eo φ fun env2 R2 σ2 F2 H2 φ2 s2 x2 => k.nx env2 R2 σ2 F2 H2 φ2 s2⟩
end

/-! ### what is walked -/
/-- at turn i of J the datum items[i] comes -/
structure WalkD (K : PySem.W.Frag) (F : Hp) (J : It) (items : List D) : Prop where
  ex : ∃ (G : Hp → Prop) (Y : Nat → Hp → V → Hp → Prop), Walk J items.length G Y ∧ (∀ H, Ex F H → G H) ∧ ∀ i H v H', i < items.length → Ex F H → Y i H v H' →
    ∃ d, items[i]? = some d ∧ ((H' = H ∧ Rep K F d v) ∨ ∃ T vs ds, d = .tup ds ∧ v = .ref T ∧ H T = none ∧ H' = upd H T (.tup vs) ∧ RepL K F ds vs)
abbrev WI := List En → List Res → (List D → List Res → Prop) → XP → Prop
structure DI (X : Cx) (W : WX) (tg iter : Expr) (wi : TI) (w : WI) : Prop where
  p : PI X tg iter wi
  v : ∀ B env R Φ Ψ, Acc X.K B W Ψ → w env R Φ Ψ → ∀ σ F H, S X.K B env R σ F H → ∀ Rj : It → Hp → Prop, (∀ items R1 F1 H1 J, Φ items R1 → S X.K B env R1 σ F1 H1 → Ex F F1 → WalkD X.K F1 J items → Rj J H1) → wi σ H Rj
section
variable {X : Cx} {W : WX} {tg l : Expr} {te : TE} {we : WE} {pos : Pos}
def iLst (w : WE) : WI := fun env R Φ Ψ => w env R (fun o R1 => match o with | .val (.lst ds) => Φ ds R1 | _ => False) Ψ
def iTp (w : WE) : WI := fun env R Φ Ψ => w env R (fun o R1 => match o with | .val (.tup ds) => Φ ds R1 | _ => False) Ψ
def signs (z : Str) : List D := z.cps.toList.map fun c => .str ⟨#[c]⟩
def iSt (w : WE) : WI := fun env R Φ Ψ => w env R (fun o R1 => match o with | .val (.str z) => Φ (signs z) R1 | _ => False) Ψ
theorem walkD_list {K : PySem.W.Frag} {F : Hp} {a : Addr} {vs : List V} {ds : List D} (h : F a = some (.lst vs)) (r : RepL K F ds vs) : WalkD K F (Itl K a) ds := ⟨fun H => SqL K H a vs, YAt vs, by rw [← r.len]; exact walk_list (xs := vs), fun H x => Or.inl (Or.inl (x _ _ h)), fun i H v H' hi x y => by
  obtain ⟨e, y⟩ := y
  obtain ⟨d, g, rd⟩ := r.get' y
  exact ⟨d, g, .inl ⟨e, rd⟩⟩⟩
theorem walkD_tup {K : PySem.W.Frag} {F : Hp} {a : Addr} {vs : List V} {ds : List D} (h : F a = some (.tup vs)) (r : RepL K F ds vs) : WalkD K F (Itt K a) ds := ⟨fun H => SqT K H a vs, YAt vs, by rw [← r.len]; exact walk_tup (xs := vs), fun H x => Or.inl (Or.inl (x _ _ h)), fun i H v H' hi x y => by
  obtain ⟨e, y⟩ := y
  obtain ⟨d, g, rd⟩ := r.get' y
  exact ⟨d, g, .inl ⟨e, rd⟩⟩⟩
theorem signs_len (z : Str) : (signs z).length = z.cps.size := by simp [signs]
theorem walkD_str {K : PySem.W.Frag} {F : Hp} {z : Str} : WalkD K F (Its z) (signs z) := ⟨_, _, by rw [signs_len]; exact walk_str, fun H x => trivial, fun i H v H' hi x y => by
  obtain ⟨e, c, g, rfl⟩ := y
  refine ⟨.str ⟨#[c]⟩, ?_, .inl ⟨e, rep_str _⟩⟩
  simp [signs, g]⟩
theorem i_list (h : DE X W l te we) : DI X W tg l (iList X.K te) (iLst we) := ⟨pi_list h.p, fun B env R Φ Ψ acc w σ F H s Rj q => h.v B env R _ Ψ acc w σ F H s _ fun o R1 v F1 H1 φ s1 x1 eo => by
  cases o with
  | no => exact φ.elim
  | adr p => exact φ.elim
  | val d =>
    cases d with
    | lst ds =>
      obtain ⟨u, e, r⟩ := eo
      cases e
      obtain ⟨a, vs, rfl, fa, rl⟩ := of_lst r
      exact ⟨a, rfl, ⟨vs, .inl (.inl (s1.fin.fh _ _ fa))⟩, q ds R1 F1 H1 _ φ s1 x1 (walkD_list fa rl)⟩
    | _ => exact φ.elim⟩
theorem i_tup (h : DE X W l te we) : DI X W tg l (iTup X.K te) (iTp we) := ⟨pi_tup h.p, fun B env R Φ Ψ acc w σ F H s Rj q => h.v B env R _ Ψ acc w σ F H s _ fun o R1 v F1 H1 φ s1 x1 eo => by
  cases o with
  | no => exact φ.elim
  | adr p => exact φ.elim
  | val d =>
    cases d with
    | tup ds =>
      obtain ⟨u, e, r⟩ := eo
      cases e
      obtain ⟨a, vs, rfl, fa, rl⟩ := of_tup r
      exact ⟨a, rfl, ⟨vs, .inl (.inl (s1.fin.fh _ _ fa))⟩, q ds R1 F1 H1 _ φ s1 x1 (walkD_tup fa rl)⟩
    | _ => exact φ.elim⟩
theorem i_str (h : DE X W l te we) : DI X W tg l (iStr te) (iSt we) := ⟨pi_str h.p, fun B env R Φ Ψ acc w σ F H s Rj q => h.v B env R _ Ψ acc w σ F H s _ fun o R1 v F1 H1 φ s1 x1 eo => by
  cases o with
  | no => exact φ.elim
  | adr p => exact φ.elim
  | val d =>
    cases d with
    | str z =>
      obtain ⟨u, e, r⟩ := eo
      cases e
      exact ⟨z, of_str r, q _ R1 F1 H1 _ φ s1 x1 walkD_str⟩
    | _ => exact φ.elim⟩
/-- lo, lo + 1, .. -/
def intsFrom (lo : Int) (n : Nat) : List D := (List.range n).map fun i => .int (lo + (i : Nat))
def iRg1 (v : WA) : WI := fun env R Φ Ψ => v env R (fun os R1 => match os with | [.val (.int n)] => -(2 ^ 62) ≤ n ∧ n < 2 ^ 62 ∧ Φ (intsFrom 0 n.toNat) R1 | _ => False) Ψ
def iRg2 (v : WA) : WI := fun env R Φ Ψ => v env R (fun os R1 => match os with | [.val (.int m), .val (.int n)] => (-(2 ^ 62) ≤ m ∧ m < 2 ^ 62 ∧ -(2 ^ 62) ≤ n ∧ n < 2 ^ 62) ∧ Φ (intsFrom m (n - m).toNat) R1 | _ => False) Ψ
theorem intsFrom_len (lo : Int) (n : Nat) : (intsFrom lo n).length = n := by simp [intsFrom]
theorem walkD_range {K : PySem.W.Frag} {F : Hp} {lo : Int} {n : Nat} : WalkD K F (Itr lo n) (intsFrom lo n) := ⟨_, _, by rw [intsFrom_len]; exact walk_range, fun H x => trivial, fun i H v H' hi x y => by
  obtain ⟨e, rfl⟩ := y
  rw [intsFrom_len] at hi
  exact ⟨.int (lo + (i : Nat)), by simp [intsFrom, hi], .inl ⟨e, rep_int _⟩⟩⟩
theorem one_int {K : PySem.W.Frag} {F : Hp} {n : Int} {vs : List V} (h : EnsOk K F [.val (.int n)] vs) : vs = [.int n] := by
  obtain ⟨v, r, rfl, ⟨u, e, rr⟩, t⟩ := h
  cases e
  rw [show r = [] from t, of_int rr]
theorem two_int {K : PySem.W.Frag} {F : Hp} {m n : Int} {vs : List V} (h : EnsOk K F [.val (.int m), .val (.int n)] vs) : vs = [.int m, .int n] := by
  obtain ⟨v, r, rfl, ⟨u, e, rr⟩, t⟩ := h
  cases e
  rw [one_int t, of_int rr]
theorem i_range1 {a : Expr} {ts : TA} {v : WA} {p pos : Pos} (hm : X.mg "range" = none) (h : DA X W [a] ts v) (hg : Gl X "range" := by rfl) (hs : starEach [a] X.env = [(false, eval a X.env)] := by rfl) : DI X W tg (.Call (.Name "range" p) [a] [] pos) (iRng1 ts) (iRg1 v) := ⟨pi_range1 hg hm h.p hs, fun B env R Φ Ψ acc w σ F H s Rj q => h.v B env R _ Ψ acc w σ F H s _ fun os R1 vs F1 H1 φ s1 x1 eo => by
  split at φ
  · rename_i n
    exact ⟨n, one_int eo, φ.1, φ.2.1, q _ R1 F1 H1 _ φ.2.2 s1 x1 walkD_range⟩
  · exact φ.elim⟩
theorem i_range2 {a b : Expr} {ts : TA} {v : WA} {p pos : Pos} (hm : X.mg "range" = none) (h : DA X W [a, b] ts v) (hg : Gl X "range" := by rfl) (hs : starEach [a, b] X.env = [(false, eval a X.env), (false, eval b X.env)] := by rfl) (hs2 : starEach [b] X.env = [(false, eval b X.env)] := by rfl) : DI X W tg (.Call (.Name "range" p) [a, b] [] pos) (iRng2 ts) (iRg2 v) := ⟨pi_range2 hg hm h.p hs hs2, fun B env R Φ Ψ acc w σ F H s Rj q => h.v B env R _ Ψ acc w σ F H s _ fun os R1 vs F1 H1 φ s1 x1 eo => by
  split at φ
  · rename_i m n
    exact ⟨m, n, two_int eo, φ.1, q _ R1 F1 H1 _ φ.2 s1 x1 walkD_range⟩
  · exact φ.elim⟩
end
/-- a turn's datum has come -/
theorem S.yield {K : PySem.W.Frag} {B : Bs} {env : List En} {R : List Res} {σ : St} {F F1 H H' : Hp} {d : D} {v : V} (s : S K B env R σ F H) (x : Ex F1 F)
    (h : (H' = H ∧ Rep K F1 d v) ∨ ∃ T vs ds, d = .tup ds ∧ v = .ref T ∧ H T = none ∧ H' = upd H T (.tup vs) ∧ RepL K F1 ds vs) : ∃ F', S K B env R σ F' H' ∧ Ex F F' ∧ EnOk K F' (.val d) (some v) := by
  rcases h with ⟨rfl, r⟩ | ⟨T, vs, ds, rfl, rfl, n, rfl, r⟩
  · exact ⟨F, s, Ex.rfl, v, rfl, Rep.up x _ _ r⟩
  · obtain ⟨s2, x2⟩ := s.newF (o := .tup vs) n
    exact ⟨_, s2, x2, _, rfl, mk_tup upd_same (RepL.up (x.tr x2) _ _ r)⟩
section
variable {X : Cx} {W : WX} {tg iter : Expr} {body : List Stmt} {wi : TI} {w : WI} {g : TG} {wg : WG} {tb : TS} {ws : WS} {pos : Pos}
/-- for: I tells what holds between two turns -/
def sFor (w : WI) (g : WG) (b : WS) : WS := fun env R P Ψ => w env R (fun items R1 => ∃ I : Nat → List En → List Res → Prop, I 0 env R1 ∧
  (∀ i d env' R', items[i]? = some d → I i env' R' → g (.val d) env' R' fun env2 R2 => b env2 R2 { P with nx := I (i + 1), ct := I (i + 1), bk := P.nx } Ψ) ∧ ∀ env' R', I items.length env' R' → P.nx env' R') Ψ
theorem s_for (tk : Tk X W) (hc : X.calm = true) (hi : DI X W tg iter wi w) (hg : DG X tg g wg) (hb : DSs X W body tb ws) (hs : ∀ x, foldedSetIterable iter X.env x = pure x := by intro _; rfl) : DS X W (.For tg iter body [] pos) (tFor wi g tb) (sFor w wg ws) := ⟨ps_for tk.own hc hi.p hg.p hb.p hs, fun B env R P Ψ acc z σ F H E s k => hi.v B env R _ Ψ acc z σ F H s _ fun items R1 F1 H1 J φ s1 x1 wd => by
  obtain ⟨I, i0, turn, fin⟩ := φ
  obtain ⟨G, Y, wk, hG, hY⟩ := wd.ex
  have b1 := s1.fin
  have sB : S X.K ⟨F1, H1, R1⟩ env R1 σ F1 H1 := ⟨.same b1.fh b1.rk, s1.en⟩
  refine for_it wk (fun i σ' H' => ∃ env' R' F', I i env' R' ∧ S X.K ⟨F1, H1, R1⟩ env' R' σ' F' H') ⟨env, R1, F1, i0, sB⟩ (fun i σ' H' _ ⟨env', R', F', _, s'⟩ => hG H' (s'.fin.ff.tr s'.fin.fh)) ?_ ?_
  · rintro i v σ' H' H2 hlt ⟨env', R', F', hI, s'⟩ y
    obtain ⟨d, gd, hd⟩ := hY i H' v H2 hlt (s'.fin.ff.tr s'.fin.fh) y
    obtain ⟨F2, s2, x2, ev⟩ := s'.yield s'.fin.ff hd
    refine hg.v _ env' R' σ' F2 H2 (.val d) v _ _ s2 ev (turn i d env' R' gd hI) fun env3 R3 σ3 F3 H3 φ3 s3 x3 => ?_
    refine hb.v _ env3 R3 _ Ψ (acc.base b1) φ3 σ3 F3 H3 _ s3 ⟨fun env4 R4 σ4 F4 H4 φ4 s4 => ⟨env4, R4, F4, φ4, s4⟩, fun o R4 v4 F4 H4 φ4 f4 e4 => k.rt o R4 v4 F4 H4 φ4 (b1.tr f4) e4, fun env4 R4 σ4 F4 H4 φ4 s4 => k.nx env4 R4 σ4 F4 H4 φ4 (b1.base s4), fun env4 R4 σ4 F4 H4 φ4 s4 => ⟨env4, R4, F4, φ4, s4⟩⟩
  · rintro σ' H' ⟨env', R', F', hI, s'⟩
    exact k.nx env' R' σ' F' H' (fin env' R' hI) (b1.base s')⟩
end

/-! ### comprehensions -/
abbrev X0 : XP := fun _ _ _ => False
abbrev W0 : WX := fun _ _ _ _ => False
theorem acc0 {K : PySem.W.Frag} {B : Bs} {W : WX} : Acc K B W X0 := fun _ _ _ _ _ _ _ _ h => h.elim
/-- the target sets slots of vs alone -/
def GW (g : TG) (vs : List Nat) : Prop := ∀ v σ H Q, g v σ H Q → g v σ H fun σ2 H2 => L2.wipe σ2 vs = L2.wipe σ vs ∧ Q σ2 H2
theorem wipe_set {i : Nat} {o : Option V} : ∀ {vs : List Nat} {σ : St}, i ∈ vs → L2.wipe (σ.set i o) vs = L2.wipe σ vs
  | [], _, h => by simp at h
  | v :: vs, σ, h => by
    show (L2.wipe (σ.set i o) vs).set v none = (L2.wipe σ vs).set v none
    rcases List.mem_cons.mp h with e | m
    · subst e
      by_cases m : i ∈ vs
      · rw [wipe_set m]
      · have swap : ∀ (ws : List Nat) (τ : St), i ∉ ws → L2.wipe (τ.set i o) ws = (L2.wipe τ ws).set i o := by
          intro ws
          induction ws with
          | nil => intro τ _; rfl
          | cons w ws ih =>
            intro τ hn
            have n1 : i ≠ w := fun e => hn (by rw [e]; exact List.mem_cons_self)
            have n2 : i ∉ ws := fun z => hn (List.mem_cons_of_mem _ z)
            show (L2.wipe (τ.set i o) ws).set w none = ((L2.wipe τ ws).set w none).set i o
            rw [ih τ n2, List.set_comm _ _ n1]
        rw [swap vs σ m, List.set_set]
    · rw [wipe_set m]
theorem gw_name {i : Nat} {vs : List Nat} (h : i ∈ vs := by decide) : GW (gName i) vs := fun v σ H Q q => ⟨wipe_set h, q⟩
def GWs (g : TGs) (vs : List Nat) : Prop := ∀ v σ H Q, g v σ H Q → g v σ H fun σ2 H2 => L2.wipe σ2 vs = L2.wipe σ vs ∧ Q σ2 H2
theorem gws_nil {vs : List Nat} : GWs gNil vs := fun v σ H Q q => ⟨q.1, rfl, q.2⟩
theorem gws_cons {g : TG} {gs : TGs} {vs : List Nat} (mono : ∀ v σ H Q Q', (∀ a b, Q a b → Q' a b) → g v σ H Q → g v σ H Q') (mono2 : ∀ v σ H Q Q', (∀ a b, Q a b → Q' a b) → gs v σ H Q → gs v σ H Q') (h : GW g vs) (t : GWs gs vs) : GWs (gCons g gs) vs := fun v σ H Q q => by
  obtain ⟨x, r, e, q⟩ := q
  refine ⟨x, r, e, mono _ _ _ _ _ (fun a b z => ?_) (h _ _ _ _ q)⟩
  obtain ⟨z1, z2⟩ := z
  exact mono2 _ _ _ _ _ (fun c d y => ⟨y.1.trans z1, y.2⟩) (t _ _ _ _ z2)
theorem mono_name {i : Nat} : ∀ v σ H (Q Q' : St → Hp → Prop), (∀ a b, Q a b → Q' a b) → gName i v σ H Q → gName i v σ H Q' := fun v σ H Q Q' k h => k _ _ h
theorem mono_nil : ∀ v σ H (Q Q' : St → Hp → Prop), (∀ a b, Q a b → Q' a b) → gNil v σ H Q → gNil v σ H Q' := fun v σ H Q Q' k h => ⟨h.1, k _ _ h.2⟩
theorem mono_cons {i : Nat} {gs : TGs} (m : ∀ v σ H (Q Q' : St → Hp → Prop), (∀ a b, Q a b → Q' a b) → gs v σ H Q → gs v σ H Q') : ∀ v σ H (Q Q' : St → Hp → Prop), (∀ a b, Q a b → Q' a b) → gCons (gName i) gs v σ H Q → gCons (gName i) gs v σ H Q' := fun v σ H Q Q' k h => by
  obtain ⟨x, r, e, q⟩ := h
  exact ⟨x, r, e, m _ _ _ _ _ k q⟩
theorem gw_tup {K : PySem.W.Frag} {n : Nat} {gs : TGs} {vs : List Nat} (h : GWs gs vs) : GW (gTup K n gs) vs := fun v σ H Q q => by
  obtain ⟨a, xs, e, sq, l, q⟩ := q
  exact ⟨a, xs, e, sq, l, h _ _ _ _ q⟩
theorem gw_two {K : PySem.W.Frag} {n i j : Nat} {vs : List Nat} (h : i ∈ vs := by decide) (h2 : j ∈ vs := by decide) : GW (gTup K n (gCons (gName i) (gCons (gName j) gNil))) vs :=
  gw_tup (gws_cons mono_name (mono_cons mono_nil) (gw_name h) (gws_cons mono_name mono_nil (gw_name h2) gws_nil))
theorem gw_three {K : PySem.W.Frag} {n i j k : Nat} {vs : List Nat} (h : i ∈ vs := by decide) (h2 : j ∈ vs := by decide) (h3 : k ∈ vs := by decide) : GW (gTup K n (gCons (gName i) (gCons (gName j) (gCons (gName k) gNil)))) vs :=
  gw_tup (gws_cons mono_name (mono_cons (mono_cons mono_nil)) (gw_name h) (gws_cons mono_name (mono_cons mono_nil) (gw_name h2) (gws_cons mono_name mono_nil (gw_name h3) gws_nil)))
/-- the tests of a comprehension -/
structure DTs (X : Cx) (W : WX) (es : List Expr) (tt : TT) (w : WT) : Prop where
  p : PTs X es tt
  v : ∀ B env R Φ Ψ, Acc X.K B W Ψ → w env R Φ Ψ → EvT X.K B tt env R Φ
def wYes : WT := fun _ R Φ _ => Φ true R
theorem ts_nil {X : Cx} {W : WX} : DTs X W [] tYes wYes := ⟨pts_nil, fun B env R Φ Ψ acc w σ F H s Q k => k true R F H w s Ex.rfl⟩
theorem ts_one {X : Cx} {W : WX} {c : Expr} {t : TT} {w : WT} (h : DT X W c t w) : DTs X W [c] t w := ⟨pts_one h.p, h.v⟩
section
variable {X : Cx} {W : WX} {elt tg iter : Expr} {ifs : List Expr} {scope : Scope} {own : List (Str × Nat)} {pos spos : Pos} {wi : TI} {w : WI} {g : TG} {wg : WG} {tt : TT} {wt : WT} {te : TE} {we : WE}
def lcPut (p : Addr) (k : List D → List Res → Prop) (o : En) (R : List Res) : Prop := match o, R with
  | .val d, .lst q a :: R5 => q = p ∧ a.length < 1000000 ∧ k (a ++ [d]) R5
  | _, _ => False
def lcSkip (p : Addr) (k : List D → List Res → Prop) (R : List Res) : Prop := match R with
  | .lst q a :: R5 => q = p ∧ k a R5
  | _ => False
theorem lcPut_ok {p : Addr} {k : List D → List Res → Prop} {o : En} {R : List Res} (h : lcPut p k o R) : ∃ d a R5, o = .val d ∧ R = .lst p a :: R5 ∧ a.length < 1000000 ∧ k (a ++ [d]) R5 := by
  unfold lcPut at h
  split at h
  · obtain ⟨rfl, l, z⟩ := h
    exact ⟨_, _, _, rfl, rfl, l, z⟩
  · exact h.elim
theorem lcSkip_ok {p : Addr} {k : List D → List Res → Prop} {R : List Res} (h : lcSkip p k R) : ∃ a R5, R = .lst p a :: R5 ∧ k a R5 := by
  unfold lcSkip at h
  split at h
  · obtain ⟨rfl, z⟩ := h
    exact ⟨_, _, rfl, z⟩
  · exact h.elim
/-- I: behind i turns, what is in the list and what is owned besides -/
def wLc (w : WI) (g : WG) (t : WT) (e : WE) (vs : List Nat) : WE := fun env R Φ Ψ => w env R (fun items R1 => ∃ I : Nat → List D → List Res → Prop, I 0 [] R1 ∧
  (∀ i d acc R' p, items[i]? = some d → I i acc R' → g (.val d) (wipeE env vs) (.lst p acc :: R') fun env2 R2 => t env2 R2 (fun b R3 =>
    if b = true then e env2 R3 (fun o R4 => lcPut p (I (i + 1)) o R4) X0 else lcSkip p (I (i + 1)) R3) X0) ∧ ∀ acc R' p, I items.length acc R' → Φ (.adr p) (.lst p acc :: R')) Ψ
theorem lc_ev (gw : GW g (own.map (·.2))) (hi : DI X W tg iter wi w) (hg : ∀ B env R σ F H o v k (Q : St → Hp → Prop), S X.K B env R σ F H → EnOk X.K F o (some v) → wg o env R k → (∀ env' R' σ' F' H', k env' R' → S X.K B env' R' σ' F' H' → Ex F F' → Q σ' H') → g v σ H Q)
    (ht : ∀ B env R Φ Ψ, Acc X.K B W0 Ψ → wt env R Φ Ψ → EvT X.K B tt env R Φ) (he : ∀ B env R Φ Ψ, Acc X.K B W0 Ψ → we env R Φ Ψ → Ev X.K B te env R Φ)
    (B : Bs) (env : List En) (R : List Res) (Φ : En → List Res → Prop) (Ψ : XP) (acc : Acc X.K B W Ψ) (z : wLc w wg wt we (own.map (·.2)) env R Φ Ψ) : Ev X.K B (tLc wi g tt te (own.map (·.2))) env R Φ := fun σ F H s Q k => hi.v B env R _ Ψ acc z σ F H s _ fun items R1 F1 H1 J φ s1 x1 wd => by
  obtain ⟨I, i0, turn, fin⟩ := φ
  obtain ⟨G, Y, wk, hG, hY⟩ := wd.ex
  have b1 := s1.fin
  have sB : S X.K ⟨F1, H1, R1⟩ env R1 σ F1 H1 := ⟨.same b1.fh b1.rk, s1.en⟩
  intro Dl hD
  have s0 : S X.K ⟨F1, H1, R1⟩ env (.lst Dl [] :: R1) σ F1 (upd H1 Dl (.lst [])) := sB.newL hD repL_nil
  refine lc_it wk (fun i H' => ∃ a R' F', I i a R' ∧ S X.K ⟨F1, H1, R1⟩ env (.lst Dl a :: R') σ F' H') ⟨[], R1, F1, i0, s0⟩ (fun i H' _ ⟨a, R', F', _, s'⟩ => hG H' (s'.fin.ff.tr s'.fin.fh)) ?_ ?_
  · rintro i v H' H2 hlt ⟨a, R', F', hI, s'⟩ y
    obtain ⟨d, gd, hd⟩ := hY i H' v H2 hlt (s'.fin.ff.tr s'.fin.fh) y
    obtain ⟨F2, s2, x2, ev⟩ := s'.yield s'.fin.ff hd
    have sw : S X.K ⟨F1, H1, R1⟩ (wipeE env (own.map (·.2))) (.lst Dl a :: R') (L2.wipe σ (own.map (·.2))) F2 H2 := ⟨s2.fin, s2.en.wipe _⟩
    have ww : L2.wipe (L2.wipe σ (own.map (·.2))) (own.map (·.2)) = L2.wipe σ (own.map (·.2)) := by
      have gen : ∀ (vs ws : List Nat) (τ : St), (∀ v ∈ vs, v ∈ ws) → L2.wipe (L2.wipe τ vs) ws = L2.wipe τ ws := by
        intro vs
        induction vs with
        | nil => intro ws τ _; rfl
        | cons v vs ih =>
          intro ws τ h
          show L2.wipe ((L2.wipe τ vs).set v none) ws = _
          rw [wipe_set (h v List.mem_cons_self)]
          exact ih ws τ fun x hx => h x (List.mem_cons_of_mem _ hx)
      exact gen _ _ _ fun v h => h
    have back : ∀ {env3 : List En} {R3 : List Res} {σ3 : St} {F3 H3 : Hp}, Ex F2 F3 → S X.K ⟨F1, H1, R1⟩ env3 R3 σ3 F3 H3 → S X.K ⟨F1, H1, R1⟩ env R3 σ F3 H3 := fun x s3 => ⟨s3.fin, s2.en.up x⟩
    have key := hg _ _ _ _ F2 H2 (.val d) v _ (fun σ3 H3 => tt σ3 H3 fun b H4 => if b = true then te σ3 H4 fun y H5 => ∃ ac, H5 Dl = some (.lst ac) ∧ ac.length < sizeLine ∧ ∃ a R' F', I (i + 1) a R' ∧ S X.K ⟨F1, H1, R1⟩ env (.lst Dl a :: R') σ F' (upd H5 Dl (.lst (ac ++ [y]))) else ∃ a R' F', I (i + 1) a R' ∧ S X.K ⟨F1, H1, R1⟩ env (.lst Dl a :: R') σ F' H4) sw ev (turn i d a R' Dl gd hI) fun env3 R3 σ3 F3 H3 φ3 s3 x3 => by
      refine ht _ env3 R3 _ X0 acc0 φ3 σ3 F3 H3 s3 _ fun b R4 F4 H4 φ4 s4 x4 => ?_
      cases b with
      | true =>
        refine he _ env3 R4 _ X0 acc0 φ4 σ3 F4 H4 s4 _ fun o R5 v5 F5 H5 φ5 s5 x5 e5 => ?_
        obtain ⟨d2, acc2, R6, rfl, rfl, len, hI2⟩ := lcPut_ok φ5
        obtain ⟨u, eu, r5⟩ := e5
        cases eu
        have s6 := back ((x3.tr x4).tr x5) s5
        obtain ⟨vs, hv, rl⟩ := s6.own (k := 0) rfl
        refine ⟨vs, hv, by rw [rl.len]; exact Nat.lt_of_lt_of_le len (by decide), acc2 ++ [d2], R6, F5, hI2, ?_⟩
        exact s6.mutL (k := 0) rfl (rl.app (repL_cons r5 repL_nil))
      | false =>
        obtain ⟨acc2, R5, rfl, hI2⟩ := lcSkip_ok (show lcSkip Dl (I (i + 1)) R4 from φ4)
        exact ⟨acc2, R5, F4, hI2, back (x3.tr x4) s4⟩
    have key2 := gw _ _ _ _ key
    rw [ww] at key2
    exact key2
  · rintro H' ⟨a, R', F', hI, s'⟩
    exact k _ _ _ F' H' (fin a R' Dl hI) (b1.base s') (x1.tr s'.fin.ff) rfl
theorem d_lc (own : List (Str × Nat)) (hc : X.calm = true) (hN : X.N.Nodup) (gw : GW g (own.map (·.2))) (hi : DI X W tg iter wi w) (ok : BlkOk X.N X.env.scope scope own)
    (hg : ∀ (s : Shared) (H : Hp) (C : Addr) (cl : List (Str × Addr)) (fp : List Addr), DG (X.blk s H scope (compEnvC scope cl C X.env) fp) tg g wg) (ht : ∀ (s : Shared) (H : Hp) (C : Addr) (cl : List (Str × Addr)) (fp : List Addr), DTs (X.blk s H scope (compEnvC scope cl C X.env) fp) W0 ifs tt wt)
    (he : ∀ (s : Shared) (H : Hp) (C : Addr) (cl : List (Str × Addr)) (fp : List Addr), DE (X.blk s H scope (compEnvC scope cl C X.env) fp) W0 elt te we) (hs : ∀ x, foldedSetIterable iter X.env x = pure x := by intro _; rfl) :
    DE X W (.ListComp elt [⟨tg, iter, ifs, 0⟩] scope pos) (tLc wi g tt te (own.map (·.2))) (wLc w wg wt we (own.map (·.2))) := by
  refine ⟨pe_lc hc hN hi.p ok (fun s H C cl fp => (hg s H C cl fp).p) (fun s H C cl fp => (ht s H C cl fp).p) (fun s H C cl fp => (he s H C cl fp).p) hs, ?_⟩
  exact lc_ev gw hi (hg X.s_0 X.H_0 0 [] []).v (ht X.s_0 X.H_0 0 [] []).v (he X.s_0 X.H_0 0 [] []).v
/-- y = [..] -/
theorem s_setLc {i : Nat} {y : Str} {py : Pos} (own : List (Str × Nat)) (hc : X.calm = true) (hN : X.N.Nodup) (gw : GW g (own.map (·.2))) (hi : DI X W tg iter wi w) (ok : BlkOk X.N X.env.scope scope own)
    (hg : ∀ (s : Shared) (H : Hp) (C : Addr) (cl : List (Str × Addr)) (fp : List Addr), DG (X.blk s H scope (compEnvC scope cl C X.env) fp) tg g wg) (ht : ∀ (s : Shared) (H : Hp) (C : Addr) (cl : List (Str × Addr)) (fp : List Addr), DTs (X.blk s H scope (compEnvC scope cl C X.env) fp) W0 ifs tt wt)
    (he : ∀ (s : Shared) (H : Hp) (C : Addr) (cl : List (Str × Addr)) (fp : List Addr), DE (X.blk s H scope (compEnvC scope cl C X.env) fp) W0 elt te we) (hy : X.N[i]? = some y := by rfl) (hyl : X.env.scope.names.lookup y = some .local := by rfl)
    (hsw : swapsWith (.ListComp elt [⟨tg, iter, ifs, 0⟩] scope pos) (some (.Name y py)) spos.line X.env = pure true := by exact sw_true rfl rfl rfl (by decide +kernel)) (hs : ∀ x, foldedSetIterable iter X.env x = pure x := by intro _; rfl) :
    DS X W (.Assign [.Name y py] (.ListComp elt [⟨tg, iter, ifs, 0⟩] scope pos) spos) (tAsg (tLc wi g tt te (own.map (·.2))) (gName i)) (sSet i (wLc w wg wt we (own.map (·.2)))) := by
  refine ⟨ps_setLc (i := i) hc hN hy hyl hsw hi.p ok (fun s H C cl fp => (hg s H C cl fp).p) (fun s H C cl fp => (ht s H C cl fp).p) (fun s H C cl fp => (he s H C cl fp).p) hs, ?_⟩
  intro B env R P Ψ acc z σ F H E s k
  exact lc_ev gw hi (hg X.s_0 X.H_0 0 [] []).v (ht X.s_0 X.H_0 0 [] []).v (he X.s_0 X.H_0 0 [] []).v B env R _ Ψ acc z σ F H s _ fun o R1 v F1 H1 φ s1 x1 eo => k.nx _ R1 _ F1 H1 φ (s1.set i eo)
end
end Tl
/-! The rules: defs, their calls, methods, fields, new instances. -/
namespace Tl
open PySem PySem.Spec PyProof.Rows L2

abbrev FS := List En → List Res → (En → List Res → Prop) → (Er → List Res → Prop) → Prop
/-- a def's promise from what it does to data -/
def spOf (K : PySem.W.Frag) (fs : FS) : Sp := fun vs H Q E => ∃ F os R, Ex F H ∧ ROk K F H R ∧ EnsOk K F os vs ∧
  fs os R (fun o R' => ∀ v F' H', Fin K F H R F' H' R' → EnOk K F' o (some v) → Q v H')
    (fun er R' => ∀ cls d F' H', Fin K F H R F' H' R' → ErOk K F' H' cls d er → (∀ dd, d = some dd → dd ∉ fps R' ∧ H dd = none) → E cls d H')
def startE (n : Nat) (os : List En) : List En := os ++ List.replicate (n - os.length) .no
theorem env_no {K : PySem.W.Frag} {F : Hp} : ∀ n : Nat, EnvOk K F (List.replicate n .no) (List.replicate n none)
  | 0 => rfl
  | n + 1 => ⟨none, List.replicate n none, rfl, trivial, env_no n⟩
theorem env_app {K : PySem.W.Frag} {F : Hp} {env : List En} {σ : L2.St} (h : EnvOk K F env σ) : ∀ {os : List En} {vs : List V}, EnsOk K F os vs → EnvOk K F (os ++ env) (vs.map some ++ σ)
  | [], _, e => by rw [show _ = ([] : List V) from e]; exact h
  | o :: os, _, e => by
    obtain ⟨v, r, rfl, a, b⟩ := e
    exact ⟨some v, _, rfl, a, env_app h b⟩
theorem env_start {K : PySem.W.Frag} {F : Hp} {N : List Str} {os : List En} {vs : List V} (h : EnsOk K F os vs) : EnvOk K F (startE N.length os) (L2.start N vs) := by
  unfold startE L2.start
  rw [h.len]
  exact env_app (env_no _) h

section
variable {P : Program} {w : World} {K : PySem.W.Frag} {mg : Str → Option Value} {base : Heap}
abbrev WF (E : XK) : WX := fun cls d _ H => E cls d H
/-- THE RULE for a def -/
theorem fn_body {x qual : Str} {params : Arguments} {body : List Stmt} {scope : Scope} {dvs : List V} {kws : List (Str × V)} {f : Addr} {fd : FuncData} {N ps : List Str} {k : Nat} {fs : FS}
    (Fd : FunD K x qual params body scope dvs kws f fd) (Sc : FnScope N ps scope) (len : ∀ os R Φ Ψ, fs os R Φ Ψ → os.length = ps.length)
    (hb : ∀ (cdv : Value) (A : Around) (outer : List Env) (s : Shared) (H : Hp) (E : XK), Room k (A.deeper (envOfC qual scope s.heap.objs.size f cdv)) → Tk (cxOf (L2.CX P w) P w K mg base N qual scope f cdv A outer s H E) (WF E) →
      ∃ ts ws, DSs (cxOf (L2.CX P w) P w K mg base N qual scope f cdv A outer s H E) (WF E) body ts ws ∧
        ∀ os R Φ Ψ, fs os R Φ Ψ → ws (startE N.length os) R { nx := fun _ R' => Φ (.val .non) R', rt := Φ } (fun er _ R' => Ψ er R')) :
    FnOk P w K mg base (L2.CX P w) (k + 1) f fd ps (spOf K fs) := by
  refine Fd.ok Sc (fun vs H Q E h => ?_) (fun cdv A outer s H vs Q E hr h => ?_)
  · obtain ⟨F, os, R, _, _, e, h⟩ := h
    rw [e.len, len _ _ _ _ h]
  · obtain ⟨F, os, R, x, r, e, h⟩ := h
    obtain ⟨ts, ws, dd, go⟩ := hb cdv A outer s H E hr ⟨takes_of rfl rfl rfl rfl, passes_of rfl⟩
    refine ⟨ts, dd.p, ?_⟩
    have st : S K ⟨F, H, R⟩ (startE N.length os) R (L2.start N vs) F H := ⟨.same x r, env_start e⟩
    refine dd.v ⟨F, H, R⟩ _ R _ _ (fun er env R' σ F' H' cls d hp s' eo nd => ?_) (go os R _ _ h) _ F H _ st ⟨fun env R' σ F' H' hp s' => ?_, fun o R' v F' H' hp f' eo => ?_, fun env R' σ F' H' hp s' => False.elim hp, fun env R' σ F' H' hp s' => False.elim hp⟩
    · exact hp cls d F' H' s'.fin eo nd
    · exact hp .non F' H' s'.fin ⟨_, rfl, rep_non⟩
    · exact hp v F' H' f' eo
end

/-- a constant's value -/
def lit : D → V
  | .bl b => .bl b
  | .int i => .int i
  | .str z => .str z
  | .ty n => .ty n
  | _ => .non
def isLit : D → Bool
  | .non => true | .bl _ => true | .int _ => true | .str _ => true | .ty _ => true
  | _ => false
theorem lit_ok {K : PySem.W.Frag} {F : Hp} : ∀ {d : D}, isLit d = true → Rep K F d (lit d)
  | .non, _ => rep_non
  | .bl b, _ => rep_bl b
  | .int i, _ => rep_int i
  | .str z, _ => rep_str z
  | .ty n, _ => rep_ty n
  | .tup _, h => nomatch h
  | .lst _, h => nomatch h
  | .obj _ _ _, h => nomatch h
  | .dct _ _, h => nomatch h
  | .glo _, h => nomatch h
theorem lits_ok {K : PySem.W.Frag} {F : Hp} : ∀ {ds : List D}, ds.all isLit = true → EnsOk K F (ds.map En.val) (ds.map lit)
  | [], _ => rfl
  | d :: ds, h => by
    obtain ⟨h1, h2⟩ := Bool.and_eq_true_iff.mp (show (isLit d && ds.all isLit) = true from h)
    exact ⟨lit d, ds.map lit, rfl, ⟨_, rfl, lit_ok h1⟩, lits_ok h2⟩
/-- a def that may be called by its name -/
structure Fx (P : Program) (w : World) (K : PySem.W.Frag) (mg : Str → Option Value) (base : Heap) (k : Nat) (x : Str) (fs : FS) (dv : List D) : Prop where
  ex : ∃ (f : Addr) (fd : FuncData) (ps : List Str) (ds : List Value), FnOk P w K mg base (L2.CX P w) k f fd ps (spOf K fs) ∧ mg x = some (.ref f) ∧ PySem.W.keepIn K (.ref f) = true ∧ Binds K fd ps ds ∧ Vals (dv.map lit) ds
  lit : dv.all isLit = true
/-- a method of the class named c -/
structure Mx (P : Program) (w : World) (K : PySem.W.Frag) (mg : Str → Option Value) (base : Heap) (k : Nat) (c m : Str) (fs : FS) (dv : List D) : Prop where
  ex : ∃ (f : Addr) (fd : FuncData) (ps : List Str) (ds : List Value), Cls K (He.ga K c) ∧ Meth K (He.ga K c) m f ∧ FnOk P w K mg base (L2.CX P w) k f fd ps (spOf K fs) ∧ Binds K fd ps ds ∧ Vals (dv.map Tl.lit) ds
  lit : dv.all isLit = true
/-- a class that may be made; fs: its __init__ -/
structure Cx' (P : Program) (w : World) (K : PySem.W.Frag) (mg : Str → Option Value) (base : Heap) (k : Nat) (c : Str) (fs : FS) (dv : List D) : Prop where
  ex : ∃ (f : Addr) (fd : FuncData) (ps : List Str) (ds : List Value), Mk K (He.ga K c) f ∧ FnOk P w K mg base (L2.CX P w) k f fd ps (spOf K fs) ∧ mg c = some (.ref (He.ga K c)) ∧ Binds K fd ps ds ∧ Vals (dv.map Tl.lit) ds
  lit : dv.all isLit = true

/-- a promise kept: what follows at the caller -/
theorem call_go {K : PySem.W.Frag} {B : Bs} {env : List En} {R : List Res} {σ : L2.St} {F H : Hp} {W : WX} {Ψ : XP} {fs : FS} {os : List En} {vs : List V} {Φ : En → List Res → Prop} {Q : VK} (acc : Acc K B W Ψ) (s : S K B env R σ F H) (e : EnsOk K F os vs)
    (h : fs os R Φ (fun er R2 => Ψ er env R2)) (mono : ∀ os R Φ Φ' Ψ Ψ', (∀ o R, Φ o R → Φ' o R) → (∀ o R, Ψ o R → Ψ' o R) → fs os R Φ Ψ → fs os R Φ' Ψ')
    (q : ∀ o R' v F' H', Φ o R' → S K B env R' σ F' H' → Ex F F' → EnOk K F' o (some v) → Q v H') : spOf K fs vs H Q (L2.WE W σ) :=
  ⟨F, os, R, s.fin.fh, s.fin.rk, e, mono _ _ _ _ _ _ (fun o R' φ v F' H' f eo => q o R' v F' H' φ (s.go f) f.ff eo) (fun er R' φ cls d F' H' f eo nd => acc er env R' σ F' H' cls d φ (s.go f) eo fun dd z => ⟨(nd dd z).1, s.fin.dm dd (nd dd z).2⟩) h⟩
/-- what a promise must bear: more may follow -/
def Mono (fs : FS) : Prop := ∀ os R Φ Φ' Ψ Ψ', (∀ o R, Φ o R → Φ' o R) → (∀ o R, Ψ o R → Ψ' o R) → fs os R Φ Ψ → fs os R Φ' Ψ'

section
variable {X : Cx} {W : WX} {x m c : Str} {k j : Nat} {fs : FS} {dv : List D} {e o : Expr} {es : List Expr} {ts : TA} {wa : WA} {te : TE} {wo : WE} {p pos apos : Pos}
def wCall (fs : FS) (dv : List D) (wa : WA) : WE := fun env R Φ Ψ => wa env R (fun os R1 => fs (os ++ dv.map En.val) R1 Φ fun er R2 => Ψ er env R2) Ψ
theorem call_ev (mo : Mono fs) (hl : dv.all isLit = true) (ha : ∀ B env R Φ Ψ, Acc X.K B W Ψ → wa env R Φ Ψ → EvA X.K B ts env R Φ) (B : Bs) (env : List En) (R : List Res) (Φ : En → List Res → Prop) (Ψ : XP) (acc : Acc X.K B W Ψ) (h : wCall fs dv wa env R Φ Ψ) :
    Ev X.K B (tCallSD (spOf X.K fs) (dv.map lit) (L2.WE W) ts) env R Φ := fun σ F H s Q q => ha B env R _ Ψ acc h σ F H s _ fun os R1 vs F1 H1 φ s1 x1 eo =>
  call_go acc s1 (eo.app (lits_ok hl)) φ mo fun o R2 v F2 H2 φ2 s2 x2 e2 => q o R2 v F2 H2 φ2 s2 (x1.tr x2) e2
theorem d_call (mo : Mono fs) (cc : Fx X.prog X.w X.K X.mg X.base k x fs dv) (hr : Room j X.A) (hk : k ≤ j) (tk : Tk X W) (ha : DA X W (e :: es) ts wa) (hg : Gl X x := by rfl) (hdb : (x == ("__debug__" : Str)) = false := by decide)
    (he : starEach (e :: es) X.env = (false, eval e X.env) :: starEach es X.env := by rfl) (hpl : (backTo pos (starEach es X.env)).any (·.1) = false := by rfl) :
    DE X W (.Call (.Name x p) (e :: es) [] pos) (tCallSD (spOf X.K fs) (dv.map lit) (L2.WE W) ts) (wCall fs dv wa) := by
  obtain ⟨f, fd, ps, ds, F, hm, kp, b, d⟩ := cc.ex
  exact ⟨pe_callSD F (hr.mono hk) hg hm kp b d (fun σ => passAt tk.takes σ) ha.p hdb he hpl, call_ev mo cc.lit ha.v⟩
/-- f() -/
theorem d_call0 (mo : Mono fs) (cc : Fx X.prog X.w X.K X.mg X.base k x fs dv) (hr : Room j X.A) (hk : k ≤ j) (tk : Tk X W) (hg : Gl X x := by rfl) (hdb : (x == ("__debug__" : Str)) = false := by decide) :
    DE X W (.Call (.Name x p) [] [] pos) (tCallSD (spOf X.K fs) (dv.map lit) (L2.WE W) tNil) (wCall fs dv aNil) := by
  obtain ⟨f, fd, ps, ds, F, hm, kp, b, d⟩ := cc.ex
  refine ⟨⟨fun pins s σ H Q I h => ?_⟩, call_ev mo cc.lit a_nil.v⟩
  · exact wpAny_Call_Name_kw (ld_glob I hg hm (PySem.W.callWith_K0 I.kIn kp (run_fnSD (us := []) (vs := []) F (hr.mono hk) b d (passAt tk.takes σ) I .nil h)) hdb)
  where a_nil : DA X W [] tNil aNil := Tl.a_nil

/-! ### methods -/
def tMethSD (C : Addr) (m : Str) (sp : Sp) (dvs : List V) (E : L2.St → XK) (ta : TE) (t : TA) : TE := fun σ H Q => ta σ H fun x H1 => ∃ a dx fs, x = .ref a ∧ H1 a = some (.ins C dx fs) ∧ fs.lookup m = none ∧ t σ H1 fun vs H2 => sp (x :: (vs ++ dvs)) H2 Q (E σ)
def wMeth (c m : Str) (fs : FS) (dv : List D) (wo : WE) (wa : WA) : WE := fun env R Φ Ψ => wo env R (fun o R1 => match o with
  | .val (.obj c' ns ds) => c' = c ∧ m ∉ ns ∧ wa env R1 (fun os R2 => fs (.val (.obj c' ns ds) :: (os ++ dv.map En.val)) R2 Φ fun er R3 => Ψ er env R3) Ψ
  | _ => False) Ψ
theorem lookup_none {m : Str} : ∀ {ns : List Str} {vs : List V}, m ∉ ns → (ns.zip vs).lookup m = none
  | [], _, _ => rfl
  | _ :: _, [], _ => rfl
  | n :: ns, v :: vs, h => by
    have h1 : (m == n) = false := beq_eq_false_iff_ne.mpr fun e => h (by rw [e]; exact List.mem_cons_self)
    show (match m == n with | true => some v | false => (ns.zip vs).lookup m) = none
    rw [h1]
    exact lookup_none fun z => h (List.mem_cons_of_mem _ z)
theorem meth_ev (mo : Mono fs) (hl : dv.all isLit = true) (ho : ∀ B env R Φ Ψ, Acc X.K B W Ψ → wo env R Φ Ψ → Ev X.K B te env R Φ) (ha : ∀ B env R Φ Ψ, Acc X.K B W Ψ → wa env R Φ Ψ → EvA X.K B ts env R Φ) (B : Bs) (env : List En) (R : List Res) (Φ : En → List Res → Prop) (Ψ : XP) (acc : Acc X.K B W Ψ)
    (h : wMeth c m fs dv wo wa env R Φ Ψ) : Ev X.K B (tMethSD (He.ga X.K c) m (spOf X.K fs) (dv.map lit) (L2.WE W) te ts) env R Φ := fun σ F H s Q q => ho B env R _ Ψ acc h σ F H s _ fun o R1 v F1 H1 φ s1 x1 eo => by
  cases o with
  | no => exact False.elim φ
  | adr p => exact False.elim φ
  | val d =>
    cases d with
    | obj c' ns ds =>
      obtain ⟨rfl, nm, φ⟩ := φ
      obtain ⟨u, e, r⟩ := id eo
      cases e
      obtain ⟨a, dx, vs, rfl, fa, _, _, _⟩ := of_obj r
      refine ⟨a, dx, _, rfl, s1.fin.fh _ _ fa, lookup_none nm, ?_⟩
      refine ha B env R1 _ Ψ acc φ σ F1 H1 s1 _ fun os R2 ws F2 H2 φ2 s2 x2 eos => ?_
      exact call_go acc s2 (os := .val (.obj c' ns ds) :: (os ++ dv.map En.val)) ⟨_, _, rfl, eo.up x2, eos.app (lits_ok hl)⟩ φ2 mo fun o R3 v F3 H3 φ3 s3 x3 e3 => q o R3 v F3 H3 φ3 s3 ((x1.tr x2).tr x3) e3
    | _ => exact False.elim φ
theorem d_meth {pl : Sem Bool} (mo : Mono fs) (cc : Mx X.prog X.w X.K X.mg X.base k c m fs dv) (hr : Room j X.A) (hk : k ≤ j) (tk : Tk X W) (ho : DE X W o te wo) (ha : DA X W (e :: es) ts wa)
    (hst : starEach (e :: es) X.env = (false, eval e X.env) :: starEach es X.env := by rfl) (hpl : (backTo pos (starEach es X.env)).any (·.1) = false := by rfl)
    (ht : eval (.Call (.Attribute o m apos) (e :: es) [] pos) X.env = (eval o X.env >>= fun ov => standAt apos.atName >>= fun _ => holding [ov] (getMethod ov m pl) >>= fun q => callWith pos q.1 q.2 (backTo pos (starEach (e :: es) X.env)) (backToKw pos (keywordEach [] X.env))) := by rfl) :
    DE X W (.Call (.Attribute o m apos) (e :: es) [] pos) (tMethSD (He.ga X.K c) m (spOf X.K fs) (dv.map lit) (L2.WE W) te ts) (wMeth c m fs dv wo wa) := by
  obtain ⟨f, fd, ps, ds, hc, hm, F, b, d⟩ := cc.ex
  refine ⟨⟨fun pins s σ H Q I h => ?_⟩, meth_ev mo cc.lit ho.v ha.v⟩
  refine PySem.W.methodCall_KW (pl := pl) (thn (ho.p.run pins s σ H _ I h) fun u s1 hh => ?_) ht
  obtain ⟨y, H1, I1, ry, a, dx, gs, rfl, ea, l, q⟩ := hh
  obtain rfl : u = Value.ref a := ry
  refine getmeth_ok I1 ea hc hm l (PySem.W.callWith_K (first := [.ref a]) (h₀ := X.base) I.ok.mod.kin hm.kp (thn (ha.p.run pos pins s1 σ H1 _ I1 q) fun us s2 hz => ?_) hst hpl)
  obtain ⟨vs, H2, I2, r, q2⟩ := hz
  exact ⟨I2.kIn, run_fnSD (us := .ref a :: us) (vs := .ref a :: vs) F (hr.mono hk) b d (passAt tk.takes σ) I2 (.cons rfl r) q2⟩
theorem d_meth0 {pl : Sem Bool} (mo : Mono fs) (cc : Mx X.prog X.w X.K X.mg X.base k c m fs dv) (hr : Room j X.A) (hk : k ≤ j) (tk : Tk X W) (ho : DE X W o te wo)
    (ht : eval (.Call (.Attribute o m apos) [] [] pos) X.env = (eval o X.env >>= fun ov => standAt apos.atName >>= fun _ => holding [ov] (getMethod ov m pl) >>= fun q => callWith pos q.1 q.2 (backTo pos (starEach [] X.env)) (backToKw pos (keywordEach [] X.env))) := by rfl) :
    DE X W (.Call (.Attribute o m apos) [] [] pos) (tMethSD (He.ga X.K c) m (spOf X.K fs) (dv.map lit) (L2.WE W) te tNil) (wMeth c m fs dv wo aNil) := by
  obtain ⟨f, fd, ps, ds, hc, hm, F, b, d⟩ := cc.ex
  refine ⟨⟨fun pins s σ H Q I h => ?_⟩, meth_ev mo cc.lit ho.v (a_nil (X := X) (W := W)).v⟩
  refine PySem.W.methodCall_KW (pl := pl) (thn (ho.p.run pins s σ H _ I h) fun u s1 hh => ?_) ht
  obtain ⟨y, H1, I1, ry, a, dx, gs, rfl, ea, l, q⟩ := hh
  obtain rfl : u = Value.ref a := ry
  exact getmeth_ok I1 ea hc hm l (PySem.W.callWith_K0 (first := [.ref a]) I1.kIn hm.kp (run_fnSD (us := [.ref a]) (vs := [.ref a]) F (hr.mono hk) b d (passAt tk.takes σ) I1 (.cons rfl .nil) q))

/-! ### fields -/
/-- o.f, o of one of the classes cs -/
structure FldOk (K : PySem.W.Frag) (cs : List Str) (f : Str) : Prop where
  at_ : ∀ c ∈ cs, Cls K (He.ga K c) ∧ NoAttr K (He.ga K c) f
def fldOf (f : Str) : List Str → List D → Option D
  | n :: ns, d :: ds => if n = f then some d else fldOf f ns ds
  | _, _ => none
theorem fldOf_ok {K : PySem.W.Frag} {F : Hp} {f : Str} : ∀ {ns : List Str} {ds : List D} {vs : List V} {d : D}, fldOf f ns ds = some d → RepL K F ds vs → ∃ v, (ns.zip vs).lookup f = some v ∧ Rep K F d v
  | [], _, _, _, h, _ => nomatch h
  | _ :: _, [], _, _, h, _ => nomatch h
  | n :: ns, y :: ds, _, d, h, r => by
    obtain ⟨v, vr, rfl, a, b⟩ := of_repL_cons r
    unfold fldOf at h
    by_cases q : n = f
    · rw [if_pos q] at h
      have e : y = d := Option.some.inj h
      subst e
      refine ⟨v, ?_, a⟩
      show (match f == n with | true => some v | false => (ns.zip vr).lookup f) = some v
      rw [beq_iff_eq.mpr q.symm]
    · rw [if_neg q] at h
      obtain ⟨u, l, ru⟩ := fldOf_ok (f := f) h b
      refine ⟨u, ?_, ru⟩
      show (match f == n with | true => some v | false => (ns.zip vr).lookup f) = some u
      rw [beq_eq_false_iff_ne.mpr fun z => q z.symm]
      exact l
def wFld (cs : List Str) (f : Str) (wo : WE) : WE := fun env R Φ Ψ => wo env R (fun o R1 => match o with
  | .val (.obj c ns ds) => c ∈ cs ∧ ∃ d, fldOf f ns ds = some d ∧ Φ (.val d) R1
  | .adr x => ∃ (k : Nat) (dx : Addr) (c : Str) (ns : List Str) (ds : List D), R1[k]? = some (Res.ins x dx c ns ds) ∧ c ∈ cs ∧ ∃ d, fldOf f ns ds = some d ∧ Φ (.val d) R1
  | _ => False) Ψ
theorem d_fld {cs : List Str} {f : Str} (h : FldOk X.K cs f) (ho : DE X W o te wo) (hb : attributeBase o f X.env (eval o X.env) = eval o X.env := by rfl) : DE X W (.Attribute o f pos) (tFld X.K te f) (wFld cs f wo) := ⟨pe_fld ho.p hb, fun B env R Φ Ψ acc w σ F H s Q q => ho.v B env R _ Ψ acc w σ F H s _ fun o R1 v F1 H1 φ s1 x1 eo => by
  cases o with
  | no => exact False.elim φ
  | adr x =>
    obtain ⟨k, dx, c, ns, ds, g, hc, d, fl, φ⟩ := φ
    obtain ⟨vs, hx, _, _, rl⟩ := s1.fin.rk.ok _ (List.mem_of_getElem? g)
    obtain ⟨u, lu, ru⟩ := fldOf_ok fl rl
    have ev : some v = some (V.ref x) := eo
    cases ev
    exact ⟨x, _, dx, _, u, rfl, hx, (h.at_ c hc).1, (h.at_ c hc).2, lu, q _ R1 u F1 H1 φ s1 x1 ⟨_, rfl, ru⟩⟩
  | val d =>
    cases d with
    | obj c ns ds =>
      obtain ⟨hc, d, fl, φ⟩ := φ
      obtain ⟨u, e, r⟩ := eo
      cases e
      obtain ⟨a, dx, vs, rfl, fa, _, _, rl⟩ := of_obj r
      obtain ⟨u, lu, ru⟩ := fldOf_ok fl rl
      exact ⟨a, _, dx, _, u, rfl, s1.fin.fh _ _ fa, (h.at_ c hc).1, (h.at_ c hc).2, lu, q _ R1 u F1 H1 φ s1 x1 ⟨_, rfl, ru⟩⟩
    | _ => exact False.elim φ⟩
theorem putF_new {f : Str} {y : V} : ∀ {ns : List Str} {vs : List V}, f ∉ ns → ns.length = vs.length → putF f y (ns.zip vs) = (ns ++ [f]).zip (vs ++ [y])
  | [], [], _, _ => rfl
  | [], _ :: _, _, e => nomatch e
  | _ :: _, [], _, e => nomatch e
  | n :: ns, v :: vs, h, e => by
    have h1 : ¬ n = f := fun z => h (by rw [z]; exact List.mem_cons_self)
    show (if n = f then (n, y) :: ns.zip vs else (n, v) :: putF f y (ns.zip vs)) = (n, v) :: (ns ++ [f]).zip (vs ++ [y])
    rw [if_neg h1, putF_new (fun z => h (List.mem_cons_of_mem _ z)) (Nat.succ.inj e)]
/-- self.f = e, in an __init__: a field more -/
def sFldW (cs : List Str) (f : Str) (k : Nat) (wo wv : WE) : WS := fun env R P Ψ => wv env R (fun y R1 => wo env R1 (fun o R2 => match o, y with
  | .adr x, .val d => ∃ (dx : Addr) (c : Str) (ns : List Str) (ds : List D), R2[k]? = some (Res.ins x dx c ns ds) ∧ c ∈ cs ∧ f ∉ ns ∧ ns.length < 100 ∧ P.nx env (R2.set k (.ins x dx c (ns ++ [f]) (ds ++ [d])))
  | _, _ => False) Ψ) Ψ
theorem s_fld {cs : List Str} {f : Str} (k : Nat) {v : Expr} {tv : TE} {wv : WE} {pos' : Pos} (h : FldOk X.K cs f) (ho : DE X W o te wo) (hv : DE X W v tv wv) (hs : swapsWith v (some (.Attribute o f pos')) pos.line X.env = pure false := by rfl) : DS X W (.Assign [.Attribute o f pos'] v pos) (L2.sFld X.K te tv f) (sFldW cs f k wo wv) :=
  ⟨ps_fld ho.p hv.p hs, fun B env R P Ψ acc w σ F H E s kk => hv.v B env R _ Ψ acc w σ F H s _ fun y R1 u F1 H1 φ s1 x1 ey => ho.v B env R1 _ Ψ acc φ σ F1 H1 s1 _ fun o R2 v F2 H2 φ2 s2 x2 eo => by
    cases o with
    | no => exact False.elim φ2
    | val d => exact False.elim φ2
    | adr x =>
      cases y with
      | no => exact False.elim φ2
      | adr p => exact False.elim φ2
      | val d =>
        obtain ⟨dx, c, ns, ds, g, hc, nf, ln, φ2⟩ := φ2
        obtain ⟨vs, hx, hdx, l, rl⟩ := s2.fin.rk.ok _ (List.mem_of_getElem? g)
        have ev : some v = some (V.ref x) := eo
        cases ev
        obtain ⟨u', eu, ru⟩ := ey
        cases eu
        obtain ⟨A, C, e1, _, e3⟩ := split_at g
        rw [e3] at φ2
        have ne : dx ≠ x := by
          intro z
          rw [z, hx] at hdx
          cases hdx
        refine ⟨x, _, dx, _, rfl, hx, (h.at_ c hc).1, (h.at_ c hc).2, ?_, ?_⟩
        · rw [List.length_zip, ← l, Nat.min_self]
          omega
        · rw [putF_new nf l]
          have f2 : Fin X.K F2 H2 R2 F2 (upd H2 x (.ins (He.ga X.K c) dx ((ns ++ [f]).zip (vs ++ [u])))) (A ++ .ins x dx c (ns ++ [f]) (ds ++ [d]) :: C) := by
            subst e1
            refine Fin.mut (r := .ins x dx c ns ds) (s := .ins x dx c (ns ++ [f]) (ds ++ [d])) s2.fin.fh s2.fin.rk rfl (fun a m => upd_ne fun z => m (by rw [z]; exact List.mem_cons_self)) (fun a m => ?_) ⟨vs ++ [u], upd_same, ?_, ?_, ?_⟩
            · rcases List.mem_cons.mp m with z | z
              · rw [z, upd_same]; exact fun q => nomatch q
              · rw [List.mem_singleton.mp z, upd_ne ne, hdx]; exact fun q => nomatch q
            · rw [upd_ne ne]; exact hdx
            · rw [List.length_append, List.length_append, l]; rfl
            · exact rl.app (repL_cons (Rep.up x2 _ _ ru) repL_nil)
          exact kk.nx env _ σ F2 _ φ2 (s2.go f2)⟩

/-! ### new instances -/
/-- an owned instance is settled; an owned thing is let go -/
theorem Fin.frzI {K : PySem.W.Frag} {F H : Hp} {R : List Res} {y dy : Addr} {c : Str} {ns : List Str} {ds : List D} (ex : Ex F H) (k : ROk K F H (.ins y dy c ns ds :: R)) : ∃ F', Fin K F H (.ins y dy c ns ds :: R) F' H R ∧ Rep K F' (.obj c ns ds) (.ref y) := by
  obtain ⟨vs, hy, hdy, l, rl⟩ := k.ok (.ins y dy c ns ds) List.mem_cons_self
  have ne : dy ≠ y := by
    intro z
    rw [z, hy] at hdy
    cases hdy
  have nF : F y = none := k.off y (by simp [fps, Res.fp])
  have nG : F dy = none := k.off dy (by simp [fps, Res.fp])
  have nd : ([y, dy] ++ fps R).Nodup := k.nd
  rw [List.nodup_append] at nd
  obtain ⟨_, ndR, dj⟩ := nd
  have ex2 : Ex F (upd (upd F dy (.own y)) y (.ins (He.ga K c) dy (ns.zip vs))) := (ex_new nG).tr (ex_new (by rw [upd_ne (Ne.symm ne)]; exact nF))
  refine ⟨_, ⟨ex2, fun a u e => ?_, fun a u e _ => e, fun a e => e, fun a e z => ?_, ⟨fun t ht => (k.ok t (List.mem_cons_of_mem _ ht)).stay ex2 fun q _ u e => e, ndR, fun q m => ?_⟩, fun q m => .inl (List.mem_append_right _ m)⟩, ?_⟩
  · by_cases q : a = y
    · rw [q, upd_same] at e
      rw [q, ← e]; exact hy
    · rw [upd_ne q] at e
      by_cases q2 : a = dy
      · rw [q2, upd_same] at e
        rw [q2, ← e]; exact hdy
      · rw [upd_ne q2] at e; exact ex a u e
  · by_cases q : a = y
    · rw [q]; exact .inr (by simp [fps, Res.fp])
    · rw [upd_ne q] at z
      by_cases q2 : a = dy
      · rw [q2]; exact .inr (by simp [fps, Res.fp])
      · rw [upd_ne q2] at z; exact absurd e z
  · rw [upd_ne fun z => dj y (by simp) q m z.symm, upd_ne fun z => dj dy (by simp) q m z.symm]
    exact k.off q (List.mem_append_right _ m)
  · refine mk_obj upd_same ?_ l (RepL.up ex2 _ _ rl)
    rw [upd_ne ne, upd_same]
theorem Fin.drop {K : PySem.W.Frag} {F H : Hp} {R : List Res} {r : Res} (ex : Ex F H) (k : ROk K F H (r :: R)) : Fin K F H (r :: R) F H R :=
  ⟨Ex.rfl, ex, fun a u e _ => e, fun a e => e, fun a e z => absurd e z, ⟨fun t ht => k.ok t (List.mem_cons_of_mem _ ht), (List.nodup_append.mp (show (r.fp ++ fps R).Nodup from k.nd)).2.1, fun q m => k.off q (List.mem_append_right _ m)⟩, fun q m => .inl (List.mem_append_right _ m)⟩
def tMakeSD (C : Addr) (sp : Sp) (dvs : List V) (E : L2.St → XK) (t : TA) : TE := fun σ H Q => t σ H fun vs H1 => ∀ x dx, H1 x = none → H1 dx = none → dx ≠ x →
  sp (.ref x :: (vs ++ dvs)) (upd (upd H1 dx (.own x)) x (.ins C dx [])) (fun v H2 => v = .non ∧ Q (.ref x) H2) (E σ)
def mkPut (x dx : Addr) (c : Str) (k : En → List Res → Prop) (o : En) (R : List Res) : Prop := match o, R with
  | .val .non, .ins y dy c' ns ds :: R3 => y = x ∧ c' = c ∧ k (.val (.obj c ns ds)) R3
  | _, _ => False
def mkErr (k : List Res → Prop) (R : List Res) : Prop := match R with
  | _ :: R3 => k R3
  | [] => False
def wMake (c : Str) (fs : FS) (dv : List D) (wa : WA) : WE := fun env R Φ Ψ => wa env R (fun os R1 => ∀ x dx, fs (.adr x :: (os ++ dv.map En.val)) (.ins x dx c [] [] :: R1) (mkPut x dx c Φ) fun er R2 => mkErr (Ψ er env) R2) Ψ
theorem make_ev (mo : Mono fs) (hl : dv.all isLit = true) (ha : ∀ B env R Φ Ψ, Acc X.K B W Ψ → wa env R Φ Ψ → EvA X.K B ts env R Φ) (B : Bs) (env : List En) (R : List Res) (Φ : En → List Res → Prop) (Ψ : XP) (acc : Acc X.K B W Ψ) (h : wMake c fs dv wa env R Φ Ψ) :
    Ev X.K B (tMakeSD (He.ga X.K c) (spOf X.K fs) (dv.map lit) (L2.WE W) ts) env R Φ := fun σ F H s Q q => ha B env R _ Ψ acc h σ F H s _ fun os R1 vs F1 H1 φ s1 x1 eo y dy ny ndy ne => by
  have nH : ∀ a o, H1 a = some o → a ≠ y ∧ a ≠ dy := fun a o e => ⟨ne_of_none e ny, ne_of_none e ndy⟩
  have f0 : Fin X.K F1 H1 R1 F1 (upd (upd H1 dy (.own y)) y (.ins (He.ga X.K c) dy [])) (.ins y dy c [] [] :: R1) := by
    refine Fin.newR (s := .ins y dy c [] []) s1.fin.fh s1.fin.rk (fun a o e => ?_) (fun a m => ?_) (fun a e => ?_) ?_ ⟨[], upd_same, ?_, rfl, repL_nil⟩
    · rw [upd_ne (nH a o e).1, upd_ne (nH a o e).2]; exact e
    · rcases List.mem_cons.mp m with z | z
      · rw [z]; exact ny
      · rw [List.mem_singleton.mp z]; exact ndy
    · by_cases z : a = y
      · rw [z]; exact ny
      · rw [upd_ne z] at e
        by_cases z2 : a = dy
        · rw [z2]; exact ndy
        · rw [upd_ne z2] at e; exact e
    · show [y, dy].Nodup
      simp only [List.nodup_cons, List.mem_singleton, List.not_mem_nil, not_false_eq_true, List.nodup_nil, and_true]
      exact Ne.symm ne
    · rw [upd_ne ne, upd_same]
  have s2 := s1.go f0
  refine ⟨F1, .adr y :: (os ++ dv.map En.val), .ins y dy c [] [] :: R1, s2.fin.fh, s2.fin.rk, ⟨_, _, rfl, rfl, eo.app (lits_ok hl)⟩, mo _ _ _ _ _ _ (fun o R' φ v F' H' f eo' => ?_) (fun er R' φ cls d F' H' f eo' nd => ?_) (φ y dy)⟩
  · unfold mkPut at φ
    split at φ
    · rename_i y' dy' c' ns ds R3
      obtain ⟨rfl, rfl, φ⟩ := φ
      obtain ⟨u, e, r⟩ := eo'
      cases e
      refine ⟨of_non r, ?_⟩
      have s3 := s2.go f
      obtain ⟨F4, f4, r4⟩ := Fin.frzI s3.fin.fh s3.fin.rk
      exact q _ R3 _ F4 H' φ (s3.go f4) ((x1.tr f.ff).tr f4.ff) ⟨_, rfl, r4⟩
    · exact False.elim φ
  · unfold mkErr at φ
    split at φ
    · rename_i r R3
      have s3 := s2.go f
      refine acc er env R3 σ F' H' cls d φ (s3.go (Fin.drop s3.fin.fh s3.fin.rk)) eo' fun dd z => ⟨fun m => (nd dd z).1 (List.mem_append_right _ m), s2.fin.dm dd (nd dd z).2⟩
    · exact False.elim φ
theorem run_makeS {f : Addr} {fd : FuncData} {ps : List Str} {sp : Sp} {dvs : List V} {ds : List Value} {C : Addr} {E : L2.St → XK} {pins : List (Addr × Obj)} {σ : L2.St} {H : Hp} {s : Shared} {Q : VK} {us : List Value} {vs : List V} (M : Mk X.K C f)
    (F : FnOk X.prog X.w X.K X.mg X.base (L2.CX X.prog X.w) k f fd ps sp) (hr : Room (k + 1) X.A) (hb : Binds X.K fd ps ds) (hd : Vals dvs ds) (hx : PassesAt (L2.CX X.prog X.w) X σ (E σ)) (I : Inv X pins σ H s) (r : Vals vs us)
    (h : ∀ x dx, H x = none → H dx = none → dx ≠ x → sp (.ref x :: (vs ++ dvs)) (upd (upd H dx (.own x)) x (.ins C dx [])) (fun v H2 => v = .non ∧ Q (.ref x) H2) (E σ)) : wpAny (model X.prog X.w) X.A (call (.ref C) us) (EP X pins σ Q) X.xe s := by
  have want := h (s.heap.objs.size + 1) s.heap.objs.size (I.hok.fresh (Nat.le_succ _)) (I.hok.fresh (Nat.le_refl _)) (Nat.ne_of_lt (Nat.lt_succ_self _))
  have J := Inv.made (C := C) I
  have rr : Vals (V.ref (s.heap.objs.size + 1) :: (vs ++ dvs)) (Value.ref (s.heap.objs.size + 1) :: (us ++ ds)) := .cons rfl (r.append hd)
  have ln : (Value.ref (s.heap.objs.size + 1) :: us ++ ds).length = ps.length := by
    have z := rr.length
    rw [F.len _ _ _ _ want] at z
    exact z.symm
  have run := F.run _ X.stack _ _ ⟨Value.ref (s.heap.objs.size + 1) :: us, []⟩ (Value.ref (s.heap.objs.size + 1) :: (us ++ ds)) _ _ (E σ) (hr.make C us []) (J.env0.make C us []) (hb _ (Value.ref (s.heap.objs.size + 1) :: us) J.kIn ln) rr want
  refine wpAny_call (make_map (f := f) I.kIn M.makes M.init (beq_iff_eq.mp M.fn) (codeAny_mono run fun res s' got => ?_))
  cases res with
  | error e => exact hx pins _ _ e s' J got
  | ok fl =>
    cases fl with
    | ret u =>
      obtain ⟨v, H', J', rv, ev, q⟩ := J.after got
      subst ev
      exact ⟨rv, V.ref (s.heap.objs.size + 1), H', J', rfl, q⟩
    | next => exact False.elim got
    | brk => exact False.elim got
    | cont => exact False.elim got
theorem d_make (mo : Mono fs) (cc : Cx' X.prog X.w X.K X.mg X.base k c fs dv) (hr : Room j X.A) (hk : k + 1 ≤ j) (tk : Tk X W) (ha : DA X W (e :: es) ts wa) (hg : Gl X c := by rfl) (hdb : (c == ("__debug__" : Str)) = false := by decide)
    (he : starEach (e :: es) X.env = (false, eval e X.env) :: starEach es X.env := by rfl) (hpl : (backTo pos (starEach es X.env)).any (·.1) = false := by rfl) :
    DE X W (.Call (.Name c p) (e :: es) [] pos) (tMakeSD (He.ga X.K c) (spOf X.K fs) (dv.map lit) (L2.WE W) ts) (wMake c fs dv wa) := by
  obtain ⟨f, fd, ps, ds, M, F, hm, b, d⟩ := cc.ex
  refine ⟨⟨fun pins s σ H Q I h => ?_⟩, make_ev mo cc.lit ha.v⟩
  refine wpAny_Call_Name_kw (ld_glob I hg hm (PySem.W.callWith_K (h₀ := X.base) I.ok.mod.kin M.kp (thn (ha.p.run pos pins s σ H _ I h) fun us s1 hz => ?_) he hpl) hdb)
  obtain ⟨vs, H1, I1, r, q⟩ := hz
  exact ⟨I1.kIn, run_makeS M F (hr.mono hk) b d (passAt tk.takes σ) I1 r q⟩
theorem d_make0 (mo : Mono fs) (cc : Cx' X.prog X.w X.K X.mg X.base k c fs dv) (hr : Room j X.A) (hk : k + 1 ≤ j) (tk : Tk X W) (hg : Gl X c := by rfl) (hdb : (c == ("__debug__" : Str)) = false := by decide) :
    DE X W (.Call (.Name c p) [] [] pos) (tMakeSD (He.ga X.K c) (spOf X.K fs) (dv.map lit) (L2.WE W) tNil) (wMake c fs dv aNil) := by
  obtain ⟨f, fd, ps, ds, M, F, hm, b, d⟩ := cc.ex
  refine ⟨⟨fun pins s σ H Q I h => ?_⟩, make_ev mo cc.lit (a_nil (X := X) (W := W)).v⟩
  exact wpAny_Call_Name_kw (ld_glob I hg hm (PySem.W.callWith_K0 I.kIn M.kp (run_makeS (us := []) (vs := []) M F (hr.mono hk) b d (passAt tk.takes σ) I .nil h)) hdb)
end
theorem tk_blk {X : Cx} {s : Shared} {H : Hp} {scope : Scope} {ce : Env} {fp : List Addr} : Tk (X.blk s H scope ce fp) W0 := ⟨takes0, PassesOwn.never⟩
end Tl
/-! Operators by own methods. -/
namespace Own
open PySem PySem.W PySem.Spec PySem.Calls PyProof.Rows
section
variable {M : Model} {h : Heap} {K : Frag} {C f : Addr} {cd : ClassData} {r : List Value} {nm : String} {A : Around} {E : Value → Shared → Prop} {s : Shared} {x : Addr} {ox : Obj} {od : Option Obj}
theorem looks_fills (X : K.In h) (hc : clsIn K C = some cd) (hm : cd.mro = .ref C :: r) (hf : findIn K (.ref C) (PySem.dunder nm) = some (some (.ref f))) : Looks M h (fillsNumberSlot (.ref C) nm) true := by
  intro A Q E s k q
  unfold fillsNumberSlot
  have lm : Looks M h (mroOf (.ref C)) cd.mro := (looks_clsIn X hc).andThen .now
  have lf := looks_findIn (M := M) X hf
  refine wpAny_bind (lm A _ E s k ?_)
  rw [hm]
  simp only [List.anyM_cons]
  refine wpAny_bind (wpAny_bind (wpAny_bind (lf A _ E s k ?_)))
  exact wpAny_pure (wpAny_pure (wpAny_pure q))
/-- a method's value is never NotImplemented -/
def Back (Q : Value → Shared → Prop) (v : Value) (s' : Shared) : Prop := v ≠ .notImplemented ∧ Q v s'
theorem try_own {name : Str} {b : Value} {Q : Option Value → Shared → Prop} (X : K.In s.heap) (I : InstAt s.heap x ox C od) (hs : findIn K (.ref C) name = some (some (.ref f))) (hf : isFn K (.ref f) = true)
    (hq : wpAny M A (call (.ref f) [.ref x, b]) (Back fun v => Q (some v)) E s) : wpAny M A (tryMethod (.ref x) name b) Q E s := by
  unfold tryMethod
  refine wpAny_bind (special_fn X I hs (beq_iff_eq.mp hf) (wpAny_mono hq (fun v s' z => ?_) fun _ _ z => z))
  obtain ⟨n, z⟩ := z
  cases v <;> first | exact absurd rfl n | exact wpAny_pure z
theorem bin_of {op : Operator} {a b : Value} {Q : Value → Shared → Prop} (hq : wpAny M A (binaryOp1 op.info.2 a b) (fun o s' => ∃ v, o = some v ∧ Q v s') E s) : wpAny M A (binaryOp op a b) Q E s := by
  unfold binaryOp
  refine wpAny_holding (wpAny_bind (wpAny_mono hq (fun o s' z => ?_) fun _ _ z => z))
  obtain ⟨v, rfl, z⟩ := z
  exact wpAny_pure z
/-- x op y, both of the class -/
theorem bin_same {y : Addr} {oy : Obj} {oe : Option Obj} {Q : Option Value → Shared → Prop} (X : K.In s.heap) (hc : clsIn K C = some cd) (hm : cd.mro = .ref C :: r) (I : InstAt s.heap x ox C od) (J : InstAt s.heap y oy C oe)
    (hs : findIn K (.ref C) (PySem.dunder nm) = some (some (.ref f))) (hf : isFn K (.ref f) = true) (hq : wpAny M A (call (.ref f) [.ref x, .ref y]) (Back fun v => Q (some v)) E s) : wpAny M A (binaryOp1 nm (.ref x) (.ref y)) Q E s := by
  unfold binaryOp1
  refine wpAny_bind (I.type.here (wpAny_bind (J.type.here (wpAny_bind ((looks_fills X hc hm hs).here ?_)))))
  simp only [beq_self_eq_true, if_true, pure_bind, Bool.and_false, Bool.false_eq_true, if_false, Bool.false_and]
  refine wpAny_bind (try_own X I hs hf (wpAny_mono hq (fun v s' z => ⟨z.1, ?_⟩) fun _ _ z => z))
  exact wpAny_pure z.2
/-- x op v, v of a built-in type without the slot -/
theorem bin_left {v : Value} {T : String} {Q : Option Value → Shared → Prop} (X : K.In s.heap) (hc : clsIn K C = some cd) (hm : cd.mro = .ref C :: r) (I : InstAt s.heap x ox C od) (hT : s.TypeIs v T) (hn : fillsNumberSlot (.type T) nm = pure false)
    (hs : findIn K (.ref C) (PySem.dunder nm) = some (some (.ref f))) (hf : isFn K (.ref f) = true) (hq : wpAny M A (call (.ref f) [.ref x, v]) (Back fun v => Q (some v)) E s) : wpAny M A (binaryOp1 nm (.ref x) v) Q E s := by
  unfold binaryOp1
  refine wpAny_bind (I.type.here (wpAny_bind (wpAny_typeOf hT (wpAny_bind ((looks_fills X hc hm hs).here ?_)))))
  rw [hn]
  simp only [show (Value.ref C == Value.type T) = false from rfl, if_true, pure_bind, Bool.and_false, Bool.false_eq_true, if_false, Bool.false_and]
  refine wpAny_bind (try_own X I hs hf (wpAny_mono hq (fun v s' z => ⟨z.1, ?_⟩) fun _ _ z => z))
  exact wpAny_pure z.2
/-- v op x, v of a built-in type without the slot -/
theorem bin_right {v : Value} {T : String} {g : Addr} {Q : Option Value → Shared → Prop} (X : K.In s.heap) (hc : clsIn K C = some cd) (hm : cd.mro = .ref C :: r) (I : InstAt s.heap x ox C od) (hT : s.TypeIs v T) (hn : fillsNumberSlot (.type T) nm = pure false)
    (hs : findIn K (.ref C) (PySem.dunder nm) = some (some (.ref g))) (hr : findIn K (.ref C) (dunderR nm) = some (some (.ref f))) (hf : isFn K (.ref f) = true) (hq : wpAny M A (call (.ref f) [.ref x, v]) (Back fun v => Q (some v)) E s) : wpAny M A (binaryOp1 nm v (.ref x)) Q E s := by
  unfold binaryOp1
  refine wpAny_bind (wpAny_typeOf hT (wpAny_bind (I.type.here ?_)))
  rw [hn]
  simp only [show (Value.type T == Value.ref C) = false from rfl, pure_bind, Bool.false_eq_true, if_false, Bool.false_and]
  refine wpAny_bind ((looks_fills X hc hm hs).here ?_)
  simp only [Bool.not_false, Bool.and_self, if_true]
  refine wpAny_bind (try_own X I hr hf (wpAny_mono hq (fun v s' z => ⟨z.1, ?_⟩) fun _ _ z => z))
  exact wpAny_bind (wpAny_rule (wpAny_pure z.2))
/-- op x -/
theorem un_own {op : UnaryOp} {name : Str} {Q : Value → Shared → Prop} (X : K.In s.heap) (I : InstAt s.heap x ox C od) (hs : findIn K (.ref C) name = some (some (.ref f))) (hf : isFn K (.ref f) = true) (ho : op = .Invert) (hn : name = "__invert__")
    (hq : wpAny M A (call (.ref f) [.ref x]) Q E s) : wpAny M A (unaryOp op (.ref x)) Q E s := by
  subst ho
  subst hn
  unfold unaryOp
  refine wpAny_holding ?_
  show wpAny M A (do match ← callSpecial? (.ref x) "__invert__" with | some r => pure r | none => raiseError "TypeError" s!"bad operand type for unary {"~"}: '{← typeNameOf (.ref x)}'") Q E s
  exact wpAny_bind (special_fn X I hs (beq_iff_eq.mp hf) (wpAny_mono hq (fun v s' z => wpAny_pure z) fun _ _ z => z))
/-- v in x, v not in x -/
def InBack (Q : Bool → Shared → Prop) (v : Value) (s' : Shared) : Prop := ∃ b, v = .bool b ∧ Q b s'
theorem in_own {b : Value} {Q : Bool → Shared → Prop} (X : K.In s.heap) (I : InstAt s.heap x ox C od) (hs : findIn K (.ref C) "__contains__" = some (some (.ref f))) (hf : isFn K (.ref f) = true)
    (hq : wpAny M A (call (.ref f) [.ref x, b]) (InBack Q) E s) : wpAny M A (contains (.ref x) b) Q E s := by
  have lf := looks_findIn (M := M) X hs
  unfold contains
  have hn : stdlibNamesSay? (Value.ref x) b = none := rfl
  rw [hn]
  refine wpAny_holding (wpAny_bind (wpAny_bind (I.type.here (lf.here ?_))))
  rw [if_neg (by simp)]
  refine wpAny_bind ?_
  unfold callSpecialUnlessNone?
  refine wpAny_bind (wpAny_bind (I.type.here (lf.here ?_)))
  refine wpAny_holding (wpAny_bind ((bind_fn X _ (beq_iff_eq.mp hf)).here ?_))
  dsimp only
  rw [if_neg (by simp)]
  refine wpAny_bind (wpAny_mono hq (fun v s' z => ?_) fun _ _ z => z)
  obtain ⟨k, rfl, z⟩ := z
  exact wpAny_pure (wpAny_truthy_bool z)
/-- x op v by an own comparison -/
theorem cmp_own {prog : Program} {w : World} {op : CmpOp} {b tb : Value} {Q : Value → Shared → Prop} (hu : A.units < cLine) (X : K.In s.heap) (I : InstAt s.heap x ox C od) (hb : Looks (model prog w) s.heap (typeOf b) tb) (hn : tb = .ref C ∨ subIn K tb (.ref C) = some false)
    (hs : findIn K (.ref C) (cmpInfo op).2.1 = some (some (.ref f))) (hf : isFn K (.ref f) = true) (hq : wpAny (model prog w) A (call (.ref f) [.ref x, b]) (Back Q) E s) : wpAny (model prog w) A (richCompare op (.ref x) b) Q E s := by
  have one : wpAny (model prog w) A (tryCompare (.ref x) (cmpInfo op).2.1 b) (fun o s' => ∃ v, o = some v ∧ Q v s') E s := by
    unfold tryCompare
    refine wpAny_bind (ifBound_K X I hs hf (wpAny_mono hq (fun v s' z => ?_) fun _ _ z => z))
    obtain ⟨n, z⟩ := z
    cases v <;> first | exact absurd rfl n | exact wpAny_pure ⟨_, rfl, z⟩
  have go : ∀ {t : Sem Value}, wpAny (model prog w) A (tryCompare (.ref x) (cmpInfo op).2.1 b >>= fun o => match o with | some v => pure v | _ => t) Q E s := fun {t} => by
    refine wpAny_bind (wpAny_mono one (fun o s' z => ?_) fun _ _ z => z)
    obtain ⟨v, rfl, z⟩ := z
    exact wpAny_pure z
  unfold richCompare
  simp only [oneThing_ref]
  refine wpAny_holding (wpAny_bind (wpAny_cRoomFor hu (wpAny_bind (I.type.here (wpAny_bind (hb.here ?_))))))
  rcases hn with rfl | e
  · simp only [bne_self_eq_false, Bool.false_eq_true, if_false, pure_bind]
    exact go
  · split
    · refine wpAny_bind ((looks_subIn X e).here ?_)
      simp only [Bool.false_eq_true, if_false]
      exact go
    · refine wpAny_bind (wpAny_pure ?_)
      simp only [Bool.false_eq_true, if_false]
      exact go
/-- the truth of x -/
theorem true_own {Q : Bool → Shared → Prop} (X : K.In s.heap) (I : InstAt s.heap x ox C od) (hs : findIn K (.ref C) "__bool__" = some (some (.ref f))) (hf : isFn K (.ref f) = true)
    (hq : wpAny M A (call (.ref f) [.ref x]) (InBack Q) E s) : wpAny M A (truthy (.ref x)) Q E s := by
  unfold truthy
  refine wpAny_bind (m := callSpecial? (.ref x) (Str.ofString "__bool__")) (special_fn X I hs (beq_iff_eq.mp hf) (wpAny_mono hq (fun v s' z => ?_) fun _ _ z => z))
  obtain ⟨k, rfl, z⟩ := z
  exact wpAny_pure z
/-- x op= v where no in-place method is there -/
theorem aug_own {op : Operator} {b : Value} {Q : Value → Shared → Prop} (X : K.In s.heap) (I : InstAt s.heap x ox C od) (hi : Looks M s.heap (fillsInplaceSlot (.ref C) op.info.2 (op == .Add)) false)
    (hq : wpAny M A (binaryOp1 op.info.2 (.ref x) b) (fun o s' => ∃ v, o = some v ∧ Q v s') E s) : wpAny M A (inplaceOp op (.ref x) b) Q E s := by
  unfold inplaceOp
  refine wpAny_holding (wpAny_bind (I.type.here (wpAny_bind (hi.here ?_))))
  simp only [Bool.false_eq_true, if_false]
  refine wpAny_bind (wpAny_mono hq (fun o s' z => ?_) fun _ _ z => z)
  obtain ⟨v, rfl, z⟩ := z
  exact wpAny_pure z
theorem no_inplace {add : Bool} (X : K.In h) (hc : clsIn K C = some cd) (hm : cd.mro = [.ref C, .type "object"]) (hf : findIn K (.ref C) (dunderI nm) = some none) (ho : typeLookup (.type "object") (dunderI nm) = pure none) : Looks M h (fillsInplaceSlot (.ref C) nm add) false := by
  intro A Q E s k q
  have lm : Looks M h (mroOf (.ref C)) cd.mro := (looks_clsIn X hc).andThen .now
  have lf := looks_findIn (M := M) X hf
  unfold fillsInplaceSlot
  refine wpAny_bind (lm A _ E s k ?_)
  rw [hm]
  simp only [List.anyM_cons, List.anyM_nil]
  refine wpAny_bind (wpAny_bind (lf A _ E s k (wpAny_pure ?_)))
  simp only [Bool.false_eq_true, if_false]
  refine wpAny_bind (wpAny_bind ?_)
  rw [ho]
  refine wpAny_pure (wpAny_pure ?_)
  exact wpAny_pure q
end
theorem or_str : fillsNumberSlot (.type "str") "or" = pure false := by
  unfold fillsNumberSlot
  simp only [typeLookup_type, builtinLookup_eq_fast]
  kernel_rfl
theorem and_str : fillsNumberSlot (.type "str") "and" = pure false := by
  unfold fillsNumberSlot
  simp only [typeLookup_type, builtinLookup_eq_fast]
  kernel_rfl
theorem sub_str : fillsNumberSlot (.type "str") "sub" = pure false := by
  unfold fillsNumberSlot
  simp only [typeLookup_type, builtinLookup_eq_fast]
  kernel_rfl
theorem ior_obj : typeLookup (.type "object") (dunderI "or") = pure none := by
  simp only [typeLookup_type, builtinLookup_eq_fast]
  kernel_rfl
end Own
/-! The rules: operators by own methods. -/
namespace Own
open PySem PySem.W PySem.Spec PySem.Calls PyProof.Rows
section
variable {prog : Program} {w : World} {K : Frag} {C f : Addr} {A : Around} {E : Value → Shared → Prop} {s : Shared} {x : Addr} {ox : Obj} {od : Option Obj}
/-- len(x) -/
def LenIs (Q : Value → Shared → Prop) (v : Value) (s' : Shared) : Prop := ∃ n t, v = .int n t ∧ 0 ≤ n ∧ n < 2 ^ 63 ∧ ∀ t', Q (.int n t') { s' with toks := s'.toks + 1 }
theorem len_own {Q : Value → Shared → Prop} (X : K.In s.heap) (I : InstAt s.heap x ox C od) (hs : findIn K (.ref C) "__len__" = some (some (.ref f))) (hf : isFn K (.ref f) = true)
    (hq : wpAny (model prog w) A.in1 (call (.ref f) [.ref x]) (LenIs Q) E s) : wpAny (model prog w) A (call (.builtin "len") [.ref x]) Q E s := by
  refine Calls.call_function_entry kind_len plain_len entry_len (args_len1 _) ?_
  unfold Builtin.«len»
  refine wpAny_bind (m := oneArg "len" _) (wpAny_pure (wpAny_bind (m := callSpecial? (.ref x) (Str.ofString "__len__")) (special_fn X I hs (beq_iff_eq.mp hf) (wpAny_mono hq (fun v s' z => ?_) fun _ _ z => z))))
  obtain ⟨n, t, rfl, h0, h1, z⟩ := z
  refine wpAny_bind (wpAny_holding (wpAny_pure (wpAny_bind (wpAny_letGo ?_))))
  show wpAny _ _ (if n < 0 then _ else _) _ _ _
  rw [if_neg (by omega)]
  show wpAny _ _ (if n ≥ 2 ^ 63 then _ else _) _ _ _
  rw [if_neg (by omega)]
  exact wpAny_bind (wpAny_mkInt (wpAny_pure ⟨_, rfl, z _⟩))
/-- bool(x) -/
theorem bool_new : MeetsIn prog w (Builtin.«bool.__new__» ⟨[.type "bool", .ref x], []⟩) (fun B R s => ∃ (ox : Obj) (od : Option Obj), K.In s.heap ∧ InstAt s.heap x ox C od ∧ findIn K (.ref C) "__bool__" = some (some (.ref f)) ∧ isFn K (.ref f) = true ∧
    wpAny (model prog w) B.in1 (call (.ref f) [.ref x]) (InBack fun b s' => R (.ok (.ret (.bool b))) s') (fun e s' => R (.error e) s') s) :=
  .of_wp fun B R s hs => by
    obtain ⟨ox, od, X, I, h1, h2, hq⟩ := hs
    have f1 := F.conv_sub_bool
    obtain ⟨hp, g, d, tk, os⟩ := s
    repeat (first | (with_reducible refine true_own X I h1 h2 (wpAny_mono hq (fun v s' z => ?_) fun _ _ z => z)) | wp_step)
    obtain ⟨b, rfl, z⟩ := z
    refine ⟨b, rfl, ?_⟩
    repeat wp_step
    all_goals first | exact ⟨_, rfl, z⟩ | exact z | skip
theorem bool_own {Q : Value → Shared → Prop} (X : K.In s.heap) (I : InstAt s.heap x ox C od) (hs : findIn K (.ref C) "__bool__" = some (some (.ref f))) (hf : isFn K (.ref f) = true)
    (hq : wpAny (model prog w) A.in1.in1 (call (.ref f) [.ref x]) (InBack fun b s' => Q (.bool b) s') E s) : wpAny (model prog w) A (call (.type "bool") [.ref x]) Q E s :=
  callType_newIn F.called_bool F.newNe_bool (F.typeCall_bool_1 (.ref x)) (F.newCall_bool_1 (.ref x)) (fun obj => F.args_object_init_2 obj (.ref x)) F.entry_bool_new (bool_new (K := K) (C := C) (f := f)) ⟨ox, od, X, I, hs, hf, wpAny_mono hq (fun v s' z => by
    obtain ⟨b, rfl, z⟩ := z
    exact ⟨b, rfl, rfl, z⟩) fun _ _ z => z⟩
end
end Own
namespace Tl
open PySem PySem.Spec PyProof.Rows L2
section
variable {X : Cx} {W : WX} {k j : Nat} {c m mr : Str} {fs fr : FS} {dv : List D} {e a b o : Expr} {te ta tb : TE} {wo wa wb : WE} {pos : Pos}
/-- a promise kept at any room around -/
theorem run_at {A : Around} {f : Addr} {fd : FuncData} {ps : List Str} {sp : Sp} {pins : List (Addr × Obj)} {σ : L2.St} {H : Hp} {s : Shared} {Q : VK} {us : List Value} {vs : List V} (F : FnOk X.prog X.w X.K X.mg X.base (L2.CX X.prog X.w) k f fd ps sp) (hr : Room k A)
    (e0 : Env0 X.prog X.w X.K X.mg X.base A X.stack s H) (hb : Binds X.K fd ps []) (tk : Tk X W) (I : Inv X pins σ H s) (r : Vals vs us) (h : sp vs H Q (L2.WE W σ)) : wpAny (model X.prog X.w) A (call (.ref f) us) (EP X pins σ Q) X.xe s := by
  have ln : (us ++ []).length = ps.length := by
    rw [List.append_nil, ← r.length]
    exact F.len _ _ _ _ h
  have bb := hb s us I.kIn ln
  rw [List.append_nil] at bb
  refine wpAny_call (codeAny_mono (F.run A X.stack s H ⟨us, []⟩ us vs Q (L2.WE W σ) hr e0 bb r h) fun res s' got => ?_)
  cases res with
  | error z => exact passAt tk.takes σ pins H s z s' I got
  | ok fl =>
    cases fl with
    | ret u => exact I.after got
    | next => exact False.elim got
    | brk => exact False.elim got
    | cont => exact False.elim got
theorem ep_back {pins : List (Addr × Obj)} {σ : L2.St} {Q : VK} {u : Value} {s : Shared} (h : EP X pins σ Q u s) : Own.Back (EP X pins σ Q) u s := by
  refine ⟨fun z => ?_, h⟩
  obtain ⟨v, H', I, r, q⟩ := h
  subst z
  cases v with
  | non => cases (show Value.notImplemented = Value.none from r)
  | bl i => cases (show Value.notImplemented = Value.bool i from r)
  | int i => obtain ⟨t, z⟩ := (show ∃ t, Value.notImplemented = Value.int i t from r); cases z
  | str i => obtain ⟨t, z⟩ := (show ∃ t, Value.notImplemented = Value.str i t from r); cases z
  | byt i => obtain ⟨t, z⟩ := (show ∃ t, Value.notImplemented = Value.bytes i t from r); cases z
  | flt i => obtain ⟨t, z⟩ := (show ∃ t, Value.notImplemented = Value.float i t from r); cases z
  | ref i => cases (show Value.notImplemented = Value.ref i from r)
  | ty i => cases (show Value.notImplemented = Value.type i from r)
theorem inst_of {pins : List (Addr × Obj)} {σ : L2.St} {H : Hp} {s : Shared} {p C dx : Addr} {gs : List (Str × V)} (I : Inv X pins σ H s) (h : H p = some (.ins C dx gs)) : ∃ od, PySem.W.InstAt s.heap p (PySem.W.instObj C dx) C (some od) := by
  obtain ⟨mA, O, _⟩ := ins_get I.hok h
  obtain ⟨od, J, _⟩ := O.look
  exact ⟨od, J⟩
/-- a class directly under object -/
structure Top1 (K : PySem.W.Frag) (c : Str) : Prop where
  ex : ∃ cd, PySem.W.clsIn K (He.ga K c) = some cd ∧ cd.mro = [.ref (He.ga K c), .type "object"]
def tOwn2 (C : Addr) (spl spr : Sp) (E : L2.St → XK) (ta tb : TE) : TE := fun σ H Q => ta σ H fun x H1 => tb σ H1 fun y H2 =>
  (∃ p dx gs, x = .ref p ∧ H2 p = some (.ins C dx gs) ∧ ((∃ q dy hs, y = .ref q ∧ H2 q = some (.ins C dy hs)) ∨ ∃ z, y = .str z) ∧ spl [x, y] H2 Q (E σ)) ∨
  (∃ z q dy hs, x = .str z ∧ y = .ref q ∧ H2 q = some (.ins C dy hs) ∧ spr [y, x] H2 Q (E σ))
def kOwn2 (c : Str) (fl fr : FS) (x y : En) (R : List Res) (Φ : En → List Res → Prop) (Ψ : Er → List Res → Prop) : Prop := match x, y with
  | .val (.obj c1 n1 d1), .val (.obj c2 n2 d2) => c1 = c ∧ c2 = c ∧ fl [.val (.obj c1 n1 d1), .val (.obj c2 n2 d2)] R Φ Ψ
  | .val (.obj c1 n1 d1), .val (.str z) => c1 = c ∧ fl [.val (.obj c1 n1 d1), .val (.str z)] R Φ Ψ
  | .val (.str z), .val (.obj c2 n2 d2) => c2 = c ∧ fr [.val (.obj c2 n2 d2), .val (.str z)] R Φ Ψ
  | _, _ => False
def wOwn2 (c : Str) (fl fr : FS) (wa wb : WE) : WE := fun env R Φ Ψ => wa env R (fun x R1 => wb env R1 (fun y R2 => kOwn2 c fl fr x y R2 Φ fun er R3 => Ψ er env R3) Ψ) Ψ
theorem ens2 {K : PySem.W.Frag} {F : Hp} {x y : En} {v u : V} (h : EnOk K F x (some v)) (g : EnOk K F y (some u)) : EnsOk K F [x, y] [v, u] := ⟨v, [u], rfl, h, u, [], rfl, g, rfl⟩
theorem own2_ev (mo : Mono fs) (mo2 : Mono fr) (ha : ∀ B env R Φ Ψ, Acc X.K B W Ψ → wa env R Φ Ψ → Ev X.K B ta env R Φ) (hb : ∀ B env R Φ Ψ, Acc X.K B W Ψ → wb env R Φ Ψ → Ev X.K B tb env R Φ)
    (B : Bs) (env : List En) (R : List Res) (Φ : En → List Res → Prop) (Ψ : XP) (acc : Acc X.K B W Ψ) (h : wOwn2 c fs fr wa wb env R Φ Ψ) : Ev X.K B (tOwn2 (He.ga X.K c) (spOf X.K fs) (spOf X.K fr) (L2.WE W) ta tb) env R Φ := fun σ F H s Q q => by
  refine ha B env R _ Ψ acc h σ F H s _ fun x R1 v F1 H1 φ1 s1 x1 e1 => hb B env R1 _ Ψ acc φ1 σ F1 H1 s1 _ fun y R2 u F2 H2 φ2 s2 x2 e2 => ?_
  have back : ∀ {o : En} {R' : List Res} {z : V} {F' H' : Hp}, Φ o R' → S X.K B env R' σ F' H' → Ex F2 F' → EnOk X.K F' o (some z) → Q z H' := fun φ3 s3 x3 e3 => q _ _ _ _ _ φ3 s3 ((x1.tr x2).tr x3) e3
  have e1' := e1.up x2
  unfold kOwn2 at φ2
  split at φ2
  · rename_i c1 n1 d1 c2 n2 d2
    obtain ⟨rfl, rfl, φ2⟩ := φ2
    obtain ⟨_, z, r1⟩ := id e1'
    cases z
    obtain ⟨p, dx, vs, rfl, fa, _⟩ := of_obj r1
    obtain ⟨_, z, r2⟩ := id e2
    cases z
    obtain ⟨p2, dx2, vs2, rfl, fa2, _⟩ := of_obj r2
    exact .inl ⟨p, dx, _, rfl, s2.fin.fh _ _ fa, .inl ⟨p2, dx2, _, rfl, s2.fin.fh _ _ fa2⟩, call_go acc s2 (ens2 e1' e2) φ2 mo fun o R' z F' H' => back⟩
  · rename_i c1 n1 d1 z
    obtain ⟨rfl, φ2⟩ := φ2
    obtain ⟨_, zz, r1⟩ := id e1'
    cases zz
    obtain ⟨p, dx, vs, rfl, fa, _⟩ := of_obj r1
    obtain ⟨_, zz, r2⟩ := id e2
    cases zz
    exact .inl ⟨p, dx, _, rfl, s2.fin.fh _ _ fa, .inr ⟨z, of_str r2⟩, call_go acc s2 (ens2 e1' e2) φ2 mo fun o R' z F' H' => back⟩
  · rename_i z c2 n2 d2
    obtain ⟨rfl, φ2⟩ := φ2
    obtain ⟨_, zz, r1⟩ := id e1'
    cases zz
    obtain ⟨_, zz, r2⟩ := id e2
    cases zz
    obtain ⟨p2, dx2, vs2, rfl, fa2, _⟩ := of_obj r2
    exact .inr ⟨z, p2, dx2, _, of_str r1, rfl, s2.fin.fh _ _ fa2, call_go acc s2 (ens2 e2 e1') φ2 mo2 fun o R' z F' H' => back⟩
  · exact False.elim φ2
/-- x op y by __op__, __rop__: two of the class, or one and a text -/
theorem d_own2 {op : Operator} (mo : Mono fs) (mo2 : Mono fr) (tp : Top1 X.K c) (cl : Mx X.prog X.w X.K X.mg X.base k c m fs []) (cr : Mx X.prog X.w X.K X.mg X.base k c mr fr []) (hr : Room j X.A) (hk : k ≤ j) (tk : Tk X W) (hn : fillsNumberSlot (.type "str") op.info.2 = pure false) (ha : DE X W a ta wa) (hb : DE X W b tb wb)
    (hm : PySem.dunder op.info.2 = m := by decide) (hm2 : dunderR op.info.2 = mr := by decide) : DE X W (.BinOp a op b pos) (tOwn2 (He.ga X.K c) (spOf X.K fs) (spOf X.K fr) (L2.WE W) ta tb) (wOwn2 c fs fr wa wb) := by
  obtain ⟨cd, hc, hm0⟩ := tp.ex
  obtain ⟨f, fd, ps, ds, _, hmf, F, bd, vd⟩ := cl.ex
  obtain ⟨g, gd, qs, es, _, hmg, G, bg, vg⟩ := cr.ex
  cases vd
  cases vg
  have hs : PySem.W.findIn X.K (.ref (He.ga X.K c)) (PySem.dunder op.info.2) = some (some (.ref f)) := by rw [hm]; exact hmf.at_
  have hs2 : PySem.W.findIn X.K (.ref (He.ga X.K c)) (dunderR op.info.2) = some (some (.ref g)) := by rw [hm2]; exact hmg.at_
  refine ⟨⟨fun pins s σ H Q I h => wpAny_BinOp (binT ha.p hb.p I h fun v u s2 x y H2 I2 rx ry q => ?_)⟩, own2_ev mo mo2 ha.v hb.v⟩
  rcases q with ⟨p, dx, gs, rfl, hp, hy, q⟩ | ⟨z, p, dy, hs', rfl, rfl, hp, q⟩
  · obtain rfl : v = Value.ref p := rx
    obtain ⟨od, J⟩ := inst_of I2 hp
    have call : wpAny (model X.prog X.w) X.A (call (.ref f) [.ref p, u]) (Own.Back fun v s' => EP X pins σ Q v s') X.xe s2 := wpAny_mono (run_at (us := [.ref p, u]) (vs := [.ref p, y]) F (hr.mono hk) I2.env0 bd tk I2 (.cons rfl (.cons ry .nil)) q) (fun _ _ z => ep_back z) fun _ _ z => z
    refine Own.bin_of ?_
    have call2 : wpAny (model X.prog X.w) X.A (PySem.call (.ref f) [.ref p, u]) (Own.Back fun v s' => ∃ z, some v = some z ∧ EP X pins σ Q z s') X.xe s2 := wpAny_mono call (fun _ _ z => ⟨z.1, _, rfl, z.2⟩) fun _ _ z => z
    rcases hy with ⟨q', dy, hs', rfl, hq⟩ | ⟨z, rfl⟩
    · obtain rfl : u = Value.ref q' := ry
      obtain ⟨oe, J2⟩ := inst_of I2 hq
      exact Own.bin_same I2.kIn hc hm0 J J2 hs hmf.fn call2
    · obtain ⟨t, rfl⟩ := ry
      exact Own.bin_left I2.kIn hc hm0 J (typeIs_str s2 z t) hn hs hmf.fn call2
  · obtain rfl : u = Value.ref p := ry
    obtain ⟨od, J⟩ := inst_of I2 hp
    obtain ⟨t, rfl⟩ := rx
    refine Own.bin_of (Own.bin_right I2.kIn hc hm0 J (typeIs_str s2 z t) hn hs hs2 hmg.fn ?_)
    exact wpAny_mono (run_at (us := [.ref p, .str z t]) (vs := [.ref p, .str z]) G (hr.mono hk) I2.env0 bg tk I2 (.cons rfl (.cons ⟨t, rfl⟩ .nil)) q) (fun _ _ z => ⟨(ep_back z).1, _, rfl, z⟩) fun _ _ z => z

/-! ### one operand -/
def tOwn1 (C : Addr) (sp : Sp) (E : L2.St → XK) (ta : TE) : TE := fun σ H Q => ta σ H fun x H1 => ∃ p dx gs, x = .ref p ∧ H1 p = some (.ins C dx gs) ∧ sp [x] H1 Q (E σ)
def wOwn1 (c : Str) (fs : FS) (wa : WE) : WE := fun env R Φ Ψ => wa env R (fun x R1 => match x with
  | .val (.obj c1 n1 d1) => c1 = c ∧ fs [.val (.obj c1 n1 d1)] R1 Φ fun er R3 => Ψ er env R3
  | _ => False) Ψ
theorem own1_ev (mo : Mono fs) (ha : ∀ B env R Φ Ψ, Acc X.K B W Ψ → wa env R Φ Ψ → Ev X.K B ta env R Φ) (B : Bs) (env : List En) (R : List Res) (Φ : En → List Res → Prop) (Ψ : XP) (acc : Acc X.K B W Ψ) (h : wOwn1 c fs wa env R Φ Ψ) :
    Ev X.K B (tOwn1 (He.ga X.K c) (spOf X.K fs) (L2.WE W) ta) env R Φ := fun σ F H s Q q => ha B env R _ Ψ acc h σ F H s _ fun x R1 v F1 H1 φ s1 x1 e1 => by
  cases x with
  | no => exact False.elim φ
  | adr p => exact False.elim φ
  | val d =>
    cases d with
    | obj c1 n1 d1 =>
      obtain ⟨rfl, φ⟩ := φ
      obtain ⟨_, z, r1⟩ := id e1
      cases z
      obtain ⟨p, dx, vs, rfl, fa, _⟩ := of_obj r1
      exact ⟨p, dx, _, rfl, s1.fin.fh _ _ fa, call_go acc s1 (os := [.val (.obj c1 n1 d1)]) ⟨_, [], rfl, e1, rfl⟩ φ mo fun o R' z F' H' φ3 s3 x3 e3 => q o R' z F' H' φ3 s3 (x1.tr x3) e3⟩
    | _ => exact False.elim φ
/-- ~x -/
theorem d_inv (mo : Mono fs) (cc : Mx X.prog X.w X.K X.mg X.base k c "__invert__" fs []) (hr : Room j X.A) (hk : k ≤ j) (tk : Tk X W) (ha : DE X W a ta wa) : DE X W (.UnaryOp .Invert a pos) (tOwn1 (He.ga X.K c) (spOf X.K fs) (L2.WE W) ta) (wOwn1 c fs wa) := by
  obtain ⟨f, fd, ps, ds, _, hm, F, bd, vd⟩ := cc.ex
  cases vd
  refine ⟨⟨fun pins s σ H Q I h => UnaryOp_ (thn (ha.p.run pins s σ H _ I h) fun v s1 hh => ?_)⟩, own1_ev mo ha.v⟩
  obtain ⟨x, H1, I1, rx, p, dx, gs, rfl, hp, q⟩ := hh
  obtain rfl : v = Value.ref p := rx
  obtain ⟨od, J⟩ := inst_of I1 hp
  exact Own.un_own I1.kIn J hm.at_ hm.fn rfl rfl (run_at (us := [.ref p]) (vs := [.ref p]) F (hr.mono hk) I1.env0 bd tk I1 (.cons rfl .nil) q)
/-! ### what never raises: len, bool, in, == -/
theorem run_at0 {A : Around} {f : Addr} {fd : FuncData} {ps : List Str} {sp : Sp} {pins : List (Addr × Obj)} {σ : L2.St} {H : Hp} {s : Shared} {Q : VK} {us : List Value} {vs : List V} (F : FnOk X.prog X.w X.K X.mg X.base (L2.CX X.prog X.w) k f fd ps sp) (hr : Room k A)
    (e0 : Env0 X.prog X.w X.K X.mg X.base A X.stack s H) (hb : Binds X.K fd ps []) (I : Inv X pins σ H s) (r : Vals vs us) (h : sp vs H Q E0) {E : Value → Shared → Prop} : wpAny (model X.prog X.w) A (call (.ref f) us) (EP X pins σ Q) E s := by
  have ln : (us ++ []).length = ps.length := by
    rw [List.append_nil, ← r.length]
    exact F.len _ _ _ _ h
  have bb := hb s us I.kIn ln
  rw [List.append_nil] at bb
  refine wpAny_call (codeAny_mono (F.run A X.stack s H ⟨us, []⟩ us vs Q E0 hr e0 bb r h) fun res s' got => ?_)
  cases res with
  | error z =>
    obtain ⟨_, _, _, _, _, _, _, _, _, _, _, _, y⟩ := got
    exact y.elim
  | ok fl =>
    cases fl with
    | ret u => exact I.after got
    | next => exact False.elim got
    | brk => exact False.elim got
    | cont => exact False.elim got
/-- a promise without errors kept: what follows -/
theorem call_go0 {K : PySem.W.Frag} {B : Bs} {env : List En} {R : List Res} {σ : L2.St} {F H : Hp} {fs : FS} {os : List En} {vs : List V} {Φ : En → List Res → Prop} {Q : VK} (s : S K B env R σ F H) (e : EnsOk K F os vs)
    (h : fs os R Φ (fun _ _ => False)) (mono : Mono fs) (q : ∀ o R' v F' H', Φ o R' → S K B env R' σ F' H' → Ex F F' → EnOk K F' o (some v) → Q v H') : spOf K fs vs H Q E0 :=
  ⟨F, os, R, s.fin.fh, s.fin.rk, e, mono _ _ _ _ _ _ (fun o R' φ v F' H' f eo => q o R' v F' H' φ (s.go f) f.ff eo) (fun er R' φ => False.elim φ) h⟩
def rLenO (K : PySem.W.Frag) (c : Str) (fs : FS) : List V → Hp → VK → Prop := fun vs H Q => ∃ p dx gs, vs = [.ref p] ∧ H p = some (.ins (He.ga K c) dx gs) ∧ spOf K fs [.ref p] H (fun v H2 => ∃ n : Int, v = .int n ∧ 0 ≤ n ∧ n < 2 ^ 63 ∧ Q v H2) E0
def lenOk (k : En → List Res → Prop) (o : En) (R : List Res) : Prop := match o with
  | .val (.int n) => 0 ≤ n ∧ n < 2 ^ 63 ∧ k (.val (.int n)) R
  | _ => False
def kLenO (c : Str) (fs : FS) : KC := fun os R Φ => match os with
  | [.val (.obj c1 n1 d1)] => c1 = c ∧ fs [.val (.obj c1 n1 d1)] R (lenOk Φ) fun _ _ => False
  | _ => False
theorem c_lenO (mo : Mono fs) (cc : Mx X.prog X.w X.K X.mg X.base k c "__len__" fs []) (hr : Room j X.A) (hk : k + 1 ≤ j) : DCall X (.builtin "len") (rLenO X.K c fs) (kLenO c fs) := by
  obtain ⟨f, fd, ps, ds, _, hmf, F, bd, vd⟩ := cc.ex
  cases vd
  refine ⟨fun pins s σ H xs us Q I r h => ?_, fun B env R σ F1 H os vs Φ Q s eo φ q => ?_⟩
  · obtain ⟨p, dx, gs, rfl, hp, h⟩ := h
    obtain rfl := Vals.ref1 r
    obtain ⟨od, J⟩ := inst_of I hp
    refine Own.len_own I.kIn J hmf.at_ hmf.fn (wpAny_mono (run_at0 (vs := [.ref p]) F (hr.mono hk).in1 I.env0.in1 bd I (.cons rfl .nil) h) (fun v s' z => ?_) fun _ _ z => z)
    obtain ⟨v', H', I', rv, n, rfl, h0, h1, q⟩ := z
    obtain ⟨t, rfl⟩ := rv
    exact ⟨n, t, rfl, h0, h1, fun t' => ⟨.int n, H', I'.tok _, ⟨t', rfl⟩, q⟩⟩
  · unfold kLenO at φ
    split at φ
    · rename_i c1 n1 d1
      obtain ⟨rfl, φ⟩ := φ
      obtain ⟨v, r, rfl, ev, er⟩ := eo
      have er' : r = [] := er
      subst er'
      obtain ⟨_, z, r1⟩ := id ev
      cases z
      obtain ⟨p, dx, ws, rfl, fa, _⟩ := of_obj r1
      refine ⟨p, dx, _, rfl, s.fin.fh _ _ fa, call_go0 s (os := [.val (.obj c1 n1 d1)]) ⟨_, [], rfl, ev, rfl⟩ φ mo fun o R' z F' H' φ3 s3 x3 e3 => ?_⟩
      unfold lenOk at φ3
      split at φ3
      · rename_i n
        obtain ⟨_, zz, r3⟩ := id e3
        cases zz
        exact ⟨n, of_int r3, φ3.1, φ3.2.1, q _ R' z F' H' φ3.2.2 s3 x3 e3⟩
      · exact False.elim φ3
    · exact False.elim φ
/-- what such a method gives is True or False -/
def blOk (k : En → List Res → Prop) (o : En) (R : List Res) : Prop := match o with
  | .val (.bl n) => k (.val (.bl n)) R
  | _ => False
theorem blOk_ok {k : En → List Res → Prop} {o : En} {R : List Res} (h : blOk k o R) : ∃ b, o = .val (.bl b) ∧ k (.val (.bl b)) R := by
  unfold blOk at h
  split at h
  · exact ⟨_, rfl, h⟩
  · exact False.elim h
def rBoolO (K : PySem.W.Frag) (c : Str) (fs : FS) : List V → Hp → VK → Prop := fun vs H Q => ∃ p dx gs, vs = [.ref p] ∧ H p = some (.ins (He.ga K c) dx gs) ∧ spOf K fs [.ref p] H (fun v H2 => ∃ b, v = .bl b ∧ Q v H2) E0
def kBoolO (c : Str) (fs : FS) : KC := fun os R Φ => match os with
  | [.val (.obj c1 n1 d1)] => c1 = c ∧ fs [.val (.obj c1 n1 d1)] R (blOk Φ) fun _ _ => False
  | _ => False
theorem c_boolO (mo : Mono fs) (cc : Mx X.prog X.w X.K X.mg X.base k c "__bool__" fs []) (hr : Room j X.A) (hk : k + 2 ≤ j) : DCall X (.type "bool") (rBoolO X.K c fs) (kBoolO c fs) := by
  obtain ⟨f, fd, ps, ds, _, hmf, F, bd, vd⟩ := cc.ex
  cases vd
  refine ⟨fun pins s σ H xs us Q I r h => ?_, fun B env R σ F1 H os vs Φ Q s eo φ q => ?_⟩
  · obtain ⟨p, dx, gs, rfl, hp, h⟩ := h
    obtain rfl := Vals.ref1 r
    obtain ⟨od, J⟩ := inst_of I hp
    refine Own.bool_own I.kIn J hmf.at_ hmf.fn (wpAny_mono (run_at0 (vs := [.ref p]) F (hr.mono hk).in1.in1 I.env0.in1.in1 bd I (.cons rfl .nil) h) (fun v s' z => ?_) fun _ _ z => z)
    obtain ⟨v', H', I', rv, b, rfl, q⟩ := z
    cases rv
    exact ⟨b, rfl, .bl b, H', I', rfl, q⟩
  · unfold kBoolO at φ
    split at φ
    · rename_i c1 n1 d1
      obtain ⟨rfl, φ⟩ := φ
      obtain ⟨v, r, rfl, ev, er⟩ := eo
      have er' : r = [] := er
      subst er'
      obtain ⟨_, z, r1⟩ := id ev
      cases z
      obtain ⟨p, dx, ws, rfl, fa, _⟩ := of_obj r1
      refine ⟨p, dx, _, rfl, s.fin.fh _ _ fa, call_go0 s (os := [.val (.obj c1 n1 d1)]) ⟨_, [], rfl, ev, rfl⟩ φ mo fun o R' z F' H' φ3 s3 x3 e3 => ?_⟩
      obtain ⟨b, rfl, φ3⟩ := blOk_ok φ3
      obtain ⟨_, zz, r3⟩ := id e3
      cases zz
      exact ⟨b, of_bl r3, q _ R' z F' H' φ3 s3 x3 e3⟩
    · exact False.elim φ
/-- v in x, x of the class -/
def rInO (K : PySem.W.Frag) (c : Str) (fs : FS) (neg : Bool) : R2 := fun x y H Q => ∃ p dx gs, y = .ref p ∧ H p = some (.ins (He.ga K c) dx gs) ∧ spOf K fs [.ref p, x] H (fun v H2 => ∃ b, v = .bl b ∧ Q (.bl (if neg then !b else b)) H2) E0
def inOk (neg : Bool) (k : En → List Res → Prop) (o : En) (R : List Res) : Prop := match o with
  | .val (.bl n) => k (.val (.bl (if neg then !n else n))) R
  | _ => False
def kInO (c : Str) (fs : FS) (neg : Bool) : KO := fun x y R Φ => match y with
  | .val (.obj c1 n1 d1) => c1 = c ∧ fs [.val (.obj c1 n1 d1), x] R (inOk neg Φ) fun _ _ => False
  | _ => False
theorem inO_v {neg : Bool} (mo : Mono fs) : ∀ B env R σ F H x y v u Φ (Q : VK), S X.K B env R σ F H → EnOk X.K F x (some v) → EnOk X.K F y (some u) → kInO c fs neg x y R Φ →
    (∀ o R' z F' H', Φ o R' → S X.K B env R' σ F' H' → Ex F F' → EnOk X.K F' o (some z) → Q z H') → rInO X.K c fs neg v u H Q := fun B env R σ F H x y v u Φ Q s ex ey φ q => by
  unfold kInO at φ
  split at φ
  · rename_i c1 n1 d1
    obtain ⟨rfl, φ⟩ := φ
    obtain ⟨_, z, r1⟩ := id ey
    cases z
    obtain ⟨p, dx, ws, rfl, fa, _⟩ := of_obj r1
    refine ⟨p, dx, _, rfl, s.fin.fh _ _ fa, call_go0 s (os := [.val (.obj c1 n1 d1), x]) (ens2 ey ex) φ mo fun o R' z F' H' φ3 s3 x3 e3 => ?_⟩
    unfold inOk at φ3
    split at φ3
    · rename_i b
      obtain ⟨_, zz, r3⟩ := id e3
      cases zz
      exact ⟨b, of_bl r3, q _ R' _ F' H' φ3 s3 x3 ⟨_, rfl, rep_bl _⟩⟩
    · exact False.elim φ3
  · exact False.elim φ
theorem in_run {pins : List (Addr × Obj)} {s : Shared} {σ : L2.St} {H : Hp} {x y : V} {v u : Value} {neg : Bool} {Q : VK} (cc : Mx X.prog X.w X.K X.mg X.base k c "__contains__" fs []) (hr : Room j X.A) (hk : k ≤ j) (I : Inv X pins σ H s) (rx : RelV x v) (ry : RelV y u) (h : rInO X.K c fs neg x y H Q) :
    wpAny (model X.prog X.w) X.A (contains u v) (fun b s' => EP X pins σ Q (.bool (if neg then !b else b)) s') X.xe s := by
  obtain ⟨f, fd, ps, ds, _, hmf, F, bd, vd⟩ := cc.ex
  cases vd
  obtain ⟨p, dx, gs, rfl, hp, h⟩ := h
  obtain rfl : u = Value.ref p := ry
  obtain ⟨od, J⟩ := inst_of I hp
  refine Own.in_own I.kIn J hmf.at_ hmf.fn (wpAny_mono (run_at0 (vs := [.ref p, x]) F (hr.mono hk) I.env0 bd I (.cons rfl (.cons rx .nil)) h) (fun v s' z => ?_) fun _ _ z => z)
  obtain ⟨v', H', I', rv, b, rfl, q⟩ := z
  cases rv
  exact ⟨b, rfl, .bl _, H', I', rfl, q⟩
theorem o_inO (mo : Mono fs) (cc : Mx X.prog X.w X.K X.mg X.base k c "__contains__" fs []) (hr : Room j X.A) (hk : k ≤ j) : DOp X (compareOp .In) (rInO X.K c fs false) (kInO c fs false) :=
  ⟨fun pins s σ H x y v u Q I rx ry h => wpAny_bind (wpAny_mono (in_run cc hr hk I rx ry h) (fun b s' z => wpAny_pure z) fun _ _ z => z), inO_v mo⟩
theorem o_ninO (mo : Mono fs) (cc : Mx X.prog X.w X.K X.mg X.base k c "__contains__" fs []) (hr : Room j X.A) (hk : k ≤ j) : DOp X (compareOp .NotIn) (rInO X.K c fs true) (kInO c fs true) :=
  ⟨fun pins s σ H x y v u Q I rx ry h => wpAny_bind (wpAny_mono (in_run cc hr hk I rx ry h) (fun b s' z => wpAny_pure z) fun _ _ z => z), inO_v mo⟩
/-- x == y, both of the class -/
def rEqO (K : PySem.W.Frag) (c : Str) (fs : FS) : R2 := fun x y H Q => ∃ p dx gs q dy hs, x = .ref p ∧ H p = some (.ins (He.ga K c) dx gs) ∧ y = .ref q ∧ H q = some (.ins (He.ga K c) dy hs) ∧ spOf K fs [.ref p, .ref q] H Q E0
def kEqO (c : Str) (fs : FS) : KO := fun x y R Φ => match x, y with
  | .val (.obj c1 n1 d1), .val (.obj c2 n2 d2) => c1 = c ∧ c2 = c ∧ fs [.val (.obj c1 n1 d1), .val (.obj c2 n2 d2)] R Φ fun _ _ => False
  | _, _ => False
theorem o_eqO (mo : Mono fs) (cc : Mx X.prog X.w X.K X.mg X.base k c "__eq__" fs []) (hr : Room j X.A) (hk : k ≤ j) : DOp X (compareOp .Eq) (rEqO X.K c fs) (kEqO c fs) := by
  obtain ⟨f, fd, ps, ds, _, hmf, F, bd, vd⟩ := cc.ex
  cases vd
  refine ⟨fun pins s σ H x y v u Q I rx ry h => ?_, fun B env R σ F1 H x y v u Φ Q s ex ey φ q => ?_⟩
  · obtain ⟨p, dx, gs, q, dy, hs, rfl, hp, rfl, hq, h⟩ := h
    obtain rfl : v = Value.ref p := rx
    obtain rfl : u = Value.ref q := ry
    obtain ⟨od, J⟩ := inst_of I hp
    obtain ⟨oe, J2⟩ := inst_of I hq
    show wpAny _ _ (richCompare .Eq (.ref p) (.ref q)) _ _ _
    exact Own.cmp_own hr.units0 I.kIn J J2.type (.inl rfl) hmf.at_ hmf.fn (wpAny_mono (run_at0 (vs := [.ref p, .ref q]) F (hr.mono hk) I.env0 bd I (.cons rfl (.cons rfl .nil)) h) (fun _ _ z => ep_back z) fun _ _ z => z)
  · unfold kEqO at φ
    split at φ
    · rename_i c1 n1 d1 c2 n2 d2
      obtain ⟨rfl, rfl, φ⟩ := φ
      obtain ⟨_, z, r1⟩ := id ex
      cases z
      obtain ⟨p, dx, vs, rfl, fa, _⟩ := of_obj r1
      obtain ⟨_, z, r2⟩ := id ey
      cases z
      obtain ⟨p2, dx2, vs2, rfl, fa2, _⟩ := of_obj r2
      exact ⟨p, dx, _, p2, dx2, _, rfl, s.fin.fh _ _ fa, rfl, s.fin.fh _ _ fa2, call_go0 s (ens2 ex ey) φ mo q⟩
    · exact False.elim φ
end
end Tl
/-! Sets of texts: set(row of texts), sorted(set of texts). -/
namespace Tx
open PySem PySem.Spec PyProof.Rows L2

def kx (e : Int × Value) : Str := match e.2 with | .str k _ => k | _ => Str.empty
def Gx (w : World) (e : Int × Value) : Prop := ∃ k t, e = (hashStr w k, Value.str k t)
/-- the set of texts at a: its members L, in no order -/
def SX (w : World) (h : Heap) (a : Addr) (L : List Str) : Prop :=
  ∃ o rows ep tb, h.get? a = some o ∧ o.ExactSet ∧ o.data = .set rows ep tb ∧ (∀ e ∈ rows.toList, Gx w e) ∧ (rows.toList.map kx).Nodup ∧ (∀ k, k ∈ L ↔ k ∈ rows.toList.map kx) ∧
    rows.size < scanBound ∧ tb.fits rows.size = true ∧ Ris tb.place.toList ∧ (w.params.followText "set-order" = true ∨ tb.led = true)
section
variable {P : Program} {w : World} {h h' : Heap} {a : Addr} {L : List Str}
theorem SX.keep (r : SX w h a L) (k : ∀ o, h.get? a = some o → h'.get? a = some o) : SX w h' a L := by
  obtain ⟨o, rows, ep, tb, ho, z⟩ := r
  exact ⟨o, rows, ep, tb, k o ho, z⟩
theorem gx_elems {l : List (Int × Value)} (g : ∀ e ∈ l, Gx w e) : ElemsOf (PySem.strKind P w) l := fun e he => by
  obtain ⟨k, t, rfl⟩ := g e he
  exact ⟨⟨k, Froz.is_str k t, rfl⟩, rfl⟩
theorem gx_is {e : Int × Value} (g : Gx w e) (k : Str) : (PySem.strKind P w).is k e.2 = true ↔ kx e = k := by
  obtain ⟨k0, t, rfl⟩ := g
  constructor
  · intro z
    exact ((PySem.strKind P w).inj (.str k0 t) k k0 z (Froz.is_str k0 t)).symm
  · intro z
    have z' : k0 = k := z
    rw [← z']
    exact Froz.is_str k0 t
end
section
variable {P : Program} {w : World} {A : Around} {E : Value → Shared → Prop} {s : Shared} {a : Addr} {L : List Str}
theorem add_tail {g : Bool → Sem Unit} (hg : ∀ (b : Bool) (s₁ : Shared) (Q' : Unit → Shared → Prop), Q' () s₁ → wpAny (model P w) A (g b) Q' E s₁) {o : Obj} {rows new : Array (Int × Value)} {ep : Nat} {tb tn : SetTable} {L' : List Str} (ho : s.heap.get? a = some o) (hex : o.ExactSet) (hd : o.data = .set rows ep tb)
    (g1 : ∀ e ∈ new.toList, Gx w e) (n1 : (new.toList.map kx).Nodup) (m1 : ∀ k, k ∈ L' ↔ k ∈ new.toList.map kx) (b1 : new.size < scanBound) (f1 : tn.fits new.size = true) (r1 : Ris tn.place.toList) (l1 : w.params.followText "set-order" = true ∨ tn.led = true) {dummy : Bool} {R : Option Bool → Shared → Prop}
    (hR : ∀ h', Heap.SameBut a s.heap h' → SX w h' a L' → R (some true) { s with heap := h' }) : wpAny (model P w) A (do
        storeSet a new tn
        if (!dummy && tn.tooFull) = true then do
            g (relayAll tn new (SetTable.grown new.size)).2.2
            storeSet a (relayAll tn new (SetTable.grown new.size)).1 (relayAll tn new (SetTable.grown new.size)).2.1
            pure (some true)
          else pure (some true)) R E s := by
  have p1 := store_at (es' := new) (t' := tn) ho hd
  have sb := Heap.SameBut.update s.heap a (Obj.putSet new tn)
  refine wpAny_bind (wpAny_storeSet_of ho hd ?_ (fits_of_scanBound b1))
  split
  · have pm := relayAll_perm tn new (SetTable.grown new.size)
    have ff := relayAll_fits tn new (SetTable.grown new.size)
    have rr := relayAll_ris tn new (SetTable.grown new.size)
    have ll := relayAll_led tn new (SetTable.grown new.size)
    generalize relayAll tn new (SetTable.grown new.size) = Y at pm ff rr ll ⊢
    obtain ⟨rows2, t3, gv⟩ := Y
    dsimp only at pm ff rr ll ⊢
    have z : rows2.size = new.size := by rw [← Array.length_toList, pm.length_eq, Array.length_toList]
    have b2 : rows2.size < scanBound := z ▸ b1
    refine wpAny_bind (hg _ _ _ (wpAny_bind (wpAny_storeSet_of p1 rfl ?_ (fits_of_scanBound b2))))
    refine wpAny_pure (hR _ (sb.trans (Heap.SameBut.update _ a _)) ?_)
    exact ⟨_, rows2, _, t3, store_at (es' := rows2) (t' := t3) p1 rfl, hex, rfl, fun e he => g1 e (pm.mem_iff.mp he), (pm.map kx).nodup_iff.mpr n1, fun k => (m1 k).trans (pm.map kx).mem_iff.symm, b2, ff, rr, l1.imp id fun q => by rw [ll]; exact q⟩
  · exact wpAny_pure (hR _ sb ⟨_, new, _, tn, p1, hex, rfl, g1, n1, m1, b1, f1, r1, l1⟩)
theorem add_text {k : Str} {t : Tok} {Q : Bool → Shared → Prop} (r : SX w s.heap a L) (room : L.length + 1 < scanBound) (hL : L.Nodup)
    (hQ : ∀ b h', Heap.SameBut a s.heap h' → SX w h' a (if k ∈ L then L else k :: L) → Q b { s with heap := h' }) : wpAny (model P w) A (setAddHashed a (.str k t) (hashStr w k)) Q E s := by
  obtain ⟨o, rows, ep, tb, ho, hex, hd, g, nd, hm, hb, hf, hr, hl⟩ := r
  have key : (PySem.strKind P w).is k (.str k t) = true := Froz.is_str k t
  have el : ElemsOf (PySem.strKind P w) rows.toList := gx_elems g
  have size : rows.size = L.length := by
    have pm : L.Perm (rows.toList.map kx) := (List.perm_ext_iff_of_nodup hL nd).mpr hm
    rw [pm.length_eq, List.length_map, Array.length_toList]
  unfold setAddHashed setAddHashedIn
  refine wpAny_holding (wpAny_bind (wpAny_setState_of ho hd hf ?_))
  dsimp only
  rw [byScan_of (x := Value.str k t) rfl hb el]
  simp only [↓reduceIte]
  unfold setAddByScan
  refine wpAny_bind (wpAny_bind (wpAny_rule (wpAny_bind (wpAny_setScan_of key ho hd hf el ?_))))
  cases fi : List.findIdx? (fun e => (PySem.strKind P w).is k e.2) rows.toList with
  | some j =>
    dsimp only
    obtain ⟨hj, pj, _⟩ := List.findIdx?_eq_some_iff_getElem.mp fi
    have inL : k ∈ L := (hm k).2 (List.mem_map.mpr ⟨rows.toList[j], List.getElem_mem hj, (gx_is (g _ (List.getElem_mem hj)) k).1 pj⟩)
    refine wpAny_pure (wpAny_pure (hQ _ s.heap (Heap.SameBut.refl a s.heap) ?_))
    rw [if_pos inL]
    exact ⟨o, rows, ep, tb, ho, hex, hd, g, nd, hm, hb, hf, hr, hl⟩
  | none =>
    dsimp only
    have out : k ∉ rows.toList.map kx := fun z => by
      obtain ⟨e, he, q⟩ := List.mem_map.mp z
      have c := List.findIdx?_eq_none_iff.mp fi e he
      rw [(gx_is (P := P) (g e he) k).2 q] at c
      cases c
    have outL : k ∉ L := fun z => out ((hm k).1 z)
    have quiet : ∀ (b : Bool) {s₁ : Shared} {Q' : Unit → Shared → Prop}, Q' () s₁ → wpAny (model P w) A (match b with | true => rule "set.scan.the-table-gave-way" | false => pure ()) Q' E s₁ := fun b _ _ q => by
      cases b
      · exact wpAny_pure q
      · exact wpAny_rule q
    have pm := layNew_perm tb rows (hashStr w k) (.str k t)
    have f1 := layNew_fits tb rows (hashStr w k) (.str k t)
    have r1 := layNew_ris tb rows (hashStr w k) (.str k t) hr
    have l1 := layNew_led tb rows (hashStr w k) (.str k t)
    generalize layNew tb rows (hashStr w k) (.str k t) = Y at pm f1 r1 l1 ⊢
    obtain ⟨new, t1, dummy, gave⟩ := Y
    dsimp only at pm f1 r1 l1 ⊢
    rw [Array.toList_push] at pm
    have pc : new.toList.Perm ((hashStr w k, Value.str k t) :: rows.toList) := pm.trans (List.perm_append_singleton _ _)
    have pk : (new.toList.map kx).Perm (k :: rows.toList.map kx) := pc.map kx
    have g1 : ∀ e ∈ new.toList, Gx w e := fun e he => by
      rcases List.mem_cons.mp (pc.mem_iff.mp he) with z | z
      · exact ⟨k, t, z⟩
      · exact g e z
    have n1 : (new.toList.map kx).Nodup := pk.nodup_iff.mpr (List.nodup_cons.mpr ⟨out, nd⟩)
    have m1 : ∀ i, i ∈ k :: L ↔ i ∈ new.toList.map kx := fun i => by rw [pk.mem_iff, List.mem_cons, List.mem_cons, hm i]
    have z1 : new.size = rows.size + 1 := by rw [← Array.length_toList, pc.length_eq, List.length_cons, Array.length_toList]
    have b1 : new.size < scanBound := by omega
    have ld : w.params.followText "set-order" = true ∨ t1.led = true := hl.imp id fun z => by rw [l1]; exact z
    have fin : ∀ h', Heap.SameBut a s.heap h' → SX w h' a (k :: L) → Q true { s with heap := h' } := fun h' sb r => hQ true h' sb (by rw [if_neg outL]; exact r)
    refine wpAny_bind (quiet _ ?_)
    split
    · refine wpAny_bind ?_
      rw [hashByValue_scannable 8 (x := Value.str k t) rfl]
      refine wpAny_pure (add_tail ?_ ho hex hd g1 n1 m1 b1 ?_ ?_ ?_ ?_)
      · intro b s₁ Q' q
        cases b
        · exact wpAny_pure q
        · exact wpAny_rule q
      · first | (split <;> first | exact f1 | exact SetTable.fits_plain_off f1) | exact f1
      · first | (split <;> exact r1) | exact r1
      · first | (split <;> exact ld) | exact ld
      · intro h' sb r
        dsimp only
        exact wpAny_pure (fin h' sb r)
    · refine wpAny_bind (wpAny_pure ?_)
      simp only [↓reduceIte]
      refine add_tail ?_ ho hex hd g1 n1 m1 b1 f1 r1 ld ?_
      · intro b s₁ Q' q
        cases b
        · exact wpAny_pure q
        · exact wpAny_rule q
      · intro h' sb r
        dsimp only
        exact wpAny_pure (fin h' sb r)
end
end Tx
/-! Sets of texts: the loop of set.update, set(list), sorted(set). -/
namespace Tx
open PySem PySem.Spec PyProof.Rows L2
/-- the members behind the first i texts -/
def got (xs : List Str) (L : List Str) : List Str := xs.foldl (fun l k => if k ∈ l then l else k :: l) L
theorem got_step (xs : List Str) (L : List Str) (k : Str) : got (xs ++ [k]) L = (if k ∈ got xs L then got xs L else k :: got xs L) := by
  unfold got
  rw [List.foldl_append]
  rfl
theorem got_nodup : ∀ (xs L : List Str), L.Nodup → (got xs L).Nodup
  | [], _, h => h
  | k :: xs, L, h => by
    show (got xs (if k ∈ L then L else k :: L)).Nodup
    refine got_nodup xs _ ?_
    split
    · exact h
    · rename_i z
      exact List.nodup_cons.mpr ⟨z, h⟩
theorem got_len : ∀ (xs L : List Str), (got xs L).length ≤ L.length + xs.length
  | [], _ => Nat.le_refl _
  | k :: xs, L => by
    show (got xs (if k ∈ L then L else k :: L)).length ≤ L.length + (xs.length + 1)
    refine Nat.le_trans (got_len xs _) ?_
    split
    · omega
    · rw [List.length_cons]; omega
theorem got_mem (y : Str) : ∀ (xs L : List Str), y ∈ got xs L ↔ y ∈ L ∨ y ∈ xs
  | [], _ => by
    show y ∈ _ ↔ _
    simp [got]
  | k :: xs, L => by
    show y ∈ got xs (if k ∈ L then L else k :: L) ↔ _
    rw [got_mem y xs, List.mem_cons]
    split
    · rename_i z
      constructor
      · rintro (q | q)
        · exact .inl q
        · exact .inr (.inr q)
      · rintro (q | q | q)
        · exact .inl q
        · exact .inl (q ▸ z)
        · exact .inr q
    · rw [List.mem_cons]
      constructor
      · rintro ((q | q) | q)
        · exact .inr (.inl q)
        · exact .inl q
        · exact .inr (.inr q)
      · rintro (q | q | q)
        · exact .inl (.inr q)
        · exact .inl (.inl q)
        · exact .inr q
section
variable {P : Program} {w : World} {A : Around} {E : Value → Shared → Prop} {s : Shared}
theorem take_get {α : Type} {l : List α} {i : Nat} {x : α} (h : l[i]? = some x) : l.take (i + 1) = l.take i ++ [x] := by
  rw [List.take_succ, h]
  rfl
theorem upd_loop {I : Addr} {fp wr : List Addr} {G : Array GenState → Array GenState → Prop} {n : Nat} {Pv : Nat → Value → Prop} {St : Nat → Shared → Prop} {R : Result → Shared → Prop}
    (W : WalksS P w A.in1 I fp wr G n Pv St) (a : Addr) (off : a ∉ fp) (xs : List Str) (hn : n = xs.length) (few : xs.length < 4000) (val : ∀ i v, Pv i v → ∃ k t, xs[i]? = some k ∧ v = Value.str k t) :
    ∀ (m i : Nat) (s : Shared), n - i = m → i ≤ n → St i s → SX w s.heap a (got (xs.take i) []) → (∀ s', Moved (a :: wr) G s s' → SX w s'.heap a (got xs []) → R (.ok (.ret .none)) s') →
      codeAny (model P w) A (.builtin "set.update.loop" ⟨[.ref a, .ref I], []⟩) R s := by
  have off2 : a ∉ wr := fun z => off (W.sub _ z)
  have sub : ∀ b ∈ wr, b ∈ a :: wr := fun b z => List.mem_cons_of_mem _ z
  intro m
  induction m with
  | zero =>
    intro i s hm hi st hS hR
    obtain rfl : i = n := by omega
    refine codeAny_builtin PyProof.Rows.F.entry_set_update_loop ?_
    rw [Around.under_plainId PyProof.Rows.F.plain_set_update_loop _]
    show wpAny _ A.in1 (pyNext (.ref I) >>= _) _ _ s
    refine wpAny_bind (W.done s _ _ st fun s' mv => ?_)
    show wpAny _ A.in1 (ret Value.none) _ _ s'
    have whole : xs.take i = xs := by rw [hn]; exact List.take_length
    rw [whole] at hS
    exact wpAny_pure (hR s' (mv.mono sub) (hS.keep fun o e => mv.heap a o off2 e))
  | succ m ih =>
    intro i s hm hi st hS hR
    have lt : i < n := by omega
    refine codeAny_builtin PyProof.Rows.F.entry_set_update_loop ?_
    rw [Around.under_plainId PyProof.Rows.F.plain_set_update_loop _]
    show wpAny _ A.in1 (pyNext (.ref I) >>= _) _ _ s
    refine wpAny_bind (W.item i s _ _ lt st fun v s' hP st' mv => ?_)
    obtain ⟨k, t, hk, rfl⟩ := val i v hP
    have hS' : SX w s'.heap a (got (xs.take i) []) := hS.keep fun o e => mv.heap a o off2 e
    show wpAny _ A.in1 (holding [Value.str k t] (setAdd a (.str k t)) >>= _) _ _ s'
    refine wpAny_bind (wpAny_holding ?_)
    unfold setAdd
    refine wpAny_holding (wpAny_bind ((PySem.strKind P w).pyHash (Froz.is_str k t) ?_))
    have ln := got_len (xs.take i) []
    rw [List.length_take] at ln
    refine add_text (s := { s' with toks := s'.toks + 1 }) hS' (by unfold scanBound; simp only [List.length_nil] at ln; omega) (got_nodup _ _ List.nodup_nil) fun b h' sb r => ?_
    rw [← got_step, ← take_get hk] at r
    refine wpAny_pure ⟨plainId_quiet PyProof.Rows.F.plain_set_update_loop _, ih (i + 1) _ (by omega) lt (W.frame _ s' _ _ st' (Nat.le_succ _) fun b hb o e => ?_) r fun s'' mv2 hS2 => ?_⟩
    · rw [sb.2 b fun z => off (by rw [← z]; exact hb)]
      exact e
    · refine hR s'' (Moved.trans W.gtrans ((mv.mono sub).then_heap (Nat.le_succ _) fun b o hb e => ?_) mv2) hS2
      rw [sb.2 b fun z => hb (by rw [z]; exact List.mem_cons_self)]
      exact e
abbrev newSet (w : World) : Obj := { cls := .type "set", dict := none, data := .set #[] 0 (.fresh 0 0 (!w.params.followText "set-order")) }
theorem sx_new {h : Heap} {a : Addr} (ho : h.get? a = some (newSet w)) : SX w h a [] := by
  refine ⟨_, #[], 0, _, ho, ⟨rfl, rfl, rfl⟩, rfl, (fun e he => by simp at he), (by simp), (fun k => by simp), (by decide), (by rfl), List.Pairwise.nil, ?_⟩
  show _ ∨ (!w.params.followText "set-order") = true
  cases w.params.followText "set-order"
  · exact .inr rfl
  · exact .inl rfl
set_option maxHeartbeats 3200000 in
theorem set_list {l : Addr} {items : Array Value} (xs : List Str) {Q : Value → Shared → Prop} (hh : A.handled = none) (hl : s.heap.IsList l items) (hi : StrsAre items.toList xs) (few : xs.length < 4000)
    (done : ∀ (h' : Heap) (tk : Nat), SX w h' s.heap.objs.size (got xs []) → (∀ b o, s.heap.get? b = some o → h'.get? b = some o) → Q (.ref s.heap.objs.size) { s with heap := h', toks := tk }) : wpAny (model P w) A (call (.type "set") [.ref l]) Q E s := by
  have sz : items.size = xs.length := by rw [← StrsAre.len_eq hi, Array.length_toList]
  obtain ⟨c, tl, hmro⟩ := PySem.F.called_set.mro
  have hmade := PySem.F.called_set.made
  have hsub := PySem.F.called_set.sub
  refine wpAny_call (codeAny_of_tree ?_)
  show wpAny _ _ (callAny (.type "set") _) _ _ _
  refine wpAny_pure ⟨Code.quiet_builtin _ (by decide +kernel), codeAny_builtin PySem.F.entry_type_call ?_⟩
  rw [Around.under_plain (weight_type_call_type "set" [.ref l] []) rfl]
  have h1 := PySem.F.called_set.notType
  have h2 := PySem.F.called_set.canCreate
  have hct := PySem.F.typeCall_set_1 (.ref l)
  repeat (any_goals (first | assumption | wp_step))
  refine codeAny_mono (code_set_led1 (.ref l) (E := E) (Q₁ := fun obj s₁ => obj = .ref s.heap.objs.size ∧ s₁ = { s with heap := s.heap.push (newSet w) }) ⟨rfl, rfl⟩) fun r s₁ got1 => ?_
  cases r with
  | error e => exact got1
  | ok fl =>
    cases fl with
    | ret obj =>
      obtain ⟨rfl, rfl⟩ := got1
      have hS : (s.heap.push (newSet w)).get? s.heap.objs.size = some (newSet w) := Heap.get?_push_size _ rfl
      have hT : Shared.TypeIs { s with heap := s.heap.push (newSet w) } (.ref s.heap.objs.size) "set" := ⟨_, hS, rfl⟩
      have hli := PySem.F.called_set.init.lookup
      have hbi := PySem.F.called_set.init.bind (.ref s.heap.objs.size)
      repeat (any_goals (first | assumption | wp_step))
      refine codeAny_mono (codeAny_call_builtin (R := wants (fun r s₂ => r = .none ∧ ∃ h' tk, s₂ = { s with heap := h', toks := tk } ∧ SX w h' s.heap.objs.size (got xs []) ∧ ∀ b o, s.heap.get? b = some o → h'.get? b = some o) E) PySem.F.called_set.init.plain PySem.F.entry_set_init (check_set_init_1 hT ?_)) fun r₂ s₂ got2 => ?_
      · obtain ⟨ol, hol, hcl, nl, hdl⟩ := hl
        obtain ⟨ocls, odict, odata, oslots⟩ := ol
        simp only at hcl hdl
        subst hcl; subst hdl
        have hol' : (s.heap.push (newSet w)).get? l = some { cls := .type "list", dict := odict, data := .seq items nl, slots := oslots } := Heap.get?_push_of_some _ hol
        have q1 := PySem.F.sub_list_set
        have q2 := PySem.F.sub_list_frozenset
        have q3 : (Value.type "list" == Value.type "dict") = false := by decide
        have hl1 : (s.heap.push (newSet w)).IsList l items := ⟨_, hol', rfl, nl, rfl⟩
        unfold Builtin.«set.__init__» noKeywords Builtin.Frozenset.updateFrom
        generalize hPI : pyIter = PI
        wp_walk
        subst hPI
        refine wpAny_pyIter_list hl1 (wpAny_bind (wpAny_runValue ?_))
        have hlS : l < s.heap.objs.size := Heap.lt_size hol
        have hh3 : A.in1.in1.in1.handled = none := by simp [hh]
        have neI : l ≠ (s.heap.push (newSet w)).objs.size := by
          rw [Heap.size_push]; exact Nat.ne_of_lt (Nat.lt_succ_of_lt hlS)
        have offS : s.heap.objs.size ∉ [(s.heap.push (newSet w)).objs.size, l] := by
          rw [Heap.size_push]
          simp only [List.mem_cons, List.mem_singleton, List.not_mem_nil, or_false, not_or]
          exact ⟨Nat.ne_of_lt (Nat.lt_succ_self _), Nat.ne_of_gt hlS⟩
        have val : ∀ (i : Nat) (v : Value), items[i]? = some v → ∃ k t, xs[i]? = some k ∧ v = Value.str k t := fun i v hv => by
          have hv2 : items.toList[i]? = some v := by rw [Array.getElem?_toList]; exact hv
          obtain ⟨t, e⟩ := SS.strs_at hi i v hv2
          have lt : i < xs.length := by
            rw [← StrsAre.len_eq hi]
            exact (List.getElem?_eq_some_iff.mp hv2).1
          refine ⟨xs[i], t, List.getElem?_eq_getElem lt, ?_⟩
          rw [e, List.getD_eq_getElem?_getD, List.getElem?_eq_getElem lt]
          rfl
        refine upd_loop ((Walks.list hh3 _ l neI items).toS) s.heap.objs.size offS xs sz few val (items.size - 0) 0 _ (by omega) (Nat.zero_le _) ⟨⟨_, Heap.get?_push_size _ rfl, rfl, rfl⟩, (hl1.push _)⟩ (sx_new (Heap.get?_push_of_some _ hS)) fun s' mv hS' => ?_
        obtain ⟨h', g2, d', tk', os'⟩ := s'
        have eg : g2 = s.gens := mv.gens
        have ed : d' = s.drawn := mv.drawn
        have eo : os' = s.os := mv.os
        subst eg; subst ed; subst eo
        refine wpAny_pure ?_
        show wpAny _ _ (ret Value.none) _ _ _
        refine wpAny_pure ⟨rfl, h', tk', rfl, hS', fun b o e => ?_⟩
        have lt := Heap.lt_size e
        refine mv.heap b o ?_ (Heap.get?_push_of_some _ (Heap.get?_push_of_some _ e))
        rw [Heap.size_push]
        simp only [List.mem_cons, List.mem_singleton, List.not_mem_nil, or_false, not_or]
        exact ⟨Nat.ne_of_lt lt, Nat.ne_of_lt (Nat.lt_succ_of_lt lt)⟩
      · cases r₂ with
        | error e => exact got2
        | ok fl₂ =>
          cases fl₂ with
          | ret r =>
            obtain ⟨rfl, h', tk, rfl, hS', hk'⟩ := got2
            repeat (any_goals (first | assumption | wp_step))
            exact done _ _ hS' hk'
          | _ => exact got2.elim
    | _ => exact got1.elim
theorem strs_of : ∀ (l : List Value), (∀ v ∈ l, ∃ k t, v = Value.str k t) → ∃ ks, StrsAre l ks
  | [], _ => ⟨[], .nil⟩
  | v :: l, h => by
    obtain ⟨k, t, rfl⟩ := h v List.mem_cons_self
    obtain ⟨ks, r⟩ := strs_of l fun u hu => h u (List.mem_cons_of_mem _ hu)
    exact ⟨k :: ks, .cons k t r⟩
theorem strs_keys : ∀ {l : List Value} {ks : List Str}, StrsAre l ks → l.map (fun v => kx (0, v)) = ks
  | _, _, .nil => rfl
  | _, _, .cons k t r => by
    rw [List.map_cons, strs_keys r]
    rfl
/-- sorted(set of texts) -/
theorem sorted_texts {a : Addr} {L : List Str} {Q : Value → Shared → Prop} (r : SX w s.heap a L) (hL : L.Nodup) (hh : A.handled = none)
    (hQ : ∀ s' p (out : Array Value) (c : Nat) (ys : List Str), (∀ b o, s.heap.get? b = some o → s'.heap.get? b = some o) → s'.gens = s.gens → s'.os = s.os → s.heap.objs.size ≤ p →
      s'.heap.get? p = some (seqObj "list" out c) → StrsAre out.toList ys → ys.Perm L → sortedS ys = true → Q (.ref p) s') : wpAny (model P w) A (call (.builtin "sorted") [.ref a]) Q E s := by
  obtain ⟨o, rows, ep, tb, ho, hex, hd, g, nd, hm, hb, hf, hr, hl⟩ := r
  refine Calls.call_function_entry kind_sorted plain_sorted entry_sorted (args_sorted1 _) ?_
  unfold Builtin.«sorted»
  refine wpAny_bind (m := checkCount "sorted" 1 1 _) (wpAny_pure ?_)
  refine wpAny_bind (collect_set (A := A.in1) hh ⟨o, ho, hex.1, hd⟩ hf hb hr hl fun s1 vs k1 hz g1 o1 pm => ?_)
  have lv : vs.length = rows.size := by rw [pm.length_eq, List.length_map, Array.length_toList]
  obtain ⟨ks, hK⟩ := strs_of vs fun v hv => by
    obtain ⟨e, he, q⟩ := List.mem_map.mp (pm.mem_iff.mp hv)
    obtain ⟨k, t, rfl⟩ := g e he
    exact ⟨k, t, q.symm⟩
  have pk : ks.Perm (rows.toList.map kx) := by
    rw [← strs_keys hK]
    have q := pm.map fun v => kx (0, v)
    rw [List.map_map] at q
    exact q
  have pL : ks.Perm L := pk.trans ((List.perm_ext_iff_of_nodup hL nd).mpr hm).symm
  have fit : vs.length ≤ sizeLine := by
    rw [lv]
    exact fits_of_scanBound hb
  refine wpAny_bind (wpAny_newList ?_ fit)
  have hoL : (s1.heap.push (seqObj "list" vs.toArray 0)).get? s1.heap.objs.size = some (seqObj "list" vs.toArray 0) := Heap.get?_push_size _ rfl
  refine wpAny_bind (wpAny_holding (wpAny_call_entry slot_list_sort ⟨_, hoL, rfl⟩ entry_list_sort (list_sort_treeKSt strKind_oneLt hoL hK.keysOf (fun v₁ v₂ rest e => keyKind_strs (by rw [← e]; exact hK)) fit fun st' hp hs _ => ⟨_, rfl, ?_⟩) (args_list_sort _)))
  obtain ⟨ys, y1, y2, y3⟩ := sorted_out_str hK hp hs
  obtain ⟨c, hc⟩ := sortedHeap_at (vs := vs) (out := (arrOf st').map (·.2)) hoL
  refine wpAny_pure ⟨_, rfl, hQ _ s1.heap.objs.size _ c ys (fun b u e => ?_) g1 o1 hz hc y1 (y2.trans pL) y3⟩
  have q := k1 b u e
  have lt := Heap.lt_size q
  show (sortedHeap (s1.heap.push (seqObj "list" vs.toArray 0)) s1.heap.objs.size vs _).get? b = some u
  rw [sortedHeap_old (Nat.ne_of_lt lt) (by rw [size_push']; exact Nat.lt_succ_of_lt lt)]
  exact Heap.get?_push_of_some _ q
end
end Tx
/-! The rules: built-in functions and methods on plain data. -/
namespace Tl
open PySem PySem.Spec PyProof.Rows L2
section
variable {K : PySem.W.Frag} {F : Hp}
theorem ens1 {o : En} {vs : List V} (h : EnsOk K F [o] vs) : ∃ v, vs = [v] ∧ EnOk K F o (some v) := by
  obtain ⟨v, r, rfl, a, b⟩ := h
  exact ⟨v, by rw [show r = [] from b], a⟩
theorem en_val {d : D} {v : V} (h : EnOk K F (.val d) (some v)) : Rep K F d v := by
  obtain ⟨u, e, r⟩ := h
  cases e
  exact r
theorem en_adr {p : Addr} {v : V} (h : EnOk K F (.adr p) (some v)) : v = .ref p := by
  have e : some v = some (V.ref p) := h
  cases e
  rfl
theorem enVal {d : D} {v : V} (r : Rep K F d v) : EnOk K F (.val d) (some v) := ⟨v, rfl, r⟩
end
theorem S.ownM {K : PySem.W.Frag} {B : Bs} {env : List En} {R : List Res} {σ : L2.St} {F H : Hp} {p : Addr} {ds : List D} (s : S K B env R σ F H) (h : Res.lst p ds ∈ R) : ∃ vs, H p = some (.lst vs) ∧ RepL K F ds vs := s.fin.rk.ok _ h

/-! ### len -/
def kLen : KC := fun os R Φ => match os with
  | [.val (.str z)] => z.length ≤ sizeLine ∧ Φ (.val (.int z.length)) R
  | [.val (.lst ds)] => Φ (.val (.int ds.length)) R
  | [.val (.tup ds)] => Φ (.val (.int ds.length)) R
  | [.adr p] => ∃ ds, Res.lst p ds ∈ R ∧ Φ (.val (.int ds.length)) R
  | _ => False
section
variable {X : Cx} {W : WX} {e o a b : Expr} {te to ta tb : TE} {we wo wa wb : WE} {pos apos cpos : Pos}
theorem c_len : DCall X (.builtin "len") (fun xs H Q => ∃ x n, xs = [x] ∧ LenV X.K x H n ∧ Q (.int n) H) kLen := ⟨call_len, fun B env R σ F H os vs Φ Q s eo φ q => by
  unfold kLen at φ
  split at φ
  · rename_i z
    obtain ⟨v, rfl, ev⟩ := ens1 eo
    rw [of_str (en_val ev)]
    exact ⟨_, z.length, rfl, ⟨φ.1, rfl⟩, q _ R _ F H φ.2 s Ex.rfl (enVal (rep_int _))⟩
  · rename_i ds
    obtain ⟨v, rfl, ev⟩ := ens1 eo
    obtain ⟨p, ws, rfl, fa, rl⟩ := of_lst (en_val ev)
    exact ⟨_, ds.length, rfl, .inl ⟨ws, SqL.of (s.fin.fh _ _ fa), rl.len.symm⟩, q _ R _ F H φ s Ex.rfl (enVal (rep_int _))⟩
  · rename_i ds
    obtain ⟨v, rfl, ev⟩ := ens1 eo
    obtain ⟨p, ws, rfl, fa, rl⟩ := of_tup (en_val ev)
    exact ⟨_, ds.length, rfl, .inr ⟨ws, SqT.of (s.fin.fh _ _ fa), rl.len.symm⟩, q _ R _ F H φ s Ex.rfl (enVal (rep_int _))⟩
  · rename_i p
    obtain ⟨ds, m, φ⟩ := φ
    obtain ⟨v, rfl, ev⟩ := ens1 eo
    rw [en_adr ev]
    obtain ⟨ws, hp, rl⟩ := s.ownM m
    exact ⟨_, ds.length, rfl, .inl ⟨ws, SqL.of hp, rl.len.symm⟩, q _ R _ F H φ s Ex.rfl (enVal (rep_int _))⟩
  · exact False.elim φ⟩
/-! ### x[i] -/
def kIx : KO := fun x y R Φ => match x, y with
  | .val (.str z), .val (.int i) => z.length ≤ sizeLine ∧ ∃ c, atI z.cps.toList i = some c ∧ Φ (.val (.str ⟨#[c]⟩)) R
  | .val (.lst ds), .val (.int i) => ∃ d, atI ds i = some d ∧ Φ (.val d) R
  | .val (.tup ds), .val (.int i) => ∃ d, atI ds i = some d ∧ Φ (.val d) R
  | .adr p, .val (.int i) => ∃ ds d, Res.lst p ds ∈ R ∧ atI ds i = some d ∧ Φ (.val d) R
  | _, _ => False
theorem atI_rep {K : PySem.W.Frag} {F : Hp} {ds : List D} {vs : List V} {i : Int} {d : D} (h : atI ds i = some d) (r : RepL K F ds vs) : ∃ v, atI vs i = some v ∧ Rep K F d v := by
  unfold atI at h ⊢
  rw [r.len]
  cases z : ixN ds.length i with
  | none => rw [z] at h; cases h
  | some j =>
    rw [z] at h
    exact r.get h
theorem d_ix (ha : DE X W a ta wa) (hb : DE X W b tb wb) (hs : PlainIx b := by intro _ _; rfl) : DE X W (.Subscript a b pos) (tOp (rIx X.K) ta tb) (w2 wa wb kIx) :=
  ⟨pe_ix ix_seq ha.p hb.p hs, fun B env R Φ Ψ acc w => run2 acc (fun B env R σ F H x y v u Φ Q s ex ey k q => by
    unfold kIx at k
    split at k
    · obtain ⟨hz, c, hc, k⟩ := k
      rw [of_str (en_val ex), of_int (en_val ey)]
      exact .inr (.inr ⟨_, _, c, rfl, rfl, hz, hc, q _ R _ F H k s Ex.rfl (enVal (rep_str _))⟩)
    · obtain ⟨d, hd, k⟩ := k
      rw [of_int (en_val ey)]
      obtain ⟨p, ws, rfl, fa, rl⟩ := of_lst (en_val ex)
      obtain ⟨z, hz, rz⟩ := atI_rep hd rl
      exact .inl ⟨p, ws, _, z, rfl, rfl, SqL.of (s.fin.fh _ _ fa), hz, q _ R _ F H k s Ex.rfl (enVal rz)⟩
    · obtain ⟨d, hd, k⟩ := k
      rw [of_int (en_val ey)]
      obtain ⟨p, ws, rfl, fa, rl⟩ := of_tup (en_val ex)
      obtain ⟨z, hz, rz⟩ := atI_rep hd rl
      exact .inr (.inl ⟨p, ws, _, z, rfl, rfl, SqT.of (s.fin.fh _ _ fa), hz, q _ R _ F H k s Ex.rfl (enVal rz)⟩)
    · obtain ⟨ds, d, m, hd, k⟩ := k
      rw [of_int (en_val ey), en_adr ex]
      obtain ⟨ws, hp, rl⟩ := s.ownM m
      obtain ⟨z, hz, rz⟩ := atI_rep hd rl
      exact .inl ⟨_, ws, _, z, rfl, rfl, SqL.of hp, hz, q _ R _ F H k s Ex.rfl (enVal rz)⟩
    · exact False.elim k) ha.v hb.v w⟩
/-! ### is True, is False; text * int -/
def kIsB : KO := fun x y R Φ => match x, y with
  | .val (.bl i), .val (.bl j) => Φ (.val (.bl (decide (i = j)))) R
  | _, _ => False
theorem o_isB : DOp X (compareOp .Is) rIsB kIsB := ⟨op_isBl, fun B env R σ F H x y v u Φ Q s ex ey k q => by
  unfold kIsB at k
  split at k
  · rw [of_bl (en_val ex), of_bl (en_val ey)]
    exact ⟨_, _, rfl, rfl, q _ R _ F H k s Ex.rfl (enVal (rep_bl _))⟩
  · exact False.elim k⟩
def repS (z : Str) (n : Int) : Str := ⟨(List.replicate n.toNat z.cps.toList).flatten.toArray⟩
def rMulS : R2 := fun x y H Q => ∃ z n, x = .str z ∧ y = .int n ∧ 0 ≤ n ∧ n < 2 ^ 62 ∧ z.length * n.toNat ≤ sizeLine ∧ Q (.str (repS z n)) H
theorem fold_cat (z : Array Nat) : ∀ (k : Nat) (acc : Array Nat), (List.replicate k z).foldl (· ++ ·) acc = acc ++ (List.replicate k z.toList).flatten.toArray
  | 0, acc => by simp
  | k + 1, acc => by
    rw [List.replicate_succ, List.foldl_cons, fold_cat z k, List.replicate_succ, List.flatten_cons]
    apply Array.toList_inj.mp
    simp
theorem op_mulS : OpR X (binaryOp .Mult) rMulS := fun pins s σ H x y v u Q I rx ry h => by
  obtain ⟨z, n, rfl, rfl, h0, h1, hz, q⟩ := h
  obtain ⟨t, rfl⟩ := rx
  obtain ⟨t2, rfl⟩ := ry
  have hl : z.length * n.toNat ≤ 16777216 := by rw [← sizeLine_eq]; exact hz
  have zl : z.length = z.cps.size := rfl
  refine P.mul_str (by
    have a1 : ¬ n < -(2 ^ 63 : Int) := by omega
    have a2 : ¬ n ≥ 2 ^ 63 := by omega
    rw [decide_eq_false a1, decide_eq_false a2]; rfl) (fun c1 c2 => ?_) (fun c1 c2 => ?_) ?_
  · intro bad
    have hn : (n.toNat : Int) = n := Int.toNat_of_nonneg h0
    have m : ((z.length * n.toNat : Nat) : Int) ≤ 16777216 := Int.ofNat_le.mpr hl
    rw [Int.natCast_mul, hn] at m
    have d := Int.ediv_mul_le (2 ^ 63 - 1) (show n ≠ 0 by omega)
    have e : ((2 ^ 63 - 1) / n + 1) * n ≤ (z.length : Int) * n := Int.mul_le_mul_of_nonneg_right (by omega) h0
    have f := Int.lt_ediv_add_one_mul_self (2 ^ 63 - 1) (show 0 < n by omega)
    omega
  · unfold Builtin.Str.tooLong
    exact decide_eq_false (by omega)
  · by_cases c1 : n < 1
    · rw [if_pos c1]
      have e : repS z n = Str.empty := by
        have : n.toNat = 0 := by omega
        unfold repS
        rw [this]
        rfl
      exact ⟨by decide, .str Str.empty, H, I.tok _, ⟨_, rfl⟩, e ▸ q⟩
    · rw [if_neg c1]
      by_cases c2 : (n == 1 || z.length == 0) = true
      · rw [if_pos c2]
        have e : repS z n = z := by
          obtain ⟨cps⟩ := z
          unfold repS
          rcases Bool.or_eq_true_iff.mp c2 with c | c
          · have : n.toNat = 1 := by
              have := beq_iff_eq.mp c
              omega
            rw [this]
            simp
          · have c' : cps.size = 0 := beq_iff_eq.mp c
            have : cps = #[] := Array.eq_empty_of_size_eq_zero c'
            subst this
            simp
        exact ⟨.str z, H, I, ⟨t, rfl⟩, e ▸ q⟩
      · rw [if_neg c2]
        refine ⟨?_, .str (repS z n), H, I.tok _, ⟨s.toks, ?_⟩, q⟩
        · rw [fold_cat]
          show (#[] ++ (List.replicate n.toNat z.cps.toList).flatten.toArray).size ≤ sizeLine
          simp only [Array.size_append, List.size_toArray, List.length_flatten, List.map_replicate, List.sum_replicate_nat, Array.length_toList]
          rw [sizeLine_eq]
          show 0 + n.toNat * z.length ≤ 16777216
          rw [Nat.mul_comm]; omega
        · rw [fold_cat]
          unfold repS
          simp
def kMulS : KO := fun x y R Φ => match x, y with
  | .val (.str z), .val (.int n) => 0 ≤ n ∧ n < 2 ^ 62 ∧ z.length * n.toNat ≤ sizeLine ∧ Φ (.val (.str (repS z n))) R
  | _, _ => False
theorem o_mulS : DOp X (binaryOp .Mult) rMulS kMulS := ⟨op_mulS, fun B env R σ F H x y v u Φ Q s ex ey k q => by
  unfold kMulS at k
  split at k
  · obtain ⟨a1, a2, a3, k⟩ := k
    rw [of_str (en_val ex), of_int (en_val ey)]
    exact ⟨_, _, rfl, rfl, a1, a2, a3, q _ R _ F H k s Ex.rfl (enVal (rep_str _))⟩
  · exact False.elim k⟩
end
end Tl
/-! The rules: isinstance, join, list, append, pop, sorted(set), op= of an own class. -/
namespace Tl
open PySem PySem.Spec PyProof.Rows L2
/-! ### isinstance -/
/-- what a datum's type is -/
inductive Ki where
  | ty (n : String) | ob (c : Str)
def kiOf : D → Option Ki
  | .non => some (.ty "NoneType") | .bl _ => some (.ty "bool") | .int _ => some (.ty "int") | .str _ => some (.ty "str")
  | .tup _ => some (.ty "tuple") | .lst _ => some (.ty "list") | .dct _ _ => some (.ty "dict") | .obj c _ _ => some (.ob c)
  | .glo _ => none | .ty _ => none
def Ki.v (K : PySem.W.Frag) : Ki → Value
  | .ty n => .type n
  | .ob c => .ref (He.ga K c)
def clV (K : PySem.W.Frag) : D → Option (V × Value)
  | .ty n => some (.ty n, .type n)
  | .glo x => some (.ref (He.ga K x), .ref (He.ga K x))
  | _ => none
/-- the answers of isinstance(_, c) -/
structure Isi (K : PySem.W.Frag) (c : D) (f : Ki → Option Bool) : Prop where
  ins : ∀ n b, f (.ob n) = some b → C8.InsC K (He.ga K n)
  ok : ∀ k b, f k = some b → ∃ v u, clV K c = some (v, u) ∧ PySem.W.kitOne K (k.v K) u = some b
def kIsi (c : D) (f : Ki → Option Bool) : KC := fun os R Φ => match os with
  | [.val d, .val c'] => c' = c ∧ ∃ k b, kiOf d = some k ∧ f k = some b ∧ Φ (.val (.bl b)) R
  | _ => False
theorem tyx_of {K : PySem.W.Frag} {F H : Hp} {d : D} {v : V} {k : Ki} (x : Ex F H) (r : Rep K F d v) (h : kiOf d = some k) (hc : ∀ n, k = .ob n → C8.InsC K (He.ga K n)) : TyX K H v (k.v K) := by
  cases d with
  | non => cases h; rw [of_non r]; exact .base .non
  | bl b => cases h; rw [of_bl r]; exact .base (.bl b)
  | int b => cases h; rw [of_int r]; exact .base (.int b)
  | str b => cases h; rw [of_str r]; exact .base (.str b)
  | tup ds => cases h; obtain ⟨a, vs, rfl, fa, _⟩ := of_tup r; exact .base (.tup (x _ _ fa))
  | lst ds => cases h; obtain ⟨a, vs, rfl, fa, _⟩ := of_lst r; exact .base (.lst (x _ _ fa))
  | dct ks ds => cases h; obtain ⟨a, vs, rfl, fa, _⟩ := of_dct r; exact .base (.dK (x _ _ fa))
  | obj c ns ds =>
    cases h
    obtain ⟨a, dx, vs, rfl, fa, _⟩ := of_obj r
    have i := hc c rfl
    exact .base (.ins (x _ _ fa) i.cl i.ha i.hn i.htk i.hm)
  | glo _ => cases h
  | ty _ => cases h
theorem ens2i {K : PySem.W.Frag} {F : Hp} {o p : En} {vs : List V} (h : EnsOk K F [o, p] vs) : ∃ v u, vs = [v, u] ∧ EnOk K F o (some v) ∧ EnOk K F p (some u) := by
  obtain ⟨v, r, rfl, a, b⟩ := h
  obtain ⟨u, rfl, c⟩ := ens1 b
  exact ⟨v, u, rfl, a, c⟩
section
variable {X : Cx} {W : WX} {e o a b : Expr} {te to ta tb : TE} {we wo wa wb : WE} {pos apos cpos : Pos}
theorem c_isi {c : D} {f : Ki → Option Bool} (I : Isi X.K c f) : DCall X (.builtin "isinstance") (rIsi X.K) (kIsi c f) := ⟨call_isi, fun B env R σ F H os vs Φ Q s eo φ q => by
  unfold kIsi at φ
  split at φ
  · obtain ⟨rfl, k, b, hk, hf, φ⟩ := φ
    obtain ⟨v, u, rfl, ev, eu⟩ := ens2i eo
    obtain ⟨v2, u2, hc, kit⟩ := I.ok k b hf
    have cv : ClsV u u2 := by
      unfold clV at hc
      split at hc
      · cases hc; rw [of_ty (en_val eu)]; exact .ty _
      · cases hc; rw [of_glo (en_val eu)]; exact .own _
      · cases hc
    exact ⟨v, u, _, u2, b, rfl, cv, tyx_of s.fin.fh (en_val ev) hk fun n e => I.ins n b (e ▸ hf), kit, q _ R _ F H φ s Ex.rfl (enVal (rep_bl _))⟩
  · exact False.elim φ⟩
/-! ### join -/
def strsD : List D → Option (List Str)
  | [] => some []
  | .str z :: r => (strsD r).map (z :: ·)
  | _ :: _ => none
theorem strsD_ok : ∀ {ds : List D} {ys : List Str}, strsD ds = some ys → ds = ys.map D.str
  | [], _, h => by cases h; rfl
  | .str z :: r, ys, h => by
    have h2 : (strsD r).map (z :: ·) = some ys := h
    cases q : strsD r with
    | none => rw [q] at h2; cases h2
    | some l =>
      rw [q] at h2
      cases h2
      rw [strsD_ok q]
      rfl
  | .non :: _, _, h => nomatch h
  | .bl _ :: _, _, h => nomatch h
  | .int _ :: _, _, h => nomatch h
  | .tup _ :: _, _, h => nomatch h
  | .lst _ :: _, _, h => nomatch h
  | .obj _ _ _ :: _, _, h => nomatch h
  | .dct _ _ :: _, _, h => nomatch h
  | .glo _ :: _, _, h => nomatch h
  | .ty _ :: _, _, h => nomatch h
theorem strsD_map : ∀ ys : List Str, strsD (ys.map D.str) = some ys
  | [] => rfl
  | y :: ys => by
    show (strsD (ys.map D.str)).map (y :: ·) = _
    rw [strsD_map ys]; rfl
def kJoin (x y : En) (R : List Res) (Φ : En → List Res → Prop) : Prop := match x, y with
  | .val (.str a), .val (.lst ds) => ∃ ys, ds = ys.map D.str ∧ (ys.map (·.length)).sum + ys.length * a.length ≤ 16777216 ∧ Φ (.val (.str (Txt.join a ys))) R
  | .val (.str a), .val (.tup ds) => ∃ ys, ds = ys.map D.str ∧ (ys.map (·.length)).sum + ys.length * a.length ≤ 16777216 ∧ Φ (.val (.str (Txt.join a ys))) R
  | .val (.str a), .adr p => ∃ ys, Res.lst p (ys.map D.str) ∈ R ∧ (ys.map (·.length)).sum + ys.length * a.length ≤ 16777216 ∧ Φ (.val (.str (Txt.join a ys))) R
  | _, _ => False
def isStrE (o : En) (k : Prop) : Prop := match o with
  | .val (.str _) => k
  | _ => False
def wJoin (wo we : WE) : WE := fun env R Φ Ψ => wo env R (fun x R1 => isStrE x (we env R1 (fun y R2 => kJoin x y R2 Φ) Ψ)) Ψ
theorem d_join (ho : DE X W o to wo) (he : DE X W e te we) (hs : starEach [e] X.env = [(false, eval e X.env)] := by rfl) (hbase : attributeBase o "join" X.env (eval o X.env) = eval o X.env := by rfl) (hline : (apos.endLine == pos.line) = true := by rfl) :
    DE X W (.Call (.Attribute o "join" apos) [e] [] pos) (tM1 (fun x xs H Q => ∃ a p, ∃ ys : List Str, x = .str a ∧ xs = [.ref p] ∧ (SqL X.K H p (ys.map V.str) ∨ SqT X.K H p (ys.map V.str)) ∧ (ys.map (·.length)).sum + ys.length * a.length ≤ 16777216 ∧ Q (.str (Txt.join a ys)) H) to te) (wJoin wo we) :=
  ⟨pe_join ho.p he.p hs hbase hline, fun B env R Φ Ψ acc w σ F H s Q q => ho.v B env R _ Ψ acc w σ F H s _ fun x R1 v F1 H1 φ s1 x1 e1 => by
    unfold isStrE at φ
    split at φ
    · rename_i a
      rw [of_str (en_val e1)]
      refine ⟨⟨a, rfl⟩, he.v B env R1 _ Ψ acc φ σ F1 H1 s1 _ fun y R2 u F2 H2 φ2 s2 x2 e2 => ?_⟩
      unfold kJoin at φ2
      split at φ2
      · rename_i a' ds heq
        cases heq
        obtain ⟨ys, rfl, hn, φ2⟩ := φ2
        obtain ⟨p, ws, rfl, fa, rl⟩ := of_lst (en_val e2)
        have ew := of_repL_strs rl
        subst ew
        exact ⟨_, p, ys, rfl, rfl, .inl (SqL.of (s2.fin.fh _ _ fa)), hn, q _ R2 _ F2 H2 φ2 s2 (x1.tr x2) (enVal (rep_str _))⟩
      · rename_i a' ds heq
        cases heq
        obtain ⟨ys, rfl, hn, φ2⟩ := φ2
        obtain ⟨p, ws, rfl, fa, rl⟩ := of_tup (en_val e2)
        have ew := of_repL_strs rl
        subst ew
        exact ⟨_, p, ys, rfl, rfl, .inr (SqT.of (s2.fin.fh _ _ fa)), hn, q _ R2 _ F2 H2 φ2 s2 (x1.tr x2) (enVal (rep_str _))⟩
      · rename_i a' p heq
        cases heq
        obtain ⟨ys, m, hn, φ2⟩ := φ2
        rw [en_adr e2]
        obtain ⟨ws, hp, rl⟩ := s2.ownM m
        have ew := of_repL_strs rl
        subst ew
        exact ⟨_, p, ys, rfl, rfl, .inl (SqL.of hp), hn, q _ R2 _ F2 H2 φ2 s2 (x1.tr x2) (enVal (rep_str _))⟩
      · exact False.elim φ2
    · exact False.elim φ⟩
/-! ### list(text), list(row), tuple(row) -/
def kListS : KC := fun os R Φ => match os with
  | [.val (.str z)] => z.length ≤ sizeLine ∧ ∀ p, Φ (.adr p) (.lst p (signs z) :: R)
  | _ => False
theorem call_listS (hc : X.calm = true) : CallR X (.type "list") (fun xs H Q => ∃ z : Str, xs = [.str z] ∧ z.length ≤ sizeLine ∧ ∀ l, H l = none → Q (.ref l) (upd H l (.lst (z.cps.toList.map fun c => V.str ⟨#[c]⟩)))) := fun pins s σ H xs us Q I r h => by
  obtain ⟨z, rfl, hz, q⟩ := h
  obtain ⟨u, rfl, t, rfl⟩ := vals1 r
  refine call_list_str (hn := hz) (I.ok.hd hc) z t fun h' tk acc c kp e it => ?_
  have len : acc.toList.length = z.cps.toList.length := by rw [Array.length_toList, Array.length_toList]; exact it.1
  have vals : Vals (z.cps.toList.map fun c => V.str ⟨#[c]⟩) acc.toList := by
    have gen : ∀ (cs : List Nat) (us : List Value), us.length = cs.length → (∀ (j : Nat) (v : Value), us[j]? = some v → ∃ c u, cs[j]? = some c ∧ v = Value.str ⟨#[c]⟩ u) → Vals (cs.map fun c => V.str ⟨#[c]⟩) us := by
      intro cs
      induction cs with
      | nil => intro us l _; rw [List.length_eq_zero_iff.mp l]; exact .nil
      | cons c cs ih =>
        intro us l hv
        cases us with
        | nil => simp at l
        | cons v us =>
          obtain ⟨c', u', e1, e2⟩ := hv 0 v rfl
          cases e1
          exact .cons ⟨u', e2⟩ (ih us (by simpa using l) fun j w hw => by
            obtain ⟨c', u', e1, e2⟩ := hv (j + 1) w (by simpa using hw)
            exact ⟨c', u', by simpa using e1, e2⟩)
    refine gen _ _ len fun j v hv => ?_
    obtain ⟨c, u, a1, a2⟩ := it.2 j v (by rw [← Array.getElem?_toList]; exact hv)
    exact ⟨c, u, by rw [Array.getElem?_toList]; exact a1, a2⟩
  refine ⟨.ref _, upd H s.heap.objs.size (.lst (z.cps.toList.map fun c => V.str ⟨#[c]⟩)), I.laid kp (Nat.le_refl _) ⟨?_, acc.toList, c, vals, by rw [Array.toArray_toList]; exact e⟩, rfl, q _ (I.hok.fresh (Nat.le_refl _))⟩
  rw [List.length_map, Array.length_toList]
  exact hz
theorem repL_signs {K : PySem.W.Frag} {F : Hp} (z : Str) : RepL K F (signs z) (z.cps.toList.map fun c => V.str ⟨#[c]⟩) := by
  have := repL_strs (K := K) (F := F) (z.cps.toList.map fun c => (⟨#[c]⟩ : Str))
  rw [List.map_map, List.map_map] at this
  exact this
theorem c_listS (hc : X.calm = true) : DCall X (.type "list") (fun xs H Q => ∃ z : Str, xs = [.str z] ∧ z.length ≤ sizeLine ∧ ∀ l, H l = none → Q (.ref l) (upd H l (.lst (z.cps.toList.map fun c => V.str ⟨#[c]⟩)))) kListS := ⟨call_listS hc, fun B env R σ F H os vs Φ Q s eo φ q => by
  unfold kListS at φ
  split at φ
  · rename_i z
    obtain ⟨v, rfl, ev⟩ := ens1 eo
    rw [of_str (en_val ev)]
    exact ⟨z, rfl, φ.1, fun l hl => q _ _ _ F _ (φ.2 l) (s.newL hl (repL_signs z)) Ex.rfl rfl⟩
  · exact False.elim φ⟩
def kList : KC := fun os R Φ => match os with
  | [.val (.lst ds)] => ∀ p, Φ (.adr p) (.lst p ds :: R)
  | [.val (.tup ds)] => ∀ p, Φ (.adr p) (.lst p ds :: R)
  | [.adr p] => ∃ ds, Res.lst p ds ∈ R ∧ ∀ p, Φ (.adr p) (.lst p ds :: R)
  | _ => False
theorem c_list : DCall X (.type "list") (fun xs H Q => ∃ p ys, xs = [.ref p] ∧ (SqL X.K H p ys ∨ SqT X.K H p ys) ∧ ∀ l, H l = none → Q (.ref l) (upd H l (.lst ys))) kList := ⟨call_list_of, fun B env R σ F H os vs Φ Q s eo φ q => by
  unfold kList at φ
  split at φ
  · obtain ⟨v, rfl, ev⟩ := ens1 eo
    obtain ⟨p, ws, rfl, fa, rl⟩ := of_lst (en_val ev)
    exact ⟨p, ws, rfl, .inl (SqL.of (s.fin.fh _ _ fa)), fun l hl => q _ _ _ F _ (φ l) (s.newL hl rl) Ex.rfl rfl⟩
  · obtain ⟨v, rfl, ev⟩ := ens1 eo
    obtain ⟨p, ws, rfl, fa, rl⟩ := of_tup (en_val ev)
    exact ⟨p, ws, rfl, .inr (SqT.of (s.fin.fh _ _ fa)), fun l hl => q _ _ _ F _ (φ l) (s.newL hl rl) Ex.rfl rfl⟩
  · obtain ⟨ds, m, φ⟩ := φ
    obtain ⟨v, rfl, ev⟩ := ens1 eo
    rw [en_adr ev]
    obtain ⟨ws, hp, rl⟩ := s.ownM m
    exact ⟨_, ws, rfl, .inl (SqL.of hp), fun l hl => q _ _ _ F _ (φ l) (s.newL hl rl) Ex.rfl rfl⟩
  · exact False.elim φ⟩
def kTuple : KC := fun os R Φ => match os with
  | [.val (.lst ds)] => Φ (.val (.tup ds)) R
  | [.val (.tup ds)] => Φ (.val (.tup ds)) R
  | [.adr p] => ∃ ds, Res.lst p ds ∈ R ∧ Φ (.val (.tup ds)) R
  | _ => False
theorem c_tuple : DCall X (.type "tuple") (fun xs H Q => ∃ p ys, xs = [.ref p] ∧ ((SqL X.K H p ys ∧ ∀ l, H l = none → Q (.ref l) (upd H l (.tup ys))) ∨ (SqT X.K H p ys ∧ Q (.ref p) H))) kTuple := ⟨call_tuple_of, fun B env R σ F H os vs Φ Q s eo φ q => by
  unfold kTuple at φ
  split at φ
  · obtain ⟨v, rfl, ev⟩ := ens1 eo
    obtain ⟨p, ws, rfl, fa, rl⟩ := of_lst (en_val ev)
    refine ⟨p, ws, rfl, .inl ⟨SqL.of (s.fin.fh _ _ fa), fun l hl => ?_⟩⟩
    obtain ⟨s2, x2⟩ := s.newF (o := .tup ws) hl
    exact q _ _ _ _ _ φ s2 x2 (enVal (mk_tup upd_same (RepL.up x2 _ _ rl)))
  · obtain ⟨v, rfl, ev⟩ := ens1 eo
    obtain ⟨p, ws, rfl, fa, rl⟩ := of_tup (en_val ev)
    exact ⟨p, ws, rfl, .inr ⟨SqT.of (s.fin.fh _ _ fa), q _ _ _ F _ φ s Ex.rfl ev⟩⟩
  · obtain ⟨ds, m, φ⟩ := φ
    obtain ⟨v, rfl, ev⟩ := ens1 eo
    rw [en_adr ev]
    obtain ⟨ws, hp, rl⟩ := s.ownM m
    refine ⟨_, ws, rfl, .inl ⟨SqL.of hp, fun l hl => ?_⟩⟩
    obtain ⟨s2, x2⟩ := s.newF (o := .tup ws) hl
    exact q _ _ _ _ _ φ s2 x2 (enVal (mk_tup upd_same (RepL.up x2 _ _ rl)))
  · exact False.elim φ⟩
end
end Tl
/-! The rules: append, pop, sorted(set(row)), op= of an own class. -/
namespace Tl
open PySem PySem.Spec PyProof.Rows L2
section
variable {X : Cx} {W : WX} {e o a b : Expr} {te to ta tb : TE} {we wo wa wb : WE} {pos apos cpos : Pos}
def kAppend (k : Nat) (x : En) (os : List En) (R : List Res) (Φ : En → List Res → Prop) : Prop := match x, os with
  | .adr p, [.val d] => ∃ ds, R[k]? = some (.lst p ds) ∧ ds.length < 1000000 ∧ Φ (.val .non) (R.set k (.lst p (ds ++ [d])))
  | _, _ => False
def ownL (o : En) (R : List Res) (k : Prop) : Prop := match o with
  | .adr p => (∃ ds, Res.lst p ds ∈ R) ∧ k
  | _ => False
def wBm (kk : En → List En → List Res → (En → List Res → Prop) → Prop) (wo : WE) (wa : WA) : WE := fun env R Φ Ψ => wo env R (fun x R1 => ownL x R1 (wa env R1 (fun os R2 => kk x os R2 Φ) Ψ)) Ψ
theorem bm_ev {r : V → List V → Hp → VK → Prop} {kk : En → List En → List Res → (En → List Res → Prop) → Prop} {ts : TA} {va : WA}
    (hk : ∀ B env R σ F H x os v vs Φ (Q : VK), S X.K B env R σ F H → EnOk X.K F x (some v) → EnsOk X.K F os vs → kk x os R Φ → (∀ o R' z F' H', Φ o R' → S X.K B env R' σ F' H' → Ex F F' → EnOk X.K F' o (some z) → Q z H') → r v vs H Q)
    (ho : ∀ B env R Φ Ψ, Acc X.K B W Ψ → wo env R Φ Ψ → Ev X.K B to env R Φ) (ha : ∀ B env R Φ Ψ, Acc X.K B W Ψ → va env R Φ Ψ → EvA X.K B ts env R Φ)
    (B : Bs) (env : List En) (R : List Res) (Φ : En → List Res → Prop) (Ψ : XP) (acc : Acc X.K B W Ψ) (w : wBm kk wo va env R Φ Ψ) : Ev X.K B (tBM X.K "list" r to ts) env R Φ := fun σ F H s Q q => ho B env R _ Ψ acc w σ F H s _ fun x R1 v F1 H1 φ s1 x1 e1 => by
  unfold ownL at φ
  split at φ
  · rename_i p
    obtain ⟨⟨ds, m⟩, φ⟩ := φ
    obtain ⟨ws, hp, rl⟩ := s1.ownM m
    have ev := en_adr e1
    subst ev
    refine ⟨.inl ⟨rfl, ws, SqL.of hp⟩, ha B env R1 _ Ψ acc φ σ F1 H1 s1 _ fun os R2 vs F2 H2 φ2 s2 x2 e2 => ?_⟩
    exact hk B env R2 σ F2 H2 (.adr p) os _ vs Φ Q s2 (e1.up x2) e2 φ2 fun o R3 z F3 H3 φ3 s3 x3 e3 => q o R3 z F3 H3 φ3 s3 ((x1.tr x2).tr x3) e3
  · exact False.elim φ
theorem d_append (k : Nat) {ts : TA} {va : WA} (ho : DE X W o to wo) (ha : DA X W [e] ts va) (hbase : attributeBase o "append" X.env (eval o X.env) = eval o X.env := by rfl)
    (hfew : ((backTo cpos (starEach [e] X.env)).all (fun x => !x.1) && (backToKw cpos (keywordEach [] X.env)).all (fun x => x.1.isSome) && decide (([e] : List Expr).length + ([] : List Keyword).length + (if ([] : List Keyword).isEmpty then 0 else 1) < 30)) = true := by rfl)
    (hline : (apos.endLine == cpos.line) = true := by rfl) (hs : starEach [e] X.env = (false, eval e X.env) :: starEach [] X.env := by rfl) (hplain : (backTo cpos (starEach [] X.env)).any (·.1) = false := by rfl) :
    DE X W (.Call (.Attribute o "append" apos) [e] [] cpos) (tBM X.K "list" rAppend to ts) (wBm (kAppend k) wo va) :=
  ⟨pe_bm PySem.F.plainAttrs_list PySem.F.slot_list_append PySem.F.type_list_append mt_append ho.p ha.p hbase hfew hline hs hplain, bm_ev (fun B env R σ F H x os v vs Φ Q s ex eos kk q => by
    unfold kAppend at kk
    split at kk
    · rename_i p d
      obtain ⟨ds, g, ln, φ⟩ := kk
      obtain ⟨u, rfl, eu⟩ := ens1 eos
      obtain ⟨ws, hp, rl⟩ := s.own g
      refine ⟨p, ws, u, en_adr ex, rfl, hp, by rw [rl.len]; exact Nat.lt_of_lt_of_le ln (by decide), ?_⟩
      exact q _ _ _ F _ φ (s.mutL g (rl.app (repL_cons (en_val eu) repL_nil))) Ex.rfl (enVal rep_non)
    · exact False.elim kk) ho.v ha.v⟩
def kPop (k : Nat) (x : En) (os : List En) (R : List Res) (Φ : En → List Res → Prop) : Prop := match x, os with
  | .adr p, [.val (.int i)] => ∃ ds d, R[k]? = some (.lst p ds) ∧ 0 ≤ i ∧ i < 1000000 ∧ ds[i.toNat]? = some d ∧ Φ (.val d) (R.set k (.lst p (ds.eraseIdx i.toNat)))
  | _, _ => False
theorem seqIx {i : Int} {n : Nat} (h0 : 0 ≤ i) (h : i.toNat < n) : seqIndex? i n = some i.toNat := by
  have z : ixN n i = some i.toNat := by
    unfold ixN
    rw [if_pos h0]
    first
      | rw [if_pos h]
      | rw [if_pos (by omega)]
  exact (ixN_seq z).1
theorem d_pop (k : Nat) {ts : TA} {va : WA} (ho : DE X W o to wo) (ha : DA X W [e] ts va) (hbase : attributeBase o "pop" X.env (eval o X.env) = eval o X.env := by rfl)
    (hfew : ((backTo cpos (starEach [e] X.env)).all (fun x => !x.1) && (backToKw cpos (keywordEach [] X.env)).all (fun x => x.1.isSome) && decide (([e] : List Expr).length + ([] : List Keyword).length + (if ([] : List Keyword).isEmpty then 0 else 1) < 30)) = true := by rfl)
    (hline : (apos.endLine == cpos.line) = true := by rfl) (hs : starEach [e] X.env = (false, eval e X.env) :: starEach [] X.env := by rfl) (hplain : (backTo cpos (starEach [] X.env)).any (·.1) = false := by rfl) :
    DE X W (.Call (.Attribute o "pop" apos) [e] [] cpos) (tBM X.K "list" rPopAt to ts) (wBm (kPop k) wo va) :=
  ⟨pe_bm PySem.F.plainAttrs_list PySem.F.slot_list_pop PySem.F.type_list_pop mt_popAt ho.p ha.p hbase hfew hline hs hplain, bm_ev (fun B env R σ F H x os v vs Φ Q s ex eos kk q => by
    unfold kPop at kk
    split at kk
    · rename_i p i
      obtain ⟨ds, d, g, i0, i1, gd, φ⟩ := kk
      obtain ⟨u, rfl, eu⟩ := ens1 eos
      rw [of_int (en_val eu)]
      obtain ⟨ws, hp, rl⟩ := s.own g
      obtain ⟨z, gz, rz⟩ := rl.get gd
      refine ⟨p, ws, i, i.toNat, z, en_adr ex, rfl, hp, by omega, by omega, seqIx i0 (List.getElem?_eq_some_iff.mp gz).1, gz, ?_⟩
      exact q _ _ _ F _ φ (s.mutL g (rl.eraseIdx _)) Ex.rfl (enVal rz)
    · exact False.elim kk) ho.v ha.v⟩
/-! ### sorted(set(row of texts)) -/
def tOnce (K : PySem.W.Frag) (te : TE) : TE := fun σ H Q => te σ H fun x H1 => ∃ l, ∃ xs : List Str, x = .ref l ∧ SqL K H1 l (xs.map V.str) ∧ xs.length < 4000 ∧
  ∀ (ys : List Str) (p : Addr), ys.Perm (Tx.got xs []) → sortedS ys = true → H1 p = none → Q (.ref p) (upd H1 p (.lst (ys.map V.str)))
theorem pe_once {p p2 q pos : Pos} (hc : X.calm = true) (hg : Gl X "sorted") (hm : X.mg "sorted" = none) (hg2 : Gl X "set") (hm2 : X.mg "set" = none) (he : PE X e te) (na : starEach [e] X.env = (false, eval e X.env) :: starEach [] X.env := by rfl) :
    PE X (.Call (.Name "sorted" p) [.Call (.Name "set" p2) [e] [] q] [] pos) (tOnce X.K te) := by
  refine ⟨fun pins s σ H Q I h => Call_ (ld_blt I hg hm boot_sorted ?_)⟩
  refine PyProof.Rows.callWith_builtin1 (PyProof.Rows.args_cons ?_ rfl) rfl rfl
  refine Call_ (ld_blt I hg2 hm2 boot_set ?_)
  refine PyProof.Rows.callWith_type1 (PyProof.Rows.args_cons (thn (he.run pins s σ H _ I h) fun v s1 ⟨x, H1, I1, r1, q1⟩ => PyProof.Rows.args_nil ?_) na) na rfl
  obtain ⟨l, xs, rfl, sq, few, q1⟩ := q1
  cases r1
  obtain ⟨its, r, pl, hz⟩ := I1.list sq
  refine Tx.set_list xs (I1.ok.hd hc) pl.isList (by simpa using strsAre_of r) few fun h' tk sx kp => ?_
  refine PyProof.Rows.args_nil ?_
  have I2 : L2.Inv X pins σ H1 { s1 with heap := h', toks := tk } := I1.kept kp
  refine Tx.sorted_texts (s := { s1 with heap := h', toks := tk }) sx (Tx.got_nodup _ _ List.nodup_nil) (I1.ok.hd hc) fun s' p out c ys k g o hp hgp hi pm so => ?_
  have fresh : H1 p = none := I2.hok.fresh hp
  have lenY : ys.length < 4000 := by
    rw [pm.length_eq]
    have := Tx.got_len xs []
    simp only [List.length_nil] at this
    omega
  have sz : sizeLine = 16777216 := sizeLine_eq
  have J : L2.Inv X pins σ (upd H1 p (.lst (ys.map V.str))) { ({ s1 with heap := h', toks := tk } : Shared) with heap := s'.heap, gens := s'.gens, drawn := s'.drawn, toks := s'.toks } :=
    I2.call (ch := []) (Un.laid k hp fresh) (I2.hok.laid k hp ⟨by rw [List.length_map]; omega, out.toList, c, vals_of_strs hi, hgp⟩) (by rw [g]; exact I2.bare) (fun _ z => nomatch z)
  have es : s' = { ({ s1 with heap := h', toks := tk } : Shared) with heap := s'.heap, gens := s'.gens, drawn := s'.drawn, toks := s'.toks } := by
    cases s'
    cases s1
    cases o
    rfl
  rw [es]
  exact ⟨.ref p, _, J, rfl, q1 ys p pm so fresh⟩
def kOnce (o : En) (R : List Res) (Φ : En → List Res → Prop) : Prop := match o with
  | .val (.lst ds) => ∃ xs, ds = xs.map D.str ∧ xs.length < 4000 ∧ ∀ ys p, ys.Perm (Tx.got xs []) → sortedS ys = true → Φ (.adr p) (.lst p (ys.map D.str) :: R)
  | _ => False
theorem d_once {p p2 q pos : Pos} (hc : X.calm = true) (hm : X.mg "sorted" = none) (hm2 : X.mg "set" = none) (he : DE X W e te we) (hg : Gl X "sorted" := by rfl) (hg2 : Gl X "set" := by rfl) (na : starEach [e] X.env = (false, eval e X.env) :: starEach [] X.env := by rfl) :
    DE X W (.Call (.Name "sorted" p) [.Call (.Name "set" p2) [e] [] q] [] pos) (tOnce X.K te) (fun env R Φ Ψ => we env R (fun o R1 => kOnce o R1 Φ) Ψ) :=
  ⟨pe_once hc hg hm hg2 hm2 he.p na, fun B env R Φ Ψ acc w σ F H s Q k => he.v B env R _ Ψ acc w σ F H s _ fun o R1 v F1 H1 φ s1 x1 e1 => by
    unfold kOnce at φ
    split at φ
    · obtain ⟨xs, rfl, few, φ⟩ := φ
      obtain ⟨l, ws, rfl, fa, rl⟩ := of_lst (en_val e1)
      have ew := of_repL_strs rl
      subst ew
      exact ⟨l, xs, rfl, SqL.of (s1.fin.fh _ _ fa), few, fun ys p pm so hp => k _ _ _ F1 _ (φ ys p pm so) (s1.newL hp (repL_strs ys)) x1 rfl⟩
    · exact False.elim φ⟩
end
end Tl
/-! The rules: x op= y of an own class (nothing raised). -/
namespace Tl
open PySem PySem.Spec PyProof.Rows L2
section
variable {X : Cx} {W : WX} {k j : Nat} {c m : Str} {fs : FS} {e : Expr} {te : TE} {we : WE} {pos pos' : Pos}
def tIpO (K : PySem.W.Frag) (c : Str) (fs : FS) : TIp := fun x y H Q => ∃ p dx gs, x = .ref p ∧ H p = some (.ins (He.ga K c) dx gs) ∧ ((∃ q dy hs, y = .ref q ∧ H q = some (.ins (He.ga K c) dy hs)) ∨ ∃ z, y = .str z) ∧ spOf K fs [x, y] H Q E0
def kAugO (c : Str) (fs : FS) (x : D) (y : En) (R : List Res) (k : En → List Res → Prop) : Prop := match y with
  | .val (.obj c2 n2 d2) => c2 = c ∧ fs [.val x, .val (.obj c2 n2 d2)] R k fun _ _ => False
  | .val (.str z) => fs [.val x, .val (.str z)] R k fun _ _ => False
  | _ => False
def sAugO (c : Str) (fs : FS) (i : Nat) (we : WE) : WS := fun env R P Ψ => ∃ n1 d1, env[i]? = some (.val (.obj c n1 d1)) ∧ we env R (fun y R1 => kAugO c fs (.obj c n1 d1) y R1 fun o R2 => P.nx (env.set i o) R2) Ψ
theorem s_augO {i : Nat} {x : Str} {op : Operator} (hN : X.N.Nodup) (mo : Mono fs) (tp : Top1 X.K c) (cc : Mx X.prog X.w X.K X.mg X.base k c m fs []) (hr : Room j X.A) (hk : k ≤ j) (he : DE X W e te we)
    (hin : PySem.W.findIn X.K (.ref (He.ga X.K c)) (dunderI op.info.2) = some none) (hob : typeLookup (.type "object") (dunderI op.info.2) = pure none) (hn : fillsNumberSlot (.type "str") op.info.2 = pure false) (hm : PySem.dunder op.info.2 = m := by rfl)
    (hi : X.N[i]? = some x := by rfl) (hx : Loc X.env.scope x := by first | exact Or.inl rfl | exact Or.inr rfl) (hf : X.fn x = true ∨ X.env.scope.names.lookup x = some .local := by first | exact .inl rfl | exact .inr rfl | assumption) :
    DS X W (.AugAssign (.Name x pos') op e pos) (tAug i te (tIpO X.K c fs)) (sAugO c fs i we) := by
  obtain ⟨cd, hc, hm0⟩ := tp.ex
  obtain ⟨f, fd, ps, ds, _, hmf, F, bd, vd⟩ := cc.ex
  cases vd
  have hs : PySem.W.findIn X.K (.ref (He.ga X.K c)) (PySem.dunder op.info.2) = some (some (.ref f)) := by rw [hm]; exact hmf.at_
  have ip : PIp X op (tIpO X.K c fs) := fun pins s σ H x y v u Q I rx ry h => by
    obtain ⟨p, dx, gs, rfl, hp, hy, h⟩ := h
    obtain rfl : v = Value.ref p := rx
    obtain ⟨od, J⟩ := inst_of I hp
    refine Own.aug_own I.kIn J (Own.no_inplace I.kIn hc hm0 hin hob) ?_
    have call2 : wpAny (model X.prog X.w) X.A (PySem.call (.ref f) [.ref p, u]) (Own.Back fun v s' => ∃ z, some v = some z ∧ EP X pins σ Q z s') X.xe s :=
      wpAny_mono (run_at0 (us := [.ref p, u]) (vs := [.ref p, y]) F (hr.mono hk) I.env0 bd I (.cons rfl (.cons ry .nil)) h) (fun _ _ z => ⟨(ep_back z).1, _, rfl, z⟩) fun _ _ z => z
    rcases hy with ⟨q', dy, hs', rfl, hq⟩ | ⟨z, rfl⟩
    · obtain rfl : u = Value.ref q' := ry
      obtain ⟨oe, J2⟩ := inst_of I hq
      exact Own.bin_same I.kIn hc hm0 J J2 hs hmf.fn call2
    · obtain ⟨t, rfl⟩ := ry
      exact Own.bin_left I.kIn hc hm0 J (typeIs_str s z t) hn hs hmf.fn call2
  refine ⟨ps_aug (i := i) hN hi hx he.p ip hf, fun B env R P Ψ acc w σ F1 H E s kk => ?_⟩
  obtain ⟨n1, d1, gx, w⟩ := w
  obtain ⟨o, zo, v, rfl, r1⟩ := s.en.get gx
  refine ⟨v, zo, he.v B env R _ Ψ acc w σ F1 H s _ fun y R1 u F2 H2 φ s2 x2 e2 => ?_⟩
  obtain ⟨p, dx, vs, rfl, fa, _⟩ := of_obj (Rep.up x2 _ _ r1)
  have e1 : EnOk X.K F2 (.val (.obj c n1 d1)) (some (.ref p)) := enVal (Rep.up x2 _ _ r1)
  unfold kAugO at φ
  split at φ
  · obtain ⟨rfl, φ⟩ := φ
    obtain ⟨p2, dx2, vs2, rfl, fa2, _⟩ := of_obj (en_val e2)
    exact ⟨p, dx, _, rfl, s2.fin.fh _ _ fa, .inl ⟨p2, dx2, _, rfl, s2.fin.fh _ _ fa2⟩, call_go0 s2 (ens2 e1 e2) φ mo fun o R' z F' H' φ3 s3 x3 e3 => kk.nx _ R' _ F' H' φ3 (s3.set i e3)⟩
  · exact ⟨p, dx, _, rfl, s2.fin.fh _ _ fa, .inr ⟨_, of_str (en_val e2)⟩, call_go0 s2 (ens2 e1 e2) φ mo fun o R' z F' H' φ3 s3 x3 e3 => kk.nx _ R' _ F' H' φ3 (s3.set i e3)⟩
  · exact False.elim φ
end
end Tl
/-! The bag of numbers that the laws draw from. -/
namespace Tl
open PySem PySem.Spec PyProof.Rows L2
section
variable (K : PySem.W.Frag)
abbrev iAdd : R2 := rI0 fun i j => .int (i + j)
abbrev iSub : R2 := rI0 fun i j => .int (i - j)
abbrev iMul : R2 := rI CMul fun i j => .int (i * j)
abbrev iMod : R2 := rI (fun _ j => 0 < j) fun i j => .int (i % j)
abbrev iDiv : R2 := rI CDiv fun i j => .int (i / j)
abbrev iDivW : R2 := rI CDivW fun i j => .int (i / j)
abbrev iPow : R2 := rI CPow fun i j => .int (i ^ j.toNat)
abbrev iLt : R2 := rI0 fun i j => .bl (decide (i < j))
abbrev iGt : R2 := rI0 fun i j => .bl (decide (j < i))
abbrev iGe : R2 := rI0 fun i j => .bl (decide (j ≤ i))
abbrev cI (i : Int) : TE := tC (.int i)
abbrev rInt1 : List V → Hp → VK → Prop := fun xs H Q => (∃ i, xs = [.int i] ∧ Q (.int i) H) ∨ ∃ k, xs = [.bl k] ∧ Q (.int (if k then 1 else 0)) H
abbrev tInt (t : TE) : TE := tCB rInt1 (tCons t tNil)
abbrev tBg (i : Int) : TE := tOp (rIxL K) (tVar 0) (cI i)
abbrev gBg (i : Int) : TG := gSub (tVar 0) (cI i) rSetL
abbrev tLenV (t : TE) : TE := tCB (fun xs H Q => ∃ x n, xs = [x] ∧ LenV K x H n ∧ Q (.int n) H) (tCons t tNil)
def tDraw1 : TS := tSeq (tAsg (tBM K "list" rPopAt (tBg K 0) (tCons (cI 0) tNil)) (gName 2))
  (tSeq (tAsg (tOp iMul (cI 2) (tVar 2)) (gName 3))
  (tSeq (tIfS (tTest (tOp iLt (tVar 2) (cI 0))) (tAsg (tOp iSub (tOp iMul (tUn (rU fun i => .int (-i)) (cI 2)) (tVar 2)) (cI 1)) (gName 3)) tNext)
  (tSeq (tIfS (tTest (tOp iGe (tVar 3) (tOp iPow (cI 10) (cI 18)))) (tAsg (tVar 3) (gBg 1)) tNext)
    (tAsg (tOp iMod (tInt (tOp iAdd (tOp iAdd (tOp iMul (tBg K 2) (cI 48271)) (tVar 3)) (cI 1))) (cI 2147483647)) (gBg 2)))))
def tDraw2 : TS := tSeq (tAsg (tOp iMod (tInt (tBg K 1)) (tVar 1)) (gName 4)) (tSeq (tAsg (tOp iDivW (tBg K 1) (tVar 1)) (gBg 1)) (tRet (tVar 4)))
def tDraw3 : TS := tSeq (tAsg (tOp iAdd (tBg K 3) (cI 1)) (gBg 3))
  (tSeq (tAsg (tOp iMod (tInt (tOp iMul (tOp iAdd (tOp iAdd (tBg K 2) (tOp iMul (cI 7919) (tBg K 3))) (cI 1)) (cI 48271))) (cI 2147483647)) (gName 5))
  (tSeq (tAsg (tOp iMod (tInt (tOp iMul (tVar 5) (tOp iAdd (tOp iDiv (tVar 5) (cI 1009)) (cI 69621)))) (cI 2147483647)) (gName 5))
  (tSeq (tAsg (tOp iMod (tInt (tOp iMul (tVar 5) (tOp iAdd (tOp iDiv (tVar 5) (cI 2003)) (cI 40692)))) (cI 2147483399)) (gName 5))
    (tRet (tOp iMod (tInt (tOp iDiv (tVar 5) (cI 16))) (tVar 1))))))
def tDraw : TS := tSeq (tIfS (tAnd (tTest (tOp rEq (tBg K 1) (cI 0))) (tTest (tOp iGt (tLenV K (tBg K 0)) (cI 0)))) (tDraw1 K) tNext) (tSeq (tIfS (tTest (tOp iGt (tBg K 1) (cI 0))) (tDraw2 K) tNext) (tDraw3 K))
end
/-- a number below lim is drawn -/
def fsDraw : FS := fun os R Φ _ => ∃ b l lim, os = [.adr b, .val (.int lim)] ∧ 0 < lim ∧ lim < 2 ^ 200 ∧ Res.bag b l ∈ R ∧ ∀ d, 0 ≤ d → d < lim → Φ (.val (.int d)) R
theorem mono_draw : Mono fsDraw := fun os R Φ Φ' Ψ Ψ' h _ z => by
  obtain ⟨b, l, lim, e, h0, h1, m, k⟩ := z
  exact ⟨b, l, lim, e, h0, h1, m, fun d d0 d1 => h _ _ (k d d0 d1)⟩
section
variable {K : PySem.W.Frag} {σ : L2.St} {H : Hp} {b l : Addr} {xs : List V} {E : Ends}
theorem bg_get {i : Int} {v : V} {Q : VK} (h0 : σ[0]? = some (some (.ref b))) (hb : H b = some (.lst xs)) (hi : atI xs i = some v) (q : Q v H) : tBg K i σ H Q := ⟨.ref b, h0, b, xs, i, v, rfl, rfl, SqL.of hb, hi, q⟩
theorem bg_set {i : Int} {j : Nat} {v : V} {Q : L2.St → Hp → Prop} (h0 : σ[0]? = some (some (.ref b))) (hb : H b = some (.lst xs)) (hi : ixN xs.length i = some j) (q : Q σ (upd H b (.lst (xs.set j v)))) : gBg i v σ H Q := ⟨.ref b, h0, b, xs, i, j, rfl, rfl, hb, hi, q⟩
theorem draw3 {a s c lim : Int} {x2 x3 x4 x5 : Option V} (hb : H b = some (.lst [.ref l, .int a, .int s, .int c])) (h0 : 0 < lim)
    (k : ∀ d, 0 ≤ d → d < lim → E.rt (.int d) (upd H b (.lst [.ref l, .int a, .int s, .int (c + 1)]))) : tDraw3 K E [some (.ref b), some (.int lim), x2, x3, x4, x5] H := by
  refine bg_get rfl hb rfl ⟨c, 1, rfl, rfl, bg_set rfl hb rfl ?_⟩
  have hb2 : upd H b (.lst [V.ref l, .int a, .int s, .int (c + 1)]) b = some (.lst [V.ref l, .int a, .int s, .int (c + 1)]) := upd_same
  refine bg_get rfl hb2 rfl (bg_get rfl hb2 rfl ⟨7919, c + 1, rfl, rfl, .inl (by omega), s, _, rfl, rfl, _, 1, rfl, rfl, _, 48271, rfl, rfl, .inr (by omega), .inl ⟨_, rfl, _, _, rfl, rfl, by omega, ?_⟩⟩)
  dsimp only
  generalize hx : (s + 7919 * (c + 1) + 1) * 48271 % 2147483647 = y
  have y0 : 0 ≤ y ∧ y < 2147483647 := by omega
  refine ⟨_, rfl, _, rfl, y, 1009, rfl, rfl, ⟨by omega, by omega⟩, _, 69621, rfl, rfl, y, _, rfl, rfl, .inl ⟨by omega, by omega⟩, .inl ⟨_, rfl, _, _, rfl, rfl, by omega, ?_⟩⟩
  dsimp only
  generalize hz : y * (y / 1009 + 69621) % 2147483647 = z
  have z0 : 0 ≤ z ∧ z < 2147483647 := by omega
  refine ⟨_, rfl, _, rfl, z, 2003, rfl, rfl, ⟨by omega, by omega⟩, _, 40692, rfl, rfl, z, _, rfl, rfl, .inl ⟨by omega, by omega⟩, .inl ⟨_, rfl, _, _, rfl, rfl, by omega, ?_⟩⟩
  dsimp only
  generalize hu : z * (z / 2003 + 40692) % 2147483399 = u
  refine ⟨_, rfl, u, 16, rfl, rfl, ⟨by omega, by omega⟩, .inl ⟨_, rfl, _, rfl, u / 16, lim, rfl, rfl, h0, ?_⟩⟩
  exact k _ (Int.emod_nonneg _ (by omega)) (Int.emod_lt_of_pos _ h0)
theorem draw2 {a s c lim : Int} {x2 x3 x4 x5 : Option V} (hb : H b = some (.lst [.ref l, .int a, .int s, .int c])) (h0 : 0 < lim) (h1 : lim < 2 ^ 200)
    (k : E.rt (.int (a % lim)) (upd H b (.lst [.ref l, .int (a / lim), .int s, .int c]))) : tDraw2 K E [some (.ref b), some (.int lim), x2, x3, x4, x5] H := by
  refine bg_get rfl hb rfl (.inl ⟨a, rfl, _, rfl, a, lim, rfl, rfl, h0, ?_⟩)
  refine bg_get (b := b) rfl hb rfl ⟨_, rfl, a, lim, rfl, rfl, wide_div (b := 200) h0 ?_ (by omega) (by omega), ?_⟩
  · have e : (lim.natAbs : Int) < ((2 ^ 200 : Nat) : Int) := by
      rw [Int.natAbs_of_nonneg (Int.le_of_lt h0)]
      have z : ((2 ^ 200 : Nat) : Int) = 2 ^ 200 := by norm_cast
      rw [z]; exact h1
    exact Int.ofNat_lt.mp e
  · exact bg_set (b := b) rfl hb rfl ⟨_, rfl, k⟩
theorem draw1 {n : Int} {r : List Int} {s c lim : Int} {x2 x3 x4 x5 : Option V} (hb : H b = some (.lst [.ref l, .int 0, .int s, .int c])) (hl : H l = some (.lst ((n :: r).map V.int))) (ne : b ≠ l)
    (k : ∀ a' s' y2 y3, 0 ≤ a' → 0 ≤ s' → s' < 2147483647 → E.nx [some (.ref b), some (.int lim), y2, y3, x4, x5] (upd (upd H l (.lst (r.map V.int))) b (.lst [.ref l, .int a', .int s', .int c]))) :
    tDraw1 K E [some (.ref b), some (.int lim), x2, x3, x4, x5] H := by
  refine bg_get rfl hb rfl ⟨.inl ⟨rfl, _, SqL.of hl⟩, l, _, 0, 0, .int n, rfl, rfl, hl, by omega, by omega, seqIx (by omega) (by rw [List.length_map, List.length_cons]; exact Nat.succ_pos _), rfl, ?_⟩
  have hb2 : upd H l (.lst (r.map V.int)) b = some (.lst [.ref l, .int 0, .int s, .int c]) := by rw [upd_ne ne]; exact hb
  refine ⟨_, rfl, 2, n, rfl, rfl, .inl ⟨by omega, by omega⟩, ?_⟩
  have rest : ∀ m : Int, 0 ≤ m → tSeq (tIfS (tTest (tOp iGe (tVar 3) (tOp iPow (cI 10) (cI 18)))) (tAsg (tVar 3) (gBg 1)) tNext)
      (tAsg (tOp iMod (tInt (tOp iAdd (tOp iAdd (tOp iMul (tBg K 2) (cI 48271)) (tVar 3)) (cI 1))) (cI 2147483647)) (gBg 2)) E [some (.ref b), some (.int lim), some (.int n), some (.int m), x4, x5] (upd H l (.lst (r.map V.int))) := by
    intro m m0
    refine ⟨_, rfl, 10, 18, rfl, rfl, ⟨by omega, by omega, by decide⟩, m, _, rfl, rfl, _, rfl, ?_⟩
    dsimp only
    split
    · refine ⟨_, rfl, bg_set rfl hb2 rfl ?_⟩
      have hb3 : upd (upd H l (.lst (r.map V.int))) b (.lst [.ref l, .int m, .int s, .int c]) b = some (.lst [.ref l, .int m, .int s, .int c]) := upd_same
      refine bg_get (b := b) rfl hb3 rfl ⟨s, 48271, rfl, rfl, .inr (by omega), _, rfl, _, m, rfl, rfl, _, 1, rfl, rfl, .inl ⟨_, rfl, _, _, rfl, rfl, by omega, ?_⟩⟩
      refine bg_set (b := b) rfl hb3 rfl ?_
      rw [upd_upd]
      exact k m _ _ _ m0 (Int.emod_nonneg _ (by omega)) (Int.emod_lt_of_pos _ (by omega))
    · refine bg_get (b := b) rfl hb2 rfl ⟨s, 48271, rfl, rfl, .inr (by omega), _, rfl, _, m, rfl, rfl, _, 1, rfl, rfl, .inl ⟨_, rfl, _, _, rfl, rfl, by omega, ?_⟩⟩
      refine bg_set (b := b) rfl hb2 rfl ?_
      exact k 0 _ _ _ (by omega) (Int.emod_nonneg _ (by omega)) (Int.emod_lt_of_pos _ (by omega))
  refine ⟨_, rfl, n, 0, rfl, rfl, _, rfl, ?_⟩
  dsimp only
  split
  · rename_i neg
    have neg' : n < 0 := of_decide_eq_true neg
    refine ⟨2, rfl, _, rfl, -2, n, rfl, rfl, .inl ⟨by omega, by omega⟩, _, 1, rfl, rfl, ?_⟩
    exact rest (-2 * n - 1) (by omega)
  · rename_i neg
    have neg' : ¬ n < 0 := fun z => neg (decide_eq_true z)
    exact rest (2 * n) (by omega)
theorem draw_all {a s c lim : Int} {ns : List Int} {x2 x3 x4 x5 : Option V} (hb : H b = some (.lst [.ref l, .int a, .int s, .int c])) (hl : H l = some (.lst (ns.map V.int))) (ne : b ≠ l) (a0 : 0 ≤ a) (s0 : 0 ≤ s) (s1 : s < 2147483647) (c0 : 0 ≤ c) (few : ns.length ≤ 63) (h0 : 0 < lim) (h1 : lim < 2 ^ 200)
    (k : ∀ d H', 0 ≤ d → d < lim → BagAt H' b l → (∀ x, x ≠ b → x ≠ l → H' x = H x) → E.rt (.int d) H') : tDraw K E [some (.ref b), some (.int lim), x2, x3, x4, x5] H := by
  have tail : ∀ (a s : Int) (ns : List Int) (H1 : Hp) (x2 x3 : Option V), H1 b = some (.lst [.ref l, .int a, .int s, .int c]) → H1 l = some (.lst (ns.map V.int)) → 0 ≤ a → 0 ≤ s → s < 2147483647 → ns.length ≤ 63 → (∀ x, x ≠ b → x ≠ l → H1 x = H x) →
      tSeq (tIfS (tTest (tOp iGt (tBg K 1) (cI 0))) (tDraw2 K) tNext) (tDraw3 K) E [some (.ref b), some (.int lim), x2, x3, x4, x5] H1 := by
    intro a s ns H1 x2 x3 hb hl a0 s0 s1 few sm
    refine bg_get rfl hb rfl ⟨a, 0, rfl, rfl, _, rfl, ?_⟩
    dsimp only
    split
    · refine draw2 hb h0 h1 (k _ _ (Int.emod_nonneg _ (by omega)) (Int.emod_lt_of_pos _ h0) ⟨ns, a / lim, s, c, upd_same, ?_, few, Int.ediv_nonneg a0 (by omega), s0, s1, c0⟩ fun x n1 n2 => ?_)
      · rw [upd_ne (Ne.symm ne)]; exact hl
      · rw [upd_ne n1]; exact sm x n1 n2
    · refine draw3 hb h0 fun d d0 d1 => k _ _ d0 d1 ⟨ns, a, s, c + 1, upd_same, ?_, few, a0, s0, s1, by omega⟩ fun x n1 n2 => ?_
      · rw [upd_ne (Ne.symm ne)]; exact hl
      · rw [upd_ne n1]; exact sm x n1 n2
  refine bg_get rfl hb rfl ⟨rfl, _, rfl, ?_⟩
  dsimp only
  split
  · rename_i za
    have za' : a = 0 := by
      have := of_decide_eq_true za
      injection this
    subst za'
    refine bg_get rfl hb rfl ⟨_, (ns.map V.int).length, rfl, .inl ⟨_, SqL.of hl, rfl⟩, _, 0, rfl, rfl, _, rfl, ?_⟩
    dsimp only
    split
    · rename_i pos
      cases ns with
      | nil => simp at pos
      | cons n r =>
        refine draw1 hb hl ne fun a' s' y2 y3 q1 q2 q3 => tail a' s' r _ y2 y3 upd_same ?_ q1 q2 q3 ?_ fun x n1 n2 => ?_
        · rw [upd_ne (Ne.symm ne), upd_same]
        · simp only [List.length_cons] at few; omega
        · rw [upd_ne n1, upd_ne n2]
    · exact tail 0 s ns H _ _ hb hl a0 s0 s1 few fun _ _ _ => rfl
  · exact tail a s ns H _ _ hb hl a0 s0 s1 few fun _ _ _ => rfl
end
end Tl
/-! The defs of the bag, and a law's own frame. -/
namespace Tl
open PySem PySem.Spec PyProof.Rows L2
section
variable {P : Program} {w : World} {K : PySem.W.Frag} {mg : Str → Option Value} {base : Heap} {x qual : Str} {params : Arguments} {body : List Stmt} {scope : Scope} {dvs : List V} {kws : List (Str × V)} {f : Addr} {fd : FuncData} {k : Nat}
theorem pure_draw {vs : List V} {H : Hp} {Q : VK} {E : XK} (h : spOf K fsDraw vs H Q E) : vs.length = 2 ∧ tDraw K { nx := fun _ H' => Q .non H', rt := Q } (vs.map some ++ List.replicate (6 - vs.length) none) H := by
  obtain ⟨F, os, R, ex, rk, e, b, l, lim, rfl, h0, h1, m, k⟩ := h
  obtain ⟨v, u, rfl, ev, eu⟩ := ens2i e
  have ev' := en_adr ev
  subst ev'
  rw [of_int (en_val eu)]
  refine ⟨rfl, ?_⟩
  obtain ⟨ns, a, s, c, hb, hl, few, a0, s0, s1, c0⟩ := rk.ok _ m
  have ne : b ≠ l := by
    intro z
    rw [z, hl] at hb
    cases ns with
    | nil => cases hb
    | cons n r => cases hb
  refine draw_all hb hl ne a0 s0 s1 c0 few h0 h1 fun d H' d0 d1 bg sm => ?_
  obtain ⟨A, B, rfl⟩ := List.append_of_mem m
  refine k d d0 d1 (.int d) F H' (Fin.mut (r := .bag b l) (s := .bag b l) ex rk rfl (fun y hy => sm y (fun z => hy (by rw [z]; simp [Res.fp])) (fun z => hy (by rw [z]; simp [Res.fp]))) (fun y hy => ?_) bg) (enVal (rep_int d))
  obtain ⟨o, e⟩ := (show (Res.bag b l).ok K F H' from bg).there hy
  rw [e]
  exact fun z => nomatch z
theorem fn_draw {N ps : List Str} (Fd : FunD K x qual params body scope dvs kws f fd) (Sc : FnScope N ps scope) (hN : N.length = 6) (hps : ps.length = 2)
    (hd : ∀ (cdv : Value) (A : Around) (outer : List Env) (s : Shared) (H : Hp) (E : XK), PSs (cxOf (L2.CX P w) P w K mg base N qual scope f cdv A outer s H E) body (tDraw K)) : FnOk P w K mg base (L2.CX P w) (k + 1) f fd ps (spOf K fsDraw) := by
  refine Fd.ok Sc (fun vs H Q E h => ?_) (fun cdv A outer s H vs Q E hr h => ⟨tDraw K, hd cdv A outer s H E, ?_⟩)
  · rw [(pure_draw h).1, hps]
  · unfold L2.start
    rw [hN]
    exact (pure_draw h).2
/-! ### the bag -/
abbrev rLOf (K : PySem.W.Frag) : List V → Hp → VK → Prop := fun xs H Q => ∃ p ys, xs = [.ref p] ∧ (SqL K H p ys ∨ SqT K H p ys) ∧ ∀ l, H l = none → Q (.ref l) (upd H l (.lst ys))
def tBag (K : PySem.W.Frag) : TS := tRet (tLst (tCons (tCB (rLOf K) (tCons (tSl (rSlL K) (tVar 0) tNoPart (tPart (cI 63))) tNil)) (tCons (cI 0) (tCons (cI 0) (tCons (cI 0) tNil)))))
def spBag (K : PySem.W.Frag) : Sp := fun vs H Q _ => ∃ (a : Addr) (ns : List Int), vs = [.ref a] ∧ SqL K H a (ns.map V.int) ∧ ns.length ≤ 63 ∧ ∀ b l H', BagAt H' b l → b ≠ l → Q (.ref b) H'
theorem fn_bag {N ps : List Str} (Fd : FunD K x qual params body scope dvs kws f fd) (Sc : FnScope N ps scope) (hN : N.length = 1) (hps : ps.length = 1)
    (hd : ∀ (cdv : Value) (A : Around) (outer : List Env) (s : Shared) (H : Hp) (E : XK), PSs (cxOf (L2.CX P w) P w K mg base N qual scope f cdv A outer s H E) body (tBag K)) : FnOk P w K mg base (L2.CX P w) (k + 1) f fd ps (spBag K) := by
  refine Fd.ok Sc (fun vs H Q E h => ?_) (fun cdv A outer s H vs Q E hr h => ⟨tBag K, hd cdv A outer s H E, ?_⟩)
  · obtain ⟨a, ns, rfl, _⟩ := h
    rw [hps]; rfl
  · obtain ⟨a, ns, rfl, sq, few, q⟩ := h
    unfold L2.start
    rw [hN]
    have cut : cutV (ns.map V.int) none (some 63) = ns.map V.int := by
      unfold cutV
      rw [HT.sIx_none, show HT.sIx (ns.map V.int).length (ns.map V.int).length (some 63) = min 63 (ns.map V.int).length from HT.sIx_nat _ _ 63, List.length_map]
      show List.take (min 63 ns.length - 0) (ns.map V.int) = _
      rw [List.take_of_length_le (by rw [List.length_map]; omega)]
    refine ⟨.ref a, rfl, 63, rfl, a, _, rfl, sq, fun p0 h0 => ?_⟩
    rw [cut]
    refine ⟨p0, _, rfl, .inl (SqL.of upd_same), fun p1 h1 => ⟨by show 4 ≤ sizeLine; decide, fun p2 h2 => ?_⟩⟩
    have n12 : p1 ≠ p2 := fun z => by
      rw [← z, upd_same] at h2
      cases h2
    refine q p2 p1 _ ⟨ns, 0, 0, 0, upd_same, ?_, few, by omega, by omega, by omega, by omega⟩ (Ne.symm n12)
    rw [upd_ne n12, upd_same]
/-! ### a law -/
def spLaw (K : PySem.W.Frag) : Sp := fun vs H Q _ => ∃ (a : Addr) (ns : List Int), vs = [.ref a] ∧ SqL K H a (ns.map V.int) ∧ ns.length ≤ 63 ∧ ∀ H', Q (.bl true) H'
/-- the law's own rule: its first statement lays the bag, the others go by data -/
theorem fn_law {N : List Str} {y : Str} {st : Stmt} {rest : List Stmt} {n : Nat} (Fd : FunD K x qual params body scope dvs kws f fd) (Sc : FnScope N [y] scope) (hN : N.length = n + 2) (hbody : body = st :: rest)
    (hb : ∀ (cdv : Value) (A : Around) (outer : List Env) (s : Shared) (H : Hp) (E : XK), Room k (A.deeper (envOfC qual scope s.heap.objs.size f cdv)) → Tk (cxOf (L2.CX P w) P w K mg base N qual scope f cdv A outer s H E) (WF E) →
      PS (cxOf (L2.CX P w) P w K mg base N qual scope f cdv A outer s H E) st (tAsg (tCallSD (spBag K) [] (L2.WE (WF E)) (tCons (tVar 0) tNil)) (gName 1)) ∧
      ∃ ts ws, DSs (cxOf (L2.CX P w) P w K mg base N qual scope f cdv A outer s H E) (WF E) rest ts ws ∧
        ∀ b l, ws (.no :: .adr b :: List.replicate n .no) [.bag b l] { nx := fun _ _ => False, rt := fun o _ => o = .val (.bl true) } (fun _ _ _ => False)) :
    FnOk P w K mg base (L2.CX P w) (k + 1) f fd [y] (spLaw K) := by
  subst hbody
  refine Fd.ok Sc (fun vs H Q E h => ?_) (fun cdv A outer s H vs Q E hr h => ?_)
  · obtain ⟨a, ns, rfl, _⟩ := h
    rfl
  · obtain ⟨a, ns, rfl, sq, few, q⟩ := h
    obtain ⟨p1, ts, ws, dd, go⟩ := hb cdv A outer s H E hr ⟨takes_of rfl rfl rfl rfl, passes_of rfl⟩
    refine ⟨_, pss_cons p1 dd.p, ?_⟩
    unfold L2.start
    rw [hN]
    refine ⟨.ref a, rfl, a, ns, rfl, sq, few, fun b l H' bg ne => ?_⟩
    have rk : ROk K (fun _ => none) H' [.bag b l] := ⟨fun r hr => by
      rw [List.mem_singleton.mp hr]
      exact bg, by
      show [b, l].Nodup
      simp only [List.nodup_cons, List.mem_singleton, List.not_mem_nil, not_false_eq_true, List.nodup_nil, and_true]
      exact ne, fun _ _ => rfl⟩
    have st : S K ⟨fun _ => none, H', [.bag b l]⟩ (.no :: .adr b :: List.replicate n .no) [.bag b l] (some (.ref a) :: some (.ref b) :: List.replicate n none) (fun _ => none) H' :=
      ⟨.same (fun _ _ h => nomatch h) rk, ⟨_, _, rfl, trivial, _, _, rfl, rfl, env_no n⟩⟩
    refine dd.v _ _ _ _ _ (fun er env R' σ F' H' cls d hp => False.elim hp) (go b l) _ _ _ _ st ⟨fun env R' σ F' H' hp => False.elim hp, fun o R' v F' H' hp f' eo => ?_, fun env R' σ F' H' hp s' => False.elim hp, fun env R' σ F' H' hp s' => False.elim hp⟩
    subst hp
    rw [of_bl (en_val eo)]
    exact q H'
end
end Tl
/-! The rules: raise of an own error class without arguments. -/
namespace Tl
open PySem PySem.Spec PyProof.Rows L2
/-- an own error class over ValueError, without an own __init__ -/
structure ExK (K : PySem.W.Frag) (mg : Str → Option Value) (c : Str) : Prop where
  q : PySem.W.excIn K (He.ga K c) He.veBase "ValueError.__new__" = true
  kp : PySem.W.keepIn K (.ref (He.ga K c)) = true
  sb : PySem.W.subIn K (.ref (He.ga K c)) (.type "BaseException") = some true
  ty : PySem.W.typeIn K (.ref (He.ga K c)) = some (.type "type")
  gl : mg c = some (.ref (He.ga K c))
section
variable {X : Cx} {W : WX} {c : Str} {p pos pos' : Pos}
theorem pmk_own0 (k : ExK X.K X.mg c) (hg : Gl X c) (hdb : (c == ("__debug__" : Str)) = false := by decide) : PMk X (.Call (.Name c p) [] [] pos) (fun _ H Q => Q (.ref (He.ga X.K c)) none H) := by
  intro pins s σ H Q I h
  refine wpAny_Call_Name_kw (ld_glob I hg k.gl (PySem.W.callWith_K0 I.kIn k.kp ?_) hdb)
  show wpAny _ _ (call (.ref (He.ga X.K c)) []) _ _ _
  obtain ⟨bm, N, nm, qn, bs, hdct, sn, sub, ab, col, dd, k0, k1, k2, k3, k5, mN, hC, hN, hni, T⟩ := exc_obj I.kIn k.q
  refine wpAny_call_exc_subT PySem.F.excBase_ValueError T hC hN hni (fun h' e hm => ?_) (Nat.zero_le _)
  exact mk_of I hm (raises_own k.sb k.ty) h (I.hok.gone hm.new)
theorem s_raise0 (hc : X.calm = true) (tk : Tk X W) (k : ExK X.K X.mg c) (hg : Gl X c := by rfl) (hdb : (c == ("__debug__" : Str)) = false := by decide) :
    DS X W (.Raise (some (.Call (.Name c p) [] [] pos)) none pos') (fun _ σ H => W (.ref (He.ga X.K c)) none σ H) (fun env R _ Ψ => Ψ (.plain c) env R) :=
  ⟨ps_raise hc tk.takes (pmk_own0 k hg hdb), fun B env R P Ψ acc w σ F H E s kk => acc (.plain c) env R σ F H _ none w s ⟨rfl, rfl⟩ fun _ z => nomatch z⟩
end
end Tl
/-! What the head tells of defs, methods and classes, as packages for the rules. -/
namespace Tl
open PySem PySem.Spec PyProof.Rows L2
structure DefK (K : PySem.W.Frag) (mg : Str → Option Value) (x q : Str) (st : Stmt) (dv : List D) : Prop where
  ex : ∃ fd, FunD K x q (defArgs st) (defBody st) (defScope st) (dv.map lit) [] (He.ga K x) fd
  gl : mg x = some (.ref (He.ga K x))
structure MethK (K : PySem.W.Frag) (c m q : Str) (st : Stmt) (dv : List D) : Prop where
  ex : ∃ fd, FunD K m q (defArgs st) (defBody st) (defScope st) (dv.map lit) [] (He.ma K (He.ga K c) m) fd
  cl : Cls K (He.ga K c)
  me : Meth K (He.ga K c) m (He.ma K (He.ga K c) m)
structure ClsK (K : PySem.W.Frag) (mg : Str → Option Value) (c q : Str) (st : Stmt) (dv : List D) : Prop where
  ex : ∃ fd, FunD K "__init__" q (defArgs st) (defBody st) (defScope st) (dv.map lit) [] (He.ma K (He.ga K c) "__init__") fd
  mkr : Mk K (He.ga K c) (He.ma K (He.ga K c) "__init__")
  gl : mg c = some (.ref (He.ga K c))
section
variable {P : Program} {w : World} {K : PySem.W.Frag} {mg : Str → Option Value} {base : Heap} {x q c m : Str} {st : Stmt} {dv : List D} {ps : List Str} {fs : FS} {k : Nat}
abbrev BindN (x q : Str) (st : Stmt) (ps : List Str) : Prop := ∀ (kV doc pm : Value) (an : Option Addr) (cdv ct : Value) (us : List Value), us.length = ps.length → bindArgs (PySem.W.fnOf x q (defArgs st) (defBody st) (defScope st) .none kV doc pm an cdv ct) ⟨us, []⟩ = pure (ps.zip us)
abbrev BindD (x q : Str) (st : Stmt) (dv : List D) (ps : List Str) (n j : Nat) : Prop := ∀ (T : Addr) (kV doc pm : Value) (an : Option Addr) (cdv ct : Value) (us its : List Value), us.length = n → its.length = (dv.map lit).length →
  ∃ k, bindArgs (PySem.W.fnOf x q (defArgs st) (defBody st) (defScope st) (.ref T) kV doc pm an cdv ct) ⟨us, []⟩ = seqItems? (.ref T) >>= k ∧ k (some its.toArray) = pure (ps.zip (us ++ its.drop j))
theorem fx_of (D : DefK K mg x q st []) (ok : ∀ f fd, FunD K x q (defArgs st) (defBody st) (defScope st) [] [] f fd → FnOk P w K mg base (L2.CX P w) k f fd ps (spOf K fs)) (b : BindN x q st ps) : Fx P w K mg base k x fs [] := by
  obtain ⟨fd, F⟩ := D.ex
  exact ⟨⟨_, fd, ps, [], ok _ fd F, D.gl, F.kp, F.bindsN b, .nil⟩, rfl⟩
theorem fx_ofD (D : DefK K mg x q st dv) (hl : dv.all isLit = true) (hne : dv ≠ []) (n j : Nat) (hn : n + (dv.length - j) = ps.length) (ok : ∀ f fd, FunD K x q (defArgs st) (defBody st) (defScope st) (dv.map lit) [] f fd → FnOk P w K mg base (L2.CX P w) k f fd ps (spOf K fs)) (b : BindD x q st dv ps n j) : Fx P w K mg base k x fs (dv.drop j) := by
  obtain ⟨fd, F⟩ := D.ex
  obtain ⟨ds, v, bd⟩ := F.binds1 (ps := ps) n j (fun z => hne (List.map_eq_nil_iff.mp z)) (by rw [List.length_map]; exact hn) b
  refine ⟨⟨_, fd, ps, ds, ok _ fd F, D.gl, F.kp, bd, by rw [List.map_drop]; exact v⟩, ?_⟩
  exact List.all_eq_true.mpr fun y hy => List.all_eq_true.mp hl y (List.mem_of_mem_drop hy)
theorem mx_of (D : MethK K c m q st []) (ok : ∀ f fd, FunD K m q (defArgs st) (defBody st) (defScope st) [] [] f fd → FnOk P w K mg base (L2.CX P w) k f fd ps (spOf K fs)) (b : BindN m q st ps) : Mx P w K mg base k c m fs [] := by
  obtain ⟨fd, F⟩ := D.ex
  exact ⟨⟨_, fd, ps, [], D.cl, D.me, ok _ fd F, F.bindsN b, .nil⟩, rfl⟩
theorem cx_of (D : ClsK K mg c q st []) (ok : ∀ f fd, FunD K "__init__" q (defArgs st) (defBody st) (defScope st) [] [] f fd → FnOk P w K mg base (L2.CX P w) k f fd ps (spOf K fs)) (b : BindN "__init__" q st ps) : Cx' P w K mg base k c fs [] := by
  obtain ⟨fd, F⟩ := D.ex
  exact ⟨⟨_, fd, ps, [], D.mkr, ok _ fd F, D.gl, F.bindsN b, .nil⟩, rfl⟩
theorem cx_ofD (D : ClsK K mg c q st dv) (hl : dv.all isLit = true) (hne : dv ≠ []) (n j : Nat) (hn : n + (dv.length - j) = ps.length) (ok : ∀ f fd, FunD K "__init__" q (defArgs st) (defBody st) (defScope st) (dv.map lit) [] f fd → FnOk P w K mg base (L2.CX P w) k f fd ps (spOf K fs)) (b : BindD "__init__" q st dv ps n j) : Cx' P w K mg base k c fs (dv.drop j) := by
  obtain ⟨fd, F⟩ := D.ex
  obtain ⟨ds, v, bd⟩ := F.binds1 (ps := ps) n j (fun z => hne (List.map_eq_nil_iff.mp z)) (by rw [List.length_map]; exact hn) b
  refine ⟨⟨_, fd, ps, ds, D.mkr, ok _ fd F, D.gl, bd, by rw [List.map_drop]; exact v⟩, ?_⟩
  exact List.all_eq_true.mpr fun y hy => List.all_eq_true.mp hl y (List.mem_of_mem_drop hy)
end
/-- isinstance's answers, as a table that can be checked -/
def insB (K : PySem.W.Frag) (c : Str) : Bool := (He.Fa.cls c).ok K && (He.eqO (PySem.W.findIn K (.ref (He.ga K c)) "__class__") (some (some (.builtin "object.__class__"))) && (He.eqO (PySem.W.specialIn K (.builtin "object.__class__") "__get__") (some (some (.builtin "getset_descriptor.__get__"))) &&
  (decide (PySem.W.takesIn K (.builtin "object.__class__") = some true) && (decide (PySem.W.mroIn K (He.ga K c) (.type "object") = some true) && decide (PySem.W.kitOne K (.ref (He.ga K c)) (.ref (He.ga K c)) = some true)))))
theorem insB_ok {K : PySem.W.Frag} {c : Str} (h : insB K c = true) : C8.InsC K (He.ga K c) := by
  unfold insB at h
  simp only [Bool.and_eq_true, decide_eq_true_eq] at h
  obtain ⟨h1, h2, h3, h4, h5, h6⟩ := h
  exact ⟨He.cls_ok h1, He.eqO_ok h2, He.eqO_ok h3, h4, h5, h6⟩
end Tl
/-! A comprehension's block, checked. -/
namespace Tl
open PySem PySem.Spec PyProof.Rows L2
def blkB (N : List Str) (sc scope : Scope) (own : List (Str × Nat)) : Bool :=
  decide (scope.kind = .function) && (decide (∀ y ∈ scope.names, scope.names.lookup y.1 = some y.2) && (decide (∀ p ∈ own, N[p.2]? = some p.1) &&
    (decide (∀ y ∈ scope.names, y.2 = .free → sc.names.lookup y.1 = some .cell ∨ sc.names.lookup y.1 = some .free) && decide (∀ y ∈ scope.names, y.2 = .local ∨ y.2 = .cell → y.1 ∈ own.map (·.1) ∨ y.1 ∉ N))))
theorem blk_of {N : List Str} {sc scope : Scope} {own : List (Str × Nat)} (h : blkB N sc scope own = true) : BlkOk N sc scope own := by
  unfold blkB at h
  simp only [Bool.and_eq_true, decide_eq_true_eq] at h
  exact ⟨h.1, h.2.1, h.2.2.1, h.2.2.2.1, h.2.2.2.2⟩
end Tl
/-! The same rules, the text's own part told apart (inside comprehensions). -/
namespace Tl
open PySem PySem.Spec PyProof.Rows L2
/-- X is a context of this text -/
structure Of (X : Cx) (P : Program) (w : World) (K : PySem.W.Frag) (mg : Str → Option Value) (base : Heap) : Prop where
  p : X.prog = P
  w : X.w = w
  k : X.K = K
  m : X.mg = mg
  b : X.base = base
section
variable {X : Cx} {W : WX} {P : Program} {w : World} {K : PySem.W.Frag} {mg : Str → Option Value} {base : Heap} {x m c : Str} {k j : Nat} {fs : FS} {dv : List D} {e o : Expr} {es : List Expr} {ts : TA} {wa : WA} {te : TE} {wo : WE} {p pos apos : Pos}
theorem b_fld {cs : List Str} {f : Str} (h : FldOk K cs f) (ho : DE X W o te wo) (hk : X.K = K := by rfl) (hb : attributeBase o f X.env (eval o X.env) = eval o X.env := by rfl) : DE X W (.Attribute o f pos) (tFld K te f) (wFld cs f wo) := by
  subst hk
  exact d_fld h ho hb
theorem b_ix (K : PySem.W.Frag) {a b : Expr} {ta tb : TE} {va vb : WE} (ha : DE X W a ta va) (hb : DE X W b tb vb) (hk : X.K = K := by rfl) (hs : PlainIx b := by intro _ _; rfl) : DE X W (.Subscript a b pos) (tOp (rIx K) ta tb) (w2 va vb kIx) := by
  subst hk
  exact d_ix ha hb hs
theorem b_len (K : PySem.W.Frag) (hk : X.K = K := by rfl) : DCall X (.builtin "len") (fun xs H Q => ∃ x n, xs = [x] ∧ LenV K x H n ∧ Q (.int n) H) kLen := by
  subst hk
  exact c_len
theorem b_isi {K : PySem.W.Frag} {c : D} {f : Ki → Option Bool} (I : Isi K c f) (hk : X.K = K := by rfl) : DCall X (.builtin "isinstance") (rIsi K) (kIsi c f) := by
  subst hk
  exact c_isi I
theorem b_call (mo : Mono fs) (cc : Fx P w K mg base k x fs dv) (hr : Room j X.A) (hk : k ≤ j) (tk : Tk X W) (ha : DA X W (e :: es) ts wa) (hX : Of X P w K mg base := by exact ⟨rfl, rfl, rfl, rfl, rfl⟩) (hg : Gl X x := by rfl) (hdb : (x == ("__debug__" : Str)) = false := by decide)
    (he : starEach (e :: es) X.env = (false, eval e X.env) :: starEach es X.env := by rfl) (hpl : (backTo pos (starEach es X.env)).any (·.1) = false := by rfl) :
    DE X W (.Call (.Name x p) (e :: es) [] pos) (tCallSD (spOf K fs) (dv.map lit) (L2.WE W) ts) (wCall fs dv wa) := by
  obtain ⟨rfl, rfl, rfl, rfl, rfl⟩ := hX
  exact d_call mo cc hr hk tk ha hg hdb he hpl
theorem b_call0 (mo : Mono fs) (cc : Fx P w K mg base k x fs dv) (hr : Room j X.A) (hk : k ≤ j) (tk : Tk X W) (hX : Of X P w K mg base := by exact ⟨rfl, rfl, rfl, rfl, rfl⟩) (hg : Gl X x := by rfl) (hdb : (x == ("__debug__" : Str)) = false := by decide) :
    DE X W (.Call (.Name x p) [] [] pos) (tCallSD (spOf K fs) (dv.map lit) (L2.WE W) tNil) (wCall fs dv aNil) := by
  obtain ⟨rfl, rfl, rfl, rfl, rfl⟩ := hX
  exact d_call0 mo cc hr hk tk hg hdb
theorem b_make (mo : Mono fs) (cc : Cx' P w K mg base k c fs dv) (hr : Room j X.A) (hk : k + 1 ≤ j) (tk : Tk X W) (ha : DA X W (e :: es) ts wa) (hX : Of X P w K mg base := by exact ⟨rfl, rfl, rfl, rfl, rfl⟩) (hg : Gl X c := by rfl) (hdb : (c == ("__debug__" : Str)) = false := by decide)
    (he : starEach (e :: es) X.env = (false, eval e X.env) :: starEach es X.env := by rfl) (hpl : (backTo pos (starEach es X.env)).any (·.1) = false := by rfl) :
    DE X W (.Call (.Name c p) (e :: es) [] pos) (tMakeSD (He.ga K c) (spOf K fs) (dv.map lit) (L2.WE W) ts) (wMake c fs dv wa) := by
  obtain ⟨rfl, rfl, rfl, rfl, rfl⟩ := hX
  exact d_make mo cc hr hk tk ha hg hdb he hpl
end
end Tl
/-! The head: facts and one Bool more; the law's walk, its errors told by the world. -/
namespace Tl
open PySem PySem.Spec PyProof.Rows L2
abbrev AlE : Type := He.AlD × Bool
def obsE (n : Nat) (fa : List He.Fa) (fn : List He.DefD) (ex : PySem.W.Frag → Bool) (g : Addr → Option Obj) : AlE := (He.obsDG n fa fn g, ex (He.frG g (He.asD g n)))
def hookE (n : Nat) (fa : List He.Fa) (fn : List He.DefD) (ex : PySem.W.Frag → Bool) : PySem.W.Hook where
  α := AlE
  obs := fun s => obsE n fa fn ex s.heap.get?
  val := fun _ => (He.valD fn, true)
  says := fun _ h => ∃ K : PySem.W.Frag, K.In h ∧ He.SaysD fa fn K ∧ ex K = true
  of := fun _ _ e => ⟨_, He.frG_in, congrArg (fun z : AlE => z.1) e, congrArg (fun z : AlE => z.2) e⟩
  keeps := fun _ _ _ ⟨K, hK, c, d⟩ k => ⟨K, PySem.W.Frag.In.keeps hK k, c, d⟩
theorem obsE_eq {n : Nat} {fa : List He.Fa} {fn : List He.DefD} {ex : PySem.W.Frag → Bool} {g : Addr → Option Obj} {s : Shared} (h : ∀ a, g a = s.heap.get? a) : obsE n fa fn ex g = (hookE n fa fn ex).obs s := by
  have e : g = s.heap.get? := funext h
  subst e
  rfl
theorem walk_w {law : PySem.W.OpenLaw} {most k : Nat} {q : Program} {loose : List Str} {XP : (Str → Option Value) → Heap → Prop} {YP : World → Heap → Prop} {d : DefRec} {x : Str} (hm : law.most = some most) (hs : most ≤ sizeLine) (hp : d.params.defaults = []) (hr : Room k callerA)
    (give : ∀ (w : World) (mg : Str → Option Value) (f : Addr) (h : Heap), YP w h → h.Ns mainGlobals mg → mg d.name = some (.ref f) → ∃ (K : PySem.W.Frag) (fd : FuncData), K.In h ∧ (∀ (s : Shared) (u : Value), BindsTo s fd ⟨[u], []⟩ [(x, u)]) ∧ most ≤ 63 ∧
      ∀ base : Heap, K.In base → base.Ns mainGlobals mg → FnOk law.prog w K mg base (L2.CX law.prog w) k f fd [x] (spLaw K)) : PySem.W.WalkO q loose XP YP law.row.toRowW d [] (fun f vs => PySem.call f vs) := by
  refine Att.attach_call hm hp fun w s0 s1 mg mb f o pm cd doc a vs ns G Y ho hd hcd hmg hobj hints hlen hg => ?_
  obtain ⟨K, fd, inK, bind, m63, ok⟩ := give w mg f _ Y G.T.g hmg
  refine law_call inK G.T.g G.T.b G.T.builtins G.T.nolimit hg hobj hints (Nat.le_trans hlen hs) hr ok bind (fun H hO hS => ⟨a, ns, rfl, hS, Nat.le_trans hlen m63, fun _ => rfl⟩) fun H e s' z => ?_
  obtain ⟨_, _, _, _, _, _, _, _, _, _, _, _, z⟩ := z
  exact z
end Tl
section
set_option maxHeartbeats 2000000
/-! An own error class over ValueError whose __init__ says super().__init__(text) and keeps its argument. -/
namespace Exf
open PySem PySem.W PySem.Calls PyProof.Rows
open PySem.HandSPX (excO refsVE refsVE_contains exc_osa)
/-- the text of such an __init__ -/
def bodyX (f msg : Str) (k : Nat) (p0 p1 p2 p3 p4 p5 q1 q2 q3 q4 : Pos) : List Stmt :=
  [.Expr (.Call (.Attribute (.Call (.Name "super" p0) [] [] p1) "__init__" p2) [.Constant (.str msg) k p3] [] p4) p5, .Assign [.Attribute (.Name "self" q1) f q2] (.Name f q3) q4]
def argsX (f : Str) (p1 p2 : Pos) : Arguments := { posonlyargs := [], args := [{ arg := "self", annotation := none, pos := p1 }, { arg := f, annotation := none, pos := p2 }], vararg := none, kwonlyargs := [], kw_defaults := [], kwarg := none, defaults := [] }
def scopeX (f : Str) : Scope := { kind := .function, names := [(PySem.Str.ofString "self", .local), (f, .local), (PySem.Str.ofString "__class__", .free), (PySem.Str.ofString "super", .globalImplicit)], isGenerator := false, isCoroutine := false, more := [] }
/-- what the written part says of the class at C and of its __init__ at fI -/
structure XTxt (prog : Program) (K : Frag) (C fI : Addr) (f : Str) : Prop where
  cls : ∃ nm q N bs bm sn sub ab col dd k0 k1 k2 k3 k5, K.lookup C = some (excClassObj nm q C N bs bm true sn sub ab col dd k0 k1 k2 k3 k5 "ValueError.__new__") ∧ refsVE bm = true
  sa : findIn K (.ref C) "__setattr__" = some (some (.builtin "object.__setattr__"))
  no : findIn K (.ref C) f = some none
  ini : findIn K (.ref C) "__init__" = some (some (.ref fI))
  ty : typeIn K (.ref fI) = some (.type "function")
  sup : ks_superIn K C C "__init__" = some (some (.builtin "ValueError.__init__"))
  ve : subIn K (.ref C) (.type "ValueError") = some true
  me : mroIn K C (.ref C) = some true
  opq : nsIn K cStatics "thirdparty.any" = some none
  top : (prog.main.scope.names.lookup ("super" : Str)).isSome = false
  f1 : f ≠ "self"
  f2 : f ≠ "__class__"
  f3 : f ≠ "super"
  f4 : f ≠ "__debug__"
  f5 : f ≠ "__classdict__"
  fn : ∃ (oc : Value) (od : Option Addr) (qual : Str) (doc pm : Value) (an : Option Addr) (cda : Addr) (ct : Value) (osl : Array (Option Value)) (cc : Addr) (msg : Str) (k : Nat) (a1 a2 p0 p1 p2 p3 p4 p5 q1 q2 q3 q4 : Pos),
    K.lookup fI = some ⟨oc, od, .func (ksFn "__init__" qual (argsX f a1 a2) (bodyX f msg k p0 p1 p2 p3 p4 p5 q1 q2 q3 q4) (scopeX f) .none .none doc pm an (.ref cda) ct cc), osl⟩ ∧ codeIn K (.ref cda) qual = true ∧
    (∃ ccl cdd vs ccs file tf, K.lookup cda = some ⟨ccl, cdd, .fields vs, ccs⟩ ∧ vs[2]? = some (.str file tf) ∧ ((prog.main.file : Str) == file) = true) ∧ (∃ cl cld csl, K.lookup cc = some ⟨cl, cld, .cell (some (.ref C)), csl⟩) ∧
    (∀ u v : Value, bindArgs (ksFn "__init__" qual (argsX f a1 a2) (bodyX f msg k p0 p1 p2 p3 p4 p5 q1 q2 q3 q4) (scopeX f) .none .none doc pm an (.ref cda) ct cc) ⟨[u, v], []⟩ = pure [(("self" : Str), u), (f, v)]) ∧
    ∀ env : Env, ∃ pl : Sem Bool, eval (.Call (.Attribute (.Call (.Name "super" p0) [] [] p1) "__init__" p2) [.Constant (.str msg) k p3] [] p4) env = (do
      let ov ← attributeBase (.Call (.Name "super" p0) [] [] p1) "__init__" env (eval (.Call (.Name "super" p0) [] [] p1) env)
      standAt p2.atName
      let (g, first) ← holding [ov] (getMethod ov "__init__" pl)
      callWith p4 g first (backTo p4 (starEach [.Constant (.str msg) k p3] env)) [])
structure InitEnd (h h' : Heap) (x C dx t1 : Addr) (f : Str) (v : Value) : Prop where
  keep : ∀ b o, b ≠ x → h.get? b = some o → h'.get? b = some o
  obj : h'.get? x = some { cls := .ref C, dict := some dx, data := .fields #[.ref t1, .none, .none, .none, .bool false, .none] }
  big : h.objs.size ≤ dx
  ne : dx ≠ x
  ns : h'.Ns1 dx (fun y => if y = f then some v else none)
section
variable {prog : Program} {w : World} {A : Around} {E : Value → Shared → Prop} {R : Result → Shared → Prop} {s : Shared} {K : Frag} {mg mb : Str → Option Value} {C fI : Addr} {f : Str}
/-- the bound __init__ of ValueError, called -/
theorem call_mw {u e t0 : Addr} {rest : List Value} {Q : Value → Shared → Prop} {h : Heap} {g : Array GenState} {d : Drawn} {t : Nat} {os : OsState} {nm q : Str} {N : Addr} {bs bm : List Value} {hdct : Bool} {sn : List Str} {sub : List Value} {ab : Bool} {col : Option Bool} {dd : Option Addr} {k0 k1 k2 k3 k5 : Option Value}
    (hC : h.get? C = some (excClassObj nm q C N bs bm hdct sn sub ab col dd k0 k1 k2 k3 k5 "ValueError.__new__")) (he : h.get? e = some (excO C t0)) (hu : h.get? u = some (kxs_mw "ValueError.__init__" e)) (fit : rest.length ≤ sizeLine)
    (hq : ∀ h', (∀ b o, b ≠ e → h.get? b = some o → h'.get? b = some o) → h'.get? e = some (excO C h.objs.size) → Q .none ⟨h', g, d, t, os⟩) : wpAny (model prog w) A (call (.ref u) rest) Q E ⟨h, g, d, t, os⟩ := by
  refine wpAny_call (codeAny_of_tree ?_)
  show wpAny _ A.in1 (callAny (.ref u) ⟨rest, []⟩) _ _ _
  simp only [callAny]
  refine wpAny_bind (wpAny_load hu ?_)
  simp only [kxs_mw, show (Value.type "method-wrapper" == Value.type "method" || Value.type "method-wrapper" == Value.type "builtin_function_or_method" || Value.type "method-wrapper" == Value.type "method-wrapper") = true by decide, if_true]
  refine KFB.if_so (by decide) (wpAny_bind (check_bound_init F.excBase_ValueError.toExcCallFacts hC he rfl (wpAny_bind (wpAny_pure (wpAny_pure ?_)))))
  refine ⟨plainId_quiet F.excBase_ValueError.init.plain _, codeAny_builtin F.excBase_ValueError.initEntry ?_⟩
  exact exc_init_tree (cls := .ref C) (t0 := t0) (dv := none) (c2 := .none) (c3 := .none) (b4 := .bool false) he fit fun h' a b _ => hq h' a b
theorem look_self (hf : f ≠ "self") : (scopeX f).names.lookup ("self" : Str) = some .local := by
  rfl
theorem look_f (hf : f ≠ "self") : (scopeX f).names.lookup f = some .local := by
  show (match f == ("self" : Str) with | true => _ | false => _) = _
  rw [beq_eq_false_iff_ne.mpr hf]
  show (match f == f with | true => _ | false => _) = _
  rw [beq_self_eq_true]
theorem look_cls (h2 : f ≠ "__class__") : (scopeX f).names.lookup ("__class__" : Str) = some .free := by
  show (match ("__class__" : Str) == ("self" : Str) with | true => some NameKind.local | false => match ("__class__" : Str) == f with | true => _ | false => _) = _
  rw [show (("__class__" : Str) == ("self" : Str)) = false by decide +kernel]
  dsimp only
  rw [beq_eq_false_iff_ne.mpr (Ne.symm h2)]
  rfl
theorem look_sup (h3 : f ≠ "super") : (scopeX f).names.lookup ("super" : Str) = some .globalImplicit := by
  show (match ("super" : Str) == ("self" : Str) with | true => some NameKind.local | false => match ("super" : Str) == f with | true => _ | false => _) = _
  rw [show (("super" : Str) == ("self" : Str)) = false by decide +kernel]
  dsimp only
  rw [beq_eq_false_iff_ne.mpr (Ne.symm h3)]
  rfl
end
end Exf
end
section
set_option maxHeartbeats 4000000
/-! Such an __init__, walked. -/
namespace Exf
open PySem PySem.W PySem.Calls PyProof.Rows
open PySem.HandSPX (excO refsVE refsVE_contains exc_osa)
section
variable {prog : Program} {w : World} {A : Around} {E : Value → Shared → Prop} {R : Result → Shared → Prop} {s : Shared} {K : Frag} {mg mb : Str → Option Value} {C fI : Addr} {f : Str}
theorem x_init (T : XTxt prog K C fI f) {x t0 : Addr} {v : Value} (X : K.In s.heap) (G : s.heap.Ns mainGlobals mg) (gs : mg "super" = none) (Bn : s.heap.Ns builtinsNs mb) (bs : mb "super" = some (.type "super")) (hlim : s.heap.NoLimit) (hx : s.heap.get? x = some (excO C t0)) (hnx : K.lookup x = none) (hroom : A.depth < recursionLimit)
    (hq : ∀ h' tk dx t1, InitEnd s.heap h' x C dx t1 f v → R (.ok (.ret .none)) { s with heap := h', toks := tk }) : codeAny (model prog w) A (.call (.ref fI) ⟨[.ref x, v], []⟩) R s := by
  obtain ⟨oc, od, qual, doc, pm, an, cda, ct, osl, cc, msg, k, a1, a2, p0, p1, p2, p3, p4, p5, q1, q2, q3, q4, ho, hcd, ⟨ccl, cdd, vs, ccs, file, tf, hcode, hvs, hfile⟩, ⟨cl, cld, csl, hcell⟩, bd, ev⟩ := T.fn
  obtain ⟨nm, q, N, bs', bm, sn, sub, ab, col, dd, k0, k1, k2, k3, k5, hC, hbm⟩ := T.cls
  have hcl : clsIn K C = some { name := nm, bases := bs', mro := .ref C :: bm, ns := N, qualname := q, hasDict := true, slotNames := sn, subclasses := sub, abstract := ab, collection := col, hasDel := false } := by
    unfold clsIn
    rw [hC]
  have l1 := look_self T.f1
  have l2 := look_f T.f1
  have l3 := look_cls T.f2
  have l4 := look_sup T.f3
  have dbg : (f == ("__debug__" : Str)) = false := beq_eq_false_iff_ne.mpr T.f4
  refine ks_codeAny_call_defAt (fd := ksFn "__init__" qual (argsX f a1 a2) (bodyX f msg k p0 p1 p2 p3 p4 p5 q1 q2 q3 q4) (scopeX f) .none .none doc pm an (.ref cda) ct cc) (binds := [("self", .ref x), (f, v)]) hroom (X _ _ ho) rfl hlim (codeRec_of X hcd) rfl ?bind ?cell ?loc (fun h₁ hns hk₁ => ?_) rfl rfl rfl
  case bind => exact BindsTo.of_eq (bd _ _)
  case cell =>
    intro y hy
    have hy' : y ∈ (scopeX f).names := hy
    simp only [scopeX, List.mem_cons, List.not_mem_nil, or_false] at hy'
    rcases hy' with rfl | rfl | rfl | rfl <;> exact fun z => nomatch z
  case loc =>
    intro y hy
    simp only [List.mem_cons, List.not_mem_nil, or_false] at hy
    rcases hy with rfl | rfl
    · exact l1
    · exact l2
  have X₁ : K.In h₁ := X.keeps hk₁
  have hx₁ := hk₁ _ _ hx
  have hm1 : ([(("self" : Str), Value.ref x), (f, v)].reverse.lookup ("self" : Str)) = some (.ref x) := by
    show (match ("self" : Str) == f with | true => some v | false => _) = _
    rw [beq_eq_false_iff_ne.mpr (Ne.symm T.f1)]
    rfl
  have hm2 : ([(("self" : Str), Value.ref x), (f, v)].reverse.lookup f) = some v := by
    show (match f == f with | true => some v | false => _) = _
    rw [beq_self_eq_true]
  obtain ⟨oC, hC1, hC2⟩ : ∃ oC, h₁.get? C = some oC ∧ oC.data = .cls { name := nm, bases := bs', mro := .ref C :: bm, ns := N, qualname := q, hasDict := true, slotNames := sn, subclasses := sub, abstract := ab, collection := col, hasDel := false } := ⟨_, X₁ _ _ hC, rfl⟩
  -- super().__init__(msg)
  obtain ⟨pl, hev⟩ := ev (callEnv (ksFn "__init__" qual (argsX f a1 a2) (bodyX f msg k p0 p1 p2 p3 p4 p5 q1 q2 q3 q4) (scopeX f) .none .none doc pm an (.ref cda) ct cc) s.heap.objs.size fI)
  refine ks_wpAt_execs_cons (ks_wpAt_Expr_any (ks_wpAt_MethodCall (pl := pl) ?_ hev))
  refine ks_wpAt_super_base (ar := ⟨"self", none, a1⟩) l4 l3 (by decide +kernel) rfl (X₁ _ _ ho) rfl rfl rfl (X₁ _ _ hcode) rfl hvs hfile T.top ?_
  refine ks_loadName_global rfl l4 (loadGlobal_builtin (G.keeps hk₁) gs (Bn.keeps hk₁) bs ⟨rfl, ?_⟩)
  refine wpAny_loadName_free rfl l3 rfl ⟨_, X₁ _ _ hcell, rfl⟩ (wpAny_loadName_local rfl l1 hns hm1 (ks_wpAny_isType_cls hC1 hC2 ⟨rfl, ?_⟩))
  refine ks_wpAny_call_super hC1 hC2 hx₁ rfl (fun c e => nomatch e) (looks_mroIn X₁ T.me) (fun h₂ e2 k2 => ?_)
  have X₂ : K.In h₂ := X₁.keeps k2
  have hx₂ := k2 _ _ hx₁
  have I₂ : InstAt h₂ x (excO C t0) C none := ⟨hx₂, rfl, rfl, trivial⟩
  have sup := T.sup
  unfold ks_superIn at sup
  rw [hcl] at sup
  refine kxs_getMethod kxs_ValueError e2 (looks_opaque X₂ T.opq) (l₀ := .ref C :: bm) (fun A Q E s k q => wpAny_bind ((looks_clsIn X₂ hcl) A _ E s k (wpAny_pure q))) rfl X₂ sup (I₂.type.andThen (looks_subIn X₂ T.ve)) (ks_ne X₂ I₂ hcl) (by decide +kernel) ?_
  refine kxs_callWith (i := "ValueError.__init__") (x := x) rfl (evalArgs_plain (Calls.spliced_cons (@Calls.Constant_str _ _ _ _ _ msg k p3 _ (Calls.spliced_nil ?_))))
  refine ⟨Heap.get?_push_size _ rfl, ?_⟩
  refine call_mw (Heap.get?_push_of_some _ (X₂ _ _ hC)) (Heap.get?_push_of_some _ hx₂) (Heap.get?_push_size _ rfl) (by show 1 ≤ sizeLine; decide) fun h₃ k3 e3 => ?_
  -- self.f = f
  have k13 : ∀ b o, b ≠ x → h₁.get? b = some o → h₃.get? b = some o := fun b o hb e => k3 b o hb (Heap.get?_push_of_some _ (k2 b o e))
  have Lx : s.heap.objs.size ≠ x := Nat.ne_of_gt (Heap.lt_size hx)
  have ns3 : h₃.Ns s.heap.objs.size (fun y => [(("self" : Str), Value.ref x), (f, v)].reverse.lookup y) := by
    obtain ⟨o, es, ep, e, r⟩ := hns
    exact ⟨o, es, ep, k13 _ _ Lx e, r⟩
  have X₃ : K.In h₃ := fun b o e => k13 b o (fun z => by rw [z, hnx] at e; cases e) (X₁ _ _ e)
  have I₃ : InstAt h₃ x (excO C (h₂.push (kxs_mw "ValueError.__init__" x)).objs.size) C none := ⟨e3, rfl, rfl, trivial⟩
  refine ks_wpAt_execs_cons (ks_wpAt_Assign_Attr (wpAt_of_wpAny (wpAny_Name (wpAny_loadName_local rfl l2 ns3 hm2 ?_) dbg)))
  refine wpAny_Name (wpAny_loadName_local rfl l1 ns3 hm1 ?_) (by decide +kernel)
  refine set_plain X₃ I₃ T.sa (exc_osa X₃ e3 hcl (show refsVE (.ref C :: bm) = true from hbm) rfl T.no (fun h₄ tk₄ dx k4 big ne obj ns => ?_))
  refine wpAt_of_wpAny (wpAny_execs_nil (hq h₄ _ dx _ ⟨fun b o hb e => k4 b o hb (k13 b o hb (hk₁ b o e)), obj, ?_, ne, ns⟩))
  exact Nat.le_of_lt (Nat.lt_of_lt_of_le ns3.lt big)
end
end Exf
end
section
set_option maxHeartbeats 2000000
/-! raise C(e), C such a class. -/
namespace Exf
open PySem PySem.W PySem.Calls PyProof.Rows
open PySem.HandSPX (excO refsVE refsVE_contains exc_osa call_own)
structure Made (h h' : Heap) (e C d : Addr) (f : Str) (v : Value) : Prop where
  keep : ∀ b o, h.get? b = some o → h'.get? b = some o
  new : h.objs.size ≤ e
  obj : ∃ oe vs, h'.get? e = some oe ∧ oe.cls = .ref C ∧ oe.dict = some d ∧ oe.data = .fields vs ∧ vs[1]? = some .none
  big : h.objs.size ≤ d
  ne : d ≠ e
  ns : h'.Ns1 d (fun y => if y = f then some v else none)
section
variable {prog : Program} {w : World} {A : Around} {R : Result → Shared → Prop} {s : Shared} {K : Frag} {mg mb : Str → Option Value} {C fI : Addr} {f : Str}
theorem x_made (T : XTxt prog K C fI f) {v : Value} (X : K.In s.heap) (G : s.heap.Ns mainGlobals mg) (gs : mg "super" = none) (Bn : s.heap.Ns builtinsNs mb) (bs : mb "super" = some (.type "super")) (hlim : s.heap.NoLimit) (hroom : A.depth + 1 < recursionLimit)
    (hq : ∀ h' tk e d, Made s.heap h' e C d f v → R (.ok (.ret (.ref e))) { s with heap := h', toks := tk }) : codeAny (model prog w) A (.call (.ref C) ⟨[v], []⟩) R s := by
  obtain ⟨nm, q, N, bs', bm, sn, sub, ab, col, dd, k0, k1, k2, k3, k5, hC, hbm⟩ := T.cls
  obtain ⟨hp, g, dr, tk, os⟩ := s
  have up : ∀ b o, hp.get? b = some o → ((hp.push (kdv_tup [v])).push (excO C hp.objs.size)).get? b = some o := fun b o e => Heap.get?_push_of_some _ (Heap.get?_push_of_some _ e)
  have at1 : ((hp.push (kdv_tup [v])).push (excO C hp.objs.size)).get? (hp.objs.size + 1) = some (excO C hp.objs.size) := by heap_get
  have nx : K.lookup (hp.objs.size + 1) = none := by
    cases e : K.lookup (hp.objs.size + 1) with
    | none => rfl
    | some o => exact absurd (Nat.lt_of_succ_lt (Heap.lt_size (show hp.get? (hp.objs.size + 1) = some o from X _ _ e))) (Nat.lt_irrefl _)
  refine call_own F.excBase_ValueError (fun Y => refsVE_contains Y bm hbm) (X _ _ hC) (looks_findIn X T.ini) (fun self => bind_fn X self T.ty) (by show 1 ≤ sizeLine; decide) ?_
  refine x_init (s := ⟨(hp.push (kdv_tup [v])).push (excO C hp.objs.size), g, dr, tk, os⟩) T (X.keeps up) (G.keeps up) gs (Bn.keeps up) bs (hlim.keeps up) at1 nx hroom fun h' tk' dx t1 ⟨k', hx, big, ne, ns⟩ => ?_
  have old : ∀ b o, hp.get? b = some o → h'.get? b = some o := fun b o e => k' b o (Nat.ne_of_lt (Nat.lt_succ_of_lt (Heap.lt_size e))) (up b o e)
  have z : hp.objs.size + 1 + 1 ≤ dx := by
    have b' := big
    simp only [Heap.size_push] at b'
    exact b'
  exact ⟨rfl, hq h' tk' (hp.objs.size + 1) dx ⟨old, Nat.le_succ _, ⟨_, _, hx, rfl, rfl, rfl, rfl⟩, Nat.le_trans (Nat.le_trans (Nat.le_succ _) (Nat.le_succ _)) z, ne, ns⟩⟩
end
end Exf
namespace Tl
open PySem PySem.Spec PyProof.Rows L2
theorem relO_one {v : V} {u : Value} (r : RelV v u) (f g : Str) : RelO (List.lookup g [(f, v)]) (if g = f then some u else none) := by
  by_cases e : g = f
  · subst e
    rw [if_pos rfl]
    have q : List.lookup g [(g, v)] = some v := by
      show (match g == g with | true => some v | false => none) = some v
      rw [beq_self_eq_true]
    rw [q]
    exact r
  · rw [if_neg e]
    have q : List.lookup g [(f, v)] = none := by
      show (match g == f with | true => some v | false => none) = none
      rw [beq_eq_false_iff_ne.mpr e]
    rw [q]
    trivial
/-- an own error class whose __init__ keeps its argument in the field f -/
structure ExF (prog : Program) (K : PySem.W.Frag) (mg : Str → Option Value) (c f : Str) : Prop where
  t : ∃ fI, Exf.XTxt prog K (He.ga K c) fI f
  kp : PySem.W.keepIn K (.ref (He.ga K c)) = true
  sb : PySem.W.subIn K (.ref (He.ga K c)) (.type "BaseException") = some true
  ty : PySem.W.typeIn K (.ref (He.ga K c)) = some (.type "type")
  gl : mg c = some (.ref (He.ga K c))
  gs : mg "super" = none
section
variable {X : Cx} {W : WX} {c f : Str} {a : Expr} {ta : TA} {va : WA} {p pos pos' : Pos} {k : Nat}
def tMkF (C : Addr) (f : Str) (ta : TA) : L2.St → Hp → XK → Prop := fun σ H Q => ta σ H fun vs H1 => ∃ v, vs = [v] ∧ ∀ d, H1 d = none → Q (.ref C) (some d) (upd H1 d (.xd [(f, v)]))
theorem pmk_fld (T : ExF X.prog X.K X.mg c f) (hr : Room k X.A) (ha : PA X [a] ta) (hg : Gl X c) (hdb : (c == ("__debug__" : Str)) = false := by decide)
    (he : starEach (a :: []) X.env = (false, eval a X.env) :: starEach [] X.env := by rfl) (hpl : (backTo pos (starEach [] X.env)).any (·.1) = false := by rfl) : PMk X (.Call (.Name c p) [a] [] pos) (tMkF (He.ga X.K c) f ta) := by
  intro pins s σ H Q I h
  obtain ⟨fI, T1⟩ := T.t
  refine wpAny_Call_Name_kw (ld_glob I hg T.gl ?_ hdb)
  refine PySem.W.callWith_K (h₀ := X.base) I.ok.mod.kin T.kp (thn (ha.run pos pins s σ H _ I h) fun us s1 hh => ?_) he hpl
  obtain ⟨vs, H1, I1, r1, v, rfl, q1⟩ := hh
  refine ⟨I1.kIn, ?_⟩
  obtain ⟨u, rfl, rv⟩ := vals1 r1
  show wpAny _ _ (call (.ref (He.ga X.K c)) [u]) _ _ _
  have hlim := I1.nolimit
  obtain ⟨mb, b1, b2⟩ := I1.mod.blt
  have G := I1.mod.glob.keeps I1.bk
  have Bn := b1.keeps I1.bk
  obtain ⟨hp, g, dr, tk, os⟩ := s1
  refine wpAny_call (Exf.x_made T1 I1.kIn G T.gs Bn ((b2 "super" (by decide)).trans (by decide +kernel)) hlim (by have := hr.dp; omega) fun h' tk' e d M => ?_)
  show MkP X pins σ Q (.ref e) ⟨h', g, dr, tk', os⟩
  obtain ⟨oe, fv, hoe, hc, hd, hdat, h1⟩ := M.obj
  obtain ⟨G', g1, g2⟩ := restrict h' fun b => decide (b ≠ e)
  have gk : ∀ b, b ≠ e → G'.get? b = h'.get? b := fun b hb => g1 b (decide_eq_true hb)
  have ge : G'.get? e = none := g2 e (by simp)
  have old : ∀ b o, hp.get? b = some o → G'.get? b = some o := fun b o q => (gk b (Nat.ne_of_lt (Nat.lt_of_lt_of_le (Heap.lt_size q) M.new))).trans (M.keep b o q)
  have ob : ObjOk X.prog X.w (upd H1 d (.xd [(f, v)])) G' d (.xd [(f, v)]) := ⟨_, M.ns.at (fun o q => (gk d M.ne).trans q), fun y => relO_one rv f y⟩
  have J : L2.Inv X pins σ (upd H1 d (.xd [(f, v)])) ⟨G', g, dr, tk', os⟩ := I1.laid (t' := tk') old M.big ob
  refine ⟨e, oe, fv, ⟨G', g, dr, tk', os⟩, _, .ref (He.ga X.K c), some d, rfl, J, fun b o q => ?_, ge, hoe, ⟨hc, hd⟩, hdat, h1, ?_, rfl, I1.bare, raises_own T.sb T.ty, q1 d (I1.hok.fresh M.big)⟩
  · by_cases hb : b = e
    · have q' : G'.get? b = some o := q
      rw [hb, ge] at q'; cases q'
    · exact (gk b hb).symm.trans q
  · rw [upd_ne (Ne.symm M.ne)]
    exact I1.hok.fresh M.new
/-- raise C(e) -/
def sRaiseF (c f : Str) (va : WA) : WS := fun env R _ Ψ => va env R (fun os R1 => match os with
  | [.val d] => Ψ (.fld c f d) env R1
  | _ => False) Ψ
theorem s_raiseF (hc : X.calm = true) (tk : Tk X W) (T : ExF X.prog X.K X.mg c f) (hr : Room k X.A) (ha : DA X W [a] ta va) (hg : Gl X c := by rfl) (hdb : (c == ("__debug__" : Str)) = false := by decide)
    (he : starEach (a :: []) X.env = (false, eval a X.env) :: starEach [] X.env := by rfl) (hpl : (backTo pos (starEach [] X.env)).any (·.1) = false := by rfl) :
    DS X W (.Raise (some (.Call (.Name c p) [a] [] pos)) none pos') (fun _ σ H => tMkF (He.ga X.K c) f ta σ H fun cls d H' => W cls d σ H') (sRaiseF c f va) :=
  ⟨ps_raise hc tk.takes (pmk_fld T hr ha.p hg hdb he hpl), fun B env R P Ψ acc w σ F H E s kk => ha.v B env R _ Ψ acc w σ F H s _ fun os R1 vs F1 H1 φ s1 x1 eos => by
    split at φ
    · rename_i d
      obtain ⟨v, rfl, ev⟩ := ens1 eos
      refine ⟨v, rfl, fun dd hd => ?_⟩
      have nf : F1 dd = none := s1.fin.fh.none hd
      have nr : dd ∉ fps R1 := s1.fin.rk.fresh hd
      have st : S X.K B env R1 σ F1 (upd H1 dd (.xd [(f, v)])) := s1.go ⟨Ex.rfl, s1.fin.fh.tr (ex_new hd), fun b o e _ => by
        rw [upd_ne (ne_of_none e hd)]; exact e, fun b e => by
        by_cases z : b = dd
        · rw [z]; exact hd
        · rw [upd_ne z] at e; exact e, fun b e z => absurd e z, ⟨fun r hr => (s1.fin.rk.ok r hr).stay Ex.rfl fun q _ u e => by
          rw [upd_ne (ne_of_none e hd)]; exact e, s1.fin.rk.nd, s1.fin.rk.off⟩, fun q m => .inl m⟩
      exact acc (.fld c f d) env R1 σ F1 _ _ (some dd) φ st ⟨rfl, dd, v, rfl, upd_same, nf, en_val ev⟩ fun d2 z => by
        cases z
        exact ⟨nr, s1.fin.dm dd hd⟩
    · exact False.elim φ⟩
end
end Tl
end
section
set_option maxHeartbeats 2000000
/-! try with several except clauses, each with a name or without. -/
namespace L2
open PySem PySem.Spec PyProof.Rows
/-- a clause: the class, the slot of its name (or none), what its suite does -/
structure Cl where
  c : Value
  i : Option Nat
  ts : Addr → Value → Option Addr → TS
def Cl.put (k : Cl) (a : Addr) (σ : St) : St := match k.i with
  | some i => σ.set i (some (.ref a))
  | none => σ
def Cl.off (k : Cl) (σ : St) : St := match k.i with
  | some i => σ.set i none
  | none => σ
def Cl.ends (k : Cl) (D : Ends) : Ends := { nx := fun σ H => D.nx (k.off σ) H, rt := D.rt, bk := fun σ H => D.bk (k.off σ) H, ct := fun σ H => D.ct (k.off σ) H }
def wMix (K : PySem.W.Frag) (Wo : WX) (D : Ends) : List Cl → WX
  | [] => Wo
  | k :: r => fun cls d σ H => ∃ b, PySem.W.exmOne K cls k.c = some b ∧ (b = true → ∀ a, H a = none → k.ts a cls d (k.ends D) (k.put a σ) H) ∧ (b = false → wMix K Wo D r cls d σ H)
inductive MixOk (X : Cx) : List ExceptHandler → List Cl → Prop
  | nil : MixOk X [] []
  | cons {x : Str} {c : Value} {ts : Addr → Value → Option Addr → TS} {st : Stmt} {sts : List Stmt} {p1 p2 : Pos} {hds : List ExceptHandler} {l : List Cl} (nm : Names X x c)
      (su : ∀ (a : Addr) (oe : Obj) (cls : Value) (d : Option Addr) (pn : List (Addr × Obj)), Zc cls d oe → (∃ vs, oe.data = .fields vs) → PSs (X.suite a ((a, oe) :: pn)) (st :: sts) (ts a cls d)) (r : MixOk X hds l) :
      MixOk X (.ExceptHandler (some (.Name x p1)) none (st :: sts) p2 :: hds) (⟨c, none, ts⟩ :: l)
  | as {x n : Str} {i : Nat} {c : Value} {ts : Addr → Value → Option Addr → TS} {st : Stmt} {sts : List Stmt} {p1 p2 : Pos} {hds : List ExceptHandler} {l : List Cl} (nm : Names X x c) (hi : X.N[i]? = some n) (hl : X.env.kindOf n = some .local)
      (su : ∀ (a : Addr) (oe : Obj) (cls : Value) (d : Option Addr) (pn : List (Addr × Obj)), Zc cls d oe → (∃ vs, oe.data = .fields vs) → PSs (X.suite a ((a, oe) :: pn)) (st :: sts) (ts a cls d)) (r : MixOk X hds l) :
      MixOk X (.ExceptHandler (some (.Name x p1)) (some n) (st :: sts) p2 :: hds) (⟨c, some i, ts⟩ :: l)
section
variable {X : Cx} {body : List Stmt} {h0 : ExceptHandler} {hds : List ExceptHandler} {l : List Cl} {pos : Pos} {tb : WX → TS} {Wo : WX}
theorem ps_try_mix (stk : X.stack = X.env :: X.outer) (fr : X.env.frame = some X.env.locals) (nd : X.N.Nodup) (tk : Takes X Wo)
    (bo : ∀ (W : WX) (pn : List (Addr × Obj)) (xe : Value → Shared → Prop), Takes (X.tr pn xe) W → PassesOwn (model X.prog X.w) X.A X.env xe → PSs (X.tr pn xe) body (tb W))
    (mx : MixOk X (h0 :: hds) l) : PS X (.Try body (h0 :: hds) [] [] pos) (fun D σ H => tb (wMix X.K Wo D l) D σ H) := by
  refine ⟨fun pins s σ H D I h => ?_⟩
  have good := I.ok
  have frames : X.A.frames = some (X.env :: X.outer) := by rw [good.frames, stk]
  refine wpAny_Try_except (wpAny_mono ((bo (wMix X.K Wo D l) (X.pn ++ pins) (fun e s1 => wpAny (model X.prog X.w) X.A (noteFrame e X.env) (fun _ s2 => wpAny (model X.prog X.w) X.A (setFlight e none) (fun _ s3 => wpAny (model X.prog X.w) X.A (handleBy e X.env (h0 :: hds)) (SP X pins D) X.xe s3) X.xe s2) X.xe s1) (fun u s1 flies => ?_) PassesOwn.looking).run [] s σ H D (I.toTry _) h) (fun fl s1 ended => ?_) (fun _ _ z => z))
  · obtain ⟨a, B, sI, pins', τ, G, cls, d, rfl, J0, nb, up, sky, na, os, ag, wish⟩ := flies
    have J : Inv X pins τ G sI := J0.ofTry good
    have sky2 : Sky B (X.env :: X.outer) a (Zc cls d) X.env.locals s1.heap := by rw [← stk]; exact sky
    show wpAny (model X.prog X.w) X.A (noteFrame (.ref a) X.env) _ _ _
    refine Sky.land Zc.steady frames fr sky2 fun hp fly upl => ?_
    have Jp : Inv X pins τ G { s1 with heap := hp } := J.landed nb fly.1 (up.trans upl) os ag
    obtain ⟨ob, fv, obAt, obZ, obD⟩ := fly.there
    have off : a ∉ frs (X.env :: X.outer) := fun m => by
      obtain ⟨_, ob2, e2, hnf⟩ := fly.2.2.1.mem m
      rw [obAt] at e2
      cases e2
      exact hnf _ obD
    have offL : a ≠ X.env.locals := fun z => off (List.mem_filterMap.mpr ⟨X.env, List.mem_cons_self, by rw [fr, z]⟩)
    have offF : a ∉ X.fs := fun m => by
      obtain ⟨e, he, z⟩ := List.mem_filterMap.mp m
      exact off (List.mem_filterMap.mpr ⟨e, List.mem_cons_of_mem _ he, z⟩)
    have Su := Jp.suite obAt obD na offL offF
    have types : PySem.W.Looks (model X.prog X.w) hp (typeOf (.ref a)) cls := fun A Q E s k q => wpAny_typeOf_ref (k _ _ obAt) (by rw [obZ.1]; exact q)
    have names : ∀ {x : Str} {c : Value} {np : Pos} {Q : Value → Shared → Prop} {E : Value → Shared → Prop}, Names X x c → Q c { s1 with heap := hp } → wpAny (model X.prog X.w) (X.A.mark (some (.ref a))) (eval (.Name x np) X.env) Q E { s1 with heap := hp } := fun {x c np Q E} nm q => by
      obtain ⟨g1, g2, g3 | ⟨g3, g4, g5⟩⟩ := nm
      · exact ld_glob (X := X.suite a ((a, ob) :: (X.pn ++ pins))) Su g1 g3 q g2
      · exact ld_blt (X := X.suite a ((a, ob) :: (X.pn ++ pins))) Su g1 g3 g4 q g5 g2
    have go : ∀ {hl : List ExceptHandler} {cl : List Cl}, MixOk X hl cl → wMix X.K Wo D cl cls d τ G → wpAny (model X.prog X.w) X.A (handleBy (.ref a) X.env hl) (SP X pins D) X.xe { s1 with heap := hp } := by
      intro hl cl ok
      induction ok with
      | nil =>
        intro wi
        obtain ⟨y1, y2, y3, ob3, vs3, Tb, oT, tr, at3, z3, d3, one, rr⟩ := id fly
        refine wpAny_handleBy_nil ?_
        unfold PySem.passOn
        refine wpAny_bind (wpAny_field at3 d3 one ?_)
        rw [if_neg (by simp)]
        have last : wpAny (model X.prog X.w) X.A (setFlight (.ref a) X.env.frame) (fun _ s4 => wpAny (model X.prog X.w) X.A (throw (.ref a) : Sem Flow) (SP X pins D) X.xe s4) X.xe { s1 with heap := hp } := by
          rw [fr]
          exact HandSPX.setFlight_upZ fly fun h4 fly4 up4 => wpAny_throw (tk _ _ ⟨a, B, sI, pins, τ, G, cls, d, rfl, J, nb, (up.trans upl).trans up4, .inr (.inr (by rw [stk]; exact fly4)), na, os, ag, wi⟩)
        first
          | exact wpAny_bind (wpAny_pure (wpAny_bind last))
          | exact wpAny_bind last
      | @cons x c ts st sts p1 p2 hds2 l2 nm su r ih =>
        rintro ⟨b, e1, yes, non⟩
        refine wpAny_handleBy_cons (codeAny_handlers_test (names nm ((PySem.W.exm_one (M := model X.prog X.w) Jp.kIn types e1).here ?_))) (by intro z; cases z)
        cases b with
        | false => exact ih (non rfl)
        | true =>
          refine codeAny_handlers_suite (HandSPX.lands_againZ fly fun h4 fly4 up4 => ?_)
          obtain ⟨ob4, fv4, at4, z4, d4⟩ := fly4.there
          have J4 : Inv X pins τ G { s1 with heap := h4 } := J.landed nb fly4.1 ((up.trans upl).trans up4) os ag
          have S4 := J4.suite at4 d4 na offL offF
          refine wpAny_mono ((su a ob4 cls d (X.pn ++ pins) z4 ⟨_, d4⟩).run [] _ _ G _ S4 (yes rfl a na)) (fun fl s6 en => ?_) (fun _ _ z => False.elim z)
          cases fl with
          | next => obtain ⟨τ6, G6, S6, q6⟩ := en; exact ⟨_, _, S6.unsuite good, q6⟩
          | brk => obtain ⟨τ6, G6, S6, q6⟩ := en; exact ⟨_, _, S6.unsuite good, q6⟩
          | cont => obtain ⟨τ6, G6, S6, q6⟩ := en; exact ⟨_, _, S6.unsuite good, q6⟩
          | ret u => obtain ⟨v6, τ6, G6, S6, r6, q6⟩ := en; exact ⟨_, _, _, S6.unsuite good, r6, q6⟩
      | @as x n i c ts st sts p1 p2 hds2 l2 nm hi hlo su r ih =>
        rintro ⟨b, e1, yes, non⟩
        refine wpAny_handleBy_cons (codeAny_handlers_test (names nm ((PySem.W.exm_one (M := model X.prog X.w) Jp.kIn types e1).here ?_))) (by intro z; cases z)
        cases b with
        | false => exact ih (non rfl)
        | true =>
          refine codeAny_handlers_suite_as (HandSPX.lands_againZ fly fun h4 fly4 up4 => ?_)
          obtain ⟨ob4, fv4, at4, z4, d4⟩ := fly4.there
          have J4 : Inv X pins τ G { s1 with heap := h4 } := J.landed nb fly4.1 ((up.trans upl).trans up4) os ag
          have S4 := J4.suite at4 d4 na offL offF
          refine store_ok (X := X.suite a ((a, ob4) :: (X.pn ++ pins))) (v := .ref a) S4 nd hi (.inl hlo) rfl (fun s5 S5 => ?_) (.inr hlo)
          refine wpAny_mono ((su a ob4 cls d (X.pn ++ pins) z4 ⟨_, d4⟩).run [] s5 _ G _ S5 (yes rfl a na)) (fun fl s6 en => ?_) (fun _ _ z => False.elim z)
          have goes : ∀ {τ6 : St} {G6 : Hp} {Q : Shared → Prop}, Inv (X.suite a ((a, ob4) :: (X.pn ++ pins))) [] τ6 G6 s6 → (∀ s7, Inv X pins (τ6.set i none) G6 s7 → Q s7) →
              wpAny (model X.prog X.w) X.A (do bindName X.env n .none; unbindBehindTheSuite X.env n p2) (fun _ s7 => Q s7) X.xe s6 := fun S6 hq => gone_ok (S6.unsuite good) nd hi hlo hq
          cases fl with
          | next => obtain ⟨τ6, G6, S6, q6⟩ := en; exact goes S6 fun s7 J7 => ⟨_, _, J7, q6⟩
          | brk => obtain ⟨τ6, G6, S6, q6⟩ := en; exact goes S6 fun s7 J7 => ⟨_, _, J7, q6⟩
          | cont => obtain ⟨τ6, G6, S6, q6⟩ := en; exact goes S6 fun s7 J7 => ⟨_, _, J7, q6⟩
          | ret u => obtain ⟨v6, τ6, G6, S6, r6, q6⟩ := en; exact goes S6 fun s7 J7 => ⟨_, _, _, J7, r6, q6⟩
    exact go mx wish
  · cases fl with
    | next => obtain ⟨τ, G, J, q⟩ := ended; exact wpAny_execs_nil ⟨τ, G, J.ofTry good, q⟩
    | brk => obtain ⟨τ, G, J, q⟩ := ended; exact ⟨τ, G, J.ofTry good, q⟩
    | cont => obtain ⟨τ, G, J, q⟩ := ended; exact ⟨τ, G, J.ofTry good, q⟩
    | ret u => obtain ⟨v, τ, G, J, r, q⟩ := ended; exact ⟨v, τ, G, J.ofTry good, r, q⟩
end
end L2
end
/-! The rule: try with several except clauses, over data. -/
namespace Tl
open PySem PySem.Spec PyProof.Rows L2
def Er.c : Er → Str
  | .plain c => c
  | .fld c _ _ => c
def ErCls (K : PySem.W.Frag) (cls : Value) (d : Option Addr) : Er → Prop
  | .plain c => cls = .ref (He.ga K c) ∧ d = none
  | .fld c _ _ => cls = .ref (He.ga K c) ∧ ∃ dd, d = some dd
theorem ErOk.cl {K : PySem.W.Frag} {F H : Hp} {cls : Value} {d : Option Addr} {er : Er} (h : ErOk K F H cls d er) : ErCls K cls d er ∧ cls = .ref (He.ga K er.c) := by
  cases er with
  | plain c => exact ⟨h, h.1⟩
  | fld c f x =>
    obtain ⟨h1, dd, v, h2, _⟩ := h
    exact ⟨⟨h1, dd, h2⟩, h1⟩
/-- a clause over data: which errors it takes, the slot of its name, what its suite does -/
structure ClD where
  em : Str → Option Bool
  i : Option Nat
  ws : Er → Addr → Option Addr → WS
def ClD.put (k : ClD) (a : Addr) (env : List En) : List En := match k.i with
  | some i => env.set i (.adr a)
  | none => env
def ClD.off (k : ClD) (env : List En) : List En := match k.i with
  | some i => env.set i .no
  | none => env
def ClD.ends (k : ClD) (P : Post) : Post := { nx := fun env R => P.nx (k.off env) R, rt := P.rt, bk := fun env R => P.bk (k.off env) R, ct := fun env R => P.ct (k.off env) R }
def ClD.go (k : ClD) (er : Er) (env : List En) (R : List Res) (P : Post) : Prop := match er with
  | .plain c => ∀ a, k.ws (.plain c) a none (k.put a env) R (k.ends P) X0
  | .fld c f x => ∀ a dd, k.ws (.fld c f x) a (some dd) (k.put a env) (.exc dd f x :: R) (k.ends P) X0
def catchW (P : Post) (Ψ : XP) : List ClD → XP
  | [] => Ψ
  | k :: r => fun er env R => ∃ b, k.em er.c = some b ∧ (b = true → k.go er env R P) ∧ (b = false → catchW P Ψ r er env R)
def sTry (wb : WS) (l : List ClD) : WS := fun env R P Ψ => wb env R P (catchW P Ψ l)
/-- the clauses derived -/
inductive Cls' (X : Cx) : List ExceptHandler → List Cl → List ClD → Prop
  | nil : Cls' X [] [] []
  | cons {x : Str} {c : Value} {tsE : Er → Addr → Option Addr → TS} {st : Stmt} {sts : List Stmt} {p1 p2 : Pos} {hds : List ExceptHandler} {l : List Cl} {m : List ClD} {em : Str → Option Bool} {ws : Er → Addr → Option Addr → WS} (nm : Names X x c) (he : ∀ y b, em y = some b → PySem.W.exmOne X.K (.ref (He.ga X.K y)) c = some b)
      (su : ∀ (er : Er) (a : Addr) (oe : Obj) (cls : Value) (d : Option Addr) (pn : List (Addr × Obj)), em er.c = some true → ErCls X.K cls d er → Zc cls d oe → (∃ vs, oe.data = .fields vs) → DSs (X.suite a ((a, oe) :: pn)) W0 (st :: sts) (tsE er a d) (ws er a d)) (r : Cls' X hds l m) :
      Cls' X (.ExceptHandler (some (.Name x p1)) none (st :: sts) p2 :: hds) (⟨c, none, fun a cls d D σ H => ∃ er, em er.c = some true ∧ ErCls X.K cls d er ∧ tsE er a d D σ H⟩ :: l) (⟨em, none, ws⟩ :: m)
  | as {x n : Str} {i : Nat} {c : Value} {tsE : Er → Addr → Option Addr → TS} {st : Stmt} {sts : List Stmt} {p1 p2 : Pos} {hds : List ExceptHandler} {l : List Cl} {m : List ClD} {em : Str → Option Bool} {ws : Er → Addr → Option Addr → WS} (nm : Names X x c) (hi : X.N[i]? = some n) (hl : X.env.kindOf n = some .local) (he : ∀ y b, em y = some b → PySem.W.exmOne X.K (.ref (He.ga X.K y)) c = some b)
      (su : ∀ (er : Er) (a : Addr) (oe : Obj) (cls : Value) (d : Option Addr) (pn : List (Addr × Obj)), em er.c = some true → ErCls X.K cls d er → Zc cls d oe → (∃ vs, oe.data = .fields vs) → DSs (X.suite a ((a, oe) :: pn)) W0 (st :: sts) (tsE er a d) (ws er a d)) (r : Cls' X hds l m) :
      Cls' X (.ExceptHandler (some (.Name x p1)) (some n) (st :: sts) p2 :: hds) (⟨c, some i, fun a cls d D σ H => ∃ er, em er.c = some true ∧ ErCls X.K cls d er ∧ tsE er a d D σ H⟩ :: l) (⟨em, some i, ws⟩ :: m)
section
variable {X : Cx} {W : WX} {body : List Stmt} {h0 : ExceptHandler} {hds : List ExceptHandler} {l : List Cl} {m : List ClD} {pos : Pos} {tb : WX → TS} {wb : WS}
theorem Cls'.mix {hl : List ExceptHandler} (h : Cls' X hl l m) : MixOk X hl l := by
  induction h with
  | nil => exact .nil
  | cons nm he su r ih =>
    refine .cons nm (fun a oe cls d pn hz hf => ⟨fun pins s σ H D I h => ?_⟩) ih
    obtain ⟨er, hm, hc, h⟩ := h
    exact (su er a oe cls d pn hm hc hz hf).p.run pins s σ H D I h
  | as nm hi hl he su r ih =>
    refine .as nm hi hl (fun a oe cls d pn hz hf => ⟨fun pins s σ H D I h => ?_⟩) ih
    obtain ⟨er, hm, hc, h⟩ := h
    exact (su er a oe cls d pn hm hc hz hf).p.run pins s σ H D I h
end
end Tl
/-! The rule: try; in a suite: the error's field, isinstance of the error. -/
namespace Tl
open PySem PySem.Spec PyProof.Rows L2
section
variable {X : Cx} {W : WX} {body : List Stmt} {h0 : ExceptHandler} {hds : List ExceptHandler} {l : List Cl} {m : List ClD} {pos : Pos} {tb : WX → TS} {wb : WS}
theorem S.exc {K : PySem.W.Frag} {B : Bs} {env : List En} {R : List Res} {σ : L2.St} {F H : Hp} {cls : Value} {dd : Addr} {c f : Str} {x : D} (s : S K B env R σ F H) (e : ErOk K F H cls (some dd) (.fld c f x)) (n : dd ∉ fps R ∧ B.H dd = none) : S K B env (.exc dd f x :: R) σ F H := by
  obtain ⟨_, d2, v, z, hx, nf, r⟩ := e
  cases z
  refine ⟨⟨s.fin.ff, s.fin.fh, s.fin.kp, s.fin.dm, s.fin.nw, ⟨fun t ht => ?_, ?_, fun q m => ?_⟩, fun q m => ?_⟩, s.en⟩
  · rcases List.mem_cons.mp ht with e | e
    · rw [e]; exact ⟨v, hx, r⟩
    · exact s.fin.rk.ok t e
  · show ([dd] ++ fps R).Nodup
    exact List.nodup_cons.mpr ⟨n.1, s.fin.rk.nd⟩
  · rcases List.mem_cons.mp (show q ∈ dd :: fps R from m) with e | e
    · rw [e]; exact nf
    · exact s.fin.rk.off q e
  · rcases List.mem_cons.mp (show q ∈ dd :: fps R from m) with e | e
    · rw [e]; exact .inr n.2
    · exact s.fin.rn q e
theorem put_ok {K : PySem.W.Frag} {B : Bs} {env : List En} {R : List Res} {σ : L2.St} {F H : Hp} {i : Option Nat} (s : S K B env R σ F H) (a : Addr) {c : Value} {ts : Addr → Value → Option Addr → TS} {em : Str → Option Bool} {ws : Er → Addr → Option Addr → WS} : S K B (ClD.put ⟨em, i, ws⟩ a env) R (Cl.put ⟨c, i, ts⟩ a σ) F H := by
  cases i with
  | none => exact s
  | some i => exact s.set i (o := .adr a) (v := .ref a) rfl
theorem off_ok {K : PySem.W.Frag} {B : Bs} {env : List En} {R : List Res} {σ : L2.St} {F H : Hp} {i : Option Nat} (s : S K B env R σ F H) {c : Value} {ts : Addr → Value → Option Addr → TS} {em : Str → Option Bool} {ws : Er → Addr → Option Addr → WS} : S K B (ClD.off ⟨em, i, ws⟩ env) R (Cl.off ⟨c, i, ts⟩ σ) F H := by
  cases i with
  | none => exact s
  | some i => exact ⟨s.fin, s.en.set i trivial⟩
/-- a clause's turn -/
theorem clause_ok {B : Bs} {E : Ends} {P : Post} {i : Option Nat} {c : Value} {tsE : Er → Addr → Option Addr → TS} {em : Str → Option Bool} {ws : Er → Addr → Option Addr → WS} {er : Er} {env : List En} {R : List Res} {σ : L2.St} {F H : Hp} {cls : Value} {d : Option Addr} {a : Addr} (k : Wish X.K B E P)
    (v : ∀ B env R P Ψ, Acc X.K B W0 Ψ → ws er a d env R P Ψ → Do X.K B (tsE er a d) env R P) (hg : ClD.go ⟨em, i, ws⟩ er env R P) (s : S X.K B env R σ F H) (e : ErOk X.K F H cls d er) (n : ∀ dd, d = some dd → dd ∉ fps R ∧ B.H dd = none) :
    tsE er a d (Cl.ends ⟨c, i, fun a cls d D σ H => ∃ er, em er.c = some true ∧ ErCls X.K cls d er ∧ tsE er a d D σ H⟩ E) (Cl.put ⟨c, i, fun a cls d D σ H => ∃ er, em er.c = some true ∧ ErCls X.K cls d er ∧ tsE er a d D σ H⟩ a σ) H := by
  have wish : Wish X.K B (Cl.ends ⟨c, i, fun a cls d D σ H => ∃ er, em er.c = some true ∧ ErCls X.K cls d er ∧ tsE er a d D σ H⟩ E) (ClD.ends ⟨em, i, ws⟩ P) :=
    ⟨fun env R σ F H h s => k.nx _ R _ F H h (off_ok s), k.rt, fun env R σ F H h s => k.bk _ R _ F H h (off_ok s), fun env R σ F H h s => k.ct _ R _ F H h (off_ok s)⟩
  cases er with
  | plain c2 =>
    obtain ⟨_, rfl⟩ := id e
    exact v B _ R _ X0 acc0 (hg a) _ F H _ (put_ok s a) wish
  | fld c2 f x =>
    obtain ⟨_, dd, _, rfl, _⟩ := id e
    exact v B _ _ _ X0 acc0 (hg a dd) _ F H _ (put_ok (s.exc e (n dd rfl)) a) wish
theorem catch_ok {B : Bs} {E : Ends} {P : Post} {Ψ : XP} {hl : List ExceptHandler} (h : Cls' X hl l m) (acc : Acc X.K B W Ψ) (k : Wish X.K B E P) : Acc X.K B (wMix X.K W E l) (catchW P Ψ m) := by
  induction h with
  | nil => exact acc
  | cons nm he su r ih =>
    intro er env R σ F H cls d w s e n
    obtain ⟨b, hb, yes, non⟩ := w
    obtain ⟨ec, rfl⟩ := e.cl
    refine ⟨b, he _ _ hb, fun z a na => ⟨er, hb.trans (congrArg some z), ec, ?_⟩, fun z => ih er env R σ F H _ d (non z) s e n⟩
    exact clause_ok (i := none) k (su er a { cls := .ref (He.ga X.K er.c), dict := d, data := .fields #[] } _ d [] (hb.trans (congrArg some z)) ec ⟨rfl, rfl⟩ ⟨_, rfl⟩).v (yes z) s e n
  | @as x nn i c tsE st sts p1 p2 hds2 l2 m2 em ws nm hi hl he su r ih =>
    intro er env R σ F H cls d w s e n
    obtain ⟨b, hb, yes, non⟩ := w
    obtain ⟨ec, rfl⟩ := e.cl
    refine ⟨b, he _ _ hb, fun z a na => ⟨er, hb.trans (congrArg some z), ec, ?_⟩, fun z => ih er env R σ F H _ d (non z) s e n⟩
    exact clause_ok (i := some i) k (su er a { cls := .ref (He.ga X.K er.c), dict := d, data := .fields #[] } _ d [] (hb.trans (congrArg some z)) ec ⟨rfl, rfl⟩ ⟨_, rfl⟩).v (yes z) s e n
/-- the context of a try's body, or one in which nothing runs -/
abbrev al (X : Cx) (pn : List (Addr × Obj)) (xe : Value → Shared → Prop) (stk : List Env) : Cx := { X with pn := pn, xe := xe, stack := stk }
theorem tk_idle (V : WX) : Tk (al X [] (fun _ _ => False) ((X.A.frames.getD []) ++ [X.env])) V := by
  refine ⟨fun u s' z => ?_, PassesOwn.never⟩
  obtain ⟨_, _, _, _, _, _, _, _, _, I, _⟩ := z
  have e : X.A.frames = some ((X.A.frames.getD []) ++ [X.env]) := I.ok.frames
  cases q : X.A.frames with
  | none => rw [q] at e; cases e
  | some fl =>
    rw [q] at e
    have e2 : fl = fl ++ [X.env] := Option.some.inj e
    have e3 := congrArg List.length e2
    rw [List.length_append, List.length_singleton] at e3
    omega
/-- try: .. except ..: .. -/
theorem s_try (stk : X.stack = X.env :: X.outer) (fr : X.env.frame = some X.env.locals) (nd : X.N.Nodup) (tk : Tk X W)
    (bo : ∀ (V : WX) (pn : List (Addr × Obj)) (xe : Value → Shared → Prop) (sk : List Env), Tk (al X pn xe sk) V → DSs (al X pn xe sk) V body (tb V) wb) (cl : Cls' X (h0 :: hds) l m) :
    DS X W (.Try body (h0 :: hds) [] [] pos) (fun D σ H => tb (wMix X.K W D l) D σ H) (sTry wb m) :=
  ⟨ps_try_mix stk fr nd tk.takes (fun V pn xe t p => (bo V pn xe X.stack ⟨t, p⟩).p) cl.mix, fun B env R P Ψ acc w σ F H E s k =>
    (bo (wMix X.K W E l) _ _ _ (tk_idle _)).v B env R P (catchW P Ψ m) (catch_ok (X := X) cl acc k) w σ F H E s k⟩
/-! ### in a suite -/
variable {a : Addr} {oe : Obj} {cls : Value} {d : Option Addr} {pn : List (Addr × Obj)} {e : Expr} {te : TE} {we : WE} {c f : Str}
/-- e.f, e the error that the suite holds -/
def wXf (a : Addr) (d : Option Addr) (f : Str) (we : WE) : WE := fun env R Φ Ψ => we env R (fun o R1 => o = .adr a ∧ ∃ dd x, d = some dd ∧ Res.exc dd f x ∈ R1 ∧ Φ (.val x) R1) Ψ
theorem d_xf (T : XfC X.K (He.ga X.K c)) (no : PySem.W.findIn X.K (.ref (He.ga X.K c)) f = some none) (hc : cls = .ref (He.ga X.K c)) (hz : Zc cls d oe) (hf : ∃ vs, oe.data = .fields vs) (he : DE (X.suite a ((a, oe) :: pn)) W e te we) (hb : attributeBase e f X.env (eval e X.env) = eval e X.env := by rfl) :
    DE (X.suite a ((a, oe) :: pn)) W (.Attribute e f pos) (tXf a cls d (He.ga X.K c) f te) (wXf a d f we) :=
  ⟨pe_xf T no hz hf he.p hb, fun B env R Φ Ψ acc w σ F H s Q q => he.v B env R _ Ψ acc w σ F H s _ fun o R1 v F1 H1 φ s1 x1 eo => by
    obtain ⟨rfl, dd, x, rfl, m, φ⟩ := φ
    obtain ⟨u, hx, r⟩ := s1.fin.rk.ok _ m
    refine ⟨en_adr eo, hc, dd, _, u, rfl, hx, ?_, q _ R1 u F1 H1 φ s1 x1 (enVal r)⟩
    show (match f == f with | true => some u | false => none) = some u
    rw [beq_self_eq_true]⟩
end
end Tl
section
set_option maxHeartbeats 2000000
/-! isinstance of a caught error, with a dict or without. -/
namespace Tl
open PySem PySem.Spec PyProof.Rows L2
section
variable {X : Cx} {a : Addr} {oe : Obj} {cls : Value} {d : Option Addr} {pn : List (Addr × Obj)}
def hasXd (d : Option Addr) (H : Hp) : Prop := match d with
  | none => True
  | some dd => ∃ fs, H dd = some (.xd fs)
def rIsX (K : PySem.W.Frag) (D a : Addr) (d : Option Addr) : List V → Hp → VK → Prop := fun xs H Q => ∃ (c : V) (u : Value) (b : Bool), xs = [.ref a, c] ∧ ClsV c u ∧ PySem.W.kitOne K (.ref D) u = some b ∧ hasXd d H ∧ Q (.bl b) H
theorem call_isX {D : Addr} (C : ExcC X.K D) (hc : cls = .ref D) (hz : Zc cls d oe) (hf : ∃ vs, oe.data = .fields vs) : CallR (X.suite a ((a, oe) :: pn)) (.builtin "isinstance") (rIsX X.K D a d) := by
  intro pins s σ H xs us Q I r h
  obtain ⟨c, u, b, rfl, kc, e, xd, q⟩ := h
  obtain ⟨u1, u2, rfl, r1, r2⟩ := vals2 r
  have e2 := kc.eq r2
  subst e2
  cases (show u1 = Value.ref a from r1)
  obtain ⟨at_, _⟩ := I.pin (a, oe) (List.mem_append.mpr (.inl List.mem_cons_self))
  obtain ⟨vs, hv⟩ := hf
  obtain ⟨oc, odd, oda, osl⟩ := oe
  obtain ⟨h1, h2⟩ := hz
  dsimp only at h1 h2 hv
  subst hc h1 h2 hv
  have hcl : (PySem.W.clsIn X.K D).isSome = true := by
    obtain ⟨cd, h, _⟩ := PySem.W.any_some C.hd
    rw [h]
    rfl
  have fin : ∀ tk, EP (X.suite a ((a, ⟨.ref D, odd, .fields vs, osl⟩) :: pn)) pins σ Q (.bool b) { s with toks := tk } := fun tk => ⟨.bl b, H, I.kept (t' := tk) fun _ _ z => z, rfl, q⟩
  cases odd with
  | none => exact PySem.W.kia_one (PySem.W.kitx_exc (x := a) (ox := ⟨.ref D, none, .fields vs, osl⟩) (od := none) hcl C.hg C.hk C.hs C.ha C.hn C.ht C.hm) I.kIn ⟨at_, rfl, rfl, trivial⟩ e (fun z => nomatch z) fin
  | some dd =>
    obtain ⟨fs, hd⟩ := xd
    obtain ⟨mA, ⟨o, es, ep, ho, _⟩, _⟩ := I.hok dd _ hd
    exact PySem.W.kia_one (PySem.W.kitx_exc (x := a) (ox := ⟨.ref D, some dd, .fields vs, osl⟩) (od := some o) hcl C.hg C.hk C.hs C.ha C.hn C.ht C.hm) I.kIn ⟨at_, rfl, rfl, ho⟩ e (fun z => nomatch z) fin
/-- isinstance(e, c): f tells the answer for the error's class -/
def hasRx (d : Option Addr) (R : List Res) : Prop := match d with
  | none => True
  | some dd => ∃ f x, Res.exc dd f x ∈ R
def kIsX (a : Addr) (d : Option Addr) (c : D) (b : Bool) : KC := fun os R Φ => match os with
  | [.adr p, .val c'] => p = a ∧ c' = c ∧ hasRx d R ∧ Φ (.val (.bl b)) R
  | _ => False
theorem c_isX {y : Str} {c : D} {b : Bool} {v : V} {u : Value} (C : ExcC X.K (He.ga X.K y)) (hc : cls = .ref (He.ga X.K y)) (hz : Zc cls d oe) (hf : ∃ vs, oe.data = .fields vs) (hv : clV X.K c = some (v, u)) (hk : PySem.W.kitOne X.K (.ref (He.ga X.K y)) u = some b) :
    DCall (X.suite a ((a, oe) :: pn)) (.builtin "isinstance") (rIsX X.K (He.ga X.K y) a d) (kIsX a d c b) := ⟨call_isX C hc hz hf, fun B env R σ F H os vs Φ Q s eo φ q => by
  unfold kIsX at φ
  split at φ
  · obtain ⟨rfl, rfl, hx, φ⟩ := φ
    obtain ⟨w1, w2, rfl, e1, e2⟩ := ens2i eo
    have e1' := en_adr e1
    subst e1'
    have cv : ClsV w2 u := by
      unfold clV at hv
      split at hv
      · cases hv; rw [of_ty (en_val e2)]; exact .ty _
      · cases hv; rw [of_glo (en_val e2)]; exact .own _
      · cases hv
    refine ⟨w2, u, b, rfl, cv, hk, ?_, q _ R _ F H φ s Ex.rfl (enVal (rep_bl _))⟩
    cases d with
    | none => trivial
    | some dd =>
      obtain ⟨f, x, m⟩ := hx
      obtain ⟨z, h, _⟩ := s.fin.rk.ok _ m
      exact ⟨_, h⟩
  · exact False.elim φ⟩
end
end Tl
end
section
set_option maxHeartbeats 2000000
/-! A def called within a suite, with the error that the suite holds. -/
namespace Tl
open PySem PySem.Spec PyProof.Rows L2 L2H
/-- what such a def promises, called while an error of the class named y is handled -/
structure FnP (P : Program) (w : World) (K : PySem.W.Frag) (mg : Str → Option Value) (base : Heap) (k : Nat) (f : Addr) (fd : FuncData) (ps : List Str) (y : Str) (fs : Addr → Option Addr → FS) : Prop where
  len : ∀ a d os R Φ Ψ, fs a d os R Φ Ψ → os.length = ps.length
  run : ∀ (A : Around) (outer : List Env) (s : Shared) (H : Hp) (args : Args) (us : List Value) (vs : List V) (Q : VK) (E : XK) (p : Addr × Obj) (d : Option Addr), RoomH k A → Zc (.ref (He.ga K y)) d p.2 → (∃ vs, p.2.data = .fields vs) → PinOk outer H s p → Env0 P w K mg base A outer s H → BindsTo s fd args (ps.zip us) → Vals vs us → spOf K (fs p.1 d) vs H Q E →
    codeAny (model P w) A (.call (.ref f) args) (CR (L2.CX P w) outer P w H s Q E) s
section
variable {P : Program} {w : World} {K : PySem.W.Frag} {mg : Str → Option Value} {base : Heap}
theorem fn_bodyP {x qual : Str} {params : Arguments} {body : List Stmt} {scope : Scope} {dvs : List V} {kws : List (Str × V)} {f : Addr} {fd : FuncData} {N ps : List Str} {k : Nat} {y : Str} {fs : Addr → Option Addr → FS}
    (Fd : FunD K x qual params body scope dvs kws f fd) (Sc : FnScope N ps scope) (len : ∀ a d os R Φ Ψ, fs a d os R Φ Ψ → os.length = ps.length)
    (hb : ∀ (cdv : Value) (A : Around) (outer : List Env) (s : Shared) (H : Hp) (E : XK) (p : Addr × Obj) (d : Option Addr), Zc (.ref (He.ga K y)) d p.2 → (∃ vs, p.2.data = .fields vs) → RoomH k (A.deeper (envOfC qual scope s.heap.objs.size f cdv)) →
      ∃ ts ws, DSs (cxH (L2.CX P w) P w K mg base N qual scope f cdv A outer s H E p) (WF E) body ts ws ∧
        ∀ os R Φ Ψ, fs p.1 d os R Φ Ψ → ws (startE N.length os) R { nx := fun _ R' => Φ (.val .non) R', rt := Φ } (fun er _ R' => Ψ er R')) :
    FnP P w K mg base (k + 1) f fd ps y fs := by
  obtain ⟨oc, od, dV, kV, doc, pm, an, cdv, ct, osl, rfl, lk, hcd, _, _⟩ := Fd.ex
  refine ⟨len, fun A outer s H args us vs Q E p d hr hz hf hpin e0 hbd r hsp => ?_⟩
  have hl : vs.length = ps.length := by
    obtain ⟨F, os, R, _, _, e, h⟩ := hsp
    rw [e.len, len _ _ _ _ _ _ h]
  have KX : K.In s.heap := e0.mod.kin.keeps fun b o e => (e0.bs b o e).1
  have lim : s.heap.NoLimit := e0.mod.nolimit.keeps fun b o e => (e0.bs b o e).1
  have hkind : ∀ y ∈ ps.zip us, scope.names.lookup y.1 = some .local ∨ (scope.names.lookup y.1 = some .cell ∧ ((cellsFrom (s.heap.objs.size + 1) scope.names []).lookup y.1).isSome = true) := fun ⟨n, v⟩ hy => by
    rcases Sc.par n (List.of_mem_zip hy).1 with q | q
    · exact .inl q
    · exact .inr ⟨q, PySem.W.cellsFrom_some _ _ _ (.inl q)⟩
  refine codeAny_call_function hr.depth (KX _ _ lk) rfl Sc.co Sc.gen rfl (PySem.W.codeRec_of KX hcd) (hbd _ _ _ _ ?_)
  refine wpAny_newFunctionEnv_cells Sc.kind hkind fun env he s1 x => ?_
  subst he
  refine ⟨lim.keeps x.toInCall.keep, codeAny_func ?_⟩
  obtain ⟨F, os, R, xh, rk, e, h⟩ := hsp
  obtain ⟨ts, ws, dd, go⟩ := hb cdv A outer s H E p d hz hf (hr.deeper _)
  have st : S K ⟨F, H, R⟩ (startE N.length os) R (L2.start N vs) F H := ⟨.same xh rk, env_start e⟩
  have hq : ts { nx := fun _ H' => Q .non H', rt := Q } (L2.start N vs) H := by
    refine dd.v ⟨F, H, R⟩ _ R _ _ (fun er env R' σ F' H' cls d hp s' eo nd => ?_) (go os R _ _ h) _ F H _ st ⟨fun env R' σ F' H' hp s' => ?_, fun o R' v F' H' hp f' eo => ?_, fun env R' σ F' H' hp s' => False.elim hp, fun env R' σ F' H' hp s' => False.elim hp⟩
    · exact hp cls d F' H' s'.fin eo nd
    · exact hp .non F' H' s'.fin ⟨_, rfl, rep_non⟩
    · exact hp v F' H' f' eo
  have I : Inv (cxH (L2.CX P w) P w K mg base N qual scope f cdv A outer s H E p) [] (L2.start N vs) H s1 := inv_startH Sc hpin e0 hl r x
  refine wpAny_mono (dd.p.run [] s1 (L2.start N vs) H _ I hq) (fun fl s' hs => ?_) fun e s' hs => hs
  have fin : ∀ {σ' : L2.St} {H' : Hp} {v : V} {u : Value}, Inv (cxH (L2.CX P w) P w K mg base N qual scope f cdv A outer s H E p) [] σ' H' s' → RelV v u → Q v H' → CE outer P w H s Q u s' :=
    fun {σ' H' v u} J rv q => ⟨v, H', J.os, J.bare, J.base, J.hok, rv, q⟩
  cases fl with
  | ret u =>
    obtain ⟨v, σ', H', J, rv, q⟩ := hs
    exact fin J rv q
  | next =>
    obtain ⟨σ', H', J, q⟩ := hs
    exact fin (v := V.non) (u := Value.none) J rfl q
  | brk =>
    obtain ⟨_, _, _, q⟩ := hs
    exact False.elim q
  | cont =>
    obtain ⟨_, _, _, q⟩ := hs
    exact False.elim q
end
/-- such a def, by its name -/
structure FxP (P : Program) (w : World) (K : PySem.W.Frag) (mg : Str → Option Value) (base : Heap) (k : Nat) (x y : Str) (fs : Addr → Option Addr → FS) : Prop where
  ex : ∃ (f : Addr) (fd : FuncData) (ps : List Str), FnP P w K mg base k f fd ps y fs ∧ mg x = some (.ref f) ∧ PySem.W.keepIn K (.ref f) = true ∧ Binds K fd ps []
section
variable {X : Cx} {W : WX} {x y : Str} {k j : Nat} {fs : Addr → Option Addr → FS} {e : Expr} {es : List Expr} {ts : TA} {wa : WA} {p pos : Pos} {a : Addr} {oe : Obj} {d : Option Addr} {cls : Value} {pn : List (Addr × Obj)}
theorem d_callP (mo : ∀ a d, Mono (fs a d)) (cc : FxP X.prog X.w X.K X.mg X.base k x y fs) (hr : Room j X.A) (hk : k ≤ j) (hc : cls = .ref (He.ga X.K y)) (hz : Zc cls d oe) (hf : ∃ vs, oe.data = .fields vs) (tk : Tk (X.suite a ((a, oe) :: pn)) W) (ha : DA (X.suite a ((a, oe) :: pn)) W (e :: es) ts wa) (hg : Gl X x := by rfl) (hdb : (x == ("__debug__" : Str)) = false := by decide)
    (he : starEach (e :: es) X.env = (false, eval e X.env) :: starEach es X.env := by rfl) (hpl : (backTo pos (starEach es X.env)).any (·.1) = false := by rfl) :
    DE (X.suite a ((a, oe) :: pn)) W (.Call (.Name x p) (e :: es) [] pos) (tCallSD (spOf X.K (fs a d)) [] (L2.WE W) ts) (wCall (fs a d) [] wa) := by
  subst hc
  obtain ⟨f, fd, ps, F, hm, kp, b⟩ := cc.ex
  refine ⟨⟨fun pins s σ H Q I h => ?_⟩, call_ev (dv := []) (mo a d) rfl ha.v⟩
  refine wpAny_Call_Name_kw (ld_glob I hg hm ?_ hdb)
  refine PySem.W.callWith_K (h₀ := X.base) I.ok.mod.kin kp (thn (ha.p.run pos pins s σ H _ I h) fun us s1 hz => ?_) he hpl
  obtain ⟨vs, H1, I1, r, q⟩ := hz
  refine ⟨I1.kIn, ?_⟩
  have q : spOf X.K (fs a d) (vs ++ []) H1 Q (L2.WE W σ) := q
  rw [List.append_nil] at q
  have hl : us.length = ps.length := by
    obtain ⟨F', os, R, _, _, eo, h'⟩ := q
    rw [← r.length, eo.len, F.len _ _ _ _ _ _ h']
  have b2 := b s1 us I1.kIn (by rw [List.append_nil]; exact hl)
  rw [List.append_nil] at b2
  have P1 := I1.pin (a, oe) (List.mem_append_left _ List.mem_cons_self)
  have hpin : PinOk (X.suite a ((a, oe) :: pn)).stack H1 s1 (a, oe) := ⟨P1.1, P1.2.1, fun hm => (List.mem_cons.mp (I1.stkSub a hm)).elim P1.2.2.1 P1.2.2.2.1, P1.2.2.2.2⟩
  have hr' : RoomH k (X.suite a ((a, oe) :: pn)).A := ⟨(hr.mono hk).dp, (hr.mono hk).un⟩
  refine wpAny_call (codeAny_mono (F.run (X.suite a ((a, oe) :: pn)).A _ s1 H1 ⟨us, []⟩ us vs Q (L2.WE W σ) (a, oe) d hr' hz hf hpin I1.env0 b2 r q) fun r s' hq => ?_)
  cases r with
  | error e => exact passAt tk.takes σ pins H1 s1 e s' I1 hq
  | ok fl =>
    cases fl with
    | ret u => exact I1.after hq
    | next => exact False.elim hq
    | brk => exact False.elim hq
    | cont => exact False.elim hq
end
end Tl
end
section
set_option maxHeartbeats 2000000
/-! isinstance of a handled error in a def that is called from the suite. -/
namespace Tl
open PySem PySem.Spec PyProof.Rows L2
section
variable {X : Cx} {a : Addr} {oe : Obj} {cls : Value} {d : Option Addr} {pn : List (Addr × Obj)}
theorem call_isXp {D : Addr} (hp : (a, oe) ∈ X.pn) (C : ExcC X.K D) (hc : cls = .ref D) (hz : Zc cls d oe) (hf : ∃ vs, oe.data = .fields vs) : CallR X (.builtin "isinstance") (rIsX X.K D a d) := by
  intro pins s σ H xs us Q I r h
  obtain ⟨c, u, b, rfl, kc, e, xd, q⟩ := h
  obtain ⟨u1, u2, rfl, r1, r2⟩ := vals2 r
  have e2 := kc.eq r2
  subst e2
  cases (show u1 = Value.ref a from r1)
  obtain ⟨at_, _⟩ := I.pin (a, oe) (List.mem_append.mpr (.inl hp))
  obtain ⟨vs, hv⟩ := hf
  obtain ⟨oc, odd, oda, osl⟩ := oe
  obtain ⟨h1, h2⟩ := hz
  dsimp only at h1 h2 hv
  subst hc h1 h2 hv
  have hcl : (PySem.W.clsIn X.K D).isSome = true := by
    obtain ⟨cd, h, _⟩ := PySem.W.any_some C.hd
    rw [h]
    rfl
  have fin : ∀ tk, EP X pins σ Q (.bool b) { s with toks := tk } := fun tk => ⟨.bl b, H, I.kept (t' := tk) fun _ _ z => z, rfl, q⟩
  cases odd with
  | none => exact PySem.W.kia_one (PySem.W.kitx_exc (x := a) (ox := ⟨.ref D, none, .fields vs, osl⟩) (od := none) hcl C.hg C.hk C.hs C.ha C.hn C.ht C.hm) I.kIn ⟨at_, rfl, rfl, trivial⟩ e (fun z => nomatch z) fin
  | some dd =>
    obtain ⟨fs, hd⟩ := xd
    obtain ⟨mA, ⟨o, es, ep, ho, _⟩, _⟩ := I.hok dd _ hd
    exact PySem.W.kia_one (PySem.W.kitx_exc (x := a) (ox := ⟨.ref D, some dd, .fields vs, osl⟩) (od := some o) hcl C.hg C.hk C.hs C.ha C.hn C.ht C.hm) I.kIn ⟨at_, rfl, rfl, ho⟩ e (fun z => nomatch z) fin
theorem c_isXp {y : Str} {c : D} {b : Bool} {v : V} {u : Value} (hp : (a, oe) ∈ X.pn) (C : ExcC X.K (He.ga X.K y)) (hc : cls = .ref (He.ga X.K y)) (hz : Zc cls d oe) (hf : ∃ vs, oe.data = .fields vs) (hv : clV X.K c = some (v, u)) (hk : PySem.W.kitOne X.K (.ref (He.ga X.K y)) u = some b) :
    DCall X (.builtin "isinstance") (rIsX X.K (He.ga X.K y) a d) (kIsX a d c b) := ⟨call_isXp hp C hc hz hf, fun B env R σ F H os vs Φ Q s eo φ q => by
  unfold kIsX at φ
  split at φ
  · obtain ⟨rfl, rfl, hx, φ⟩ := φ
    obtain ⟨w1, w2, rfl, e1, e2⟩ := ens2i eo
    have e1' := en_adr e1
    subst e1'
    have cv : ClsV w2 u := by
      unfold clV at hv
      split at hv
      · cases hv; rw [of_ty (en_val e2)]; exact .ty _
      · cases hv; rw [of_glo (en_val e2)]; exact .own _
      · cases hv
    refine ⟨w2, u, b, rfl, cv, hk, ?_, q _ R _ F H φ s Ex.rfl (enVal (rep_bl _))⟩
    cases d with
    | none => trivial
    | some dd =>
      obtain ⟨f, x, m⟩ := hx
      obtain ⟨z, h, _⟩ := s.fin.rk.ok _ m
      exact ⟨_, h⟩
  · exact False.elim φ⟩
end
end Tl
end
/-! == and != of data at any depth. -/
namespace Tl
open PySem PySem.Spec PyProof.Rows L2
mutual
def pyOf : D → PyData
  | .non => .none
  | .bl b => .bool b
  | .int i => .int i
  | .str z => .str z
  | .tup ds => .tuple (pyOfL ds)
  | .lst ds => .list (pyOfL ds)
  | .obj _ _ _ => .none
  | .dct _ _ => .none
  | .glo _ => .none
  | .ty _ => .none
def pyOfL : List D → List PyData
  | [] => []
  | d :: ds => pyOf d :: pyOfL ds
end
mutual
/-- none, bools, ints, texts, lists and tuples of them -/
def plainD : D → Bool
  | .non => true
  | .bl _ => true
  | .int _ => true
  | .str z => PyData.strOk z
  | .tup ds => plainL ds
  | .lst ds => plainL ds
  | .obj _ _ _ => false
  | .dct _ _ => false
  | .glo _ => false
  | .ty _ => false
def plainL : List D → Bool
  | [] => true
  | d :: ds => plainD d && plainL ds
end
mutual
theorem rep_dp {K : PySem.W.Frag} {F H : Hp} (x : Ex F H) : ∀ (d : D) (v : V), plainD d = true → Rep K F d v → Dp K H v (pyOf d)
  | .non, _, _, r => by rw [of_non r]; exact .non
  | .bl b, _, _, r => by rw [of_bl r]; exact .bl b
  | .int i, _, _, r => by rw [of_int r]; exact .int i
  | .str z, _, _, r => by rw [of_str r]; exact .str z
  | .tup ds, _, p, r => by
    obtain ⟨a, vs, rfl, fa, rl⟩ := of_tup r
    rw [pyOf]
    rw [plainD] at p
    exact .tup (.inl (.inl (x _ _ fa))) (reps_dp x ds vs p rl)
  | .lst ds, _, p, r => by
    obtain ⟨a, vs, rfl, fa, rl⟩ := of_lst r
    rw [pyOf]
    rw [plainD] at p
    exact .lst (.inl (.inl (x _ _ fa))) (reps_dp x ds vs p rl)
  | .obj _ _ _, _, p, _ => by rw [plainD] at p; cases p
  | .dct _ _, _, p, _ => by rw [plainD] at p; cases p
  | .glo _, _, p, _ => by rw [plainD] at p; cases p
  | .ty _, _, p, _ => by rw [plainD] at p; cases p
theorem reps_dp {K : PySem.W.Frag} {F H : Hp} (x : Ex F H) : ∀ (ds : List D) (vs : List V), plainL ds = true → RepL K F ds vs → DpAll K H vs (pyOfL ds)
  | [], _, _, r => by
    unfold RepL at r
    rw [r, pyOfL]
    exact .nil
  | d :: ds, _, p, r => by
    unfold RepL at r
    obtain ⟨v, l, rfl, r1, r2⟩ := r
    rw [plainL, Bool.and_eq_true] at p
    rw [pyOfL]
    exact .cons (rep_dp x d v p.1 r1) (reps_dp x ds l p.2 r2)
end
mutual
theorem plain_lay : ∀ d : D, plainD d = true → (pyOf d).canLay0 = true
  | .non, _ => by rw [pyOf, PyData.canLay0]
  | .bl b, _ => by rw [pyOf, PyData.canLay0]
  | .int i, _ => by rw [pyOf, PyData.canLay0]
  | .str z, p => by rw [plainD] at p; rw [pyOf, PyData.canLay0]; exact p
  | .tup ds, p => by rw [plainD] at p; rw [pyOf, PyData.canLay0]; exact plains_lay ds p
  | .lst ds, p => by rw [plainD] at p; rw [pyOf, PyData.canLay0]; exact plains_lay ds p
  | .obj _ _ _, p => by rw [plainD] at p; cases p
  | .dct _ _, p => by rw [plainD] at p; cases p
  | .glo _, p => by rw [plainD] at p; cases p
  | .ty _, p => by rw [plainD] at p; cases p
theorem plains_lay : ∀ ds : List D, plainL ds = true → PyData.canLayAll0 (pyOfL ds) = true
  | [], _ => by rw [pyOfL, PyData.canLayAll0]
  | d :: ds, p => by
    rw [plainL, Bool.and_eq_true] at p
    rw [pyOfL, PyData.canLayAll0, plain_lay d p.1, plains_lay ds p.2]
    rfl
end
mutual
def dpD : D → Nat
  | .tup ds => dpL ds + 1
  | .lst ds => dpL ds + 1
  | .non => 0
  | .bl _ => 0
  | .int _ => 0
  | .str _ => 0
  | .obj _ _ _ => 0
  | .dct _ _ => 0
  | .glo _ => 0
  | .ty _ => 0
def dpL : List D → Nat
  | [] => 0
  | d :: ds => max (dpD d) (dpL ds)
end
mutual
theorem dp_ok : ∀ d : D, (pyOf d).depth = dpD d
  | .non => by rw [pyOf, PyData.depth, dpD]
  | .bl b => by rw [pyOf, PyData.depth, dpD]
  | .int i => by rw [pyOf, PyData.depth, dpD]
  | .str z => by rw [pyOf, PyData.depth, dpD]
  | .tup ds => by rw [pyOf, PyData.depth, dpD, dps_ok ds]
  | .lst ds => by rw [pyOf, PyData.depth, dpD, dps_ok ds]
  | .obj _ _ _ => by rw [pyOf, PyData.depth, dpD]
  | .dct _ _ => by rw [pyOf, PyData.depth, dpD]
  | .glo _ => by rw [pyOf, PyData.depth, dpD]
  | .ty _ => by rw [pyOf, PyData.depth, dpD]
theorem dps_ok : ∀ ds : List D, PyData.depthAll (pyOfL ds) = dpL ds
  | [] => by rw [pyOfL, PyData.depthAll, dpL]
  | d :: ds => by rw [pyOfL, PyData.depthAll, dpL, dp_ok d, dps_ok ds]
end
/-- data whose == is known -/
def PlD (d : D) : Prop := plainD d = true ∧ dpD d ≤ 64
theorem PlD.shaped {d : D} (h : PlD d) : SeqAt.shaped (pyOf d) = true := by
  show (PyData.canLay0 (pyOf d) && decide ((pyOf d).depth ≤ 64)) = true
  rw [plain_lay d h.1, dp_ok]
  exact decide_eq_true h.2
/-- == of data -/
def eqD (d e : D) : Bool := PyData.eqv (pyOf d) (pyOf e)
theorem eqD_refl {d : D} (h : PlD d) : eqD d d = true := SeqAt.eqv_refl _ (plain_lay d h.1)
def kEqD (neg : Bool) : KO := fun x y R Φ => match x, y with
  | .val i, .val j => PlD i ∧ PlD j ∧ Φ (.val (.bl (if neg then !eqD i j else eqD i j))) R
  | _, _ => False
section
variable {X : Cx} {j : Nat}
theorem o_eqD (hr : Room j X.A) : DOp X (compareOp .Eq) (rEqD X.K) (kEqD false) := ⟨op_eqD (by have := hr.un; omega), fun B env R σ F H x y v u Φ Q s ex ey k q => by
  cases x with
  | no => exact False.elim k
  | adr p => exact False.elim k
  | val d =>
    cases y with
    | no => exact False.elim k
    | adr p => exact False.elim k
    | val d2 =>
      obtain ⟨p1, p2, k⟩ := k
      exact ⟨pyOf d, pyOf d2, rep_dp s.fin.fh d v p1.1 (en_val ex), rep_dp s.fin.fh d2 u p2.1 (en_val ey), p1.shaped, p2.shaped, q _ R _ F H k s Ex.rfl (enVal (rep_bl _))⟩⟩
theorem o_neD (hr : Room j X.A) : DOp X (compareOp .NotEq) (rNeD X.K) (kEqD true) := ⟨op_neD (by have := hr.un; omega), fun B env R σ F H x y v u Φ Q s ex ey k q => by
  cases x with
  | no => exact False.elim k
  | adr p => exact False.elim k
  | val d =>
    cases y with
    | no => exact False.elim k
    | adr p => exact False.elim k
    | val d2 =>
      obtain ⟨p1, p2, k⟩ := k
      exact ⟨pyOf d, pyOf d2, rep_dp s.fin.fh d v p1.1 (en_val ex), rep_dp s.fin.fh d2 u p2.1 (en_val ey), p1.shaped, p2.shaped, q _ R _ F H k s Ex.rfl (enVal (rep_bl _))⟩⟩
end
end Tl
/-! list + list, tuple + tuple. -/
namespace Tl
open PySem PySem.Spec PyProof.Rows L2
/-- o is the list ds, owned or settled -/
def LsAt (R : List Res) : En → List D → Prop
  | .val (.lst es), ds => es = ds
  | .adr p, ds => Res.lst p ds ∈ R
  | _, _ => False
section
variable {X : Cx}
theorem LsAt.get {K : PySem.W.Frag} {B : Bs} {env : List En} {R : List Res} {σ : L2.St} {F H : Hp} {o : En} {v : V} {ds : List D} (s : S K B env R σ F H) (e : EnOk K F o (some v)) (h : LsAt R o ds) : ∃ a vs, v = .ref a ∧ H a = some (.lst vs) ∧ RepL K F ds vs := by
  cases o with
  | no => exact False.elim h
  | adr p =>
    obtain ⟨vs, hp, r⟩ := s.ownM h
    exact ⟨p, vs, en_adr e, hp, r⟩
  | val d =>
    cases d with
    | lst es =>
      obtain rfl : es = ds := h
      obtain ⟨a, vs, rfl, fa, r⟩ := of_lst (en_val e)
      exact ⟨a, vs, rfl, s.fin.fh _ _ fa, r⟩
    | _ => exact False.elim h
def kCat : KO := fun x y R Φ => ∃ xs ys, LsAt R x xs ∧ LsAt R y ys ∧ xs.length + ys.length ≤ sizeLine ∧ ∀ p, Φ (.adr p) (.lst p (xs ++ ys) :: R)
theorem o_cat : DOp X (binaryOp .Add) rCat kCat := ⟨op_cat, fun B env R σ F H x y v u Φ Q s ex ey k q => by
  obtain ⟨xs, ys, h1, h2, hl, φ⟩ := k
  obtain ⟨a, vs, rfl, ha, r1⟩ := h1.get s ex
  obtain ⟨b, us, rfl, hb, r2⟩ := h2.get s ey
  exact ⟨a, b, vs, us, rfl, rfl, ha, hb, by rw [r1.len, r2.len]; exact hl, fun p hp => q _ _ _ F _ (φ p) (s.newL hp (r1.app r2)) Ex.rfl rfl⟩⟩
def kCatT : KO := fun x y R Φ => match x, y with
  | .val (.tup xs), .val (.tup ys) => xs.length + ys.length ≤ sizeLine ∧ Φ (.val (.tup (xs ++ ys))) R
  | _, _ => False
theorem o_catT : DOp X (binaryOp .Add) (rCatA X.K) kCatT := ⟨op_catA, fun B env R σ F H x y v u Φ Q s ex ey k q => by
  unfold kCatT at k
  split at k
  · rename_i xs ys
    obtain ⟨hl, φ⟩ := k
    obtain ⟨a, vs, rfl, fa, r1⟩ := of_tup (en_val ex)
    obtain ⟨b, us, rfl, fb, r2⟩ := of_tup (en_val ey)
    refine ⟨a, b, vs, us, rfl, rfl, SqT.of (s.fin.fh _ _ fa), SqT.of (s.fin.fh _ _ fb), by rw [r1.len, r2.len]; exact hl, fun e => ?_, fun _ e => ?_, fun _ _ p hp => ?_⟩
    · subst e
      have e0 : xs = [] := List.eq_nil_of_length_eq_zero (r1.len).symm
      subst e0
      exact q _ _ _ F _ φ s Ex.rfl ey
    · subst e
      have e0 : ys = [] := List.eq_nil_of_length_eq_zero (r2.len).symm
      subst e0
      rw [List.append_nil] at φ
      exact q _ _ _ F _ φ s Ex.rfl ex
    · obtain ⟨s2, x2⟩ := s.newF (o := .tup (vs ++ us)) hp
      exact q _ _ _ _ _ φ s2 x2 (enVal (mk_tup upd_same (RepL.up x2 _ _ (r1.app r2))))
  · exact False.elim k⟩
end
end Tl
/-! The head with own error classes whose __init__ says super().__init__(..). -/
namespace Tl
open PySem PySem.Spec PyProof.Rows L2
def xCls (K : PySem.W.Frag) (C : Addr) : Bool := match K.lookup C with
  | some ⟨.type "type", _, .cls cd, sl⟩ => (match cd.mro, sl.toList with
    | .ref C' :: bm, [_, _, _, _, some (.builtin n), _] => C' == C && n == "ValueError.__new__" && !cd.hasDel && cd.hasDict && HandSPX.refsVE bm
    | _, _ => false)
  | _ => false
theorem xCls_ok {K : PySem.W.Frag} {C : Addr} (q : xCls K C = true) : ∃ nm q N bs bm sn sub ab col dd k0 k1 k2 k3 k5, K.lookup C = some (excClassObj nm q C N bs bm true sn sub ab col dd k0 k1 k2 k3 k5 "ValueError.__new__") ∧ HandSPX.refsVE bm = true := by
  unfold xCls at q
  split at q
  · rename_i dd cd sl ho
    split at q
    · rename_i C' bm k0 k1 k2 k3 n k5 hm hs
      simp only [Bool.and_eq_true, beq_iff_eq, Bool.not_eq_true'] at q
      obtain ⟨⟨⟨⟨rfl, rfl⟩, hdel⟩, hdc⟩, ht⟩ := q
      obtain ⟨nm, bs, mro, ns, qn, hd, sn, sub, ab, col, del⟩ := cd
      dsimp only at hm hdel hdc
      subst hm hdel hdc
      have hsl : sl = #[k0, k1, k2, k3, some (.builtin "ValueError.__new__"), k5] := by
        obtain ⟨l⟩ := sl
        simp only at hs
        rw [hs]
      subst hsl
      exact ⟨nm, qn, ns, bs, bm, sn, sub, ab, col, dd, k0, k1, k2, k3, k5, ho, ht⟩
    · cases q
  · cases q
/-- the function of such an __init__: what the Bool looks at -/
def xFnB (prog : Program) (K : PySem.W.Frag) (C fI : Addr) (qual : Str) : Bool := match K.lookup fI with
  | some ⟨_, _, .func fd, _⟩ => (match fd.defaults, fd.kwdefaults, fd.code, fd.closure with
    | .none, .none, .ref cda, [(_, cc)] => PySem.W.codeIn K (.ref cda) qual && ((match K.lookup cda with
      | some ⟨_, _, Data.fields vs, _⟩ => (match (vs[2]? : Option Value) with
        | some (.str file _) => ((prog.main.file : Str) == file)
        | _ => false)
      | _ => false) && (match K.lookup cc with
      | some ⟨_, _, .cell (some (.ref D)), _⟩ => decide (D = C)
      | _ => false))
    | _, _, _, _ => false)
  | _ => false
abbrev FnV : Type := Option (Str × Str × Arguments × FuncBody × Scope × Addr × List Str × Addr)
def fnV (K : PySem.W.Frag) (a : Addr) : FnV := match K.lookup a with
  | some ⟨_, _, .func fd, _⟩ => some (fd.name, fd.qualname, fd.params, fd.body, fd.scope, fd.globals, fd.closure.map (·.1), fd.builtins)
  | _ => none
theorem xFn_ok {prog : Program} {K : PySem.W.Frag} {C fI : Addr} {name qual : Str} {params : Arguments} {body : List Stmt} {scope : Scope} (e : fnV K fI = (some (name, qual, params, FuncBody.stmts body, scope, mainGlobals, ["__class__"], builtinsNs) : FnV)) (q : xFnB prog K C fI qual = true) :
    ∃ (oc : Value) (od : Option Addr) (doc pm : Value) (an : Option Addr) (cda : Addr) (ct : Value) (osl : Array (Option Value)) (cc : Addr), K.lookup fI = some ⟨oc, od, .func (PySem.W.ksFn name qual params body scope .none .none doc pm an (.ref cda) ct cc), osl⟩ ∧ PySem.W.codeIn K (.ref cda) qual = true ∧
      (∃ ccl cdd vs ccs file tf, K.lookup cda = some ⟨ccl, cdd, .fields vs, ccs⟩ ∧ vs[2]? = some (.str file tf) ∧ ((prog.main.file : Str) == file) = true) ∧ (∃ cl cld csl, K.lookup cc = some ⟨cl, cld, .cell (some (.ref C)), csl⟩) := by
  unfold fnV at e
  unfold xFnB at q
  split at q
  · rename_i oc od fd osl ho
    rw [ho] at e
    dsimp only at e
    split at q
    · rename_i cda n cc h1 h2 h3 h4
      obtain ⟨n1, n2, n3, n4, n5, n6, n7, n8, n9, n10, n11, n12, n13, n14, n15⟩ := fd
      dsimp only at h1 h2 h3 h4 e
      subst h1 h2 h3 h4
      simp only [Option.some.injEq, Prod.mk.injEq, List.map_cons, List.map_nil, List.cons.injEq, and_true] at e
      obtain ⟨e1, e2, e3, e4, e5, e6, e7, e8⟩ := e
      subst e1 e2 e3 e4 e5 e6 e7 e8
      rw [Bool.and_eq_true, Bool.and_eq_true] at q
      obtain ⟨q1, q2, q3⟩ := q
      refine ⟨oc, od, n10, n11, n12, cda, n14, osl, cc, ho, q1, ?_, ?_⟩
      · split at q2
        · rename_i ccl cdd vs ccs hk
          split at q2
          · rename_i file tf hv
            exact ⟨ccl, cdd, vs, ccs, file, tf, hk, hv, q2⟩
          · cases q2
        · cases q2
      · split at q3
        · rename_i cl cld D csl hk
          rw [of_decide_eq_true q3] at hk
          exact ⟨cl, cld, csl, hk⟩
        · cases q3
    · cases q
  · cases q
end Tl
/-! The hook with error classes. -/
namespace Tl
open PySem PySem.Spec PyProof.Rows L2
/-- an error class: its name, its field, its __init__ -/
structure XD where
  c : Str
  f : Str
  q : Str
  st : Stmt
def XD.val (x : XD) : FnV := some ("__init__", x.q, defArgs x.st, .stmts (defBody x.st), defScope x.st, mainGlobals, ["__class__"], builtinsNs)
def XD.at_ (K : PySem.W.Frag) (x : XD) : Addr := He.ma K (He.ga K x.c) "__init__"
/-- what else is looked at -/
def XD.ok (prog : Program) (K : PySem.W.Frag) (x : XD) : Bool :=
  xCls K (He.ga K x.c) && (He.eqO (PySem.W.findIn K (.ref (He.ga K x.c)) "__setattr__") (some (some (.builtin "object.__setattr__"))) && (He.eqO (PySem.W.findIn K (.ref (He.ga K x.c)) x.f) (some none) && (He.eqO (PySem.W.findIn K (.ref (He.ga K x.c)) "__init__") (some (some (.ref (x.at_ K)))) &&
  (decide (PySem.W.typeIn K (.ref (x.at_ K)) = some (.type "function")) && (He.eqO (PySem.W.ks_superIn K (He.ga K x.c) (He.ga K x.c) "__init__") (some (some (.builtin "ValueError.__init__"))) && (decide (PySem.W.subIn K (.ref (He.ga K x.c)) (.type "ValueError") = some true) &&
  (decide (PySem.W.mroIn K (He.ga K x.c) (.ref (He.ga K x.c)) = some true) && (xFnB prog K (He.ga K x.c) (x.at_ K) x.q &&
  (PySem.W.keepIn K (.ref (He.ga K x.c)) && (decide (PySem.W.subIn K (.ref (He.ga K x.c)) (.type "BaseException") = some true) && decide (PySem.W.typeIn K (.ref (He.ga K x.c)) = some (.type "type"))))))))))))
abbrev AlF : Type := AlE × List FnV
def obsFK (fa : List He.Fa) (fn : List He.DefD) (ex : PySem.W.Frag → Bool) (xs : List XD) (K : PySem.W.Frag) : AlF := ((He.obsD fa fn K, ex K), xs.map fun x => fnV K (x.at_ K))
def obsF (n : Nat) (fa : List He.Fa) (fn : List He.DefD) (ex : PySem.W.Frag → Bool) (xs : List XD) (g : Addr → Option Obj) : AlF := obsFK fa fn ex xs (He.frG g (He.asD g n ++ [cStatics]))
structure SaysF (fa : List He.Fa) (fn : List He.DefD) (ex : PySem.W.Frag → Bool) (xs : List XD) (K : PySem.W.Frag) : Prop where
  d : He.SaysD fa fn K
  e : ex K = true
  x : ∀ x ∈ xs, fnV K (x.at_ K) = x.val
theorem map_eqs {α β : Type} {f g : α → β} : ∀ {l : List α}, l.map f = l.map g → ∀ x ∈ l, f x = g x
  | [], _, x, m => nomatch m
  | a :: l, h, x, m => by
    rw [List.map_cons, List.map_cons] at h
    injection h with h1 h2
    rcases List.mem_cons.mp m with rfl | m
    · exact h1
    · exact map_eqs h2 x m
def hookF (n : Nat) (fa : List He.Fa) (fn : List He.DefD) (ex : PySem.W.Frag → Bool) (xs : List XD) : PySem.W.Hook where
  α := AlF
  obs := fun s => obsF n fa fn ex xs s.heap.get?
  val := fun _ => ((He.valD fn, true), xs.map XD.val)
  says := fun _ h => ∃ K : PySem.W.Frag, K.In h ∧ SaysF fa fn ex xs K
  of := fun _ _ e => ⟨_, He.frG_in, congrArg (fun z : AlF => z.1.1) e, congrArg (fun z : AlF => z.1.2) e, map_eqs (congrArg (fun z : AlF => z.2) e)⟩
  keeps := fun _ _ _ ⟨K, hK, c⟩ k => ⟨K, PySem.W.Frag.In.keeps hK k, c⟩
theorem obsF_eq {n : Nat} {fa : List He.Fa} {fn : List He.DefD} {ex : PySem.W.Frag → Bool} {xs : List XD} {g : Addr → Option Obj} {s : Shared} (h : ∀ a, g a = s.heap.get? a) : obsF n fa fn ex xs g = (hookF n fa fn ex xs).obs s := by
  have e : g = s.heap.get? := funext h
  subst e
  rfl
/-- the text of an __init__, apart from the heap -/
structure XSt (x : XD) : Prop where
  f1 : x.f ≠ "self"
  f2 : x.f ≠ "__class__"
  f3 : x.f ≠ "super"
  f4 : x.f ≠ "__debug__"
  f5 : x.f ≠ "__classdict__"
  t : ∃ (msg : Str) (k : Nat) (a1 a2 p0 p1 p2 p3 p4 p5 q1 q2 q3 q4 : Pos), defArgs x.st = Exf.argsX x.f a1 a2 ∧ defBody x.st = Exf.bodyX x.f msg k p0 p1 p2 p3 p4 p5 q1 q2 q3 q4 ∧ defScope x.st = Exf.scopeX x.f ∧
    (∀ (qual : Str) (doc pm : Value) (an : Option Addr) (cda : Addr) (ct : Value) (cc : Addr) (u v : Value), bindArgs (PySem.W.ksFn "__init__" qual (Exf.argsX x.f a1 a2) (Exf.bodyX x.f msg k p0 p1 p2 p3 p4 p5 q1 q2 q3 q4) (Exf.scopeX x.f) .none .none doc pm an (.ref cda) ct cc) ⟨[u, v], []⟩ = pure [(("self" : Str), u), (x.f, v)]) ∧
    ∀ env : Env, ∃ pl : Sem Bool, eval (.Call (.Attribute (.Call (.Name "super" p0) [] [] p1) "__init__" p2) [.Constant (.str msg) k p3] [] p4) env = (do
      let ov ← attributeBase (.Call (.Name "super" p0) [] [] p1) "__init__" env (eval (.Call (.Name "super" p0) [] [] p1) env)
      standAt p2.atName
      let (g, first) ← holding [ov] (getMethod ov "__init__" pl)
      callWith p4 g first (backTo p4 (starEach [.Constant (.str msg) k p3] env)) [])
theorem exF_of {prog : Program} {K : PySem.W.Frag} {h : Heap} {mg : Str → Option Value} {x : XD} (X : K.In h) (G : h.Ns mainGlobals mg) (xs : XSt x) (e : fnV K (x.at_ K) = x.val) (ok : x.ok prog K = true) (st : PySem.W.nsIn K cStatics "thirdparty.any" = some none) (top : (prog.main.scope.names.lookup ("super" : Str)).isSome = false)
    (g : (He.Fa.glo x.c).ok K = true) (s : (He.Fa.free "super").ok K = true) : ExF prog K mg x.c x.f := by
  unfold XD.ok at ok
  simp only [Bool.and_eq_true, decide_eq_true_eq] at ok
  obtain ⟨o1, o2, o3, o4, o5, o6, o7, o8, o9, o10, o11, o12⟩ := ok
  obtain ⟨msg, k, a1, a2, p0, p1, p2, p3, p4, p5, q1, q2, q3, q4, t1, t2, t3, t4, t5⟩ := xs.t
  have e' : fnV K (x.at_ K) = (some ("__init__", x.q, defArgs x.st, FuncBody.stmts (defBody x.st), defScope x.st, mainGlobals, ["__class__"], builtinsNs) : FnV) := e
  obtain ⟨oc, od, doc, pm, an, cda, ct, osl, cc, k1, k2, k3, k4⟩ := xFn_ok e' o9
  rw [t1, t2, t3] at k1
  refine ⟨⟨x.at_ K, ⟨xCls_ok o1, He.eqO_ok o2, He.eqO_ok o3, He.eqO_ok o4, o5, He.eqO_ok o6, o7, o8, st, top, xs.f1, xs.f2, xs.f3, xs.f4, xs.f5, ?_⟩⟩, o10, o11, o12, He.glo_ok X G g, He.free_ok X G s⟩
  exact ⟨oc, od, x.q, doc, pm, an, cda, ct, osl, cc, msg, k, a1, a2, p0, p1, p2, p3, p4, p5, q1, q2, q3, q4, k1, k2, k3, k4, fun u v => t4 _ _ _ _ _ _ _ u v, t5⟩
end Tl
/-! The head: packages, error classes. -/
namespace Tl
open PySem PySem.Spec PyProof.Rows L2 L2H
def ddef (x : Str) (st : Stmt) : He.DefD := ⟨(x, none), x, x, defArgs st, defBody st, defScope st, [], []⟩
def dmet (c m q : Str) (st : Stmt) (dfl : List He.Dv) : He.DefD := ⟨(c, some m), m, q, defArgs st, defBody st, defScope st, dfl, []⟩
theorem exK_of {K : PySem.W.Frag} {h : Heap} {mg : Str → Option Value} {x : Str} (X : K.In h) (G : h.Ns mainGlobals mg) (c : (He.Fa.exc x).ok K = true) (g : (He.Fa.glo x).ok K = true) : ExK K mg x := by
  obtain ⟨a, b, d, e⟩ := He.exc_ok c
  exact ⟨a, b, d, e, He.glo_ok X G g⟩
/-- what isinstance(e, ..) looks at -/
def excB (K : PySem.W.Frag) (D : Addr) : Bool := He.eqO (PySem.W.findIn K (.ref D) "__getattribute__") (some (some (.builtin "BaseException.__getattribute__"))) && (He.eqO (PySem.W.findIn K (.ref D) "__getattr__") (some none) && (decide (PySem.W.subIn K (.ref D) (.type "BaseException") = some true) && (PySem.W.hasDictIn K D &&
  (He.eqO (PySem.W.findIn K (.ref D) "__class__") (some (some (.builtin "object.__class__"))) && (He.eqO (PySem.W.specialIn K (.builtin "object.__class__") "__get__") (some (some (.builtin "getset_descriptor.__get__"))) && (decide (PySem.W.takesIn K (.builtin "object.__class__") = some true) && decide (PySem.W.mroIn K D (.type "object") = some true)))))))
theorem excB_ok {K : PySem.W.Frag} {D : Addr} (h : excB K D = true) : ExcC K D ∧ XfC K D := by
  unfold excB at h
  simp only [Bool.and_eq_true, decide_eq_true_eq] at h
  obtain ⟨h1, h2, h3, h4, h5, h6, h7, h8⟩ := h
  exact ⟨⟨He.eqO_ok h1, He.eqO_ok h2, h3, h4, He.eqO_ok h5, He.eqO_ok h6, h7, h8⟩, ⟨He.eqO_ok h1, He.eqO_ok h2, h3, h4⟩⟩
end Tl
/-! Texts of signs, in plain Lean. -/
namespace Tw
open PySem PySem.Spec PyProof.Rows L2 Tl
abbrev T (z : Str) : List Nat := z.cps.toList
abbrev mk (l : List Nat) : Str := SX.S l
abbrev sgn (c : Nat) : Str := ⟨#[c]⟩
theorem T_mk (l : List Nat) : T (mk l) = l := by simp [T, mk, SX.S]
theorem mk_T (z : Str) : mk (T z) = z := by
  obtain ⟨c⟩ := z
  simp [T, mk, SX.S]
theorem len_T (z : Str) : z.length = (T z).length := by
  show z.cps.size = z.cps.toList.length
  simp
theorem signs_T (z : Str) : Tl.signs z = ((T z).map sgn).map D.str := by
  unfold Tl.signs
  rw [List.map_map]
  rfl
theorem joinL_one : ∀ cs : List Nat, TL.joinL [] (cs.map fun c => [c]) = cs
  | [] => rfl
  | [_] => rfl
  | a :: b :: r => by
    show [a] ++ ([] ++ TL.joinL [] ((b :: r).map fun c => [c])) = _
    rw [joinL_one (b :: r)]
    rfl
theorem join_sgn (cs : List Nat) : Txt.join (SX.S []) (cs.map sgn) = mk cs := by
  have e : cs.map sgn = (cs.map fun c => [c]).map SX.S := by
    rw [List.map_map]
    rfl
  rw [e, SX.join_S, joinL_one]
theorem sum_sgn : ∀ cs : List Nat, ((cs.map sgn).map (·.length)).sum = cs.length
  | [] => rfl
  | c :: cs => by
    rw [List.map_cons, List.map_cons, List.sum_cons, sum_sgn cs, List.length_cons]
    show 1 + cs.length = cs.length + 1
    omega
/-! ### the alphabet -/
def AL : Str := (" !\"#$&'()*+,-./0123456789:;<=>?@ABCDEFGHIJKLMNOPQRSTUVWXYZ[\\]^_`abcdefghijklmnopqrstuvwxyz{|}~" : String)
theorem al_up : (T AL).Pairwise (· < ·) := by decide +kernel
theorem al_len : (T AL).length = 94 := by decide +kernel
theorem al_nodup : (T AL).Nodup := al_up.imp fun h => Nat.ne_of_lt h
def Ok (z : Str) : Prop := ∀ c ∈ T z, c ∈ T AL
def pOf (z : Str) : Nat → Bool := fun c => decide (c ∈ T z)
/-- the signs with p, ascending -/
def of (p : Nat → Bool) : Str := mk ((T AL).filter p)
theorem T_of (p : Nat → Bool) : T (of p) = (T AL).filter p := T_mk _
theorem of_congr {p q : Nat → Bool} (h : ∀ c ∈ T AL, p c = q c) : of p = of q := by
  unfold of
  rw [List.filter_congr h]
theorem of_inj {p q : Nat → Bool} (h : of p = of q) : ∀ c ∈ T AL, p c = q c := by
  intro c m
  have e : (T AL).filter p = (T AL).filter q := by rw [← T_of, ← T_of, h]
  have a : c ∈ (T AL).filter p ↔ c ∈ (T AL).filter q := by rw [e]
  simp only [List.mem_filter, m, true_and] at a
  cases hp : p c <;> cases hq : q c <;> simp_all
theorem ok_of (p : Nat → Bool) : Ok (of p) := fun c m => by
  rw [T_of] at m
  exact (List.mem_filter.mp m).1
theorem pOf_of {p : Nat → Bool} {c : Nat} (m : c ∈ T AL) : pOf (of p) c = p c := by
  unfold pOf
  rw [T_of]
  simp [List.mem_filter, m]
theorem of_pOf_of (p : Nat → Bool) : of (pOf (of p)) = of p := of_congr fun c m => pOf_of m
theorem of_le (p : Nat → Bool) : (T (of p)).length ≤ 94 := by
  rw [T_of, ← al_len]
  exact List.length_filter_le _ _
theorem mem_of {p : Nat → Bool} {c : Nat} : c ∈ T (of p) ↔ c ∈ T AL ∧ p c = true := by
  rw [T_of, List.mem_filter]
/-- ascending lists with the same members -/
theorem up_eq : ∀ {l m : List Nat}, l.Pairwise (· < ·) → m.Pairwise (· < ·) → (∀ c, c ∈ l ↔ c ∈ m) → l = m
  | [], [], _, _, _ => rfl
  | [], b :: m, _, _, h => by
    have := (h b).mpr List.mem_cons_self
    cases this
  | a :: l, [], _, _, h => by
    have := (h a).mp List.mem_cons_self
    cases this
  | a :: l, b :: m, hl, hm, h => by
    obtain ⟨l1, l2⟩ := List.pairwise_cons.mp hl
    obtain ⟨m1, m2⟩ := List.pairwise_cons.mp hm
    have ab : a = b := by
      rcases List.mem_cons.mp ((h a).mp List.mem_cons_self) with e | e
      · exact e
      · rcases List.mem_cons.mp ((h b).mpr List.mem_cons_self) with e2 | e2
        · exact e2.symm
        · have x := m1 a e
          have y := l1 b e2
          omega
    subst ab
    rw [up_eq l2 m2 fun c => ?_]
    constructor
    · intro hc
      rcases List.mem_cons.mp ((h c).mp (List.mem_cons_of_mem _ hc)) with e | e
      · exact absurd (l1 c hc) (by omega)
      · exact e
    · intro hc
      rcases List.mem_cons.mp ((h c).mpr (List.mem_cons_of_mem _ hc)) with e | e
      · exact absurd (m1 c hc) (by omega)
      · exact e
theorem rising_sgn : ∀ (x : Nat) (cs : List Nat), risingS (sgn x) (cs.map sgn) = true → (x :: cs).Pairwise (· ≤ ·)
  | x, [], _ => by simp
  | x, y :: cs, h => by
    have h2 : (!ltCps [y] [x] && risingS (sgn y) (cs.map sgn)) = true := h
    obtain ⟨a, b⟩ := Bool.and_eq_true_iff.mp h2
    have le : x ≤ y := by
      rcases Nat.lt_or_ge y x with z | z
      · exfalso
        have : ltCps [y] [x] = true := by
          unfold ltCps
          simp [z]
        rw [this] at a
        cases a
      · exact z
    have ih := rising_sgn y cs b
    refine List.pairwise_cons.mpr ⟨fun c hc => ?_, ih⟩
    rcases List.mem_cons.mp hc with e | e
    · omega
    · have := (List.pairwise_cons.mp ih).1 c e
      omega
theorem sorted_sgn (cs : List Nat) (h : sortedS (cs.map sgn) = true) : cs.Pairwise (· ≤ ·) := by
  cases cs with
  | nil => exact List.Pairwise.nil
  | cons x r => exact rising_sgn x r h
theorem sgn_inj {a b : Nat} (h : sgn a = sgn b) : a = b := by
  have : [a] = [b] := congrArg (fun z : Str => z.cps.toList) h
  exact (List.cons.inj this).1
/-- ''.join(sorted(set(list(z)))) -/
theorem once_eq {z : Str} {ys : List Str} (ok : Ok z) (pm : ys.Perm (Tx.got ((T z).map sgn) [])) (so : sortedS ys = true) : ys = ((T AL).filter (pOf z)).map sgn := by
  have mem : ∀ y, y ∈ ys ↔ y ∈ (T z).map sgn := fun y => by
    rw [pm.mem_iff, Tx.got_mem]
    simp
  have ex : ∃ cs : List Nat, ys = cs.map sgn := by
    have gen : ∀ l : List Str, (∀ y ∈ l, y ∈ (T z).map sgn) → ∃ cs : List Nat, l = cs.map sgn := by
      intro l
      induction l with
      | nil => exact fun _ => ⟨[], rfl⟩
      | cons y l ih =>
        intro h
        obtain ⟨c, _, e⟩ := List.mem_map.mp (h y List.mem_cons_self)
        obtain ⟨cs, e2⟩ := ih fun u hu => h u (List.mem_cons_of_mem _ hu)
        exact ⟨c :: cs, by rw [List.map_cons, e, e2]⟩
    exact gen ys fun y hy => (mem y).mp hy
  obtain ⟨cs, rfl⟩ := ex
  have nd : (cs.map sgn).Nodup := pm.nodup_iff.mpr (Tx.got_nodup _ _ List.nodup_nil)
  have nd2 : cs.Nodup := List.Pairwise.of_map sgn (fun _ _ hne e => hne (congrArg sgn e)) nd
  have le := sorted_sgn cs so
  have lt : cs.Pairwise (· < ·) := by
    refine (List.pairwise_and_iff.mpr ⟨le, nd2⟩).imp fun h => ?_
    have := h.1
    have := h.2
    omega
  congr 1
  refine up_eq lt (al_up.filter _) fun c => ?_
  have m1 : c ∈ cs ↔ c ∈ T z := by
    constructor
    · intro h
      obtain ⟨d, hd, e⟩ := List.mem_map.mp ((mem (sgn c)).mp (List.mem_map.mpr ⟨c, h, rfl⟩))
      rw [← sgn_inj e]
      exact hd
    · intro h
      obtain ⟨d, hd, e⟩ := List.mem_map.mp ((mem (sgn c)).mpr (List.mem_map.mpr ⟨c, h, rfl⟩))
      rw [← sgn_inj e]
      exact hd
  rw [m1, List.mem_filter]
  unfold pOf
  simp only [decide_eq_true_eq]
  exact ⟨fun h => ⟨ok c h, h⟩, fun h => h.2⟩
/-! ### comprehensions -/
theorem lc_filter {w : WI} {g : WG} {t : WT} {e : WE} {vs : List Nat} {env : List En} {R : List Res} {Φ : En → List Res → Prop} {Ψ : XP} (items : List D) (p : D → Bool) (out : D → D) (few : items.length < 1000000)
    (hw : ∀ φ : List D → List Res → Prop, φ items R → w env R φ Ψ)
    (turn : ∀ d ∈ items, ∀ (R' : List Res) (K1 : En → List Res → Prop) (K2 : List Res → Prop), (p d = true → K1 (.val (out d)) R') → (p d = false → K2 R') → g (.val d) (wipeE env vs) R' fun env2 R2 => t env2 R2 (fun b R3 => if b = true then e env2 R3 K1 X0 else K2 R3) X0)
    (fin : ∀ q, Φ (.adr q) (.lst q ((items.filter p).map out) :: R)) : wLc w g t e vs env R Φ Ψ := by
  refine hw _ ⟨fun i acc R' => acc = ((items.take i).filter p).map out ∧ R' = R, ⟨by simp, rfl⟩, fun i d acc R' q hd hI => ?_, fun acc R' q hI => ?_⟩
  · obtain ⟨rfl, rfl⟩ := hI
    have nx : items.take (i + 1) = items.take i ++ [d] := Tx.take_get hd
    refine turn d (List.mem_of_getElem? hd) _ _ _ (fun h => ⟨rfl, ?_, ?_, rfl⟩) fun h => ⟨rfl, ?_, rfl⟩
    · rw [List.length_map]
      exact Nat.lt_of_le_of_lt (Nat.le_trans (List.length_filter_le _ _) (by rw [List.length_take]; omega)) few
    · rw [nx, List.filter_append, List.map_append]
      simp [h]
    · rw [nx, List.filter_append, List.map_append]
      simp [h]
  · obtain ⟨rfl, rfl⟩ := hI
    rw [List.take_length]
    exact fin q
end Tw
/-! The row's text. -/
namespace Tw
open PySem PySem.Spec PyProof.Rows L2 Tl
def top (i : Nat) : Stmt := PySem.Challenge.pw_townlines_k07_errors_apart.main.body.getD i (.Pass ⟨0, 0, 0, 0⟩)
abbrev inC (s : Stmt) (i : Nat) : Stmt := (C8.clsBody s).getD i (.Pass ⟨0, 0, 0, 0⟩)
abbrev st_TownError (i : Nat) : Stmt := inC (top 1) i
abbrev st_BadSigns (i : Nat) : Stmt := inC (top 2) i
abbrev st_BadText (i : Nat) : Stmt := inC (top 3) i
abbrev st_BadKind (i : Nat) : Stmt := inC (top 4) i
abbrev st_NoReading (i : Nat) : Stmt := inC (top 5) i
abbrev st_TooMany (i : Nat) : Stmt := inC (top 6) i
abbrev st_TooLarge (i : Nat) : Stmt := inC (top 7) i
abbrev st_BadItem (i : Nat) : Stmt := inC (top 8) i
abbrev st_BadForm (i : Nat) : Stmt := inC (top 9) i
abbrev st_BadName (i : Nat) : Stmt := inC (top 10) i
abbrev st_Unknown (i : Nat) : Stmt := inC (top 11) i
abbrev st_Missing (i : Nat) : Stmt := inC (top 12) i
abbrev st_BadValue (i : Nat) : Stmt := inC (top 13) i
abbrev st_NotSingle (i : Nat) : Stmt := inC (top 14) i
abbrev st_NotWithin (i : Nat) : Stmt := inC (top 15) i
abbrev st_NoForm (i : Nat) : Stmt := inC (top 16) i
abbrev st_BadNumber (i : Nat) : Stmt := inC (top 17) i
abbrev st_TooWide (i : Nat) : Stmt := inC (top 18) i
abbrev st_BadShort (i : Nat) : Stmt := inC (top 19) i
abbrev st_law_bag : Stmt := top 21
abbrev st_law_draw : Stmt := top 22
abbrev st_law_alphabet : Stmt := top 23
abbrev st_law_letters : Stmt := top 24
abbrev st_law_raise_plain : Stmt := top 25
abbrev st_law_raise : Stmt := top 26
abbrev st_law_classes : Stmt := top 27
abbrev st_law_by_base : Stmt := top 28
abbrev st_law_number_of : Stmt := top 29
abbrev st_law_name_of : Stmt := top 30
abbrev st_law : Stmt := top 31
abbrev FnQ (K : PySem.W.Frag) (x q : Str) (st : Stmt) (dv : List V) (f : Addr) (fd : FuncData) : Prop := FunD K x q (defArgs st) (defBody st) (defScope st) dv [] f fd
end Tw
/-! The law's own defs: drawn letters and texts. -/
namespace Tl
open PySem PySem.Spec PyProof.Rows L2
theorem sub_flat {α β : Type} (f : α → List β) {l m : List α} (h : l.Sublist m) : (l.flatMap f).Sublist (m.flatMap f) := by
  induction h with
  | slnil => exact List.Sublist.refl _
  | cons a _ ih =>
    rw [List.flatMap_cons]
    exact ih.trans (List.sublist_append_right _ _)
  | cons_cons a _ ih =>
    rw [List.flatMap_cons, List.flatMap_cons]
    exact ih.append_left _
theorem erase_map {α β : Type} (f : α → β) : ∀ (l : List α) (i : Nat), (l.map f).eraseIdx i = (l.eraseIdx i).map f
  | [], _ => rfl
  | _ :: _, 0 => rfl
  | x :: l, i + 1 => by
    show f x :: (l.map f).eraseIdx i = f x :: (l.eraseIdx i).map f
    rw [erase_map f l i]
theorem Fin.dropAt {K : PySem.W.Frag} {F H : Hp} {R : List Res} (k : Nat) (ex : Ex F H) (rk : ROk K F H R) : Fin K F H R F H (R.eraseIdx k) := by
  have sub : (R.eraseIdx k).Sublist R := List.eraseIdx_sublist R k
  have sf : (fps (R.eraseIdx k)).Sublist (fps R) := by
    unfold fps
    exact sub_flat Res.fp sub
  exact ⟨Ex.rfl, ex, fun a u e _ => e, fun a e => e, fun a e z => absurd e z, ⟨fun t ht => rk.ok t (sub.subset ht), sf.nodup rk.nd, fun q m => rk.off q (sf.subset m)⟩, fun q m => .inl (sf.subset m)⟩
/-- an owned thing is let go behind e -/
def wDropR (k : Nat) (w : WE) : WE := fun env R Φ Ψ => w env R (fun o R1 => Φ o (R1.eraseIdx k)) Ψ
theorem de_drop {X : Cx} {W : WX} {e : Expr} {te : TE} {we : WE} (k : Nat) (h : DE X W e te we) : DE X W e te (wDropR k we) :=
  ⟨h.p, fun B env R Φ Ψ acc w σ F H s Q q => h.v B env R _ Ψ acc w σ F H s Q fun o R1 v F1 H1 φ s1 x1 eo => q o _ v F1 H1 φ (s1.go (Fin.dropAt k s1.fin.fh s1.fin.rk)) x1 eo⟩
end Tl
namespace Tw
open PySem PySem.Spec PyProof.Rows L2 Tl
abbrev sgD (c : Nat) : D := .str (sgn c)
def fsAlpha : FS := fun os R Φ _ => os = [] ∧ Φ (.val (.str AL)) R
theorem mono_alpha : Mono fsAlpha := fun os R Φ Φ' Ψ Ψ' h _ z => ⟨z.1, h _ _ z.2⟩
/-- n unlike letters -/
def fsLetters : FS := fun os R Φ _ => ∃ b l n, os = [.adr b, .val (.int n)] ∧ 0 ≤ n ∧ n ≤ 94 ∧ Res.bag b l ∈ R ∧ ∀ cs : List Nat, cs.length = n.toNat → cs.Nodup → (∀ c ∈ cs, c ∈ T AL) → Φ (.val (.lst (cs.map sgD))) R
theorem mono_letters : Mono fsLetters := fun os R Φ Φ' Ψ Ψ' h _ z => by
  obtain ⟨b, l, n, e, h0, h1, m, k⟩ := z
  exact ⟨b, l, n, e, h0, h1, m, fun cs a1 a2 a3 => h _ _ (k cs a1 a2 a3)⟩
/-- what the head tells of the law's common defs -/
structure LwEnv (P : Program) (w : World) (K : PySem.W.Frag) (mg : Str → Option Value) (base : Heap) : Prop where
  ml : mg "len" = none
  mli : mg "list" = none
  mr : mg "range" = none
section
variable {P : Program} {w : World} {K : PySem.W.Frag} {mg : Str → Option Value} {base : Heap} {f : Addr} {fd : FuncData} {cs : List Str}
theorem sc_draw : FnScope ["_law_bag_here", "_law_limit", "_law_cell", "_law_number", "_law_drawn", "_law_one"] ["_law_bag_here", "_law_limit"] (defScope st_law_draw) := ⟨rfl, rfl, rfl, by decide +kernel, rfl, by decide +kernel, by decide +kernel⟩
theorem ok_draw (ml : mg "len" = none) (mi : mg "int" = none) (Fd : FnQ K "_law_draw" "_law_draw" st_law_draw [] f fd) : FnOk P w K mg base (L2.CX P w) 1 f fd ["_law_bag_here", "_law_limit"] (spOf K fsDraw) := by
  have px : ∀ (i : Int) (k : Nat) (p : Pos), PlainIx (.Constant (.int i) k p) := fun _ _ _ _ _ => rfl
  refine fn_draw (k := 0) Fd sc_draw rfl rfl fun cdv A outer s H E => ?_
  exact pss_cons (ps_if (pw_and (pt_cmpR op_eq (pe_ix ix_list (pv 0) pe_int (px _ _ _)) pe_int (nomark _)) (pw_and1 (pt_cmpR op_gt (pe_callB call_len (by rfl) ml boot_len (pa_cons (pe_ix ix_list (pv 0) pe_int (px _ _ _)) pa_nil)) pe_int (nomark _)))).pt
      (pss_cons (ps_set (i := 2) sc_draw.nd rfl (.inl rfl) (pe_bm PySem.F.plainAttrs_list PySem.F.slot_list_pop PySem.F.type_list_pop mt_popAt (pe_ix ix_list (pv 0) pe_int (px _ _ _)) (pa_cons pe_int pa_nil)))
      (pss_cons (ps_set (i := 3) sc_draw.nd rfl (.inl rfl) (pe_op op_mul pe_int (pv 2)))
      (pss_cons (ps_if (pt_cmpR op_lt (pv 2) pe_int (nomark _)) (pss_one (ps_set (i := 3) sc_draw.nd rfl (.inl rfl) (pe_op op_sub (pe_op op_mul (pe_un un_neg pe_int) (pv 2)) pe_int))) pss_nil)
      (pss_cons (ps_if (pt_cmpR op_ge (pv 3) (pe_op op_pow pe_int pe_int) (nomark _)) (pss_one (ps_asg (pv 3) (pg_sub (pv 0) pe_int set_list))) pss_nil)
      (pss_one (ps_asg (pe_op op_mod (pe_callTy call_int1 (by rfl) mi boot_int (pa_cons (pe_op op_add (pe_op op_add (pe_op op_mul (pe_ix ix_list (pv 0) pe_int (px _ _ _)) pe_int) (pv 3)) pe_int) pa_nil)) pe_int) (pg_sub (pv 0) pe_int set_list)))))))
      pss_nil)
    (pss_cons (ps_if (pt_cmpR op_gt (pe_ix ix_list (pv 0) pe_int (px _ _ _)) pe_int (nomark _))
      (pss_cons (ps_set (i := 4) sc_draw.nd rfl (.inl rfl) (pe_op op_mod (pe_callTy call_int1 (by rfl) mi boot_int (pa_cons (pe_ix ix_list (pv 0) pe_int (px _ _ _)) pa_nil)) (pv 1)))
      (pss_cons (ps_asg (pe_op op_fdivW (pe_ix ix_list (pv 0) pe_int (px _ _ _)) (pv 1)) (pg_sub (pv 0) pe_int set_list))
      (pss_one (ps_ret (pv 4))))) pss_nil)
    (pss_cons (ps_asg (pe_op op_add (pe_ix ix_list (pv 0) pe_int (px _ _ _)) pe_int) (pg_sub (pv 0) pe_int set_list))
    (pss_cons (ps_set (i := 5) sc_draw.nd rfl (.inl rfl) (pe_op op_mod (pe_callTy call_int1 (by rfl) mi boot_int (pa_cons (pe_op op_mul (pe_op op_add (pe_op op_add (pe_ix ix_list (pv 0) pe_int (px _ _ _)) (pe_op op_mul pe_int (pe_ix ix_list (pv 0) pe_int (px _ _ _)))) pe_int) pe_int) pa_nil)) pe_int))
    (pss_cons (ps_set (i := 5) sc_draw.nd rfl (.inl rfl) (pe_op op_mod (pe_callTy call_int1 (by rfl) mi boot_int (pa_cons (pe_op op_mul (pv 5) (pe_op op_add (pe_op op_fdiv (pv 5) pe_int) pe_int)) pa_nil)) pe_int))
    (pss_cons (ps_set (i := 5) sc_draw.nd rfl (.inl rfl) (pe_op op_mod (pe_callTy call_int1 (by rfl) mi boot_int (pa_cons (pe_op op_mul (pv 5) (pe_op op_add (pe_op op_fdiv (pv 5) pe_int) pe_int)) pa_nil)) pe_int))
    (pss_one (ps_ret (pe_op op_mod (pe_callTy call_int1 (by rfl) mi boot_int (pa_cons (pe_op op_fdiv (pv 5) pe_int) pa_nil)) (pv 1)))))))))
theorem sc_bag : FnScope ["_law_script"] ["_law_script"] (defScope st_law_bag) := ⟨rfl, rfl, rfl, by decide +kernel, rfl, by decide +kernel, by decide +kernel⟩
theorem ok_bag (mli : mg "list" = none) (Fd : FnQ K "_law_bag" "_law_bag" st_law_bag [] f fd) : FnOk P w K mg base (L2.CX P w) 1 f fd ["_law_script"] (spBag K) := by
  refine fn_bag (k := 0) Fd sc_bag rfl rfl fun cdv A outer s H E => ?_
  exact pss_one (ps_ret (pe_lst (pa_cons (pe_callTy call_list_of (by rfl) mli boot_list (pa_cons (pe_slice sl_list (pv 0) po_none (po_some pe_int)) pa_nil)) (pa_cons pe_int (pa_cons pe_int (pa_cons pe_int pa_nil))))))
theorem sc_alpha : FnScope ["_law_first"] [] (defScope st_law_alphabet) := ⟨rfl, rfl, rfl, by decide +kernel, rfl, by decide +kernel, by decide +kernel⟩
theorem ok_alpha (Fd : FnQ K "_law_alphabet" "_law_alphabet" st_law_alphabet [] f fd) : FnOk P w K mg base (L2.CX P w) 1 f fd [] (spOf K fsAlpha) := by
  refine fn_body (k := 0) Fd sc_alpha (fun os R Φ Ψ h => ?_) (fun cdv A outer s H E hr tk => ⟨_, _, ss_cons (s_set (i := 0) sc_alpha.nd d_str) (ss_one (s_ret (d_op o_addS (dv 0) d_str))), fun os R Φ Ψ h => ?_⟩)
  · obtain ⟨rfl, _⟩ := h
    rfl
  · obtain ⟨rfl, φ⟩ := h
    refine ⟨by decide +kernel, ?_⟩
    have e : ((" !\"#$&'()*+,-./0123456789:;<=>?@ABCDEFGHIJKLMNOPQRSTUVWXYZ[\\]^_`" : String) : Str) ++ (("abcdefghijklmnopqrstuvwxyz{|}~" : String) : Str) = AL := by decide +kernel
    rw [← e] at φ
    exact φ
theorem erase_perm {c : Nat} : ∀ {l : List Nat} {i : Nat}, l[i]? = some c → (c :: l.eraseIdx i).Perm l
  | [], _, h => by simp at h
  | x :: l, 0, h => by
    have e : x = c := Option.some.inj h
    rw [e]
    exact List.Perm.refl _
  | x :: l, i + 1, h => by
    show (c :: x :: l.eraseIdx i).Perm (x :: l)
    exact (List.Perm.swap x c _).trans ((erase_perm (l := l) (i := i) h).cons x)
theorem sc_letters : FnScope ["_law_bag_here", "_law_many", "_law_rest", "_law_found", "_law_k"] ["_law_bag_here", "_law_many"] (defScope st_law_letters) := ⟨rfl, rfl, rfl, by decide +kernel, rfl, by decide +kernel, by decide +kernel⟩
theorem ok_letters (V : LwEnv P w K mg base) (fD : Fx P w K mg base 1 "_law_draw" fsDraw []) (fA : Fx P w K mg base 1 "_law_alphabet" fsAlpha []) (Fd : FnQ K "_law_letters" "_law_letters" st_law_letters [] f fd) : FnOk P w K mg base (L2.CX P w) 2 f fd ["_law_bag_here", "_law_many"] (spOf K fsLetters) := by
  refine fn_body (k := 1) Fd sc_letters (fun os R Φ Ψ h => ?_) (fun cdv A outer s H E hr tk => ⟨_, _,
    ss_cons (s_set (i := 2) sc_letters.nd (d_callTy (c_listS rfl) V.mli boot_list (a_cons (d_call0 mono_alpha fA hr (Nat.le_refl _) tk) a_nil)))
    (ss_cons (s_set (i := 3) sc_letters.nd (d_lst a_nil))
    (ss_cons (s_for tk rfl (i_range1 V.mr (a_cons (dv 1) a_nil)) (g_name (i := 4) sc_letters.nd) (ss_one (s_expr (d_append 0 (dv 3) (a_cons (d_pop 1 (dv 2) (a_cons (d_call mono_draw fD hr (Nat.le_refl _) tk (a_cons (dv 0) (a_cons (d_callB c_len V.ml boot_len (a_cons (dv 2) a_nil)) a_nil))) a_nil)) a_nil)))))
    (ss_one (s_ret (de_drop 0 (de_set 0 (dv 3))))))), fun os R Φ Ψ h => ?_⟩)
  · obtain ⟨b, l, n, rfl, _⟩ := h
    rfl
  · obtain ⟨b, l, n, rfl, h0, h1, m, k⟩ := h
    refine ⟨rfl, by decide +kernel, fun p => ⟨[], rfl, Nat.zero_le _, fun q => ⟨by omega, by omega, ?_⟩⟩⟩
    refine ⟨fun i env' R' => (∃ x, env' = [.adr b, .val (.int n), .adr p, .adr q, x]) ∧ ∃ fo re : List Nat, R' = .lst q (fo.map sgD) :: .lst p (re.map sgD) :: R ∧ fo.length = i ∧ (fo ++ re).Perm (T AL), ⟨⟨.no, rfl⟩, [], T AL, ?_, rfl, List.Perm.refl _⟩, fun i d env' R' hd hI => ?_, fun env' R' hI => ?_⟩
    · rw [signs_T, List.map_map]
      rfl
    · obtain ⟨⟨x, rfl⟩, fo, re, rfl, lf, pm⟩ := hI
      have hi : i < n.toNat := by
        have := (List.getElem?_eq_some_iff.mp hd).1
        rw [intsFrom_len] at this
        exact this
      have tot : fo.length + re.length = 94 := by
        rw [← List.length_append, pm.length_eq, al_len]
      have rl : 0 < re.length := by omega
      refine ⟨⟨_, List.mem_cons_self⟩, ⟨_, List.mem_cons_of_mem _ List.mem_cons_self⟩, _, List.mem_cons_of_mem _ List.mem_cons_self, ?_⟩
      refine ⟨b, l, _, rfl, ?_, ?_, List.mem_cons_of_mem _ (List.mem_cons_of_mem _ m), fun dd d0 d1 => ?_⟩
      · rw [List.length_map]; omega
      · rw [List.length_map]; omega
      · rw [List.length_map] at d1
        have dl : dd.toNat < re.length := by omega
        refine ⟨_, sgD re[dd.toNat], rfl, d0, by omega, ?_, ?_⟩
        · rw [List.getElem?_map, List.getElem?_eq_getElem dl]
          rfl
        · refine ⟨_, rfl, by rw [List.length_map]; omega, ⟨_, rfl⟩, fo ++ [re[dd.toNat]], re.eraseIdx dd.toNat, ?_, by rw [List.length_append, lf]; rfl, ?_⟩
          · rw [List.map_append, ← erase_map]
            rfl
          · rw [List.append_assoc]
            refine (List.Perm.append_left fo (erase_perm (List.getElem?_eq_getElem dl))).trans pm
    · obtain ⟨⟨x, rfl⟩, fo, re, rfl, lf, pm⟩ := hI
      rw [intsFrom_len] at lf
      have nd : (fo ++ re).Nodup := pm.nodup_iff.mpr al_nodup
      exact ⟨_, rfl, k fo lf (List.nodup_append.mp nd).1 fun c hc => pm.mem_iff.mp (List.mem_append_left _ hc)⟩
end
end Tw
/-! The law k07: the defs that raise. -/
namespace Tw
open PySem PySem.Spec PyProof.Rows L2 Tl
/-- the six classes without a field -/
def plains : List Str := ["BadSigns", "BadText", "BadKind", "NoReading", "TooMany", "TooLarge"]
/-- the twelve with one -/
def fields : List (Str × Str) := [("BadItem", "at"), ("BadForm", "at"), ("BadName", "name"), ("Unknown", "name"), ("Missing", "name"), ("BadValue", "name"), ("NotSingle", "text"), ("NotWithin", "text"), ("NoForm", "name"), ("BadNumber", "number"), ("TooWide", "line"), ("BadShort", "name")]
/-- the error of a number -/
def errOf (i : Nat) (d : D) : Er := match plains[i]? with
  | some c => .plain c
  | none => match fields[i - 6]? with
    | some q => .fld q.1 q.2 d
    | none => .plain "TooLarge"
def fsRaiseP : FS := fun os R _ Ψ => ∃ i : Nat, os = [.val (.int i)] ∧ i < 6 ∧ Ψ (errOf i .non) R
theorem mono_raiseP : Mono fsRaiseP := fun os R Φ Φ' Ψ Ψ' _ h z => by
  obtain ⟨i, e, l, z⟩ := z
  exact ⟨i, e, l, h _ _ z⟩
def fsRaise : FS := fun os R _ Ψ => ∃ (i : Nat) (d : D), os = [.val (.int i), .val d] ∧ i < 18 ∧ Ψ (errOf i d) R
theorem mono_raise : Mono fsRaise := fun os R Φ Φ' Ψ Ψ' _ h z => by
  obtain ⟨i, d, e, l, z⟩ := z
  exact ⟨i, d, e, l, h _ _ z⟩
section
variable {P : Program} {w : World} {K : PySem.W.Frag} {mg : Str → Option Value} {base : Heap} {f : Addr} {fd : FuncData}
theorem sc_raiseP : FnScope ["_law_which"] ["_law_which"] (defScope st_law_raise_plain) := ⟨rfl, rfl, rfl, by decide +kernel, rfl, by decide +kernel, by decide +kernel⟩
theorem ok_raiseP (E0 : ∀ c ∈ plains, ExK K mg c) (Fd : FnQ K "_law_raise_plain" "_law_raise_plain" st_law_raise_plain [] f fd) : FnOk P w K mg base (L2.CX P w) 1 f fd ["_law_which"] (spOf K fsRaiseP) := by
  have g : ∀ (i : Nat) (c : Str), plains[i]? = some c → ExK K mg c := fun i c h => E0 c (List.mem_of_getElem? h)
  refine fn_body (k := 0) Fd sc_raiseP (fun os R Φ Ψ h => ?_) (fun cdv A outer s H E hr tk => ⟨_, _,
    ss_cons (s_if (t_cmp o_eq (dv 0) d_int) (ss_one (s_raise0 rfl tk (g 0 _ rfl))) ss_nil)
    (ss_cons (s_if (t_cmp o_eq (dv 0) d_int) (ss_one (s_raise0 rfl tk (g 1 _ rfl))) ss_nil)
    (ss_cons (s_if (t_cmp o_eq (dv 0) d_int) (ss_one (s_raise0 rfl tk (g 2 _ rfl))) ss_nil)
    (ss_cons (s_if (t_cmp o_eq (dv 0) d_int) (ss_one (s_raise0 rfl tk (g 3 _ rfl))) ss_nil)
    (ss_cons (s_if (t_cmp o_eq (dv 0) d_int) (ss_one (s_raise0 rfl tk (g 4 _ rfl))) ss_nil)
    (ss_one (s_raise0 rfl tk (g 5 _ rfl))))))), fun os R Φ Ψ h => ?_⟩)
  · obtain ⟨i, rfl, _⟩ := h
    rfl
  · obtain ⟨i, rfl, l, ψ⟩ := h
    match i, l with
    | 0, _ => exact ⟨_, rfl, ψ⟩
    | 1, _ => exact ⟨_, rfl, _, rfl, ψ⟩
    | 2, _ => exact ⟨_, rfl, _, rfl, _, rfl, ψ⟩
    | 3, _ => exact ⟨_, rfl, _, rfl, _, rfl, _, rfl, ψ⟩
    | 4, _ => exact ⟨_, rfl, _, rfl, _, rfl, _, rfl, _, rfl, ψ⟩
    | 5, _ => exact ⟨_, rfl, _, rfl, _, rfl, _, rfl, _, rfl, ψ⟩
end
end Tw
/-! The law k07: _law_raise. -/
namespace Tw
open PySem PySem.Spec PyProof.Rows L2 Tl
section
variable {P : Program} {w : World} {K : PySem.W.Frag} {mg : Str → Option Value} {base : Heap} {f : Addr} {fd : FuncData}
theorem sc_raise : FnScope ["_law_which", "_law_value"] ["_law_which", "_law_value"] (defScope st_law_raise) := ⟨rfl, rfl, rfl, by decide +kernel, rfl, by decide +kernel, by decide +kernel⟩
theorem ok_raise (EF : ∀ q ∈ fields, ExF P K mg q.1 q.2) (fP : Fx P w K mg base 1 "_law_raise_plain" fsRaiseP []) (Fd : FnQ K "_law_raise" "_law_raise" st_law_raise [] f fd) : FnOk P w K mg base (L2.CX P w) 2 f fd ["_law_which", "_law_value"] (spOf K fsRaise) := by
  have g : ∀ (i : Nat) (q : Str × Str), fields[i]? = some q → ExF P K mg q.1 q.2 := fun i c h => EF c (List.mem_of_getElem? h)
  refine fn_body (k := 1) Fd sc_raise (fun os R Φ Ψ h => ?_) (fun cdv A outer s H E hr tk => ⟨_, _,
    ss_cons (s_if (t_cmp o_lt (dv 0) d_int) (ss_one (s_expr (d_call mono_raiseP fP hr (Nat.le_refl _) tk (a_cons (dv 0) a_nil)))) ss_nil)
    (ss_cons (s_if (t_cmp o_eq (dv 0) d_int) (ss_one (s_raiseF rfl tk (g 0 ("BadItem", "at") rfl) hr (a_cons (dv 1) a_nil))) ss_nil)
    (ss_cons (s_if (t_cmp o_eq (dv 0) d_int) (ss_one (s_raiseF rfl tk (g 1 ("BadForm", "at") rfl) hr (a_cons (dv 1) a_nil))) ss_nil)
    (ss_cons (s_if (t_cmp o_eq (dv 0) d_int) (ss_one (s_raiseF rfl tk (g 2 ("BadName", "name") rfl) hr (a_cons (dv 1) a_nil))) ss_nil)
    (ss_cons (s_if (t_cmp o_eq (dv 0) d_int) (ss_one (s_raiseF rfl tk (g 3 ("Unknown", "name") rfl) hr (a_cons (dv 1) a_nil))) ss_nil)
    (ss_cons (s_if (t_cmp o_eq (dv 0) d_int) (ss_one (s_raiseF rfl tk (g 4 ("Missing", "name") rfl) hr (a_cons (dv 1) a_nil))) ss_nil)
    (ss_cons (s_if (t_cmp o_eq (dv 0) d_int) (ss_one (s_raiseF rfl tk (g 5 ("BadValue", "name") rfl) hr (a_cons (dv 1) a_nil))) ss_nil)
    (ss_cons (s_if (t_cmp o_eq (dv 0) d_int) (ss_one (s_raiseF rfl tk (g 6 ("NotSingle", "text") rfl) hr (a_cons (dv 1) a_nil))) ss_nil)
    (ss_cons (s_if (t_cmp o_eq (dv 0) d_int) (ss_one (s_raiseF rfl tk (g 7 ("NotWithin", "text") rfl) hr (a_cons (dv 1) a_nil))) ss_nil)
    (ss_cons (s_if (t_cmp o_eq (dv 0) d_int) (ss_one (s_raiseF rfl tk (g 8 ("NoForm", "name") rfl) hr (a_cons (dv 1) a_nil))) ss_nil)
    (ss_cons (s_if (t_cmp o_eq (dv 0) d_int) (ss_one (s_raiseF rfl tk (g 9 ("BadNumber", "number") rfl) hr (a_cons (dv 1) a_nil))) ss_nil)
    (ss_cons (s_if (t_cmp o_eq (dv 0) d_int) (ss_one (s_raiseF rfl tk (g 10 ("TooWide", "line") rfl) hr (a_cons (dv 1) a_nil))) ss_nil)
    (ss_one (s_raiseF rfl tk (g 11 ("BadShort", "name") rfl) hr (a_cons (dv 1) a_nil)))))))))))))), fun os R Φ Ψ h => ?_⟩)
  · obtain ⟨i, d, rfl, _⟩ := h
    rfl
  · obtain ⟨i, d, rfl, l, ψ⟩ := h
    match i, l with
    | 0, _ => exact ⟨trivial, 0, rfl, by decide, ψ⟩
    | 1, _ => exact ⟨trivial, 1, rfl, by decide, ψ⟩
    | 2, _ => exact ⟨trivial, 2, rfl, by decide, ψ⟩
    | 3, _ => exact ⟨trivial, 3, rfl, by decide, ψ⟩
    | 4, _ => exact ⟨trivial, 4, rfl, by decide, ψ⟩
    | 5, _ => exact ⟨trivial, 5, rfl, by decide, ψ⟩
    | 6, _ => exact ⟨trivial, _, rfl, ψ⟩
    | 7, _ => exact ⟨trivial, _, rfl, _, rfl, ψ⟩
    | 8, _ => exact ⟨trivial, _, rfl, _, rfl, _, rfl, ψ⟩
    | 9, _ => exact ⟨trivial, _, rfl, _, rfl, _, rfl, _, rfl, ψ⟩
    | 10, _ => exact ⟨trivial, _, rfl, _, rfl, _, rfl, _, rfl, _, rfl, ψ⟩
    | 11, _ => exact ⟨trivial, _, rfl, _, rfl, _, rfl, _, rfl, _, rfl, _, rfl, ψ⟩
    | 12, _ => exact ⟨trivial, _, rfl, _, rfl, _, rfl, _, rfl, _, rfl, _, rfl, _, rfl, ψ⟩
    | 13, _ => exact ⟨trivial, _, rfl, _, rfl, _, rfl, _, rfl, _, rfl, _, rfl, _, rfl, _, rfl, ψ⟩
    | 14, _ => exact ⟨trivial, _, rfl, _, rfl, _, rfl, _, rfl, _, rfl, _, rfl, _, rfl, _, rfl, _, rfl, ψ⟩
    | 15, _ => exact ⟨trivial, _, rfl, _, rfl, _, rfl, _, rfl, _, rfl, _, rfl, _, rfl, _, rfl, _, rfl, _, rfl, ψ⟩
    | 16, _ => exact ⟨trivial, _, rfl, _, rfl, _, rfl, _, rfl, _, rfl, _, rfl, _, rfl, _, rfl, _, rfl, _, rfl, _, rfl, ψ⟩
    | 17, _ => exact ⟨trivial, _, rfl, _, rfl, _, rfl, _, rfl, _, rfl, _, rfl, _, rfl, _, rfl, _, rfl, _, rfl, _, rfl, ψ⟩
    | n + 18, l => exact absurd l (by omega)
end
end Tw
/-! The law k07: _law_classes. -/
namespace Tw
open PySem PySem.Spec PyProof.Rows L2 Tl L2H
def names : List Str := ["BadSigns", "BadText", "BadKind", "NoReading", "TooMany", "TooLarge", "BadItem", "BadForm", "BadName", "Unknown", "Missing", "BadValue", "NotSingle", "NotWithin", "NoForm", "BadNumber", "TooWide", "BadShort"]
structure ErEnv (K : PySem.W.Frag) (mg : Str → Option Value) : Prop where
  C : ∀ y ∈ names, ExcC K (He.ga K y)
  gl : ∀ y ∈ names, mg y = some (.ref (He.ga K y))
  kit : ∀ y ∈ names, ∀ c ∈ names, PySem.W.kitOne K (.ref (He.ga K y)) (.ref (He.ga K c)) = some (decide (y = c))
  ve : ∀ y ∈ names, PySem.W.kitOne K (.ref (He.ga K y)) (.type "ValueError") = some true
  mi : mg "isinstance" = none
  mv : mg "ValueError" = none
def fsClasses (y : Str) (a : Addr) (d : Option Addr) : FS := fun os R Φ _ => os = [.adr a] ∧ hasRx d R ∧ Φ (.val (.lst (names.map fun c => .bl (decide (y = c))))) R
theorem mono_classes (y : Str) (a : Addr) (d : Option Addr) : Mono (fsClasses y a d) := fun os R Φ Φ' Ψ Ψ' h _ z => ⟨z.1, z.2.1, h _ _ z.2.2⟩
theorem hasRx_cons {d : Option Addr} {r : Res} {R : List Res} (h : hasRx d R) : hasRx d (r :: R) := by
  cases d with
  | none => trivial
  | some dd =>
    obtain ⟨f, x, m⟩ := h
    exact ⟨f, x, List.mem_cons_of_mem _ m⟩
section
variable {P : Program} {w : World} {K : PySem.W.Frag} {mg : Str → Option Value} {base : Heap} {f : Addr} {fd : FuncData}
theorem sc_classes : FnScope ["_law_e", "_law_first", "_law_second", "_law_third", "_law_fourth"] ["_law_e"] (defScope st_law_classes) := ⟨rfl, rfl, rfl, by decide +kernel, rfl, by decide +kernel, by decide +kernel⟩
theorem ok_classes (V : ErEnv K mg) {y : Str} (my : y ∈ names) (Fd : FnQ K "_law_classes" "_law_classes" st_law_classes [] f fd) : FnP P w K mg base 1 f fd ["_law_e"] y (fsClasses y) := by
  have gm : ∀ (i : Nat) (c : Str), names[i]? = some c → c ∈ names := fun i c h => List.mem_of_getElem? h
  refine fn_bodyP (k := 0) Fd sc_classes (fun a d os R Φ Ψ h => ?_) (fun cdv A outer s H E p d hz hf hr => ⟨_, _,
    ss_cons (s_set (i := 1) sc_classes.nd (d_lst (a_cons (d_callB (c_isXp (c := .glo "BadSigns") (a := p.1) (oe := p.2) List.mem_cons_self (V.C y my) rfl hz hf rfl (V.kit y my "BadSigns" (gm 0 "BadSigns" rfl))) V.mi boot_isinstance (a_cons (dv 0) (a_cons (d_gr (V.gl "BadSigns" (gm 0 "BadSigns" rfl))) a_nil))) (a_cons (d_callB (c_isXp (c := .glo "BadText") (a := p.1) (oe := p.2) List.mem_cons_self (V.C y my) rfl hz hf rfl (V.kit y my "BadText" (gm 1 "BadText" rfl))) V.mi boot_isinstance (a_cons (dv 0) (a_cons (d_gr (V.gl "BadText" (gm 1 "BadText" rfl))) a_nil))) (a_cons (d_callB (c_isXp (c := .glo "BadKind") (a := p.1) (oe := p.2) List.mem_cons_self (V.C y my) rfl hz hf rfl (V.kit y my "BadKind" (gm 2 "BadKind" rfl))) V.mi boot_isinstance (a_cons (dv 0) (a_cons (d_gr (V.gl "BadKind" (gm 2 "BadKind" rfl))) a_nil))) (a_cons (d_callB (c_isXp (c := .glo "NoReading") (a := p.1) (oe := p.2) List.mem_cons_self (V.C y my) rfl hz hf rfl (V.kit y my "NoReading" (gm 3 "NoReading" rfl))) V.mi boot_isinstance (a_cons (dv 0) (a_cons (d_gr (V.gl "NoReading" (gm 3 "NoReading" rfl))) a_nil))) a_nil)))))) (
    ss_cons (s_set (i := 2) sc_classes.nd (d_lst (a_cons (d_callB (c_isXp (c := .glo "TooMany") (a := p.1) (oe := p.2) List.mem_cons_self (V.C y my) rfl hz hf rfl (V.kit y my "TooMany" (gm 4 "TooMany" rfl))) V.mi boot_isinstance (a_cons (dv 0) (a_cons (d_gr (V.gl "TooMany" (gm 4 "TooMany" rfl))) a_nil))) (a_cons (d_callB (c_isXp (c := .glo "TooLarge") (a := p.1) (oe := p.2) List.mem_cons_self (V.C y my) rfl hz hf rfl (V.kit y my "TooLarge" (gm 5 "TooLarge" rfl))) V.mi boot_isinstance (a_cons (dv 0) (a_cons (d_gr (V.gl "TooLarge" (gm 5 "TooLarge" rfl))) a_nil))) (a_cons (d_callB (c_isXp (c := .glo "BadItem") (a := p.1) (oe := p.2) List.mem_cons_self (V.C y my) rfl hz hf rfl (V.kit y my "BadItem" (gm 6 "BadItem" rfl))) V.mi boot_isinstance (a_cons (dv 0) (a_cons (d_gr (V.gl "BadItem" (gm 6 "BadItem" rfl))) a_nil))) (a_cons (d_callB (c_isXp (c := .glo "BadForm") (a := p.1) (oe := p.2) List.mem_cons_self (V.C y my) rfl hz hf rfl (V.kit y my "BadForm" (gm 7 "BadForm" rfl))) V.mi boot_isinstance (a_cons (dv 0) (a_cons (d_gr (V.gl "BadForm" (gm 7 "BadForm" rfl))) a_nil))) a_nil)))))) (
    ss_cons (s_set (i := 3) sc_classes.nd (d_lst (a_cons (d_callB (c_isXp (c := .glo "BadName") (a := p.1) (oe := p.2) List.mem_cons_self (V.C y my) rfl hz hf rfl (V.kit y my "BadName" (gm 8 "BadName" rfl))) V.mi boot_isinstance (a_cons (dv 0) (a_cons (d_gr (V.gl "BadName" (gm 8 "BadName" rfl))) a_nil))) (a_cons (d_callB (c_isXp (c := .glo "Unknown") (a := p.1) (oe := p.2) List.mem_cons_self (V.C y my) rfl hz hf rfl (V.kit y my "Unknown" (gm 9 "Unknown" rfl))) V.mi boot_isinstance (a_cons (dv 0) (a_cons (d_gr (V.gl "Unknown" (gm 9 "Unknown" rfl))) a_nil))) (a_cons (d_callB (c_isXp (c := .glo "Missing") (a := p.1) (oe := p.2) List.mem_cons_self (V.C y my) rfl hz hf rfl (V.kit y my "Missing" (gm 10 "Missing" rfl))) V.mi boot_isinstance (a_cons (dv 0) (a_cons (d_gr (V.gl "Missing" (gm 10 "Missing" rfl))) a_nil))) (a_cons (d_callB (c_isXp (c := .glo "BadValue") (a := p.1) (oe := p.2) List.mem_cons_self (V.C y my) rfl hz hf rfl (V.kit y my "BadValue" (gm 11 "BadValue" rfl))) V.mi boot_isinstance (a_cons (dv 0) (a_cons (d_gr (V.gl "BadValue" (gm 11 "BadValue" rfl))) a_nil))) a_nil)))))) (
    ss_cons (s_set (i := 4) sc_classes.nd (d_lst (a_cons (d_callB (c_isXp (c := .glo "NotSingle") (a := p.1) (oe := p.2) List.mem_cons_self (V.C y my) rfl hz hf rfl (V.kit y my "NotSingle" (gm 12 "NotSingle" rfl))) V.mi boot_isinstance (a_cons (dv 0) (a_cons (d_gr (V.gl "NotSingle" (gm 12 "NotSingle" rfl))) a_nil))) (a_cons (d_callB (c_isXp (c := .glo "NotWithin") (a := p.1) (oe := p.2) List.mem_cons_self (V.C y my) rfl hz hf rfl (V.kit y my "NotWithin" (gm 13 "NotWithin" rfl))) V.mi boot_isinstance (a_cons (dv 0) (a_cons (d_gr (V.gl "NotWithin" (gm 13 "NotWithin" rfl))) a_nil))) (a_cons (d_callB (c_isXp (c := .glo "NoForm") (a := p.1) (oe := p.2) List.mem_cons_self (V.C y my) rfl hz hf rfl (V.kit y my "NoForm" (gm 14 "NoForm" rfl))) V.mi boot_isinstance (a_cons (dv 0) (a_cons (d_gr (V.gl "NoForm" (gm 14 "NoForm" rfl))) a_nil))) (a_cons (d_callB (c_isXp (c := .glo "BadNumber") (a := p.1) (oe := p.2) List.mem_cons_self (V.C y my) rfl hz hf rfl (V.kit y my "BadNumber" (gm 15 "BadNumber" rfl))) V.mi boot_isinstance (a_cons (dv 0) (a_cons (d_gr (V.gl "BadNumber" (gm 15 "BadNumber" rfl))) a_nil))) a_nil)))))) (
    ss_one (s_ret (de_drop 0 (de_drop 0 (de_drop 0 (de_drop 0 (de_drop 0 (de_drop 0 (de_drop 0 (de_drop 0 (de_set 0 (d_op o_cat (d_op o_cat (d_op o_cat (d_op o_cat (dv 1) (dv 2)) (dv 3)) (dv 4)) (d_lst (a_cons (d_callB (c_isXp (c := .glo "TooWide") (a := p.1) (oe := p.2) List.mem_cons_self (V.C y my) rfl hz hf rfl (V.kit y my "TooWide" (gm 16 "TooWide" rfl))) V.mi boot_isinstance (a_cons (dv 0) (a_cons (d_gr (V.gl "TooWide" (gm 16 "TooWide" rfl))) a_nil))) (a_cons (d_callB (c_isXp (c := .glo "BadShort") (a := p.1) (oe := p.2) List.mem_cons_self (V.C y my) rfl hz hf rfl (V.kit y my "BadShort" (gm 17 "BadShort" rfl))) V.mi boot_isinstance (a_cons (dv 0) (a_cons (d_gr (V.gl "BadShort" (gm 17 "BadShort" rfl))) a_nil))) a_nil)))))))))))))))))), fun os R Φ Ψ h => ?_⟩)
  · obtain ⟨rfl, _⟩ := h
    rfl
  · obtain ⟨rfl, hx, φ⟩ := h
    have z4 : 4 ≤ sizeLine := by decide
    refine ⟨rfl, rfl, hx, rfl, rfl, hx, rfl, rfl, hx, rfl, rfl, hx, _, rfl, z4, fun p1 => ?_⟩
    have h1 := hasRx_cons (r := .lst p1 [.bl (decide (y = "BadSigns")), .bl (decide (y = "BadText")), .bl (decide (y = "BadKind")), .bl (decide (y = "NoReading"))]) hx
    refine ⟨rfl, rfl, h1, rfl, rfl, h1, rfl, rfl, h1, rfl, rfl, h1, _, rfl, z4, fun p2 => ?_⟩
    have h2 := hasRx_cons (r := .lst p2 [.bl (decide (y = "TooMany")), .bl (decide (y = "TooLarge")), .bl (decide (y = "BadItem")), .bl (decide (y = "BadForm"))]) h1
    refine ⟨rfl, rfl, h2, rfl, rfl, h2, rfl, rfl, h2, rfl, rfl, h2, _, rfl, z4, fun p3 => ?_⟩
    have h3 := hasRx_cons (r := .lst p3 [.bl (decide (y = "BadName")), .bl (decide (y = "Unknown")), .bl (decide (y = "Missing")), .bl (decide (y = "BadValue"))]) h2
    refine ⟨rfl, rfl, h3, rfl, rfl, h3, rfl, rfl, h3, rfl, rfl, h3, _, rfl, z4, fun p4 => ?_⟩
    have h4 := hasRx_cons (r := .lst p4 [.bl (decide (y = "NotSingle")), .bl (decide (y = "NotWithin")), .bl (decide (y = "NoForm")), .bl (decide (y = "BadNumber"))]) h3
    refine ⟨_, _, List.mem_cons_of_mem _ (List.mem_cons_of_mem _ (List.mem_cons_of_mem _ List.mem_cons_self)), List.mem_cons_of_mem _ (List.mem_cons_of_mem _ List.mem_cons_self), (by show 8 ≤ sizeLine; decide), fun p5 => ?_⟩
    refine ⟨_, _, List.mem_cons_self, List.mem_cons_of_mem _ (List.mem_cons_of_mem _ List.mem_cons_self), (by show 12 ≤ sizeLine; decide), fun p6 => ?_⟩
    refine ⟨_, _, List.mem_cons_self, List.mem_cons_of_mem _ (List.mem_cons_of_mem _ List.mem_cons_self), (by show 16 ≤ sizeLine; decide), fun p7 => ?_⟩
    refine ⟨rfl, rfl, hasRx_cons (hasRx_cons (hasRx_cons h4)), rfl, rfl, hasRx_cons (hasRx_cons (hasRx_cons h4)), _, rfl, (by show 2 ≤ sizeLine; decide), fun p8 => ?_⟩
    refine ⟨_, _, List.mem_cons_of_mem _ List.mem_cons_self, List.mem_cons_self, (by show 18 ≤ sizeLine; decide), fun p9 => ?_⟩
    exact ⟨_, rfl, φ⟩
end
end Tw
/-! The law k07: the defs that catch. -/
namespace Tl
open PySem PySem.Spec PyProof.Rows L2
theorem tk_suite {X : Cx} {a : Addr} {pn : List (Addr × Obj)} : Tk (X.suite a pn) W0 := ⟨fun u s' z => by
  obtain ⟨_, _, _, _, _, _, _, _, _, _, _, _, _, _, _, _, q⟩ := z
  exact False.elim q, PassesOwn.never⟩
/-- the error's dict, if it has one, is let go behind e -/
def wDropE (d : Option Addr) (w : WE) : WE := match d with
  | none => w
  | some _ => wDropR 0 w
theorem de_dropE {X : Cx} {W : WX} {e : Expr} {te : TE} {we : WE} (d : Option Addr) (h : DE X W e te we) : DE X W e te (wDropE d we) := by
  cases d with
  | none => exact h
  | some dd => exact de_drop 0 h
end Tl
namespace Tw
open PySem PySem.Spec PyProof.Rows L2 Tl L2H
/-- except TownError takes all of them -/
def emTown : Str → Option Bool := fun y => if y ∈ names then some true else none
theorem emTown_mem {y : Str} (h : emTown y = some true) : y ∈ names := by
  unfold emTown at h
  by_cases m : y ∈ names
  · exact m
  · rw [if_neg m] at h; cases h
def fsBase : FS := fun os R Φ _ => ∃ (i : Nat) (d : D), os = [.val (.int i), .val d] ∧ i < 18 ∧ Φ (.val (.lst (names.map fun c => .bl (decide ((errOf i d).c = c))))) R
theorem mono_base : Mono fsBase := fun os R Φ Φ' Ψ Ψ' h _ z => by
  obtain ⟨i, d, e, l, z⟩ := z
  exact ⟨i, d, e, l, h _ _ z⟩
theorem errOf_mem (d : D) : ∀ i : Nat, i < 18 → (errOf i d).c ∈ names
  | 0, _ => by show _ ∈ _; exact List.mem_of_getElem? (i := 0) rfl
  | 1, _ => by show _ ∈ _; exact List.mem_of_getElem? (i := 1) rfl
  | 2, _ => by show _ ∈ _; exact List.mem_of_getElem? (i := 2) rfl
  | 3, _ => by show _ ∈ _; exact List.mem_of_getElem? (i := 3) rfl
  | 4, _ => by show _ ∈ _; exact List.mem_of_getElem? (i := 4) rfl
  | 5, _ => by show _ ∈ _; exact List.mem_of_getElem? (i := 5) rfl
  | 6, _ => by show _ ∈ _; exact List.mem_of_getElem? (i := 6) rfl
  | 7, _ => by show _ ∈ _; exact List.mem_of_getElem? (i := 7) rfl
  | 8, _ => by show _ ∈ _; exact List.mem_of_getElem? (i := 8) rfl
  | 9, _ => by show _ ∈ _; exact List.mem_of_getElem? (i := 9) rfl
  | 10, _ => by show _ ∈ _; exact List.mem_of_getElem? (i := 10) rfl
  | 11, _ => by show _ ∈ _; exact List.mem_of_getElem? (i := 11) rfl
  | 12, _ => by show _ ∈ _; exact List.mem_of_getElem? (i := 12) rfl
  | 13, _ => by show _ ∈ _; exact List.mem_of_getElem? (i := 13) rfl
  | 14, _ => by show _ ∈ _; exact List.mem_of_getElem? (i := 14) rfl
  | 15, _ => by show _ ∈ _; exact List.mem_of_getElem? (i := 15) rfl
  | 16, _ => by show _ ∈ _; exact List.mem_of_getElem? (i := 16) rfl
  | 17, _ => by show _ ∈ _; exact List.mem_of_getElem? (i := 17) rfl
  | n + 18, h => absurd h (by omega)
theorem emTown_of {y : Str} (h : y ∈ names) : emTown y = some true := by
  unfold emTown
  rw [if_pos h]
section
variable {P : Program} {w : World} {K : PySem.W.Frag} {mg : Str → Option Value} {base : Heap} {f : Addr} {fd : FuncData}
theorem sc_base : FnScope ["_law_which", "_law_value", "_law_e"] ["_law_which", "_law_value"] (defScope st_law_by_base) := ⟨rfl, rfl, rfl, by decide +kernel, rfl, by decide +kernel, by decide +kernel⟩
theorem ok_base (V : ErEnv K mg) (gT : mg "TownError" = some (.ref (He.ga K "TownError"))) (xT : ∀ y ∈ names, PySem.W.exmOne K (.ref (He.ga K y)) (.ref (He.ga K "TownError")) = some true) (fR : Fx P w K mg base 2 "_law_raise" fsRaise []) (fC : ∀ y ∈ names, FxP P w K mg base 1 "_law_classes" y (fsClasses y))
    (Fd : FnQ K "_law_by_base" "_law_by_base" st_law_by_base [] f fd) : FnOk P w K mg base (L2.CX P w) 3 f fd ["_law_which", "_law_value"] (spOf K fsBase) := by
  refine fn_body (k := 2) Fd sc_base (fun os R Φ Ψ h => ?_) (fun cdv A outer s H E hr tk => ⟨_, _,
    ss_cons (s_try rfl rfl sc_base.nd tk (fun V2 pn xe sk tk2 => ss_one (s_expr (b_call mono_raise fR hr (Nat.le_refl _) tk2 (a_cons (dv 0) (a_cons (dv 1) a_nil)))))
      (.as (em := emTown) (i := 2) ⟨rfl, rfl, .inl gT⟩ rfl rfl (fun y b h => by
        have m : y ∈ names := by
          unfold emTown at h
          by_cases m : y ∈ names
          · exact m
          · rw [if_neg m] at h; cases h
        unfold emTown at h
        rw [if_pos m] at h
        cases h
        exact xT y m)
        (fun er a oe cls d pn hm hc hz hf =>
          ss_cons (s_if (t_not (t_val (d_callB (c_isX (c := .ty "ValueError") (V.C er.c (emTown_mem hm)) (by cases er <;> exact hc.1) hz hf rfl (V.ve er.c (emTown_mem hm))) V.mi boot_isinstance (a_cons (dv 2) (a_cons (d_ty V.mv (by rfl)) a_nil))))) (ss_one (s_ret (d_lst a_nil))) ss_nil)
          (ss_one (s_ret (de_dropE d (d_callP (mono_classes er.c) (fC er.c (emTown_mem hm)) hr (by decide) (by cases er <;> exact hc.1) hz hf tk_suite (a_cons (dv 2) a_nil))))))
        .nil))
    (ss_one (s_ret (d_lst a_nil))), fun os R Φ Ψ h => ?_⟩)
  · obtain ⟨i, d, rfl, _⟩ := h
    rfl
  · obtain ⟨i, d, rfl, l, φ⟩ := h
    refine ⟨i, d, rfl, l, true, emTown_of (errOf_mem d i l), fun _ => ?_, fun z => nomatch z⟩
    generalize errOf i d = er at φ
    cases er with
    | plain c =>
      intro a
      exact ⟨rfl, rfl, trivial, rfl, trivial, φ⟩
    | fld c f x =>
      intro a dd
      exact ⟨rfl, rfl, ⟨f, x, List.mem_cons_self⟩, rfl, ⟨f, x, List.mem_cons_self⟩, φ⟩
end
end Tw
/-! The law k07: the defs that catch, each its own class. -/
namespace Tl
open PySem PySem.Spec PyProof.Rows L2
theorem d_xf2 {X : Cx} {W : WX} {a : Addr} {oe : Obj} {cls : Value} {d : Option Addr} {pn : List (Addr × Obj)} {e : Expr} {te : TE} {we : WE} {c f : Str} {pos : Pos} (T : XfC X.K (He.ga X.K c)) (no : PySem.W.findIn X.K (.ref (He.ga X.K c)) f = some none) (hc : cls = .ref (He.ga X.K c)) (hz : Zc cls d oe) (hf : ∃ vs, oe.data = .fields vs) (he : DE (X.suite a ((a, oe) :: pn)) W e te we) (hb : attributeBase e f X.env (eval e X.env) = eval e X.env := by rfl) :
    DE (X.suite a ((a, oe) :: pn)) W (.Attribute e f pos) (tXf a (.ref (He.ga X.K c)) d (He.ga X.K c) f te) (wXf a d f we) := by
  subst hc
  exact d_xf T no rfl hz hf he hb
end Tl
namespace Tw
open PySem PySem.Spec PyProof.Rows L2 Tl L2H
def emOne (c : Str) : Str → Option Bool := fun y => if y ∈ names then some (decide (y = c)) else none
theorem emOne_eq {c y : Str} (h : emOne c y = some true) : y = c := by
  unfold emOne at h
  by_cases m : y ∈ names
  · rw [if_pos m] at h
    exact of_decide_eq_true (Option.some.inj h)
  · rw [if_neg m] at h; cases h
structure ErEnv2 (K : PySem.W.Frag) : Prop where
  exm : ∀ y ∈ names, ∀ c ∈ names, PySem.W.exmOne K (.ref (He.ga K y)) (.ref (He.ga K c)) = some (decide (y = c))
  xf : ∀ y ∈ names, XfC K (He.ga K y)
  no : ∀ c f, (c, f) ∈ fields → PySem.W.findIn K (.ref (He.ga K c)) f = some none
theorem em_ok {K : PySem.W.Frag} (V2 : ErEnv2 K) {c : Str} (m : c ∈ names) : ∀ y b, emOne c y = some b → PySem.W.exmOne K (.ref (He.ga K y)) (.ref (He.ga K c)) = some b := fun y b h => by
  unfold emOne at h
  by_cases my : y ∈ names
  · rw [if_pos my] at h
    rw [V2.exm y my c m]
    exact h
  · rw [if_neg my] at h; cases h
theorem cls_of {K : PySem.W.Frag} {c : Str} {er : Er} {cls : Value} {d : Option Addr} (hm : emOne c er.c = some true) (hc : ErCls K cls d er) : cls = .ref (He.ga K c) := by
  rw [← emOne_eq hm]
  cases er <;> exact hc.1
def fsNumberOf : FS := fun os R Φ _ => ∃ (i : Nat) (d : D), os = [.val (.int i), .val d] ∧ i ∈ ([6, 7, 12, 13, 15, 16] : List Nat) ∧ Φ (.val (.tup [.int i, d])) R
theorem mono_numberOf : Mono fsNumberOf := fun os R Φ Φ' Ψ Ψ' h _ z => by
  obtain ⟨i, d, e, l, z⟩ := z
  exact ⟨i, d, e, l, h _ _ z⟩
section
variable {P : Program} {w : World} {K : PySem.W.Frag} {mg : Str → Option Value} {base : Heap} {f : Addr} {fd : FuncData}
theorem sc_numberOf : FnScope ["_law_which", "_law_value", "_law_e"] ["_law_which", "_law_value"] (defScope st_law_number_of) := ⟨rfl, rfl, rfl, by decide +kernel, rfl, by decide +kernel, by decide +kernel⟩
theorem ok_numberOf (V : ErEnv K mg) (V2 : ErEnv2 K) (fR : Fx P w K mg base 2 "_law_raise" fsRaise []) (Fd : FnQ K "_law_number_of" "_law_number_of" st_law_number_of [] f fd) : FnOk P w K mg base (L2.CX P w) 3 f fd ["_law_which", "_law_value"] (spOf K fsNumberOf) := by
  have gm : ∀ (i : Nat) (c : Str), names[i]? = some c → c ∈ names := fun i c h => List.mem_of_getElem? h
  refine fn_body (k := 2) Fd sc_numberOf (fun os R Φ Ψ h => ?_) (fun cdv A outer s H E hr tk => ⟨_, _,
    ss_cons (s_try rfl rfl sc_numberOf.nd tk (fun _ pn xe sk tk2 => ss_one (s_expr (b_call mono_raise fR hr (Nat.le_refl _) tk2 (a_cons (dv 0) (a_cons (dv 1) a_nil)))))
      (.as (em := emOne "BadItem") (i := 2) ⟨rfl, rfl, .inl (V.gl "BadItem" (gm 6 "BadItem" rfl))⟩ rfl rfl (em_ok V2 (gm 6 "BadItem" rfl)) (fun er a oe cls d pn hm hc hz hf => ss_one (s_ret (de_dropE d (d_tup (a_cons d_int (a_cons (d_xf2 (c := "BadItem") (f := "at") (V2.xf "BadItem" (gm 6 "BadItem" rfl)) (V2.no "BadItem" "at" (List.mem_of_getElem? (i := 0) rfl)) (cls_of hm hc) hz hf (dv 2)) a_nil)))))) 
        (.as (em := emOne "BadForm") (i := 2) ⟨rfl, rfl, .inl (V.gl "BadForm" (gm 7 "BadForm" rfl))⟩ rfl rfl (em_ok V2 (gm 7 "BadForm" rfl)) (fun er a oe cls d pn hm hc hz hf => ss_one (s_ret (de_dropE d (d_tup (a_cons d_int (a_cons (d_xf2 (c := "BadForm") (f := "at") (V2.xf "BadForm" (gm 7 "BadForm" rfl)) (V2.no "BadForm" "at" (List.mem_of_getElem? (i := 1) rfl)) (cls_of hm hc) hz hf (dv 2)) a_nil)))))) 
        (.as (em := emOne "NotSingle") (i := 2) ⟨rfl, rfl, .inl (V.gl "NotSingle" (gm 12 "NotSingle" rfl))⟩ rfl rfl (em_ok V2 (gm 12 "NotSingle" rfl)) (fun er a oe cls d pn hm hc hz hf => ss_one (s_ret (de_dropE d (d_tup (a_cons d_int (a_cons (d_xf2 (c := "NotSingle") (f := "text") (V2.xf "NotSingle" (gm 12 "NotSingle" rfl)) (V2.no "NotSingle" "text" (List.mem_of_getElem? (i := 6) rfl)) (cls_of hm hc) hz hf (dv 2)) a_nil)))))) 
        (.as (em := emOne "NotWithin") (i := 2) ⟨rfl, rfl, .inl (V.gl "NotWithin" (gm 13 "NotWithin" rfl))⟩ rfl rfl (em_ok V2 (gm 13 "NotWithin" rfl)) (fun er a oe cls d pn hm hc hz hf => ss_one (s_ret (de_dropE d (d_tup (a_cons d_int (a_cons (d_xf2 (c := "NotWithin") (f := "text") (V2.xf "NotWithin" (gm 13 "NotWithin" rfl)) (V2.no "NotWithin" "text" (List.mem_of_getElem? (i := 7) rfl)) (cls_of hm hc) hz hf (dv 2)) a_nil)))))) 
        (.as (em := emOne "BadNumber") (i := 2) ⟨rfl, rfl, .inl (V.gl "BadNumber" (gm 15 "BadNumber" rfl))⟩ rfl rfl (em_ok V2 (gm 15 "BadNumber" rfl)) (fun er a oe cls d pn hm hc hz hf => ss_one (s_ret (de_dropE d (d_tup (a_cons d_int (a_cons (d_xf2 (c := "BadNumber") (f := "number") (V2.xf "BadNumber" (gm 15 "BadNumber" rfl)) (V2.no "BadNumber" "number" (List.mem_of_getElem? (i := 9) rfl)) (cls_of hm hc) hz hf (dv 2)) a_nil)))))) 
        (.as (em := emOne "TooWide") (i := 2) ⟨rfl, rfl, .inl (V.gl "TooWide" (gm 16 "TooWide" rfl))⟩ rfl rfl (em_ok V2 (gm 16 "TooWide" rfl)) (fun er a oe cls d pn hm hc hz hf => ss_one (s_ret (de_dropE d (d_tup (a_cons d_int (a_cons (d_xf2 (c := "TooWide") (f := "line") (V2.xf "TooWide" (gm 16 "TooWide" rfl)) (V2.no "TooWide" "line" (List.mem_of_getElem? (i := 10) rfl)) (cls_of hm hc) hz hf (dv 2)) a_nil)))))) 
        .nil)))))))
    (ss_one (s_ret (d_tup (a_cons d_int (a_cons d_non a_nil))))), fun os R Φ Ψ h => ?_⟩)
  · obtain ⟨i, d, rfl, _⟩ := h
    rfl
  · obtain ⟨i, d, rfl, m, φ⟩ := h
    simp only [List.mem_cons, List.not_mem_nil, or_false] at m
    rcases m with rfl | rfl | rfl | rfl | rfl | rfl
    · exact ⟨6, d, rfl, by decide, true, (by show emOne "BadItem" "BadItem" = some true; decide +kernel), fun _ => fun a dd => ⟨rfl, dd, d, rfl, List.mem_cons_self, _, rfl, by show 2 ≤ sizeLine; decide, φ⟩, fun z => nomatch z⟩
    · exact ⟨7, d, rfl, by decide, false, (by show emOne "BadItem" "BadForm" = some false; decide +kernel), (fun z => nomatch z), fun _ => ⟨true, (by show emOne "BadForm" "BadForm" = some true; decide +kernel), fun _ => fun a dd => ⟨rfl, dd, d, rfl, List.mem_cons_self, _, rfl, by show 2 ≤ sizeLine; decide, φ⟩, fun z => nomatch z⟩⟩
    · exact ⟨12, d, rfl, by decide, false, (by show emOne "BadItem" "NotSingle" = some false; decide +kernel), (fun z => nomatch z), fun _ => ⟨false, (by show emOne "BadForm" "NotSingle" = some false; decide +kernel), (fun z => nomatch z), fun _ => ⟨true, (by show emOne "NotSingle" "NotSingle" = some true; decide +kernel), fun _ => fun a dd => ⟨rfl, dd, d, rfl, List.mem_cons_self, _, rfl, by show 2 ≤ sizeLine; decide, φ⟩, fun z => nomatch z⟩⟩⟩
    · exact ⟨13, d, rfl, by decide, false, (by show emOne "BadItem" "NotWithin" = some false; decide +kernel), (fun z => nomatch z), fun _ => ⟨false, (by show emOne "BadForm" "NotWithin" = some false; decide +kernel), (fun z => nomatch z), fun _ => ⟨false, (by show emOne "NotSingle" "NotWithin" = some false; decide +kernel), (fun z => nomatch z), fun _ => ⟨true, (by show emOne "NotWithin" "NotWithin" = some true; decide +kernel), fun _ => fun a dd => ⟨rfl, dd, d, rfl, List.mem_cons_self, _, rfl, by show 2 ≤ sizeLine; decide, φ⟩, fun z => nomatch z⟩⟩⟩⟩
    · exact ⟨15, d, rfl, by decide, false, (by show emOne "BadItem" "BadNumber" = some false; decide +kernel), (fun z => nomatch z), fun _ => ⟨false, (by show emOne "BadForm" "BadNumber" = some false; decide +kernel), (fun z => nomatch z), fun _ => ⟨false, (by show emOne "NotSingle" "BadNumber" = some false; decide +kernel), (fun z => nomatch z), fun _ => ⟨false, (by show emOne "NotWithin" "BadNumber" = some false; decide +kernel), (fun z => nomatch z), fun _ => ⟨true, (by show emOne "BadNumber" "BadNumber" = some true; decide +kernel), fun _ => fun a dd => ⟨rfl, dd, d, rfl, List.mem_cons_self, _, rfl, by show 2 ≤ sizeLine; decide, φ⟩, fun z => nomatch z⟩⟩⟩⟩⟩
    · exact ⟨16, d, rfl, by decide, false, (by show emOne "BadItem" "TooWide" = some false; decide +kernel), (fun z => nomatch z), fun _ => ⟨false, (by show emOne "BadForm" "TooWide" = some false; decide +kernel), (fun z => nomatch z), fun _ => ⟨false, (by show emOne "NotSingle" "TooWide" = some false; decide +kernel), (fun z => nomatch z), fun _ => ⟨false, (by show emOne "NotWithin" "TooWide" = some false; decide +kernel), (fun z => nomatch z), fun _ => ⟨false, (by show emOne "BadNumber" "TooWide" = some false; decide +kernel), (fun z => nomatch z), fun _ => ⟨true, (by show emOne "TooWide" "TooWide" = some true; decide +kernel), fun _ => fun a dd => ⟨rfl, dd, d, rfl, List.mem_cons_self, _, rfl, by show 2 ≤ sizeLine; decide, φ⟩, fun z => nomatch z⟩⟩⟩⟩⟩⟩
end
def fsNameOf : FS := fun os R Φ _ => ∃ (i : Nat) (d : D), os = [.val (.int i), .val d] ∧ i ∈ ([8, 9, 10, 11, 14, 17] : List Nat) ∧ Φ (.val (.tup [.int i, d])) R
theorem mono_nameOf : Mono fsNameOf := fun os R Φ Φ' Ψ Ψ' h _ z => by
  obtain ⟨i, d, e, l, z⟩ := z
  exact ⟨i, d, e, l, h _ _ z⟩
section
variable {P : Program} {w : World} {K : PySem.W.Frag} {mg : Str → Option Value} {base : Heap} {f : Addr} {fd : FuncData}
theorem sc_nameOf : FnScope ["_law_which", "_law_value", "_law_e"] ["_law_which", "_law_value"] (defScope st_law_name_of) := ⟨rfl, rfl, rfl, by decide +kernel, rfl, by decide +kernel, by decide +kernel⟩
theorem ok_nameOf (V : ErEnv K mg) (V2 : ErEnv2 K) (fR : Fx P w K mg base 2 "_law_raise" fsRaise []) (Fd : FnQ K "_law_name_of" "_law_name_of" st_law_name_of [] f fd) : FnOk P w K mg base (L2.CX P w) 3 f fd ["_law_which", "_law_value"] (spOf K fsNameOf) := by
  have gm : ∀ (i : Nat) (c : Str), names[i]? = some c → c ∈ names := fun i c h => List.mem_of_getElem? h
  refine fn_body (k := 2) Fd sc_nameOf (fun os R Φ Ψ h => ?_) (fun cdv A outer s H E hr tk => ⟨_, _,
    ss_cons (s_try rfl rfl sc_nameOf.nd tk (fun _ pn xe sk tk2 => ss_one (s_expr (b_call mono_raise fR hr (Nat.le_refl _) tk2 (a_cons (dv 0) (a_cons (dv 1) a_nil)))))
      (.as (em := emOne "BadName") (i := 2) ⟨rfl, rfl, .inl (V.gl "BadName" (gm 8 "BadName" rfl))⟩ rfl rfl (em_ok V2 (gm 8 "BadName" rfl)) (fun er a oe cls d pn hm hc hz hf => ss_one (s_ret (de_dropE d (d_tup (a_cons d_int (a_cons (d_xf2 (c := "BadName") (f := "name") (V2.xf "BadName" (gm 8 "BadName" rfl)) (V2.no "BadName" "name" (List.mem_of_getElem? (i := 2) rfl)) (cls_of hm hc) hz hf (dv 2)) a_nil)))))) 
        (.as (em := emOne "Unknown") (i := 2) ⟨rfl, rfl, .inl (V.gl "Unknown" (gm 9 "Unknown" rfl))⟩ rfl rfl (em_ok V2 (gm 9 "Unknown" rfl)) (fun er a oe cls d pn hm hc hz hf => ss_one (s_ret (de_dropE d (d_tup (a_cons d_int (a_cons (d_xf2 (c := "Unknown") (f := "name") (V2.xf "Unknown" (gm 9 "Unknown" rfl)) (V2.no "Unknown" "name" (List.mem_of_getElem? (i := 3) rfl)) (cls_of hm hc) hz hf (dv 2)) a_nil)))))) 
        (.as (em := emOne "Missing") (i := 2) ⟨rfl, rfl, .inl (V.gl "Missing" (gm 10 "Missing" rfl))⟩ rfl rfl (em_ok V2 (gm 10 "Missing" rfl)) (fun er a oe cls d pn hm hc hz hf => ss_one (s_ret (de_dropE d (d_tup (a_cons d_int (a_cons (d_xf2 (c := "Missing") (f := "name") (V2.xf "Missing" (gm 10 "Missing" rfl)) (V2.no "Missing" "name" (List.mem_of_getElem? (i := 4) rfl)) (cls_of hm hc) hz hf (dv 2)) a_nil)))))) 
        (.as (em := emOne "BadValue") (i := 2) ⟨rfl, rfl, .inl (V.gl "BadValue" (gm 11 "BadValue" rfl))⟩ rfl rfl (em_ok V2 (gm 11 "BadValue" rfl)) (fun er a oe cls d pn hm hc hz hf => ss_one (s_ret (de_dropE d (d_tup (a_cons d_int (a_cons (d_xf2 (c := "BadValue") (f := "name") (V2.xf "BadValue" (gm 11 "BadValue" rfl)) (V2.no "BadValue" "name" (List.mem_of_getElem? (i := 5) rfl)) (cls_of hm hc) hz hf (dv 2)) a_nil)))))) 
        (.as (em := emOne "NoForm") (i := 2) ⟨rfl, rfl, .inl (V.gl "NoForm" (gm 14 "NoForm" rfl))⟩ rfl rfl (em_ok V2 (gm 14 "NoForm" rfl)) (fun er a oe cls d pn hm hc hz hf => ss_one (s_ret (de_dropE d (d_tup (a_cons d_int (a_cons (d_xf2 (c := "NoForm") (f := "name") (V2.xf "NoForm" (gm 14 "NoForm" rfl)) (V2.no "NoForm" "name" (List.mem_of_getElem? (i := 8) rfl)) (cls_of hm hc) hz hf (dv 2)) a_nil)))))) 
        (.as (em := emOne "BadShort") (i := 2) ⟨rfl, rfl, .inl (V.gl "BadShort" (gm 17 "BadShort" rfl))⟩ rfl rfl (em_ok V2 (gm 17 "BadShort" rfl)) (fun er a oe cls d pn hm hc hz hf => ss_one (s_ret (de_dropE d (d_tup (a_cons d_int (a_cons (d_xf2 (c := "BadShort") (f := "name") (V2.xf "BadShort" (gm 17 "BadShort" rfl)) (V2.no "BadShort" "name" (List.mem_of_getElem? (i := 11) rfl)) (cls_of hm hc) hz hf (dv 2)) a_nil)))))) 
        .nil)))))))
    (ss_one (s_ret (d_tup (a_cons d_int (a_cons d_non a_nil))))), fun os R Φ Ψ h => ?_⟩)
  · obtain ⟨i, d, rfl, _⟩ := h
    rfl
  · obtain ⟨i, d, rfl, m, φ⟩ := h
    simp only [List.mem_cons, List.not_mem_nil, or_false] at m
    rcases m with rfl | rfl | rfl | rfl | rfl | rfl
    · exact ⟨8, d, rfl, by decide, true, (by show emOne "BadName" "BadName" = some true; decide +kernel), fun _ => fun a dd => ⟨rfl, dd, d, rfl, List.mem_cons_self, _, rfl, by show 2 ≤ sizeLine; decide, φ⟩, fun z => nomatch z⟩
    · exact ⟨9, d, rfl, by decide, false, (by show emOne "BadName" "Unknown" = some false; decide +kernel), (fun z => nomatch z), fun _ => ⟨true, (by show emOne "Unknown" "Unknown" = some true; decide +kernel), fun _ => fun a dd => ⟨rfl, dd, d, rfl, List.mem_cons_self, _, rfl, by show 2 ≤ sizeLine; decide, φ⟩, fun z => nomatch z⟩⟩
    · exact ⟨10, d, rfl, by decide, false, (by show emOne "BadName" "Missing" = some false; decide +kernel), (fun z => nomatch z), fun _ => ⟨false, (by show emOne "Unknown" "Missing" = some false; decide +kernel), (fun z => nomatch z), fun _ => ⟨true, (by show emOne "Missing" "Missing" = some true; decide +kernel), fun _ => fun a dd => ⟨rfl, dd, d, rfl, List.mem_cons_self, _, rfl, by show 2 ≤ sizeLine; decide, φ⟩, fun z => nomatch z⟩⟩⟩
    · exact ⟨11, d, rfl, by decide, false, (by show emOne "BadName" "BadValue" = some false; decide +kernel), (fun z => nomatch z), fun _ => ⟨false, (by show emOne "Unknown" "BadValue" = some false; decide +kernel), (fun z => nomatch z), fun _ => ⟨false, (by show emOne "Missing" "BadValue" = some false; decide +kernel), (fun z => nomatch z), fun _ => ⟨true, (by show emOne "BadValue" "BadValue" = some true; decide +kernel), fun _ => fun a dd => ⟨rfl, dd, d, rfl, List.mem_cons_self, _, rfl, by show 2 ≤ sizeLine; decide, φ⟩, fun z => nomatch z⟩⟩⟩⟩
    · exact ⟨14, d, rfl, by decide, false, (by show emOne "BadName" "NoForm" = some false; decide +kernel), (fun z => nomatch z), fun _ => ⟨false, (by show emOne "Unknown" "NoForm" = some false; decide +kernel), (fun z => nomatch z), fun _ => ⟨false, (by show emOne "Missing" "NoForm" = some false; decide +kernel), (fun z => nomatch z), fun _ => ⟨false, (by show emOne "BadValue" "NoForm" = some false; decide +kernel), (fun z => nomatch z), fun _ => ⟨true, (by show emOne "NoForm" "NoForm" = some true; decide +kernel), fun _ => fun a dd => ⟨rfl, dd, d, rfl, List.mem_cons_self, _, rfl, by show 2 ≤ sizeLine; decide, φ⟩, fun z => nomatch z⟩⟩⟩⟩⟩
    · exact ⟨17, d, rfl, by decide, false, (by show emOne "BadName" "BadShort" = some false; decide +kernel), (fun z => nomatch z), fun _ => ⟨false, (by show emOne "Unknown" "BadShort" = some false; decide +kernel), (fun z => nomatch z), fun _ => ⟨false, (by show emOne "Missing" "BadShort" = some false; decide +kernel), (fun z => nomatch z), fun _ => ⟨false, (by show emOne "BadValue" "BadShort" = some false; decide +kernel), (fun z => nomatch z), fun _ => ⟨false, (by show emOne "NoForm" "BadShort" = some false; decide +kernel), (fun z => nomatch z), fun _ => ⟨true, (by show emOne "BadShort" "BadShort" = some true; decide +kernel), fun _ => fun a dd => ⟨rfl, dd, d, rfl, List.mem_cons_self, _, rfl, by show 2 ≤ sizeLine; decide, φ⟩, fun z => nomatch z⟩⟩⟩⟩⟩⟩
end
end Tw
section
set_option maxHeartbeats 4000000
/-! The law k07: law. -/
namespace Tl
open PySem PySem.Spec PyProof.Rows L2
theorem o_pow {X : Cx} : DOp X (binaryOp .Pow) (rI CPow fun i j => .int (i ^ j.toNat)) (kI CPow fun i j => .int (i ^ j.toNat)) := dop_I op_pow fun _ _ _ => rep_int _
end Tl
namespace Tw
open PySem PySem.Spec PyProof.Rows L2 Tl L2H
theorem if_f {b : Bool} {p q : Prop} (h : b = false) (hq : q) : if b = true then p else q := by
  rw [h]; exact hq
section
variable {P : Program} {w : World} {K : PySem.W.Frag} {mg : Str → Option Value} {base : Heap} {f fB : Addr} {fd fdB : FuncData}
theorem sc_law : FnScope ["_law_script", "_law_bag_here", "_law_number", "_law_value", "_law_which", "_law_k"] ["_law_script"] (defScope st_law) := ⟨rfl, rfl, rfl, by decide +kernel, rfl, by decide +kernel, by decide +kernel⟩
theorem ok_law (mr : mg "range" = none) (FB : FnOk P w K mg base (L2.CX P w) 1 fB fdB ["_law_script"] (spBag K)) (gB : mg "_law_bag" = some (.ref fB)) (kB : PySem.W.keepIn K (.ref fB) = true) (bB : Binds K fdB ["_law_script"] [])
    (fD : Fx P w K mg base 1 "_law_draw" fsDraw []) (fL : Fx P w K mg base 2 "_law_letters" fsLetters []) (fBB : Fx P w K mg base 3 "_law_by_base" fsBase []) (fN : Fx P w K mg base 3 "_law_number_of" fsNumberOf []) (fM : Fx P w K mg base 3 "_law_name_of" fsNameOf [])
    (Fd : FnQ K "law" "law" st_law [] f fd) : FnOk P w K mg base (L2.CX P w) 6 f fd ["_law_script"] (spLaw K) := by
  refine fn_law (k := 5) (n := 4) Fd sc_law rfl rfl (fun cdv A outer s H E hr tk => ⟨ps_set (i := 1) sc_law.nd rfl (by first | exact .inl rfl | exact .inr rfl) (pe_callSD FB (hr.mono (by decide)) (by rfl) gB kB bB .nil (fun σ => passAt tk.takes σ) (pa_cons (pv 0) pa_nil)), _, _,
    ss_cons (s_set (i := 2) sc_law.nd (d_call mono_draw fD hr (by decide) tk (a_cons (dv 1) (a_cons (d_op o_pow d_int d_int) a_nil))))
    (ss_cons (s_set (i := 3) sc_law.nd (d_ix (de_set 0 (d_lst (a_cons (dv 2) (a_cons (d_join d_str (d_call mono_letters fL hr (by decide) tk (a_cons (dv 1) (a_cons (d_call mono_draw fD hr (by decide) tk (a_cons (dv 1) (a_cons d_int a_nil))) a_nil)))) (a_cons d_non (a_cons d_bl (a_cons (de_set 0 (d_lst (a_cons (dv 2) a_nil))) a_nil))))))) (d_call mono_draw fD hr (by decide) tk (a_cons (dv 1) (a_cons d_int a_nil)))))
    (ss_cons (s_for tk rfl (i_range1 mr (a_cons d_int a_nil)) (g_name (i := 4) sc_law.nd)
      (ss_one (s_if (t_cmp (o_neD hr) (d_call mono_base fBB hr (by decide) tk (a_cons (dv 4) (a_cons (dv 3) a_nil))) (de_set 0 (d_lc [("_law_k", 5)] rfl sc_law.nd gw_name (i_range1 mr (a_cons d_int a_nil)) (blk_of (by kernel_rfl)) (fun _ _ _ _ _ => g_name (i := 5) sc_law.nd) (fun _ _ _ _ _ => ts_nil) (fun _ _ _ _ _ => d_cmp o_eq (dv 5) (dv 4))))) (ss_one (s_ret d_bl)) ss_nil)))
    (ss_cons (s_for tk rfl (i_list (de_set 0 (d_lst (a_cons d_int (a_cons d_int (a_cons d_int (a_cons d_int (a_cons d_int (a_cons d_int a_nil)))))))) ) (g_name (i := 4) sc_law.nd)
      (ss_one (s_if (t_cmp (o_neD hr) (d_call mono_numberOf fN hr (by decide) tk (a_cons (dv 4) (a_cons (dv 3) a_nil))) (d_tup (a_cons (dv 4) (a_cons (dv 3) a_nil)))) (ss_one (s_ret d_bl)) ss_nil)))
    (ss_cons (s_for tk rfl (i_list (de_set 0 (d_lst (a_cons d_int (a_cons d_int (a_cons d_int (a_cons d_int (a_cons d_int (a_cons d_int a_nil)))))))) ) (g_name (i := 4) sc_law.nd)
      (ss_one (s_if (t_cmp (o_neD hr) (d_call mono_nameOf fM hr (by decide) tk (a_cons (dv 4) (a_cons (dv 3) a_nil))) (d_tup (a_cons (dv 4) (a_cons (dv 3) a_nil)))) (ss_one (s_ret d_bl)) ss_nil)))
    (ss_one (s_ret d_bl)))))), fun b l => ?_⟩)
  have mb : Res.bag b l ∈ [Res.bag b l] := List.mem_singleton.mpr rfl
  refine ⟨by unfold CPow; decide +kernel, b, l, _, rfl, by decide +kernel, by decide +kernel, mb, fun num n0 n1 => ?_⟩
  refine ⟨b, l, 9, rfl, by omega, by omega, mb, fun d9 h0 h1 => ⟨b, l, d9, rfl, by omega, by omega, mb, fun ls l1 nd sub => ?_⟩⟩
  have sz : sizeLine = 16777216 := sizeLine_eq
  have nz : ("" : Str).length = 0 := by decide +kernel
  refine ⟨ls.map sgn, by rw [List.map_map]; rfl, ?_, ?_⟩
  · rw [nz, List.map_map, show ((fun x : Str => x.length) ∘ sgn) = fun _ => 1 from rfl, List.map_const', List.sum_replicate_nat, List.length_map]
    omega
  refine ⟨_, rfl, by show 1 ≤ sizeLine; decide, fun p1 => ⟨_, rfl, ⟨_, rfl, by show 5 ≤ sizeLine; decide, fun p2 => ⟨_, rfl, b, l, 5, rfl, by omega, by omega, mb, fun d5 e0 e1 => ?_⟩⟩⟩⟩
  have jn : Txt.join ("" : Str) (ls.map sgn) = mk ls := join_sgn ls
  have okS : PyData.strOk (mk ls) = true := by
    show (mk ls).cps.all (· < 0x110000) = true
    rw [← Array.all_toList]
    rw [List.all_eq_true]
    intro c hc
    have hc2 : c ∈ ls := by rw [← T_mk ls]; exact hc
    have up : ∀ c ∈ T AL, c < 0x110000 := by decide +kernel
    exact decide_eq_true (up c (sub c hc2))
  obtain ⟨v, hv, pl, dp⟩ : ∃ v, atI [D.int num, .str (Txt.join "" (ls.map sgn)), .non, .bl true, .lst [.int num]] d5 = some v ∧ plainD v = true ∧ dpD v ≤ 1 := by
    have hd : d5 = 0 ∨ d5 = 1 ∨ d5 = 2 ∨ d5 = 3 ∨ d5 = 4 := by omega
    rcases hd with rfl | rfl | rfl | rfl | rfl
    · exact ⟨_, rfl, by simp [plainD], by simp [dpD]⟩
    · exact ⟨_, rfl, by rw [plainD, jn]; exact okS, by simp [dpD]⟩
    · exact ⟨_, rfl, by simp [plainD], by simp [dpD]⟩
    · exact ⟨_, rfl, by simp [plainD], by simp [dpD]⟩
    · exact ⟨_, rfl, by simp [plainD, plainL], by simp [dpD, dpL]⟩
  refine ⟨v, hv, ?_⟩
  have fin : ∀ {i : Nat} {d : D}, (Tl.intsFrom 0 18)[i]? = some d → i < 18 ∧ d = .int i := fun {i d} h => by
    have hl : i < (Tl.intsFrom 0 18).length := by
      by_cases q : i < (Tl.intsFrom 0 18).length
      · exact q
      · rw [List.getElem?_eq_none (by omega)] at h; cases h
    rw [intsFrom_len] at hl
    unfold Tl.intsFrom at h
    rw [List.getElem?_map, List.getElem?_range hl] at h
    refine ⟨hl, ?_⟩
    have e := Option.some.inj h
    rw [← e]
    show D.int (0 + (i : Int)) = _
    rw [Int.zero_add]
  have pb : ∀ l : List Bool, l.length ≤ 18 → PlD (.lst (l.map D.bl)) := fun l _ => by
    have h1 : ∀ l : List Bool, plainL (l.map D.bl) = true := fun l => by
      induction l with
      | nil => rfl
      | cons a r ih => rw [List.map_cons, plainL, plainD, ih]; rfl
    have h2 : ∀ l : List Bool, dpL (l.map D.bl) = 0 := fun l => by
      induction l with
      | nil => rfl
      | cons a r ih => rw [List.map_cons, dpL, dpD, ih]; rfl
    exact ⟨by rw [plainD]; exact h1 l, by rw [dpD, h2]; omega⟩
  have I0 : ∀ x : En, ([.no, .adr b, .val (.int num), .val v, x, .no] : List En) = [.no, .adr b, .val (.int num), .val v, x, .no] := fun _ => rfl
  refine ⟨by decide, by decide, fun i env' R' => (∃ x, env' = [.no, .adr b, .val (.int num), .val v, x, .no]) ∧ R' = [Res.bag b l], ⟨⟨_, rfl⟩, rfl⟩, fun i d env' R' hd hI => ?_, fun env' R' hI => ?_⟩
  · obtain ⟨⟨x, rfl⟩, rfl⟩ := hI
    obtain ⟨hi, rfl⟩ := fin hd
    refine ⟨i, v, rfl, hi, ?_⟩
    refine lc_filter (Tl.intsFrom 0 18) (fun _ => true) (fun d => match d with | .int k => .bl (decide (k = (i : Int))) | _ => .non) (by rw [intsFrom_len]; omega) (fun φ h => ⟨by decide, by decide, h⟩) (fun d hd R' K1 K2 h1 h2 => ?_) fun q => ?_
    · obtain ⟨k, hk⟩ := List.getElem?_of_mem hd
      obtain ⟨_, rfl⟩ := fin hk
      exact ⟨_, rfl, h1 rfl⟩
    · refine ⟨_, rfl, ?_⟩
      have ec : (errOf i v).c = names.getD i "" := by
        match i, hi with
        | 0, _ => rfl
        | 1, _ => rfl
        | 2, _ => rfl
        | 3, _ => rfl
        | 4, _ => rfl
        | 5, _ => rfl
        | 6, _ => rfl
        | 7, _ => rfl
        | 8, _ => rfl
        | 9, _ => rfl
        | 10, _ => rfl
        | 11, _ => rfl
        | 12, _ => rfl
        | 13, _ => rfl
        | 14, _ => rfl
        | 15, _ => rfl
        | 16, _ => rfl
        | 17, _ => rfl
        | n + 18, l => exact absurd l (by omega)
      have eb : ∀ i, i < 18 → names.map (fun c => decide (names.getD i "" = c)) = (List.range 18).map fun k => decide (k = i) := by decide +kernel
      have e1 : names.map (fun c => D.bl (decide ((errOf i v).c = c))) = ((List.range 18).map fun k => decide (k = i)).map D.bl := by
        rw [ec, ← eb i hi, List.map_map]; rfl
      have e2 : ((Tl.intsFrom 0 18).filter fun _ => true).map (fun d => match d with | .int k => D.bl (decide (k = (i : Int))) | _ => .non) = ((List.range 18).map fun k => decide (k = i)).map D.bl := by
        have ft : (Tl.intsFrom 0 18).filter (fun _ => true) = Tl.intsFrom 0 18 := List.filter_eq_self.mpr fun _ _ => rfl
        rw [ft]
        unfold Tl.intsFrom
        rw [List.map_map, List.map_map]
        refine List.map_congr_left fun k _ => ?_
        show D.bl (decide (0 + (k : Int) = (i : Int))) = D.bl (decide (k = i))
        congr 1
        rw [decide_eq_decide]
        omega
      rw [e1, e2]
      have p := pb ((List.range 18).map fun k => decide (k = i)) (by simp)
      refine ⟨p, p, if_f ?_ ⟨⟨_, rfl⟩, rfl⟩⟩
      show (!eqD _ _) = false
      rw [eqD_refl p]; rfl
  obtain ⟨⟨x, rfl⟩, rfl⟩ := hI
  have pv : ∀ i : Int, PlD (.tup [.int i, v]) := fun i => by
    refine ⟨?_, ?_⟩
    · rw [plainD, plainL, plainL, plainL, plainD, pl]; rfl
    · rw [dpD, dpL, dpL, dpL, dpD]; omega
  refine ⟨_, rfl, by show 6 ≤ sizeLine; decide, fun p => ⟨_, rfl, ?_⟩⟩
  refine ⟨fun i env' R' => (∃ x, env' = [.no, .adr b, .val (.int num), .val v, x, .no]) ∧ R' = [Res.bag b l], ⟨⟨_, rfl⟩, rfl⟩, fun i d env' R' hd hI => ?_, fun env' R' hI => ?_⟩
  · obtain ⟨⟨x, rfl⟩, rfl⟩ := hI
    have hm : ∃ k : Nat, d = .int k ∧ k ∈ [6, 7, 12, 13, 15, 16] := by
      match i, hd with
      | 0, hd => exact ⟨6, (Option.some.inj hd).symm, by decide⟩
      | 1, hd => exact ⟨7, (Option.some.inj hd).symm, by decide⟩
      | 2, hd => exact ⟨12, (Option.some.inj hd).symm, by decide⟩
      | 3, hd => exact ⟨13, (Option.some.inj hd).symm, by decide⟩
      | 4, hd => exact ⟨15, (Option.some.inj hd).symm, by decide⟩
      | 5, hd => exact ⟨16, (Option.some.inj hd).symm, by decide⟩
      | n + 6, hd => exact nomatch hd
    obtain ⟨k, rfl, hk⟩ := hm
    refine ⟨k, v, rfl, hk, _, rfl, by show 2 ≤ sizeLine; decide, pv k, pv k, if_f ?_ ⟨⟨_, rfl⟩, rfl⟩⟩
    show (!eqD _ _) = false
    rw [eqD_refl (pv k)]; rfl
  obtain ⟨⟨x, rfl⟩, rfl⟩ := hI
  refine ⟨_, rfl, by show 6 ≤ sizeLine; decide, fun p => ⟨_, rfl, ?_⟩⟩
  refine ⟨fun i env' R' => (∃ x, env' = [.no, .adr b, .val (.int num), .val v, x, .no]) ∧ R' = [Res.bag b l], ⟨⟨_, rfl⟩, rfl⟩, fun i d env' R' hd hI => ?_, fun env' R' hI => ?_⟩
  · obtain ⟨⟨x, rfl⟩, rfl⟩ := hI
    have hm : ∃ k : Nat, d = .int k ∧ k ∈ [8, 9, 10, 11, 14, 17] := by
      match i, hd with
      | 0, hd => exact ⟨8, (Option.some.inj hd).symm, by decide⟩
      | 1, hd => exact ⟨9, (Option.some.inj hd).symm, by decide⟩
      | 2, hd => exact ⟨10, (Option.some.inj hd).symm, by decide⟩
      | 3, hd => exact ⟨11, (Option.some.inj hd).symm, by decide⟩
      | 4, hd => exact ⟨14, (Option.some.inj hd).symm, by decide⟩
      | 5, hd => exact ⟨17, (Option.some.inj hd).symm, by decide⟩
      | n + 6, hd => exact nomatch hd
    obtain ⟨k, rfl, hk⟩ := hm
    refine ⟨k, v, rfl, hk, _, rfl, by show 2 ≤ sizeLine; decide, pv k, pv k, if_f ?_ ⟨⟨_, rfl⟩, rfl⟩⟩
    show (!eqD _ _) = false
    rw [eqD_refl (pv k)]; rfl
  obtain ⟨⟨x, rfl⟩, rfl⟩ := hI
  rfl
end
end Tw
end
section
set_option maxHeartbeats 0
/-! The law k07: the head. -/
namespace Tw
open PySem PySem.Spec PyProof.Rows L2 Tl
def fn7 : List He.DefD := [ddef "_law_bag" st_law_bag, ddef "_law_draw" st_law_draw, ddef "_law_alphabet" st_law_alphabet, ddef "_law_letters" st_law_letters, ddef "_law_raise_plain" st_law_raise_plain, ddef "_law_raise" st_law_raise, ddef "_law_classes" st_law_classes, ddef "_law_by_base" st_law_by_base, ddef "_law_number_of" st_law_number_of, ddef "_law_name_of" st_law_name_of, ddef "law" st_law]
def fa7 : List He.Fa := [.glo "_law_bag", .glo "_law_draw", .glo "_law_alphabet", .glo "_law_letters", .glo "_law_raise_plain", .glo "_law_raise", .glo "_law_classes", .glo "_law_by_base", .glo "_law_number_of", .glo "_law_name_of", .glo "law", .glo "TownError",
  .free "isinstance", .free "ValueError", .free "len", .free "list", .free "range", .free "int", .free "super",
  .exc "BadSigns", .exc "BadText", .exc "BadKind", .exc "NoReading", .exc "TooMany", .exc "TooLarge"] ++ names.map He.Fa.glo
def xds : List XD := [⟨"BadItem", "at", "BadItem.__init__", st_BadItem 0⟩, ⟨"BadForm", "at", "BadForm.__init__", st_BadForm 0⟩, ⟨"BadName", "name", "BadName.__init__", st_BadName 0⟩, ⟨"Unknown", "name", "Unknown.__init__", st_Unknown 0⟩, ⟨"Missing", "name", "Missing.__init__", st_Missing 0⟩, ⟨"BadValue", "name", "BadValue.__init__", st_BadValue 0⟩,
  ⟨"NotSingle", "text", "NotSingle.__init__", st_NotSingle 0⟩, ⟨"NotWithin", "text", "NotWithin.__init__", st_NotWithin 0⟩, ⟨"NoForm", "name", "NoForm.__init__", st_NoForm 0⟩, ⟨"BadNumber", "number", "BadNumber.__init__", st_BadNumber 0⟩, ⟨"TooWide", "line", "TooWide.__init__", st_TooWide 0⟩, ⟨"BadShort", "name", "BadShort.__init__", st_BadShort 0⟩]
def ex7 (P : Program) (K : PySem.W.Frag) : Bool := (names.all fun y => excB K (He.ga K y)) && ((names.all fun y => names.all fun c => decide (PySem.W.kitOne K (.ref (He.ga K y)) (.ref (He.ga K c)) = some (decide (y = c)))) && ((names.all fun y => decide (PySem.W.kitOne K (.ref (He.ga K y)) (.type "ValueError") = some true)) &&
  ((names.all fun y => names.all fun c => decide (PySem.W.exmOne K (.ref (He.ga K y)) (.ref (He.ga K c)) = some (decide (y = c)))) && ((names.all fun y => decide (PySem.W.exmOne K (.ref (He.ga K y)) (.ref (He.ga K "TownError")) = some true)) && ((fields.all fun q => He.eqO (PySem.W.findIn K (.ref (He.ga K q.1)) q.2) (some none)) &&
  ((xds.all fun x => x.ok P K) && He.eqO (PySem.W.nsIn K cStatics "thirdparty.any") (some none)))))))
abbrev R7 : PySem.W.OpenRow := PySem.W.OpenLaw.row PySem.Challenge.rw_townlines_k07_errors_apart
abbrev P7 : Program := (PySem.Challenge.rw_townlines_k07_errors_apart).prog
abbrev hk7 : PySem.W.Hook := hookF 5 fa7 fn7 (ex7 P7) xds
def ob7 (s : PySem.W.SharedT) : AlF := obsF 5 fa7 fn7 (ex7 P7) xds (HandSHeadRun.getT s)
theorem ob7_eq (s : PySem.W.SharedT) : ob7 s = hk7.obs s.abs := obsF_eq (HandSHeadRun.getT_eq s)
def loose7 : List Str := ["TownError", "BadSigns", "BadText", "BadKind", "NoReading", "TooMany", "TooLarge", "BadItem", "BadForm", "BadName", "Unknown", "Missing", "BadValue", "NotSingle", "NotWithin", "NoForm", "BadNumber", "TooWide", "BadShort", "_law_bag", "_law_draw", "_law_alphabet", "_law_letters", "_law_raise_plain", "_law_raise", "_law_classes", "_law_by_base", "_law_number_of", "_law_name_of"]
theorem run7 (w : World) : HandSHeadRun.RunEq R7 (PySem.W.view R7.prog [31]) hk7 ob7 20000 loose7 w := by
  intro os
  kernel_rfl
end Tw
end
section
set_option maxHeartbeats 0
/-! The law k07: what the head tells, the end. -/
namespace Tw
open PySem PySem.Spec PyProof.Rows L2 Tl L2H
theorem xst7 : ∀ x ∈ xds, XSt x := by
  intro x m
  simp only [xds, List.mem_cons, List.not_mem_nil, or_false] at m
  rcases m with rfl | rfl | rfl | rfl | rfl | rfl | rfl | rfl | rfl | rfl | rfl | rfl <;> exact ⟨by decide, by decide, by decide, by decide, by decide, _, _, _, _, _, _, _, _, _, _, _, _, _, _, rfl, rfl, rfl, fun _ _ _ _ _ _ _ _ _ => rfl, fun _ => ⟨_, rfl⟩⟩
theorem facts7 {w : World} {K : PySem.W.Frag} {h : Heap} {mg : Str → Option Value} {f : Addr} (X : K.In h) (G : h.Ns mainGlobals mg) (hf : mg ("law" : Str) = some (.ref f)) (S : SaysF fa7 fn7 (ex7 P7) xds K) :
    ∃ fd : FuncData, (∀ (s : Shared) (v : Value), BindsTo s fd ⟨[v], []⟩ [("_law_script", v)]) ∧ ∀ base : Heap, K.In base → base.Ns mainGlobals mg → FnOk P7 w K mg base (L2.CX P7 w) 6 f fd ["_law_script"] (spLaw K) := by
  have c := S.d
  have x := S.e
  have e := hf.symm.trans (He.glo_ok X G (c.fact 10 (f := .glo "law") rfl))
  cases e
  obtain ⟨fd, F⟩ := c.def_ 10 (d := ddef "law" st_law) rfl
  have b := FunD.bindsA (ps := ["_law_script"]) F fun _ _ _ _ _ _ us hl => match us, hl with | [_], _ => rfl
  unfold ex7 at x
  simp only [Bool.and_eq_true, List.all_eq_true, decide_eq_true_eq] at x
  obtain ⟨x1, x2, x3, x4, x5, x6, x7, x8⟩ := x
  refine ⟨fd, fun s v => b s [v] rfl, fun base _ _ => ?_⟩
  have g : ∀ (i : Nat) {y : Str}, fa7[i]? = some (.glo y) → mg y = some (.ref (He.ga K y)) := fun i y e => He.glo_ok X G (c.fact i e)
  have fr : ∀ (i : Nat) {y : Str}, fa7[i]? = some (.free y) → mg y = none := fun i y e => He.free_ok X G (c.fact i e)
  have gf : ∀ y ∈ names, (He.Fa.glo y).ok K = true := fun y m => by
    obtain ⟨k, hk⟩ := List.getElem?_of_mem m
    refine c.fact (25 + k) (f := .glo y) ?_
    show (_ ++ names.map He.Fa.glo)[25 + k]? = _
    rw [List.getElem?_append_right (by show 25 ≤ _; omega)]
    show (names.map He.Fa.glo)[25 + k - 25]? = _
    rw [Nat.add_sub_cancel_left, List.getElem?_map, hk]
    rfl
  have V : ErEnv K mg := ⟨fun y m => (excB_ok (x1 y m)).1, fun y m => He.glo_ok X G (gf y m), x2, x3, fr 12 rfl, fr 13 rfl⟩
  have V2 : ErEnv2 K := ⟨x4, fun y m => (excB_ok (x1 y m)).2, fun c f m => He.eqO_ok (x6 (c, f) m)⟩
  have dk : ∀ (i j : Nat) (y : Str) (st : Stmt), fn7[i]? = some (ddef y st) → fa7[j]? = some (.glo y) → DefK K mg y y st [] := fun i j y st e1 e2 => ⟨c.def_ i e1, g j e2⟩
  have L : LwEnv P7 w K mg base := ⟨fr 14 rfl, fr 15 rfl, fr 16 rfl⟩
  have E0 : ∀ y ∈ plains, ExK K mg y := fun y m => by
    simp only [plains, List.mem_cons, List.not_mem_nil, or_false] at m
    rcases m with rfl | rfl | rfl | rfl | rfl | rfl
    · exact exK_of X G (c.fact 19 (f := .exc "BadSigns") rfl) (gf _ (List.mem_of_getElem? (i := 0) rfl))
    · exact exK_of X G (c.fact 20 (f := .exc "BadText") rfl) (gf _ (List.mem_of_getElem? (i := 1) rfl))
    · exact exK_of X G (c.fact 21 (f := .exc "BadKind") rfl) (gf _ (List.mem_of_getElem? (i := 2) rfl))
    · exact exK_of X G (c.fact 22 (f := .exc "NoReading") rfl) (gf _ (List.mem_of_getElem? (i := 3) rfl))
    · exact exK_of X G (c.fact 23 (f := .exc "TooMany") rfl) (gf _ (List.mem_of_getElem? (i := 4) rfl))
    · exact exK_of X G (c.fact 24 (f := .exc "TooLarge") rfl) (gf _ (List.mem_of_getElem? (i := 5) rfl))
  have top : (P7.main.scope.names.lookup ("super" : Str)).isSome = false := by kernel_rfl
  have EX : ∀ x ∈ xds, (He.Fa.glo x.c).ok K = true → ExF P7 K mg x.c x.f := fun x m gx => exF_of X G (xst7 x m) (S.x x m) (x7 x m) (He.eqO_ok x8) top gx (c.fact 18 (f := .free "super") rfl)
  have EF : ∀ q ∈ fields, ExF P7 K mg q.1 q.2 := fun q m => by
    simp only [fields, List.mem_cons, List.not_mem_nil, or_false] at m
    rcases m with rfl | rfl | rfl | rfl | rfl | rfl | rfl | rfl | rfl | rfl | rfl | rfl
    · exact EX _ (List.mem_of_getElem? (i := 0) rfl) (gf _ (List.mem_of_getElem? (i := 6) rfl))
    · exact EX _ (List.mem_of_getElem? (i := 1) rfl) (gf _ (List.mem_of_getElem? (i := 7) rfl))
    · exact EX _ (List.mem_of_getElem? (i := 2) rfl) (gf _ (List.mem_of_getElem? (i := 8) rfl))
    · exact EX _ (List.mem_of_getElem? (i := 3) rfl) (gf _ (List.mem_of_getElem? (i := 9) rfl))
    · exact EX _ (List.mem_of_getElem? (i := 4) rfl) (gf _ (List.mem_of_getElem? (i := 10) rfl))
    · exact EX _ (List.mem_of_getElem? (i := 5) rfl) (gf _ (List.mem_of_getElem? (i := 11) rfl))
    · exact EX _ (List.mem_of_getElem? (i := 6) rfl) (gf _ (List.mem_of_getElem? (i := 12) rfl))
    · exact EX _ (List.mem_of_getElem? (i := 7) rfl) (gf _ (List.mem_of_getElem? (i := 13) rfl))
    · exact EX _ (List.mem_of_getElem? (i := 8) rfl) (gf _ (List.mem_of_getElem? (i := 14) rfl))
    · exact EX _ (List.mem_of_getElem? (i := 9) rfl) (gf _ (List.mem_of_getElem? (i := 15) rfl))
    · exact EX _ (List.mem_of_getElem? (i := 10) rfl) (gf _ (List.mem_of_getElem? (i := 16) rfl))
    · exact EX _ (List.mem_of_getElem? (i := 11) rfl) (gf _ (List.mem_of_getElem? (i := 17) rfl))
  obtain ⟨fdB, FB⟩ := c.def_ 0 (d := ddef "_law_bag" st_law_bag) rfl
  have fD : Fx P7 w K mg base 1 "_law_draw" fsDraw [] := fx_of (dk 1 1 "_law_draw" st_law_draw rfl rfl) (fun f fd F => ok_draw (fr 14 rfl) (fr 17 rfl) F) fun _ _ _ _ _ _ us hl => match us, hl with | [_, _], _ => rfl
  have fA : Fx P7 w K mg base 1 "_law_alphabet" fsAlpha [] := fx_of (dk 2 2 "_law_alphabet" st_law_alphabet rfl rfl) (fun f fd F => ok_alpha F) fun _ _ _ _ _ _ us hl => match us, hl with | [], _ => rfl
  have fL : Fx P7 w K mg base 2 "_law_letters" fsLetters [] := fx_of (dk 3 3 "_law_letters" st_law_letters rfl rfl) (fun f fd F => ok_letters L fD fA F) fun _ _ _ _ _ _ us hl => match us, hl with | [_, _], _ => rfl
  have fP : Fx P7 w K mg base 1 "_law_raise_plain" fsRaiseP [] := fx_of (dk 4 4 "_law_raise_plain" st_law_raise_plain rfl rfl) (fun f fd F => ok_raiseP E0 F) fun _ _ _ _ _ _ us hl => match us, hl with | [_], _ => rfl
  have fR : Fx P7 w K mg base 2 "_law_raise" fsRaise [] := fx_of (dk 5 5 "_law_raise" st_law_raise rfl rfl) (fun f fd F => ok_raise EF fP F) fun _ _ _ _ _ _ us hl => match us, hl with | [_, _], _ => rfl
  have fC : ∀ y ∈ names, FxP P7 w K mg base 1 "_law_classes" y (fsClasses y) := fun y m => by
    obtain ⟨fdC, FC⟩ := c.def_ 6 (d := ddef "_law_classes" st_law_classes) rfl
    exact ⟨_, fdC, ["_law_e"], ok_classes V m FC, g 6 rfl, FC.kp, FC.bindsN fun _ _ _ _ _ _ us hl => match us, hl with | [_], _ => rfl⟩
  have fB : Fx P7 w K mg base 3 "_law_by_base" fsBase [] := fx_of (dk 7 7 "_law_by_base" st_law_by_base rfl rfl) (fun f fd F => ok_base V (g 11 rfl) x5 fR fC F) fun _ _ _ _ _ _ us hl => match us, hl with | [_, _], _ => rfl
  have fN : Fx P7 w K mg base 3 "_law_number_of" fsNumberOf [] := fx_of (dk 8 8 "_law_number_of" st_law_number_of rfl rfl) (fun f fd F => ok_numberOf V V2 fR F) fun _ _ _ _ _ _ us hl => match us, hl with | [_, _], _ => rfl
  have fM : Fx P7 w K mg base 3 "_law_name_of" fsNameOf [] := fx_of (dk 9 9 "_law_name_of" st_law_name_of rfl rfl) (fun f fd F => ok_nameOf V V2 fR F) fun _ _ _ _ _ _ us hl => match us, hl with | [_, _], _ => rfl
  exact ok_law (fr 16 rfl) (ok_bag (fr 15 rfl) FB) (g 0 rfl) FB.kp (FB.bindsN fun _ _ _ _ _ _ us hl => match us, hl with | [_], _ => rfl) fD fL fB fN fM F
end Tw
open PySem PySem.W PySem.Calls PyProof.Rows
theorem PySem.Challenge.cw_townlines_k07_errors_apart_holds : PySem.Challenge.rw_townlines_k07_errors_apart.Holds := by
  w_on; o_law
  refine HandSHeadRun.head_any (r := Tw.R7) (q := view Tw.R7.prog [31]) (H := Tw.hk7) (ob := Tw.ob7) (M := 20000) (loose := Tw.loose7) (d := HandSHeadRun.topDef Tw.R7.prog 31) (kwd := []) Tw.ob7_eq (by kernel_rfl) (fun s => by kernel_rfl) Tw.run7 (by kernel_rfl) (by kernel_rfl) (by kernel_rfl) (by rfl) (by first | assumption | decide +kernel) (by decide +kernel) ⟨rfl, rfl, rfl, rfl, rfl, by decide +kernel⟩ ?hw ?hc
  case hw => w_witness2
  case hc =>
    refine Tl.walk_w (law := PySem.Challenge.rw_townlines_k07_errors_apart) (most := 63) (k := 6) (x := "_law_script") rfl (by decide) (by kernel_rfl) ⟨rfl, by decide, by decide⟩ ?F
    intro w mg f h Y G hmg0
    obtain ⟨K, KX, S⟩ := Y
    have hmg : mg ("law" : PySem.Str) = some (.ref f) := by
      have e : (HandSHeadRun.topDef Tw.R7.prog 31).name = ("law" : PySem.Str) := by kernel_rfl
      rw [← e]
      exact hmg0
    obtain ⟨fd, hb, hF⟩ := Tw.facts7 (w := w) KX G hmg S
    exact ⟨K, fd, KX, hb, Nat.le_refl _, hF⟩
end
