import PyProof.Rows.All
import Wide.All
import OpenK.AllK
import Wide.FinOn
import HandS.ForMost
import HandS.Evl
import HandS.Wide
import HandS.TupLe
import HandS.TupAny
import HandS.IsInst
import HandS.Strs
import HandS.SortInts
import HandS.StrMore
import HandS.NoneIn
import HandS.DictComp
import HandS.Replace
import HandS.Style
import HandS.Deep
import HandS.TupSets
import PyProof.ReprRoads
import PyProof.FitsInt
import KE.GoesEnum
import HandS.ForExc
import HandS.ExcInit
import HandS.ExcField
import HandS.WordsExc
import KE.KExcInit
import PySem.Challenge.RW_peershold_k60_whole_least_number_for_all
set_option Elab.async false
set_option linter.all false
set_option maxRecDepth 100000
set_option maxHeartbeats 4000000
set_option autoImplicit false
/-! DL1: data trees over the hand layer: values as trees, slots, states, what an expression and a statement come to. -/
namespace DL
open PySem L2 Evl

inductive D where
  | non | bl (b : Bool) | int (i : Int) | str (x : Str) | lst (xs : List D) | tup (xs : List D) | dic (kvs : List (Key × D)) | scr (ns : List Int)
  | fn (a : Addr) | obj (C : Addr) (fs : List (Str × D)) | exc (a dd : Addr) (fs : List (Str × D))

mutual
inductive Rep (K : PySem.W.Frag) (F : Hp) : V → D → Prop
  | non : Rep K F .non .non
  | bl (b : Bool) : Rep K F (.bl b) (.bl b)
  | int (i : Int) : Rep K F (.int i) (.int i)
  | str (x : Str) : PyData.strOk x = true → Rep K F (.str x) (.str x)
  | lst {a : Addr} {vs : List V} {ds : List D} : F a = some (.lst vs) → RepL K F vs ds → Rep K F (.ref a) (.lst ds)
  | tup {a : Addr} {vs : List V} {ds : List D} : SqT K F a vs → RepL K F vs ds → Rep K F (.ref a) (.tup ds)
  | dic {a : Addr} {kvs : List (Key × V)} {ks : List (Key × D)} : F a = some (.dK kvs) → kvs.map (·.1) = ks.map (·.1) → RepL K F (kvs.map (·.2)) (ks.map (·.2)) → Rep K F (.ref a) (.dic ks)
  | scr {a : Addr} {ns : List Int} : SqL K F a (ns.map V.int) → Rep K F (.ref a) (.scr ns)
  | fn (a : Addr) : PySem.W.keepIn K (.ref a) = true → Rep K F (.ref a) (.fn a)
  | obj {a C dx : Addr} {kvs : List (Str × V)} {fs : List (Str × D)} : F a = some (.ins C dx kvs) → kvs.map (·.1) = fs.map (·.1) → RepL K F (kvs.map (·.2)) (fs.map (·.2)) → Rep K F (.ref a) (.obj C fs)
  | exc {a dd : Addr} {kvs : List (Str × V)} {fs : List (Str × D)} : F dd = some (.xd kvs) → kvs.map (·.1) = fs.map (·.1) → RepL K F (kvs.map (·.2)) (fs.map (·.2)) → Rep K F (.ref a) (.exc a dd fs)
inductive RepL (K : PySem.W.Frag) (F : Hp) : List V → List D → Prop
  | nil : RepL K F [] []
  | cons {v : V} {vs : List V} {d : D} {ds : List D} : Rep K F v d → RepL K F vs ds → RepL K F (v :: vs) (d :: ds)
end

section
variable {K : PySem.W.Frag} {F F' H : Hp}
mutual
theorem Rep.mono (e : Ex F F') : ∀ {v : V} {d : D}, Rep K F v d → Rep K F' v d
  | _, _, .non => .non
  | _, _, .bl b => .bl b
  | _, _, .int i => .int i
  | _, _, .str x h => .str x h
  | _, _, .lst h r => .lst (e _ _ h) (RepL.mono e r)
  | _, _, .tup h r => .tup (ex_t e h) (RepL.mono e r)
  | _, _, .dic h k r => .dic (e _ _ h) k (RepL.mono e r)
  | _, _, .scr h => .scr (ex_l e h)
  | _, _, .fn a h => .fn a h
  | _, _, .obj h k r => .obj (e _ _ h) k (RepL.mono e r)
  | _, _, .exc h k r => .exc (e _ _ h) k (RepL.mono e r)
theorem RepL.mono (e : Ex F F') : ∀ {vs : List V} {ds : List D}, RepL K F vs ds → RepL K F' vs ds
  | _, _, .nil => .nil
  | _, _, .cons a b => .cons (Rep.mono e a) (RepL.mono e b)
end
theorem RepL.length : ∀ {vs : List V} {ds : List D}, RepL K F vs ds → vs.length = ds.length
  | _, _, .nil => rfl
  | _, _, .cons _ r => congrArg (· + 1) (RepL.length r)
theorem RepL.get : ∀ {vs : List V} {ds : List D} {i : Nat} {d : D}, RepL K F vs ds → ds[i]? = some d → ∃ v, vs[i]? = some v ∧ Rep K F v d
  | _, _, _, _, .nil, e => by simp at e
  | _, _, 0, _, .cons a _, e => by simp at e; subst e; exact ⟨_, rfl, a⟩
  | _, _, i + 1, _, .cons _ r, e => by
    obtain ⟨v, h1, h2⟩ := RepL.get (i := i) r (by simpa using e)
    exact ⟨v, by simpa using h1, h2⟩
theorem RepL.getV : ∀ {vs : List V} {ds : List D} {i : Nat} {v : V}, RepL K F vs ds → vs[i]? = some v → ∃ d, ds[i]? = some d ∧ Rep K F v d
  | _, _, _, _, .nil, e => by simp at e
  | _, _, 0, _, .cons a _, e => by simp at e; subst e; exact ⟨_, rfl, a⟩
  | _, _, i + 1, _, .cons _ r, e => by
    obtain ⟨v, h1, h2⟩ := RepL.getV (i := i) r (by simpa using e)
    exact ⟨v, by simpa using h1, h2⟩
theorem RepL.append : ∀ {vs ws : List V} {ds es : List D}, RepL K F vs ds → RepL K F ws es → RepL K F (vs ++ ws) (ds ++ es)
  | _, _, _, _, .nil, s => s
  | _, _, _, _, .cons a r, s => .cons a (RepL.append r s)
theorem RepL.take : ∀ {vs : List V} {ds : List D} (n : Nat), RepL K F vs ds → RepL K F (vs.take n) (ds.take n)
  | _, _, 0, _ => by simp; exact .nil
  | _, _, _ + 1, .nil => by simp; exact .nil
  | _, _, n + 1, .cons a r => by simp; exact .cons a (RepL.take n r)
theorem RepL.drop : ∀ {vs : List V} {ds : List D} (n : Nat), RepL K F vs ds → RepL K F (vs.drop n) (ds.drop n)
  | _, _, 0, r => by simpa using r
  | _, _, _ + 1, .nil => by simp; exact .nil
  | _, _, n + 1, .cons _ r => by simpa using RepL.drop n r
theorem RepL.set {v : V} {d : D} (a : Rep K F v d) : ∀ {vs : List V} {ds : List D} (i : Nat), RepL K F vs ds → RepL K F (vs.set i v) (ds.set i d)
  | _, _, _, .nil => by simp; exact .nil
  | _, _, 0, .cons _ r => by simp; exact .cons a r
  | _, _, i + 1, .cons b r => by simp; exact .cons b (RepL.set a i r)
theorem RepL.reverse : ∀ {vs : List V} {ds : List D}, RepL K F vs ds → RepL K F vs.reverse ds.reverse
  | _, _, .nil => by simp; exact .nil
  | _, _, .cons a r => by simp; exact RepL.append (RepL.reverse r) (.cons a .nil)
theorem RepL.ints : ∀ {vs : List V} {ns : List Int}, RepL K F vs (ns.map D.int) → vs = ns.map V.int
  | _, [], .nil => rfl
  | _, _ :: _, .cons (.int _) r => by rw [RepL.ints r]; rfl
theorem RepL.strs : ∀ {vs : List V} {ns : List Str}, RepL K F vs (ns.map D.str) → vs = ns.map V.str
  | _, [], .nil => rfl
  | _, _ :: _, .cons (.str _ _) r => by rw [RepL.strs r]; rfl
theorem RepL.bls : ∀ {vs : List V} {ns : List Bool}, RepL K F vs (ns.map D.bl) → vs = ns.map V.bl
  | _, [], .nil => rfl
  | _, _ :: _, .cons (.bl _) r => by rw [RepL.bls r]; rfl
theorem RepL.ofInts : ∀ ns : List Int, RepL K F (ns.map V.int) (ns.map D.int)
  | [] => .nil
  | n :: ns => .cons (.int n) (RepL.ofInts ns)
theorem RepL.ofStrs : ∀ ns : List Str, (∀ n ∈ ns, PyData.strOk n = true) → RepL K F (ns.map V.str) (ns.map D.str)
  | [], _ => .nil
  | n :: ns, h => .cons (.str n (h n (by simp))) (RepL.ofStrs ns fun m q => h m (by simp [q]))
theorem RepL.sOk : ∀ {vs : List V} {ns : List Str}, RepL K F vs (ns.map D.str) → ∀ n ∈ ns, PyData.strOk n = true
  | _, _ :: ns, .cons (.str _ h) r, m, q => by
    rcases List.mem_cons.mp q with rfl | q
    · exact h
    · exact RepL.sOk r m q
theorem RepL.ofBls : ∀ ns : List Bool, RepL K F (ns.map V.bl) (ns.map D.bl)
  | [] => .nil
  | n :: ns => .cons (.bl n) (RepL.ofBls ns)

def RepO (K : PySem.W.Frag) (F : Hp) : HO → D → Prop
  | .lst vs, .lst ds => RepL K F vs ds
  | .dK kvs, .dic ks => kvs.map (·.1) = ks.map (·.1) ∧ RepL K F (kvs.map (·.2)) (ks.map (·.2))
  | _, _ => False
theorem RepO.mono (e : Ex F F') : ∀ {o : HO} {d : D}, RepO K F o d → RepO K F' o d := by
  intro o d h
  unfold RepO at h ⊢
  split at h
  · exact RepL.mono e h
  · exact ⟨h.1, RepL.mono e h.2⟩
  · exact h.elim
theorem RepO.rep {p : Addr} {o : HO} {d : D} (h : RepO K F o d) (hp : F p = some o) : Rep K F (.ref p) d := by
  unfold RepO at h
  split at h
  · exact .lst hp h
  · exact .dic hp h.1 h.2
  · exact h.elim
end

/-! ### slots and states -/
inductive Slot where
  | no | val (d : D) | own (pin : Bool) (d : D)

structure Ct where
  G : Hp
  F0 : Hp
  W : Addr → Prop
  par : List V
  pin : Nat → Prop

def Owns (env : List Slot) (σ : L2.St) (i : Nat) (p : Addr) : Prop := ∃ b d, env[i]? = some (.own b d) ∧ σ[i]? = some (some (.ref p))

structure Ok (K : PySem.W.Frag) (C : Ct) (F : Hp) (env : List Slot) (σ : L2.St) (H : Hp) : Prop where
  len : σ.length = env.length
  sub : Ex F H
  keep : ∀ a o, C.G a = some o → ¬ C.W a → H a = some o
  all : ∀ a, C.G a ≠ none → H a ≠ none
  new : ∀ a, C.G a ≠ none → C.F0 a = none → F a = none
  bas : Ex C.F0 F
  vals : ∀ (i : Nat) (d : D), env[i]? = some (.val d) → ∃ v, σ[i]? = some (some v) ∧ Rep K F v d
  owns : ∀ (i : Nat) (b : Bool) (d : D), env[i]? = some (.own b d) → ∃ p o, σ[i]? = some (some (.ref p)) ∧ H p = some o ∧ RepO K F o d ∧ F p = none ∧ (b = false → C.G p = none) ∧ (b = true → C.par[i]? = some (.ref p) ∧ C.W p ∧ C.G p ≠ none)
  sep : ∀ i j p, Owns env σ i p → Owns env σ j p → i = j
  pins : ∀ i, C.pin i → ∃ d, env[i]? = some (.own true d)

def Sub (env env' : List Slot) : Prop := ∀ (i : Nat) (b : Bool) (d : D), env'[i]? = some (.own b d) → ∃ d', env[i]? = some (.own b d')
theorem Sub.refl (env : List Slot) : Sub env env := fun _ _ d h => ⟨d, h⟩
theorem Sub.trans {a b c : List Slot} (h : Sub a b) (k : Sub b c) : Sub a c := fun i x d e => by
  obtain ⟨d', e'⟩ := k i x d e
  exact h i x d' e'
theorem Sub.owns {env env' : List Slot} {σ : L2.St} (s : Sub env env') {i : Nat} {p : Addr} (h : Owns env' σ i p) : Owns env σ i p := by
  obtain ⟨b, d, h1, h2⟩ := h
  obtain ⟨d', h3⟩ := s i b d h1
  exact ⟨b, d', h3, h2⟩

structure Aft (K : PySem.W.Frag) (C : Ct) (F : Hp) (env : List Slot) (σ : L2.St) (H : Hp) (F' : Hp) (env' : List Slot) (H' : Hp) : Prop where
  ok : Ok K C F' env' σ H'
  ex : Ex F F'
  fr : ∀ a o, H a = some o → (∀ i, ¬ Owns env σ i a) → H' a = some o
  nw : ∀ a, H a ≠ none → F a = none → (∀ i, ¬ Owns env σ i a) → F' a = none
  al : ∀ a, H a ≠ none → H' a ≠ none
  le : Sub env env'

section
variable {K : PySem.W.Frag} {C : Ct} {F F' F1 F2 H H' H1 H2 : Hp} {env env' env1 env2 : List Slot} {σ : L2.St}
theorem Ok.aft (h : Ok K C F env σ H) : Aft K C F env σ H F env H := ⟨h, Ex.refl F, fun _ _ e _ => e, fun _ _ e _ => e, fun _ e => e, Sub.refl env⟩
theorem Aft.trans (a : Aft K C F env σ H F1 env1 H1) (b : Aft K C F1 env1 σ H1 F2 env2 H2) : Aft K C F env σ H F2 env2 H2 where
  ok := b.ok
  ex := a.ex.trans b.ex
  fr := fun x o e n => b.fr x o (a.fr x o e n) fun i q => n i (a.le.owns q)
  nw := fun x e z n => b.nw x (by
    cases q : H x with
    | none => exact absurd q e
    | some o => rw [a.fr x o q n]; exact fun z => nomatch z) (a.nw x e z n) fun i q => n i (a.le.owns q)
  al := fun x e => b.al x (a.al x e)
  le := a.le.trans b.le
theorem Ok.tmp (h : Ok K C F env σ H) {p : Addr} (hp : H p = none) (o : HO) : Aft K C F env σ H F env (upd H p o) where
  ok := { len := h.len, sub := fun a u e => by rw [upd_ne (ne_of_none (h.sub a u e) hp)]; exact h.sub a u e
          keep := fun a u e n => by
            have q := h.keep a u e n
            rw [upd_ne (ne_of_none q hp)]; exact q
          all := fun a e => by
            by_cases q : a = p
            · subst q; rw [upd_same]; exact fun z => nomatch z
            · rw [upd_ne q]; exact h.all a e
          new := h.new, bas := h.bas, vals := h.vals
          owns := fun i b d e => by
            obtain ⟨q, u, h1, h2, h3, h4, h5, h6⟩ := h.owns i b d e
            exact ⟨q, u, h1, by rw [upd_ne (ne_of_none h2 hp)]; exact h2, h3, h4, h5, h6⟩
          sep := h.sep, pins := h.pins }
  ex := Ex.refl F
  fr := fun a u e _ => by rw [upd_ne (ne_of_none e hp)]; exact e
  nw := fun _ _ e _ => e
  al := fun a e => by
    by_cases q : a = p
    · subst q; rw [upd_same]; exact fun z => nomatch z
    · rw [upd_ne q]; exact e
  le := Sub.refl env
theorem Ok.gnone (h : Ok K C F env σ H) {p : Addr} (hp : H p = none) : C.G p = none := by
  cases q : C.G p with
  | none => rfl
  | some o => exact absurd hp (h.all p (by rw [q]; exact fun z => nomatch z))
theorem Ok.fnone (h : Ok K C F env σ H) {p : Addr} (hp : H p = none) : F p = none := by
  cases q : F p with
  | none => rfl
  | some o => have := h.sub p o q; rw [hp] at this; cases this
theorem Ok.unowned (h : Ok K C F env σ H) {p : Addr} (hp : H p = none) (i : Nat) : ¬ Owns env σ i p := fun ⟨b, d, e, s⟩ => by
  obtain ⟨q, o, h1, h2, _⟩ := h.owns i b d e
  rw [s] at h1; cases h1
  rw [hp] at h2; cases h2
theorem Ok.hold (h : Ok K C F env σ H) {p : Addr} {o : HO} (hp : H p = some o) (hF : F p = none) (hG : C.G p = none) (hn : ∀ i, ¬ Owns env σ i p) : Ok K C (upd F p o) env σ H where
  len := h.len
  sub := fun a u e => by
    by_cases q : a = p
    · subst q; rw [upd_same] at e; cases e; exact hp
    · rw [upd_ne q] at e; exact h.sub a u e
  keep := h.keep
  all := h.all
  new := fun a e z => by
    by_cases q : a = p
    · subst q; exact absurd hG e
    · rw [upd_ne q]; exact h.new a e z
  bas := fun a u e => by rw [upd_ne (ne_of_none (h.bas a u e) hF)]; exact h.bas a u e
  vals := fun i d e => by
    obtain ⟨v, h1, h2⟩ := h.vals i d e
    exact ⟨v, h1, h2.mono (Ex.new hF)⟩
  owns := fun i b d e => by
    obtain ⟨q, u, h1, h2, h3, h4, h5, h6⟩ := h.owns i b d e
    refine ⟨q, u, h1, h2, h3.mono (Ex.new hF), ?_, h5, h6⟩
    rw [upd_ne (fun z => hn i ⟨b, d, e, by rw [h1, z]⟩)]
    exact h4
  sep := h.sep
  pins := h.pins
end

/-! ### what an expression gives: a thing held still, a new object, what a slot holds -/
inductive RV where
  | vl (d : D) | tm (d : D) | sl (i : Nat)
@[simp] def RV.con (env : List Slot) (R : D → Prop) : RV → Prop
  | .vl d => R d
  | .tm d => R d
  | .sl i => match env[i]? with
    | some (.val d) => R d
    | some (.own _ d) => R d
    | _ => False
@[simp] def RV.get (env : List Slot) (R : D → Prop) : RV → Prop
  | .vl d => R d
  | .tm d => R d
  | .sl i => match env[i]? with
    | some (.val d) => R d
    | _ => False
def RVOk (K : PySem.W.Frag) (C : Ct) (F : Hp) (env : List Slot) (σ : L2.St) (H0 H : Hp) (v : V) : RV → Prop
  | .vl d => Rep K F v d
  | .tm d => ∃ p o, v = .ref p ∧ H p = some o ∧ RepO K F o d ∧ F p = none ∧ C.G p = none ∧ (∀ i, ¬ Owns env σ i p) ∧ H0 p = none
  | .sl i => σ[i]? = some (some v)

abbrev DM := List Slot → (RV → List Slot → Prop) → Prop
abbrev DMB := List Slot → (Bool → List Slot → Prop) → Prop
abbrev DML := List Slot → (List D → List Slot → Prop) → Prop

def EvD (K : PySem.W.Frag) (m : DM) (t : TE) : Prop := ∀ C F env σ H R Q, Ok K C F env σ H → m env R →
  (∀ l env' F' v H', R l env' → Aft K C F env σ H F' env' H' → RVOk K C F' env' σ H H' v l → Q v H') → t σ H Q
def EvB (K : PySem.W.Frag) (m : DMB) (t : TT) : Prop := ∀ C F env σ H R (Q : Bool → Hp → Prop), Ok K C F env σ H → m env R →
  (∀ b env' F' H', R b env' → Aft K C F env σ H F' env' H' → Q b H') → t σ H Q
def EvL (K : PySem.W.Frag) (m : DML) (t : TA) : Prop := ∀ C F env σ H R (Q : List V → Hp → Prop), Ok K C F env σ H → m env R →
  (∀ ds env' F' vs H', R ds env' → Aft K C F env σ H F' env' H' → RepL K F' vs ds → Q vs H') → t σ H Q

def DE (X : Cx) (e : Expr) (m : DM) : Prop := ∃ t, PE X e t ∧ EvD X.K m t
def DT (X : Cx) (e : Expr) (m : DMB) : Prop := ∃ t, PT X e t ∧ EvB X.K m t
def DW (X : Cx) (e : Expr) (m : DMB) : Prop := ∃ t, PW X e t ∧ EvB X.K m t
def DL (X : Cx) (es : List Expr) (m : DML) : Prop := ∃ t, PA X es t ∧ EvL X.K m t

section
variable {K : PySem.W.Frag} {C : Ct} {F F' F1 F2 H H' H1 H2 : Hp} {env env' env1 env2 : List Slot} {σ : L2.St} {v : V} {l : RV} {d : D}
theorem Aft.keepIt (a : Aft K C F env σ H F' env' H') (r : RVOk K C F' env' σ H H' v l) {R : D → Prop} (h : l.get env' R) : ∃ F2 d, R d ∧ Aft K C F env σ H F2 env' H' ∧ Ex F' F2 ∧ Rep K F2 v d := by
  cases l with
  | vl d => exact ⟨F', d, h, a, Ex.refl _, r⟩
  | tm d =>
    obtain ⟨p, o, rfl, h1, h2, h3, h4, h5, h6⟩ := r
    have e := Ex.new (o := o) h3
    exact ⟨upd F' p o, d, h, ⟨a.ok.hold h1 h3 h4 h5, a.ex.trans e, a.fr, fun x n z w => by
      rw [upd_ne (fun q => n (by rw [q]; exact h6))]
      exact a.nw x n z w, a.al, a.le⟩, e, (h2.mono e).rep upd_same⟩
  | sl i =>
    have h' : (match env'[i]? with | some (.val d) => R d | _ => False) := h
    split at h'
    · rename_i d e
      obtain ⟨w, h1, h2⟩ := a.ok.vals i d e
      have r' : σ[i]? = some (some v) := r
      rw [r'] at h1; cases h1
      exact ⟨F', d, h', a, Ex.refl _, h2⟩
    · exact h'.elim
theorem Aft.back (a : Aft K C F env σ H F' env' H') {p : Addr} (h : H' p = none) : H p = none := by
  cases q : H p with
  | none => rfl
  | some o => exact absurd h (a.al p (by rw [q]; exact fun z => nomatch z))
theorem RVOk.from {H0 : Hp} (r : RVOk K C F env σ H1 H v l) (h : ∀ p, H1 p = none → H0 p = none) : RVOk K C F env σ H0 H v l := by
  cases l with
  | vl d => exact r
  | tm d =>
    obtain ⟨p, o, rfl, h1, h2, h3, h4, h5, h6⟩ := r
    exact ⟨p, o, rfl, h1, h2, h3, h4, h5, h p h6⟩
  | sl i => exact r
theorem RVOk.on (a : Aft K C F1 env1 σ H1 F2 env2 H2) (r : RVOk K C F1 env1 σ H H1 v l) : RVOk K C F2 env2 σ H H2 v l := by
  cases l with
  | vl d => exact Rep.mono a.ex r
  | tm d =>
    obtain ⟨p, o, rfl, h1, h2, h3, h4, h5, h6⟩ := r
    exact ⟨p, o, rfl, a.fr p o h1 h5, h2.mono a.ex, a.nw p (by rw [h1]; exact fun z => nomatch z) h3 h5, h4, fun i q => h5 i (a.le.owns q), h6⟩
  | sl i => exact r

inductive See (K : PySem.W.Frag) (F H : Hp) : V → D → Prop
  | rep {v : V} {d : D} : Rep K F v d → See K F H v d
  | obj {p : Addr} {o : HO} {d : D} : H p = some o → RepO K F o d → See K F H (.ref p) d
theorem Ok.see (h : Ok K C F env σ H) (r : RVOk K C F env σ H1 H v l) {R : D → Prop} (c : l.con env R) : ∃ d, R d ∧ See K F H v d := by
  cases l with
  | vl d => exact ⟨d, c, .rep r⟩
  | tm d =>
    obtain ⟨p, o, rfl, h1, h2, _⟩ := r
    exact ⟨d, c, .obj h1 h2⟩
  | sl i =>
    have c' : (match env[i]? with | some (.val d) => R d | some (.own _ d) => R d | _ => False) := c
    have r' : σ[i]? = some (some v) := r
    split at c'
    · rename_i d e
      obtain ⟨w, h1, h2⟩ := h.vals i d e
      rw [r'] at h1; cases h1
      exact ⟨d, c', .rep h2⟩
    · rename_i b d e
      obtain ⟨p, o, h1, h2, h3, _⟩ := h.owns i b d e
      rw [r'] at h1; cases h1
      exact ⟨d, c', .obj h2 h3⟩
    · exact c'.elim
theorem See.lst (h : Ex F H) {ds : List D} (s : See K F H v (.lst ds)) : ∃ p vs, v = .ref p ∧ H p = some (.lst vs) ∧ RepL K F vs ds := by
  cases s with
  | rep r => cases r with | lst e r => exact ⟨_, _, rfl, h _ _ e, r⟩
  | obj e r =>
    unfold RepO at r
    split at r
    · rename_i q; cases q; exact ⟨_, _, rfl, e, r⟩
    · rename_i q; cases q
    · exact r.elim
theorem See.dic (h : Ex F H) {ks : List (Key × D)} (s : See K F H v (.dic ks)) : ∃ p kvs, v = .ref p ∧ H p = some (.dK kvs) ∧ kvs.map (·.1) = ks.map (·.1) ∧ RepL K F (kvs.map (·.2)) (ks.map (·.2)) := by
  cases s with
  | rep r => cases r with | dic e k r => exact ⟨_, _, rfl, h _ _ e, k, r⟩
  | obj e r =>
    unfold RepO at r
    split at r
    · rename_i q; cases q
    · rename_i q; cases q; exact ⟨_, _, rfl, e, r.1, r.2⟩
    · exact r.elim
theorem See.tup {ds : List D} (s : See K F H v (.tup ds)) : ∃ p vs, v = .ref p ∧ SqT K F p vs ∧ RepL K F vs ds := by
  cases s with
  | rep r => cases r with | tup e r => exact ⟨_, _, rfl, e, r⟩
  | obj e r =>
    unfold RepO at r
    split at r <;> first | (rename_i q; cases q) | exact r.elim
theorem See.int {i : Int} (s : See K F H v (.int i)) : v = .int i := by
  cases s with
  | rep r => cases r; rfl
  | obj e r => unfold RepO at r; split at r <;> first | (rename_i q; cases q) | exact r.elim
theorem See.str {i : Str} (s : See K F H v (.str i)) : v = .str i ∧ PyData.strOk i = true := by
  cases s with
  | rep r => cases r with | str _ h => exact ⟨rfl, h⟩
  | obj e r => unfold RepO at r; split at r <;> first | (rename_i q; cases q) | exact r.elim
theorem See.bl {i : Bool} (s : See K F H v (.bl i)) : v = .bl i := by
  cases s with
  | rep r => cases r; rfl
  | obj e r => unfold RepO at r; split at r <;> first | (rename_i q; cases q) | exact r.elim
theorem See.non (s : See K F H v .non) : v = .non := by
  cases s with
  | rep r => cases r; rfl
  | obj e r => unfold RepO at r; split at r <;> first | (rename_i q; cases q) | exact r.elim
theorem See.scr {ns : List Int} (s : See K F H v (.scr ns)) : ∃ p, v = .ref p ∧ SqL K F p (ns.map V.int) := by
  cases s with
  | rep r => cases r with | scr h => exact ⟨_, rfl, h⟩
  | obj e r => unfold RepO at r; split at r <;> first | (rename_i q; cases q) | exact r.elim
end

/-! ### ends of operations on values -/
abbrev Gives (K : PySem.W.Frag) (C : Ct) (F : Hp) (env : List Slot) (σ : L2.St) (H : Hp) (R : RV → Prop) (Q : VK) : Prop :=
  ∀ l F' v H', R l → Aft K C F env σ H F' env H' → RVOk K C F' env σ H H' v l → Q v H'
section
variable {K : PySem.W.Frag} {C : Ct} {F H : Hp} {env : List Slot} {σ : L2.St} {R : RV → Prop} {Q : VK}
theorem Gives.here (g : Gives K C F env σ H R Q) (h : Ok K C F env σ H) {v : V} {d : D} (r : R (.vl d)) (a : Rep K F v d) : Q v H := g _ F v H r h.aft a
theorem Gives.bl (g : Gives K C F env σ H R Q) (h : Ok K C F env σ H) {b : Bool} (r : R (.vl (.bl b))) : Q (.bl b) H := g.here h r (.bl b)
theorem Gives.int (g : Gives K C F env σ H R Q) (h : Ok K C F env σ H) {b : Int} (r : R (.vl (.int b))) : Q (.int b) H := g.here h r (.int b)
theorem Gives.str (g : Gives K C F env σ H R Q) (h : Ok K C F env σ H) {b : Str} (o : PyData.strOk b = true) (r : R (.vl (.str b))) : Q (.str b) H := g.here h r (.str b o)
theorem Gives.obj (g : Gives K C F env σ H R Q) (h : Ok K C F env σ H) {o : HO} {d : D} (r : R (.tm d)) (a : RepO K F o d) (p : Addr) (hp : H p = none) : Q (.ref p) (upd H p o) :=
  g _ F _ _ r (h.tmp hp o) ⟨p, o, rfl, upd_same, a, h.fnone hp, h.gnone hp, h.unowned hp, hp⟩
theorem Gives.lst (g : Gives K C F env σ H R Q) (h : Ok K C F env σ H) {vs : List V} {ds : List D} (r : R (.tm (.lst ds))) (a : RepL K F vs ds) (p : Addr) (hp : H p = none) : Q (.ref p) (upd H p (.lst vs)) := g.obj h (o := .lst vs) r a p hp
theorem Ok.lay (h : Ok K C F env σ H) {p : Addr} (hp : H p = none) (o : HO) : Aft K C F env σ H (upd F p o) env (upd H p o) where
  ok := (h.tmp hp o).ok.hold upd_same (h.fnone hp) (h.gnone hp) (h.unowned hp)
  ex := Ex.new (h.fnone hp)
  fr := (h.tmp hp o).fr
  nw := fun a n z _ => by rw [upd_ne (fun q => n (by rw [q]; exact hp))]; exact z
  al := (h.tmp hp o).al
  le := Sub.refl env
theorem Gives.tup (g : Gives K C F env σ H R Q) (h : Ok K C F env σ H) {vs : List V} {ds : List D} (r : R (.vl (.tup ds))) (a : RepL K F vs ds) (p : Addr) (hp : H p = none) : Q (.ref p) (upd H p (.tup vs)) :=
  g _ _ _ _ r (h.lay hp _) (Rep.tup (st_of upd_same) (RepL.mono (Ex.new (h.fnone hp)) a))
end
end DL

set_option Elab.async false
set_option linter.all false
set_option maxRecDepth 100000
set_option maxHeartbeats 4000000
set_option autoImplicit false
/-! DL2: rules of expressions over data. -/
namespace DL
open PySem L2 Evl

section
variable {X : Cx} {pos : Pos}
/-! ### names and constants -/
@[simp] def mC (d : D) : DM := fun env R => R (.vl d) env
@[simp] def mVar (i : Nat) : DM := fun env R => (match env[i]? with
  | some (.val _) => True
  | some (.own _ _) => True
  | _ => False) ∧ R (.sl i) env
theorem evd_var {K : PySem.W.Frag} (i : Nat) : EvD K (mVar i) (tVar i) := by
  intro C F env σ H R Q I h k
  obtain ⟨h1, h2⟩ := h
  have : ∃ v, σ[i]? = some (some v) := by
    split at h1
    · rename_i d e
      obtain ⟨v, q, _⟩ := I.vals i d e
      exact ⟨v, q⟩
    · rename_i b d e
      obtain ⟨p, o, q, _⟩ := I.owns i b d e
      exact ⟨_, q⟩
    · exact h1.elim
  obtain ⟨v, q⟩ := this
  exact ⟨v, q, k _ env F v H h2 I.aft q⟩
theorem dvar (i : Nat) {x : Str} (hN : X.N[i]? = some x := by rfl) (hv : Vis X.env.scope x := by first | exact Or.inl rfl | exact Or.inr (Or.inl rfl) | exact Or.inr (Or.inr rfl)) (hd : (x == ("__debug__" : Str)) = false := by decide)
    (hcd : (x == ("__classdict__" : Str)) = false := by decide) : DE X (.Name x pos) (mVar i) := ⟨_, pe_var hN hv hd hcd, evd_var i⟩
theorem evd_c {K : PySem.W.Frag} {v : V} {d : D} (r : ∀ F, Rep K F v d) : EvD K (mC d) (tC v) := fun C F env σ H R Q I h k => k _ env F v H h I.aft (r F)
theorem dint {i : Int} {j : Nat} : DE X (.Constant (.int i) j pos) (mC (.int i)) := ⟨_, pe_int, evd_c fun _ => .int i⟩
theorem dbl {b : Bool} {j : Nat} : DE X (.Constant (.bool b) j pos) (mC (.bl b)) := ⟨_, pe_bl, evd_c fun _ => .bl b⟩
theorem dnon {j : Nat} : DE X (.Constant .none j pos) (mC .non) := ⟨_, pe_non, evd_c fun _ => .non⟩
theorem dstr {x : Str} {j : Nat} (h : PyData.strOk x = true := by decide +kernel) : DE X (.Constant (.str x) j pos) (mC (.str x)) := ⟨_, pe_str, evd_c fun _ => .str x h⟩
theorem dglob {x : Str} {v : V} {u : Value} {d : D} (hg : Gl X x) (hm : X.mg x = some u) (r : RelV v u) (rep : ∀ F, Rep X.K F v d) (hd : (x == ("__debug__" : Str)) = false := by decide) : DE X (.Name x pos) (mC d) := ⟨_, pe_glob hg hm r hd, evd_c rep⟩
theorem dgint {x : Str} {u : Value} {i : Int} (hg : Gl X x) (hm : X.mg x = some u) (r : RelV (.int i) u) (hd : (x == ("__debug__" : Str)) = false := by decide) : DE X (.Name x pos) (mC (.int i)) := dglob hg hm r (fun _ => .int i) hd
theorem dgstr {x : Str} {u : Value} {i : Str} (hg : Gl X x) (hm : X.mg x = some u) (r : RelV (.str i) u) (h : PyData.strOk i = true) (hd : (x == ("__debug__" : Str)) = false := by decide) : DE X (.Name x pos) (mC (.str i)) := dglob hg hm r (fun _ => .str i h) hd

/-! ### two operands -/
def Op2 (K : PySem.W.Frag) (r : R2) (f : D → D → (RV → Prop) → Prop) : Prop := ∀ (C : Ct) (F : Hp) (env : List Slot) (σ : L2.St) (H : Hp) (v w : V) (d e : D) (R : RV → Prop) (Q : VK),
  Ok K C F env σ H → See K F H v d → See K F H w e → f d e R → Gives K C F env σ H R Q → r v w H Q
@[simp] def mOp2 (f : D → D → (RV → Prop) → Prop) (a b : DM) : DM := fun env R => a env fun x e1 => b e1 fun y e2 => x.con e2 fun d => y.con e2 fun e => f d e fun l => R l e2
theorem evd_op2 {K : PySem.W.Frag} {r : R2} {f : D → D → (RV → Prop) → Prop} {m1 m2 : DM} {ta tb : TE} (hf : Op2 K r f) (ha : EvD K m1 ta) (hb : EvD K m2 tb) : EvD K (mOp2 f m1 m2) (tOp r ta tb) := by
  intro C F env σ H R Q I h k
  refine ha C F env σ H _ _ I h ?_
  intro x e1 F1 v H1 h1 A1 r1
  refine hb C F1 e1 σ H1 _ _ A1.ok h1 ?_
  intro y e2 F2 w H2 h2 A2 r2
  obtain ⟨d, h3, s1⟩ := A2.ok.see (r1.on A2) h2
  obtain ⟨e, h4, s2⟩ := A2.ok.see r2 h3
  have A := A1.trans A2
  exact hf C F2 e2 σ H2 v w d e _ _ A2.ok s1 s2 h4 fun l F3 u H3 hl A3 r3 => k l e2 F3 u H3 hl (A.trans A3) (r3.from fun p => A.back)
theorem dop {op : Operator} {r : R2} {f : D → D → (RV → Prop) → Prop} {a b : Expr} {m1 m2 : DM} (ho : OpR X (binaryOp op) r) (hf : Op2 X.K r f) (ha : DE X a m1) (hb : DE X b m2) : DE X (.BinOp a op b pos) (mOp2 f m1 m2) := by
  obtain ⟨ta, pa, ea⟩ := ha
  obtain ⟨tb, pb, eb⟩ := hb
  exact ⟨_, pe_op ho pa pb, evd_op2 hf ea eb⟩
theorem dcmp {op : CmpOp} {r : R2} {f : D → D → (RV → Prop) → Prop} {a b : Expr} {m1 m2 : DM} (ho : OpR X (compareOp op) r) (hf : Op2 X.K r f) (ha : DE X a m1) (hb : DE X b m2) (hm : behindInMarks op b = false := by first | exact nomark _ | rfl | with_unfolding_all rfl) : DE X (.Compare a [op] [b] pos) (mOp2 f m1 m2) := by
  obtain ⟨ta, pa, ea⟩ := ha
  obtain ⟨tb, pb, eb⟩ := hb
  exact ⟨_, pe_cmpR ho pa pb hm, evd_op2 hf ea eb⟩
@[simp] def mB (a : DM) : DMB := fun env R => a env fun x e1 => x.con e1 fun d => match d with
  | .bl b => R b e1
  | _ => False
theorem evb_of {K : PySem.W.Frag} {m : DM} {t : TE} (h : EvD K m t) : EvB K (mB m) (tTest t) := by
  intro C F env σ H R Q I hm k
  refine h C F env σ H _ _ I hm ?_
  intro x e1 F1 v H1 h1 A1 r1
  obtain ⟨d, h3, s1⟩ := A1.ok.see r1 h1
  cases d with
  | bl b => exact ⟨b, s1.bl, k b e1 F1 H1 h3 A1⟩
  | _ => exact h3.elim
theorem dtcmp {op : CmpOp} {r : R2} {f : D → D → (RV → Prop) → Prop} {a b : Expr} {m1 m2 : DM} (ho : OpR X (compareOp op) r) (hf : Op2 X.K r f) (ha : DE X a m1) (hb : DE X b m2) (hm : behindInMarks op b = false := by first | exact nomark _ | rfl | with_unfolding_all rfl) : DT X (.Compare a [op] [b] pos) (mB (mOp2 f m1 m2)) := by
  obtain ⟨ta, pa, ea⟩ := ha
  obtain ⟨tb, pb, eb⟩ := hb
  exact ⟨_, pt_cmpR ho pa pb hm, evb_of (evd_op2 hf ea eb)⟩
@[simp] def mChain (f g : D → D → (RV → Prop) → Prop) (a b c : DM) : DM := fun env R => a env fun x e1 => b e1 fun y e2 => x.con e2 fun d => y.con e2 fun e => f d e fun l => l.con e2 fun z => match z with
  | .bl b => if b = true then c e2 fun w e3 => y.con e3 fun e' => w.con e3 fun u => g e' u fun l => R l e3 else R (.vl (.bl false)) e2
  | _ => False
theorem evd_chain {K : PySem.W.Frag} {r r' : R2} {f g : D → D → (RV → Prop) → Prop} {m1 m2 m3 : DM} {ta tb tc : TE} (hf : Op2 K r f) (hg : Op2 K r' g) (ha : EvD K m1 ta) (hb : EvD K m2 tb) (hc : EvD K m3 tc) : EvD K (mChain f g m1 m2 m3) (tChain r r' ta tb tc) := by
  intro C F env σ H R Q I h k
  refine ha C F env σ H _ _ I h ?_
  intro x e1 F1 v H1 h1 A1 r1
  refine hb C F1 e1 σ H1 _ _ A1.ok h1 ?_
  intro y e2 F2 w H2 h2 A2 r2
  obtain ⟨d, h3, s1⟩ := A2.ok.see (r1.on A2) h2
  obtain ⟨e, h4, s2⟩ := A2.ok.see r2 h3
  have A := A1.trans A2
  refine hf C F2 e2 σ H2 v w d e _ _ A2.ok s1 s2 h4 ?_
  intro l F3 u H3 hl A3 r3
  obtain ⟨z, h5, s3⟩ := A3.ok.see r3 hl
  cases z with
  | bl b =>
    refine ⟨b, s3.bl, ?_⟩
    cases b with
    | false =>
      rw [if_neg Bool.false_ne_true]
      exact k _ e2 F3 _ H3 h5 (A.trans A3) (Rep.bl false)
    | true =>
      rw [if_pos rfl]
      refine hc C F3 e2 σ H3 _ _ A3.ok h5 ?_
      intro w' e3 F4 v4 H4 h6 A4 r4
      have ry := (r2.on A3).on A4
      obtain ⟨e', h7, s4⟩ := A4.ok.see ry h6
      obtain ⟨u', h8, s5⟩ := A4.ok.see r4 h7
      have B := (A.trans A3).trans A4
      exact hg C F4 e3 σ H4 w v4 e' u' _ _ A4.ok s4 s5 h8 fun l F5 u5 H5 hl A5 r5 => k l e3 F5 u5 H5 hl (B.trans A5) (r5.from fun p => B.back)
  | _ => exact h5.elim
theorem dchain {op op' : CmpOp} {r r' : R2} {f g : D → D → (RV → Prop) → Prop} {a b c : Expr} {m1 m2 m3 : DM} (ho : OpR X (compareOp op) r) (hf : Op2 X.K r f) (ho' : OpR X (compareOp op') r') (hg : Op2 X.K r' g) (ha : DE X a m1) (hb : DE X b m2) (hc : DE X c m3)
    (hm : lastMarks [op, op'] [b, c] = false := by with_unfolding_all rfl) : DE X (.Compare a [op, op'] [b, c] pos) (mChain f g m1 m2 m3) := by
  obtain ⟨ta, pa, ea⟩ := ha
  obtain ⟨tb, pb, eb⟩ := hb
  obtain ⟨tc, pc, ec⟩ := hc
  exact ⟨_, pe_chain ho ho' pa pb pc hm, evd_chain hf hg ea eb ec⟩
theorem dtchain {op op' : CmpOp} {r r' : R2} {f g : D → D → (RV → Prop) → Prop} {a b c : Expr} {m1 m2 m3 : DM} (ho : OpR X (compareOp op) r) (hf : Op2 X.K r f) (ho' : OpR X (compareOp op') r') (hg : Op2 X.K r' g) (ha : DE X a m1) (hb : DE X b m2) (hc : DE X c m3)
    (hm : lastMarks [op, op'] [b, c] = false := by with_unfolding_all rfl) : DT X (.Compare a [op, op'] [b, c] pos) (mB (mChain f g m1 m2 m3)) := by
  obtain ⟨ta, pa, ea⟩ := ha
  obtain ⟨tb, pb, eb⟩ := hb
  obtain ⟨tc, pc, ec⟩ := hc
  exact ⟨_, pt_chain ho ho' pa pb pc hm, evb_of (evd_chain hf hg ea eb ec)⟩

/-! ### truth, and, or, not, if -/
@[simp] def aTru (d : D) (R : Bool → Prop) : Prop := match d with
  | .non => R false
  | .bl b => R b
  | .int i => R (i != 0)
  | .str s => s.length ≤ sizeLine ∧ R ((s.length : Int) != 0)
  | .lst xs => R (!xs.isEmpty)
  | .tup xs => R (!xs.isEmpty)
  | .dic ks => R (!ks.isEmpty)
  | .scr ns => R (!ns.isEmpty)
  | _ => False
@[simp] def mTru (a : DM) : DMB := fun env R => a env fun x e1 => x.con e1 fun d => aTru d fun b => R b e1
theorem RepL.isEmpty {K : PySem.W.Frag} {F : Hp} {vs : List V} {ds : List D} (r : RepL K F vs ds) : vs.isEmpty = ds.isEmpty := by cases r <;> rfl
theorem tru_of {K : PySem.W.Frag} {C : Ct} {F H : Hp} {env : List Slot} {σ : L2.St} {v : V} {d : D} {R : Bool → Prop} (I : Ok K C F env σ H) (s : See K F H v d) (h : aTru d R) : ∃ b, TruV K v H b ∧ R b := by
  cases d with
  | non => exact ⟨false, by rw [s.non]; rfl, h⟩
  | bl b => exact ⟨b, by rw [s.bl]; rfl, h⟩
  | int i => exact ⟨_, by rw [s.int]; rfl, h⟩
  | str x => exact ⟨_, by rw [s.str.1]; exact ⟨h.1, rfl⟩, h.2⟩
  | lst xs =>
    obtain ⟨p, vs, rfl, e, r⟩ := s.lst I.sub
    exact ⟨_, Or.inl ⟨vs, sq_of e, rfl⟩, by rw [r.isEmpty]; exact h⟩
  | tup xs =>
    obtain ⟨p, vs, rfl, e, r⟩ := s.tup
    exact ⟨_, Or.inr (Or.inl ⟨vs, ex_t I.sub e, rfl⟩), by rw [r.isEmpty]; exact h⟩
  | dic ks =>
    obtain ⟨p, kvs, rfl, e, k, r⟩ := s.dic I.sub
    refine ⟨_, Or.inr (Or.inr ⟨kvs, e, rfl⟩), ?_⟩
    have : kvs.isEmpty = ks.isEmpty := by
      have := congrArg List.length k
      simp at this
      cases kvs <;> cases ks <;> simp_all
    rw [this]; exact h
  | scr ns =>
    obtain ⟨p, rfl, e⟩ := s.scr
    refine ⟨_, Or.inl ⟨_, ex_l I.sub e, rfl⟩, ?_⟩
    cases ns <;> exact h
  | fn a => exact h.elim
  | obj C fs => exact h.elim
  | exc a dd fs => exact h.elim
theorem dtru {a : Expr} {m : DM} (h : DE X a m) (he : ∀ whole, isTrue a X.env whole = (do let v ← whole; standAt a.pos; holding [v] (truthy v)) := by intro _; rfl) : DT X a (mTru m) := by
  obtain ⟨t, p, ev⟩ := h
  refine ⟨_, pt_truth p he, ?_⟩
  intro C F env σ H R Q I hm k
  refine ev C F env σ H _ _ I hm ?_
  intro x e1 F1 v H1 h1 A1 r1
  obtain ⟨d, h3, s1⟩ := A1.ok.see r1 h1
  obtain ⟨b, h4, h5⟩ := tru_of A1.ok s1 h3
  exact ⟨b, h4, k b e1 F1 H1 h5 A1⟩
@[simp] def mAndT (a b : DMB) : DMB := fun env R => a env fun x e1 => if x = true then b e1 R else R false e1
@[simp] def mOrT (a b : DMB) : DMB := fun env R => a env fun x e1 => if x = true then R true e1 else b e1 R
@[simp] def mNotT (a : DMB) : DMB := fun env R => a env fun x e1 => R (!x) e1
theorem evb_and {K : PySem.W.Frag} {m1 m2 : DMB} {t u : TT} (ha : EvB K m1 t) (hb : EvB K m2 u) : EvB K (mAndT m1 m2) (tAnd t u) := by
  intro C F env σ H R Q I h k
  refine ha C F env σ H _ _ I h ?_
  intro b e1 F1 H1 h1 A1
  cases b with
  | false =>
    have h1' : R false e1 := by simpa using h1
    show (if false = true then u σ H1 Q else Q false H1)
    rw [if_neg Bool.false_ne_true]
    exact k false e1 F1 H1 h1' A1
  | true =>
    have h1' : m2 e1 R := by simpa using h1
    show (if true = true then u σ H1 Q else Q false H1)
    rw [if_pos rfl]
    exact hb C F1 e1 σ H1 _ _ A1.ok h1' fun b e2 F2 H2 h2 A2 => k b e2 F2 H2 h2 (A1.trans A2)
theorem evb_or {K : PySem.W.Frag} {m1 m2 : DMB} {t u : TT} (ha : EvB K m1 t) (hb : EvB K m2 u) : EvB K (mOrT m1 m2) (tOr t u) := by
  intro C F env σ H R Q I h k
  refine ha C F env σ H _ _ I h ?_
  intro b e1 F1 H1 h1 A1
  cases b with
  | true =>
    have h1' : R true e1 := by simpa using h1
    show (if true = true then Q true H1 else u σ H1 Q)
    rw [if_pos rfl]
    exact k true e1 F1 H1 h1' A1
  | false =>
    have h1' : m2 e1 R := by simpa using h1
    show (if false = true then Q true H1 else u σ H1 Q)
    rw [if_neg Bool.false_ne_true]
    exact hb C F1 e1 σ H1 _ _ A1.ok h1' fun b e2 F2 H2 h2 A2 => k b e2 F2 H2 h2 (A1.trans A2)
theorem dw_and1 {a : Expr} {m : DMB} (h : DT X a m) : DW X (.BoolOp .And [a] pos) m := by
  obtain ⟨t, p, e⟩ := h
  exact ⟨t, pw_and1 p, e⟩
theorem dw_or1 {a : Expr} {m : DMB} (h : DT X a m) : DW X (.BoolOp .Or [a] pos) m := by
  obtain ⟨t, p, e⟩ := h
  exact ⟨t, pw_or1 p, e⟩
theorem dw_and {a b : Expr} {rest : List Expr} {m1 m2 : DMB} (ha : DT X a m1) (hb : DW X (.BoolOp .And (b :: rest) pos) m2) : DW X (.BoolOp .And (a :: b :: rest) pos) (mAndT m1 m2) := by
  obtain ⟨t, p, e⟩ := ha
  obtain ⟨u, q, e2⟩ := hb
  exact ⟨_, pw_and p q, evb_and e e2⟩
theorem dw_or {a b : Expr} {rest : List Expr} {m1 m2 : DMB} (ha : DT X a m1) (hb : DW X (.BoolOp .Or (b :: rest) pos) m2) : DW X (.BoolOp .Or (a :: b :: rest) pos) (mOrT m1 m2) := by
  obtain ⟨t, p, e⟩ := ha
  obtain ⟨u, q, e2⟩ := hb
  exact ⟨_, pw_or p q, evb_or e e2⟩
theorem dtw {a : Expr} {m : DMB} (h : DW X a m) : DT X a m := by
  obtain ⟨t, p, e⟩ := h
  exact ⟨t, p.pt, e⟩
theorem dtnot {a : Expr} {m : DMB} (h : DT X a m) : DT X (.UnaryOp .Not a pos) (mNotT m) := by
  obtain ⟨t, p, e⟩ := h
  refine ⟨_, pt_not p, ?_⟩
  intro C F env σ H R Q I h k
  refine e C F env σ H _ _ I h ?_
  intro b e1 F1 H1 h1 A1
  exact k (!b) e1 F1 H1 h1 A1
@[simp] def mAndV (a b : DM) : DM := fun env R => a env fun x e1 => x.con e1 fun d => match d with
  | .bl c => if c = true then b e1 R else R (.vl (.bl false)) e1
  | _ => False
@[simp] def mOrV (a b : DM) : DM := fun env R => a env fun x e1 => x.con e1 fun d => match d with
  | .bl c => if c = true then R (.vl (.bl true)) e1 else b e1 R
  | _ => False
@[simp] def mNotV (a : DM) : DM := fun env R => a env fun x e1 => x.con e1 fun d => match d with
  | .bl b => R (.vl (.bl (!b))) e1
  | _ => False
theorem done1 {op : BoolOp} {a : Expr} {m : DM} (h : DE X a m) : DE X (.BoolOp op [a] pos) m := by
  obtain ⟨t, p, e⟩ := h
  exact ⟨t, pe_one p, e⟩
theorem dand {a b : Expr} {rest : List Expr} {m1 m2 : DM} (ha : DE X a m1) (hb : DE X (.BoolOp .And (b :: rest) pos) m2) : DE X (.BoolOp .And (a :: b :: rest) pos) (mAndV m1 m2) := by
  obtain ⟨t, p, ea⟩ := ha
  obtain ⟨u, q, eb⟩ := hb
  refine ⟨_, pe_and p q, ?_⟩
  intro C F env σ H R Q I h k
  refine ea C F env σ H _ _ I h ?_
  intro x e1 F1 v H1 h1 A1 r1
  obtain ⟨d, h3, s1⟩ := A1.ok.see r1 h1
  cases d with
  | bl b =>
    refine ⟨b, s1.bl, ?_⟩
    cases b with
    | true =>
      rw [if_pos rfl]
      exact eb C F1 e1 σ H1 _ _ A1.ok h3 fun l e2 F2 w H2 h2 A2 r2 => k l e2 F2 w H2 h2 (A1.trans A2) (r2.from fun p => A1.back)
    | false =>
      rw [if_neg Bool.false_ne_true]
      exact k _ e1 F1 _ H1 h3 A1 (Rep.bl false)
  | _ => exact h3.elim
theorem dor {a b : Expr} {rest : List Expr} {m1 m2 : DM} (ha : DE X a m1) (hb : DE X (.BoolOp .Or (b :: rest) pos) m2) : DE X (.BoolOp .Or (a :: b :: rest) pos) (mOrV m1 m2) := by
  obtain ⟨t, p, ea⟩ := ha
  obtain ⟨u, q, eb⟩ := hb
  refine ⟨_, pe_or p q, ?_⟩
  intro C F env σ H R Q I h k
  refine ea C F env σ H _ _ I h ?_
  intro x e1 F1 v H1 h1 A1 r1
  obtain ⟨d, h3, s1⟩ := A1.ok.see r1 h1
  cases d with
  | bl b =>
    refine ⟨b, s1.bl, ?_⟩
    cases b with
    | false =>
      rw [if_neg Bool.false_ne_true]
      exact eb C F1 e1 σ H1 _ _ A1.ok h3 fun l e2 F2 w H2 h2 A2 r2 => k l e2 F2 w H2 h2 (A1.trans A2) (r2.from fun p => A1.back)
    | true =>
      rw [if_pos rfl]
      exact k _ e1 F1 _ H1 h3 A1 (Rep.bl true)
  | _ => exact h3.elim
theorem dnot {a : Expr} {m : DM} (ha : DE X a m) : DE X (.UnaryOp .Not a pos) (mNotV m) := by
  obtain ⟨t, p, ea⟩ := ha
  refine ⟨_, pe_not p, ?_⟩
  intro C F env σ H R Q I h k
  refine ea C F env σ H _ _ I h ?_
  intro x e1 F1 v H1 h1 A1 r1
  obtain ⟨d, h3, s1⟩ := A1.ok.see r1 h1
  cases d with
  | bl b => exact ⟨b, s1.bl, k _ e1 F1 _ H1 h3 A1 (Rep.bl _)⟩
  | _ => exact h3.elim
@[simp] def mIf (t : DMB) (a b : DM) : DM := fun env R => t env fun x e1 => if x = true then a e1 R else b e1 R
theorem dif {c a b : Expr} {t : DMB} {m1 m2 : DM} (hc : DT X c t) (ha : DE X a m1) (hb : DE X b m2) : DE X (.IfExp c a b pos) (mIf t m1 m2) := by
  obtain ⟨tc, pc, ec⟩ := hc
  obtain ⟨ta, pa, ea⟩ := ha
  obtain ⟨tb, pb, eb⟩ := hb
  refine ⟨_, pe_ifExp pc pa pb, ?_⟩
  intro C F env σ H R Q I h k
  refine ec C F env σ H _ _ I h ?_
  intro b e1 F1 H1 h1 A1
  cases b with
  | true =>
    have h1' : m1 e1 R := by simpa using h1
    show (if true = true then ta σ H1 Q else tb σ H1 Q)
    rw [if_pos rfl]
    exact ea C F1 e1 σ H1 _ _ A1.ok h1' fun l e2 F2 w H2 h2 A2 r2 => k l e2 F2 w H2 h2 (A1.trans A2) (r2.from fun p => A1.back)
  | false =>
    have h1' : m2 e1 R := by simpa using h1
    show (if false = true then ta σ H1 Q else tb σ H1 Q)
    rw [if_neg Bool.false_ne_true]
    exact eb C F1 e1 σ H1 _ _ A1.ok h1' fun l e2 F2 w H2 h2 A2 r2 => k l e2 F2 w H2 h2 (A1.trans A2) (r2.from fun p => A1.back)

/-! ### arguments, displays -/
@[simp] def mNil : DML := fun env R => R [] env
@[simp] def mCons (a : DM) (r : DML) : DML := fun env R => a env fun x e1 => x.get e1 fun d => r e1 fun ds e2 => R (d :: ds) e2
theorem dl_nil : DL X [] mNil := ⟨_, pa_nil, fun C F env σ H R Q I h k => k [] env F [] H h I.aft .nil⟩
theorem dl_cons {e : Expr} {es : List Expr} {m : DM} {ml : DML} (h : DE X e m) (hr : DL X es ml) (hs : starEach (e :: es) X.env = (false, eval e X.env) :: starEach es X.env := by rfl) : DL X (e :: es) (mCons m ml) := by
  obtain ⟨t, p, ev⟩ := h
  obtain ⟨u, q, er⟩ := hr
  refine ⟨_, pa_cons p q hs, ?_⟩
  intro C F env σ H R Q I h k
  refine ev C F env σ H _ _ I h ?_
  intro x e1 F1 v H1 h1 A1 r1
  obtain ⟨F2, d, h2, A2, ex, rp⟩ := A1.keepIt r1 h1
  refine er C F2 e1 σ H1 _ _ A2.ok h2 ?_
  intro ds e3 F3 vs H3 h3 A3 r3
  exact k (d :: ds) e3 F3 (v :: vs) H3 h3 (A2.trans A3) (.cons (rp.mono A3.ex) r3)
@[simp] def mTup (a : DML) : DM := fun env R => a env fun ds e1 => ds.length ≤ 100000 ∧ R (.vl (.tup ds)) e1
@[simp] def mLst (a : DML) : DM := fun env R => a env fun ds e1 => ds.length ≤ 100000 ∧ R (.tm (.lst ds)) e1
theorem dtup {es : List Expr} {x1 : _} {ml : DML} (h : DL X es ml) : DE X (.Tuple es x1 pos) (mTup ml) := by
  obtain ⟨t, p, ev⟩ := h
  refine ⟨_, pe_tup p, ?_⟩
  intro C F env σ H R Q I h k
  refine ev C F env σ H _ _ I h ?_
  intro ds e1 F1 vs H1 h1 A1 r1
  refine ⟨by rw [r1.length]; exact sz_of h1.1, fun q hq => ?_⟩
  have B := A1.ok.lay hq (.tup vs)
  exact k _ e1 _ _ _ h1.2 (A1.trans B) (Rep.tup (st_of upd_same) (r1.mono B.ex))
theorem dlst {es : List Expr} {ml : DML} (h : DL X es ml) : DE X (.List es pos) (mLst ml) := by
  obtain ⟨t, p, ev⟩ := h
  refine ⟨_, pe_lst p, ?_⟩
  intro C F env σ H R Q I h k
  refine ev C F env σ H _ _ I h ?_
  intro ds e1 F1 vs H1 h1 A1 r1
  refine ⟨by rw [r1.length]; exact sz_of h1.1, fun q hq => ?_⟩
  have g : Gives X.K C F1 e1 σ H1 (fun l => R l e1) Q := fun l F3 u H3 hl A3 r3 => k l e1 F3 u H3 hl (A1.trans A3) (r3.from fun p => A1.back)
  exact g.lst A1.ok h1.2 r1 q hq
end
end DL

set_option Elab.async false
set_option linter.all false
set_option maxRecDepth 100000
set_option maxHeartbeats 4000000
set_option autoImplicit false
/-! DL3: statements over data; a def's promise; calls. -/
namespace DL
open PySem L2 Evl

/-! ### statements -/
structure Post where
  nx : List Slot → Prop
  rt : RV → List Slot → Prop
  bk : List Slot → Prop := fun _ => False
  ct : List Slot → Prop := fun _ => False
  r2 : RV → RV → List Slot → Prop := fun _ _ _ => False
  ex : Nat → List (Str × D) → List Slot → Prop := fun _ _ _ => False
def RetOk (K : PySem.W.Frag) (C : Ct) (F H : Hp) (v : V) : RV → Prop
  | .vl d => Rep K F v d
  | .tm d => ∃ p o, v = .ref p ∧ H p = some o ∧ RepO K F o d ∧ F p = none ∧ C.G p = none
  | .sl _ => False
def Ret2 (K : PySem.W.Frag) (C : Ct) (F H : Hp) (v : V) (x y : RV) : Prop := ∃ T u w, v = .ref T ∧ SqT K H T [u, w] ∧ RetOk K C F H u x ∧ RetOk K C F H w y ∧ ((∃ d, x = .tm d) → (∃ d, y = .tm d) → u ≠ w)
structure Conn (K : PySem.W.Frag) (C : Ct) (D : Ends) (P : Post) : Prop where
  nx : ∀ F env σ H, Ok K C F env σ H → P.nx env → D.nx σ H
  bk : ∀ F env σ H, Ok K C F env σ H → P.bk env → D.bk σ H
  ct : ∀ F env σ H, Ok K C F env σ H → P.ct env → D.ct σ H
  rt : ∀ F env σ H v r, Ok K C F env σ H → RetOk K C F H v r → P.rt r env → D.rt v H
  r2 : ∀ F env σ H v x y, Ok K C F env σ H → Ret2 K C F H v x y → P.r2 x y env → D.rt v H
abbrev DStm := Post → List Slot → Prop
def EvS (K : PySem.W.Frag) (m : DStm) (t : TS) : Prop := ∀ C F env σ H D P, Ok K C F env σ H → m P env → Conn K C D P → t D σ H
def DS (X : Cx) (st : Stmt) (m : DStm) : Prop := ∃ t, PS X st t ∧ EvS X.K m t
def DB (X : Cx) (sts : List Stmt) (m : DStm) : Prop := ∃ t, PSs X sts t ∧ EvS X.K m t

section
variable {K : PySem.W.Frag} {C : Ct} {F F' H H' : Hp} {env env' : List Slot} {σ : L2.St} {v : V} {d : D} {j : Nat}
@[simp] def Pl : Slot → Prop
  | .own true _ => False
  | _ => True
@[simp] def Free (env : List Slot) (j : Nat) : Prop := match env[j]? with
  | some s => Pl s
  | none => False
theorem Free.pins {i : Nat} {s : Slot} (f : Free env j) (h : ∃ d, env[i]? = some (.own true d)) : ∃ d, (env.set j s)[i]? = some (.own true d) := by
  obtain ⟨d, e⟩ := h
  refine ⟨d, ?_⟩
  rw [List.getElem?_set_ne]
  · exact e
  · rintro rfl
    unfold Free at f
    rw [e] at f
    exact f
theorem Ok.setVal (h : Ok K C F env σ H) (f : Free env j) (r : Rep K F v d) : Ok K C F (env.set j (.val d)) (σ.set j (some v)) H where
  len := by rw [List.length_set, List.length_set]; exact h.len
  sub := h.sub
  keep := h.keep
  all := h.all
  new := h.new
  bas := h.bas
  vals := fun i d' e => by
    by_cases q : j = i
    · subst q
      have hj : j < env.length := by
        rcases Nat.lt_or_ge j env.length with z | z
        · exact z
        · rw [List.getElem?_eq_none (by simpa using z)] at e; cases e
      rw [List.getElem?_set_self hj] at e
      cases e
      exact ⟨v, by rw [List.getElem?_set_self (by rw [h.len]; exact hj)], r⟩
    · rw [List.getElem?_set_ne q] at e ⊢
      exact h.vals i d' e
  owns := fun i b d' e => by
    by_cases q : j = i
    · subst q
      have hj : j < env.length := by
        rcases Nat.lt_or_ge j env.length with z | z
        · exact z
        · rw [List.getElem?_eq_none (by simpa using z)] at e; cases e
      rw [List.getElem?_set_self hj] at e
      cases e
    · rw [List.getElem?_set_ne q] at e ⊢
      exact h.owns i b d' e
  sep := fun i k p ⟨b, d1, e1, s1⟩ ⟨b2, d2, e2, s2⟩ => by
    have hne : ∀ (i : Nat) (b : Bool) (d1 : D), (env.set j (.val d))[i]? = some (.own b d1) → j ≠ i := fun i b d1 e q => by
      subst q
      rw [List.getElem?_set] at e
      split at e
      · split at e <;> cases e
      · exact absurd rfl ‹¬ _›
    have q1 := hne _ _ _ e1
    have q2 := hne _ _ _ e2
    rw [List.getElem?_set_ne q1] at e1 s1
    rw [List.getElem?_set_ne q2] at e2 s2
    exact h.sep i k p ⟨b, d1, e1, s1⟩ ⟨b2, d2, e2, s2⟩
  pins := fun i q => Free.pins f (h.pins i q)
theorem Ok.setOwn {p : Addr} {o : HO} (h : Ok K C F env σ H) (f : Free env j) (ho : H p = some o) (r : RepO K F o d) (hF : F p = none) (hG : C.G p = none) (hn : ∀ i, ¬ Owns env σ i p) : Ok K C F (env.set j (.own false d)) (σ.set j (some (.ref p))) H where
  len := by rw [List.length_set, List.length_set]; exact h.len
  sub := h.sub
  keep := h.keep
  all := h.all
  new := h.new
  bas := h.bas
  vals := fun i d' e => by
    by_cases q : j = i
    · subst q
      rw [List.getElem?_set] at e
      split at e
      · split at e <;> cases e
      · exact absurd rfl ‹¬ _›
    · rw [List.getElem?_set_ne q] at e ⊢
      exact h.vals i d' e
  owns := fun i b d' e => by
    by_cases q : j = i
    · subst q
      have hj : j < env.length := by
        rcases Nat.lt_or_ge j env.length with z | z
        · exact z
        · rw [List.getElem?_eq_none (by simpa using z)] at e; cases e
      rw [List.getElem?_set_self hj] at e
      cases e
      exact ⟨p, o, by rw [List.getElem?_set_self (by rw [h.len]; exact hj)], ho, r, hF, fun _ => hG, fun z => by cases z⟩
    · rw [List.getElem?_set_ne q] at e ⊢
      exact h.owns i b d' e
  sep := fun i k q ⟨b, d1, e1, s1⟩ ⟨b2, d2, e2, s2⟩ => by
    by_cases q1 : j = i
    · by_cases q2 : j = k
      · rw [← q1, ← q2]
      · subst q1
        rw [List.getElem?_set_ne q2] at e2 s2
        have : q = p := by
          rw [List.getElem?_set] at s1
          split at s1
          · split at s1
            · cases s1; rfl
            · cases s1
          · exact absurd rfl ‹¬ _›
        subst this
        exact absurd ⟨b2, d2, e2, s2⟩ (hn k)
    · rw [List.getElem?_set_ne q1] at e1 s1
      by_cases q2 : j = k
      · subst q2
        have : q = p := by
          rw [List.getElem?_set] at s2
          split at s2
          · split at s2
            · cases s2; rfl
            · cases s2
          · exact absurd rfl ‹¬ _›
        subst this
        exact absurd ⟨b, d1, e1, s1⟩ (hn i)
      · rw [List.getElem?_set_ne q2] at e2 s2
        exact h.sep i k q ⟨b, d1, e1, s1⟩ ⟨b2, d2, e2, s2⟩
  pins := fun i q => Free.pins f (h.pins i q)
theorem Ok.change {b : Bool} {p : Addr} {o : HO} {d0 : D} (h : Ok K C F env σ H) (e : env[j]? = some (.own b d0)) (s : σ[j]? = some (some (.ref p))) (r : RepO K F o d) : Ok K C F (env.set j (.own b d)) σ (upd H p o) := by
  obtain ⟨p', o', h1, h2, h3, h4, h5, h6⟩ := h.owns j b d0 e
  rw [s] at h1; cases h1
  have hj : j < env.length := by
    rcases Nat.lt_or_ge j env.length with z | z
    · exact z
    · rw [List.getElem?_eq_none (by simpa using z)] at e; cases e
  have ow : ∀ i q, Owns (env.set j (.own b d)) σ i q → Owns env σ i q := fun i q ⟨b1, d1, e1, s1⟩ => by
    by_cases z : j = i
    · subst z
      rw [List.getElem?_set_self hj] at e1; cases e1
      exact ⟨b, d0, e, s1⟩
    · rw [List.getElem?_set_ne z] at e1
      exact ⟨b1, d1, e1, s1⟩
  exact {
    len := by rw [List.length_set]; exact h.len
    sub := fun a u q => by rw [upd_ne (ne_of_none q h4)]; exact h.sub a u q
    keep := fun a u q n => by
      rw [upd_ne]
      · exact h.keep a u q n
      · rintro rfl
        cases b with
        | true => exact n (h6 rfl).2.1
        | false => rw [h5 rfl] at q; cases q
    all := fun a q => by
      by_cases z : a = p
      · subst z; rw [upd_same]; exact fun w => nomatch w
      · rw [upd_ne z]; exact h.all a q
    new := h.new
    bas := h.bas
    vals := fun i d' q => by
      by_cases z : j = i
      · subst z; rw [List.getElem?_set_self hj] at q; cases q
      · rw [List.getElem?_set_ne z] at q; exact h.vals i d' q
    owns := fun i b' d' q => by
      by_cases z : j = i
      · subst z
        rw [List.getElem?_set_self hj] at q; cases q
        exact ⟨p, o, s, upd_same, r, h4, h5, h6⟩
      · rw [List.getElem?_set_ne z] at q
        obtain ⟨p2, o2, g1, g2, g3⟩ := h.owns i b' d' q
        refine ⟨p2, o2, g1, ?_, g3⟩
        rw [upd_ne]
        · exact g2
        · rintro rfl
          exact z (h.sep j i _ ⟨b, d0, e, s⟩ ⟨b', d', q, g1⟩)
    sep := fun i k q h1 h2 => h.sep i k q (ow i q h1) (ow k q h2)
    pins := fun i q => by
      obtain ⟨d', e'⟩ := h.pins i q
      by_cases z : j = i
      · subst z
        rw [e] at e'; cases e'
        exact ⟨d, by rw [List.getElem?_set_self hj]⟩
      · exact ⟨d', by rw [List.getElem?_set_ne z]; exact e'⟩ }
@[simp] def freeze (env : List Slot) (i : Nat) : List Slot := match env[i]? with
  | some (.own false d) => env.set i (.val d)
  | _ => env
theorem Ok.freeze (h : Ok K C F env σ H) (i : Nat) : ∃ F', Ex F F' ∧ Ok K C F' (freeze env i) σ H := by
  unfold DL.freeze
  split
  · rename_i d e
    obtain ⟨p, o, h1, h2, h3, h4, h5, h6⟩ := h.owns i false d e
    have hj : i < env.length := by
      rcases Nat.lt_or_ge i env.length with z | z
      · exact z
      · rw [List.getElem?_eq_none (by simpa using z)] at e; cases e
    have ne : ∀ (k : Nat) (b : Bool) (d1 : D), (env.set i (.val d))[k]? = some (.own b d1) → i ≠ k ∧ env[k]? = some (.own b d1) := fun k b d1 q => by
      by_cases z : i = k
      · subst z; rw [List.getElem?_set_self hj] at q; cases q
      · rw [List.getElem?_set_ne z] at q; exact ⟨z, q⟩
    have ow : ∀ k q, Owns (env.set i (.val d)) σ k q → i ≠ k ∧ Owns env σ k q := fun k q ⟨b1, d1, e1, s1⟩ => ⟨(ne k b1 d1 e1).1, b1, d1, (ne k b1 d1 e1).2, s1⟩
    refine ⟨upd F p o, Ex.new h4, ?_⟩
    exact {
      len := by rw [List.length_set]; exact h.len
      sub := fun a u q => by
        by_cases z : a = p
        · subst z; rw [upd_same] at q; cases q; exact h2
        · rw [upd_ne z] at q; exact h.sub a u q
      keep := h.keep
      all := h.all
      new := fun a q z => by
        by_cases w : a = p
        · subst w; exact absurd (h5 rfl) q
        · rw [upd_ne w]; exact h.new a q z
      bas := fun a u q => by rw [upd_ne (ne_of_none (h.bas a u q) h4)]; exact h.bas a u q
      vals := fun k d' q => by
        by_cases z : i = k
        · subst z
          rw [List.getElem?_set_self hj] at q; cases q
          exact ⟨_, h1, (h3.mono (Ex.new h4)).rep upd_same⟩
        · rw [List.getElem?_set_ne z] at q
          obtain ⟨v, g1, g2⟩ := h.vals k d' q
          exact ⟨v, g1, g2.mono (Ex.new h4)⟩
      owns := fun k b d' q => by
        obtain ⟨z, q'⟩ := ne k b d' q
        obtain ⟨p2, o2, g1, g2, g3, g4, g5⟩ := h.owns k b d' q'
        refine ⟨p2, o2, g1, g2, g3.mono (Ex.new h4), ?_, g5⟩
        rw [upd_ne]
        · exact g4
        · rintro rfl
          exact z (h.sep i k _ ⟨false, d, e, h1⟩ ⟨b, d', q', g1⟩)
      sep := fun a k q g1 g2 => h.sep a k q (ow a q g1).2 (ow k q g2).2
      pins := fun k q => by
        obtain ⟨d', e'⟩ := h.pins k q
        refine ⟨d', ?_⟩
        rw [List.getElem?_set_ne]
        · exact e'
        · rintro rfl
          rw [e] at e'; cases e' }
  · exact ⟨F, Ex.refl F, h⟩
end

section
variable {X : Cx} {pos : Pos}
@[simp] def mSkip : DStm := fun P env => P.nx env
@[simp] def mSeq (a b : DStm) : DStm := fun P env => a { P with nx := b P } env
@[simp] def mNever : DStm := fun _ _ => False
@[simp] def mBreak : DStm := fun P env => P.bk env
@[simp] def mCont : DStm := fun P env => P.ct env
@[simp] def mDrop (a : DM) : DStm := fun P env => a env fun _ e => P.nx e
@[simp] def mIfS (t : DMB) (a b : DStm) : DStm := fun P env => t env fun x e => if x = true then a P e else b P e
@[simp] def mSet (j : Nat) (a : DM) : DStm := fun P env => a env fun x e => x.get e fun d => Free e j ∧ P.nx (e.set j (.val d))
@[simp] def mSetO (j : Nat) (a : DM) : DStm := fun P env => a env fun x e => match x with
  | .tm d => Free e j ∧ P.nx (e.set j (.own false d))
  | _ => False
@[simp] def mRet (a : DM) : DStm := fun P env => a env fun x e => match x with
  | .vl d => P.rt (.vl d) e
  | .tm d => P.rt (.tm d) e
  | .sl i => match e[i]? with
    | some (.val d) => P.rt (.vl d) e
    | some (.own false d) => P.rt (.tm d) e
    | _ => False
@[simp] def mRetN : DStm := fun P env => P.rt (.vl .non) env
@[simp] def mFrz (i : Nat) (a : DStm) : DStm := fun P env => a P (freeze env i)
theorem db_nil : DB X [] mSkip := ⟨_, pss_nil, fun C F env σ H D P I h k => k.nx F env σ H I h⟩
theorem db_cons {st : Stmt} {rest : List Stmt} {a b : DStm} (ha : DS X st a) (hb : DB X rest b) : DB X (st :: rest) (mSeq a b) := by
  obtain ⟨t, p, ea⟩ := ha
  obtain ⟨u, q, eb⟩ := hb
  refine ⟨_, pss_cons p q, ?_⟩
  intro C F env σ H D P I h k
  exact ea C F env σ H { D with nx := u D } { P with nx := b P } I h ⟨fun F env σ H I h => eb C F env σ H D P I h k, k.bk, k.ct, k.rt, k.r2⟩
theorem db_one {st : Stmt} {a : DStm} (ha : DS X st a) : DB X [st] a := by
  obtain ⟨t, p, ea⟩ := ha
  exact ⟨_, pss_one p, ea⟩
theorem ds_never {st : Stmt} : DS X st mNever := ⟨_, ps_never, fun _ _ _ _ _ _ _ _ h _ => h.elim⟩
theorem ds_pass : DS X (.Pass pos) mSkip := ⟨_, ps_pass, fun C F env σ H D P I h k => k.nx F env σ H I h⟩
theorem ds_break : DS X (.Break pos) mBreak := ⟨_, ps_break, fun C F env σ H D P I h k => k.bk F env σ H I h⟩
theorem ds_cont : DS X (.Continue pos) mCont := ⟨_, ps_continue, fun C F env σ H D P I h k => k.ct F env σ H I h⟩
theorem ds_frz (i : Nat) {st : Stmt} {a : DStm} (ha : DS X st a) : DS X st (mFrz i a) := by
  obtain ⟨t, p, ea⟩ := ha
  refine ⟨t, p, ?_⟩
  intro C F env σ H D P I h k
  obtain ⟨F', _, I'⟩ := I.freeze i
  exact ea C F' _ σ H D P I' h k
theorem ds_expr {e : Expr} {m : DM} (h : DE X e m) (hs : swapsWith e none pos.line X.env = pure false := by rfl) : DS X (.Expr e pos) (mDrop m) := by
  obtain ⟨t, p, ev⟩ := h
  refine ⟨_, ps_expr p hs, ?_⟩
  intro C F env σ H D P I h k
  exact ev C F env σ H _ _ I h fun l e1 F1 v H1 h1 A1 r1 => k.nx F1 e1 σ H1 A1.ok h1
theorem ds_if {c : Expr} {a b : List Stmt} {t : DMB} {m1 m2 : DStm} (hc : DT X c t) (ha : DB X a m1) (hb : DB X b m2) : DS X (.If c a b pos) (mIfS t m1 m2) := by
  obtain ⟨tc, pc, ec⟩ := hc
  obtain ⟨ta, pa, ea⟩ := ha
  obtain ⟨tb, pb, eb⟩ := hb
  refine ⟨_, ps_if pc pa pb, ?_⟩
  intro C F env σ H D P I h k
  refine ec C F env σ H _ _ I h ?_
  intro x e1 F1 H1 h1 A1
  cases x with
  | true =>
    have h1' : m1 P e1 := by simpa using h1
    show (if true = true then ta D σ H1 else tb D σ H1)
    rw [if_pos rfl]
    exact ea C F1 e1 σ H1 D P A1.ok h1' k
  | false =>
    have h1' : m2 P e1 := by simpa using h1
    show (if false = true then ta D σ H1 else tb D σ H1)
    rw [if_neg Bool.false_ne_true]
    exact eb C F1 e1 σ H1 D P A1.ok h1' k
theorem evs_set {K : PySem.W.Frag} {j : Nat} {m : DM} {t : TE} (ev : EvD K m t) : EvS K (mSet j m) (tAsg t (gName j)) := by
  intro C F env σ H D P I h k
  refine ev C F env σ H _ _ I h ?_
  intro l e1 F1 v H1 h1 A1 r1
  obtain ⟨F2, d, h2, A2, ex, rp⟩ := A1.keepIt r1 h1
  exact k.nx F2 _ _ H1 (A2.ok.setVal h2.1 rp) h2.2
theorem evs_setO {K : PySem.W.Frag} {j : Nat} {m : DM} {t : TE} (ev : EvD K m t) : EvS K (mSetO j m) (tAsg t (gName j)) := by
  intro C F env σ H D P I h k
  refine ev C F env σ H _ _ I h ?_
  intro l e1 F1 v H1 h1 A1 r1
  cases l with
  | tm d =>
    obtain ⟨p, o, rfl, g1, g2, g3, g4, g5, g6⟩ := r1
    exact k.nx F1 _ _ H1 (A1.ok.setOwn h1.1 g1 g2 g3 g4 g5) h1.2
  | _ => exact h1.elim
theorem ds_set {j : Nat} {x : Str} {e : Expr} {m : DM} {pos' : Pos} (hN : X.N.Nodup) (hi : X.N[j]? = some x) (hx : Loc X.env.scope x) (h : DE X e m) (hs : swapsWith e (some (.Name x pos')) pos.line X.env = pure false := by rfl) (hf : X.fn x = true ∨ X.env.scope.names.lookup x = some .local := by first | exact .inl rfl | exact .inr rfl | assumption) :
    DS X (.Assign [.Name x pos'] e pos) (mSet j m) := by
  obtain ⟨t, p, ev⟩ := h
  exact ⟨_, ps_set hN hi hx p hs hf, evs_set ev⟩
theorem ds_setO {j : Nat} {x : Str} {e : Expr} {m : DM} {pos' : Pos} (hN : X.N.Nodup) (hi : X.N[j]? = some x) (hx : Loc X.env.scope x) (h : DE X e m) (hs : swapsWith e (some (.Name x pos')) pos.line X.env = pure false := by rfl) (hf : X.fn x = true ∨ X.env.scope.names.lookup x = some .local := by first | exact .inl rfl | exact .inr rfl | assumption) :
    DS X (.Assign [.Name x pos'] e pos) (mSetO j m) := by
  obtain ⟨t, p, ev⟩ := h
  exact ⟨_, ps_set hN hi hx p hs hf, evs_setO ev⟩
theorem ds_ret {e : Expr} {m : DM} (h : DE X e m) : DS X (.Return (some e) pos) (mRet m) := by
  obtain ⟨t, p, ev⟩ := h
  refine ⟨_, ps_ret p, ?_⟩
  intro C F env σ H D P I h k
  refine ev C F env σ H _ _ I h ?_
  intro l e1 F1 v H1 h1 A1 r1
  cases l with
  | vl d => exact k.rt F1 e1 σ H1 v (.vl d) A1.ok r1 h1
  | tm d =>
    obtain ⟨p, o, g0, g1, g2, g3, g4, g5, g6⟩ := r1
    exact k.rt F1 e1 σ H1 v (.tm d) A1.ok ⟨p, o, g0, g1, g2, g3, g4⟩ h1
  | sl i =>
    have h1' : (match e1[i]? with | some (.val d) => P.rt (.vl d) e1 | some (.own false d) => P.rt (.tm d) e1 | _ => False) := h1
    have r1' : σ[i]? = some (some v) := r1
    split at h1'
    · rename_i d e
      obtain ⟨w, q1, q2⟩ := A1.ok.vals i d e
      rw [r1'] at q1; cases q1
      exact k.rt F1 e1 σ H1 v (.vl d) A1.ok q2 h1'
    · rename_i d e
      obtain ⟨q, o, q1, q2, q3, q4, q5, _⟩ := A1.ok.owns i false d e
      rw [r1'] at q1; cases q1
      exact k.rt F1 e1 σ H1 _ (.tm d) A1.ok ⟨q, o, rfl, q2, q3, q4, q5 rfl⟩ h1'
    · exact h1'.elim
theorem ds_retN : DS X (.Return none pos) mRetN := ⟨_, ps_retN, fun C F env σ H D P I h k => k.rt F env σ H .non (.vl .non) I Rep.non h⟩
end
end DL

set_option Elab.async false
set_option linter.all false
set_option maxRecDepth 100000
set_option maxHeartbeats 4000000
set_option autoImplicit false
/-! DL4: what a def promises over data; its calls; the law's own call. Where no guard of repr runs is carried along. -/
namespace DL
open PySem PySem.Spec L2 Evl PyProof.Rows

structure FnG (P : Program) (w : World) (K : PySem.W.Frag) (mg : Str → Option Value) (base : Heap) (CX : CXT) (k : Nat) (f : Addr) (fd : FuncData) (ps : List Str) (sp : Sp) : Prop where
  len : ∀ vs H Q E, sp vs H Q E → vs.length = ps.length
  run : ∀ (A : Around) (outer : List PySem.Env) (s : Shared) (H : Hp) (args : Args) (us : List Value) (vs : List V) (Q : VK) (E : XK), A.guards = some [] → Room k A → Env0 P w K mg base A outer s H →
    BindsTo s fd args (ps.zip us) → Vals vs us → sp vs H Q E → codeAny (model P w) A (.call (.ref f) args) (CR CX outer P w H s Q E) s
theorem FnG.imp {P : Program} {w : World} {K : PySem.W.Frag} {mg : Str → Option Value} {base : Heap} {CX : CXT} {k : Nat} {f : Addr} {fd : FuncData} {ps : List Str} {sp sp' : Sp} (F : FnG P w K mg base CX k f fd ps sp)
    (h : ∀ vs H Q E, sp' vs H Q E → sp vs H Q E) : FnG P w K mg base CX k f fd ps sp' :=
  ⟨fun vs H Q E q => F.len vs H Q E (h _ _ _ _ q), fun A outer s H args us vs Q E hg hr he hb hv hs => F.run A outer s H args us vs Q E hg hr he hb hv (h _ _ _ _ hs)⟩

theorem fnG_of {CX : CXT} {P : Program} {w : World} {K : PySem.W.Frag} {mg : Str → Option Value} {base : Heap} {k : Nat} {f : Addr} {name qual : Str} {params : Arguments} {body : List Stmt} {scope : Scope} {dV kV doc pm cdv ct oc : Value} {an od : Option Addr}
    {osl : Array (Option Value)} {N ps : List Str} {sp : Sp} (lk : K.lookup f = some ⟨oc, od, .func (PySem.W.fnOf name qual params body scope dV kV doc pm an cdv ct), osl⟩) (hcd : PySem.W.codeIn K cdv qual = true) (S : FnScope N ps scope)
    (len : ∀ vs H Q E, sp vs H Q E → vs.length = ps.length)
    (hbody : ∀ (A : Around) (outer : List PySem.Env) (s : Shared) (H : Hp) (vs : List V) (Q : VK) (E : XK), A.guards = some [] → Room k (A.deeper (envOfC qual scope s.heap.objs.size f cdv)) → sp vs H Q E →
      ∃ t, PSs (cxOf CX P w K mg base N qual scope f cdv A outer s H E) body t ∧ t { nx := fun _ H' => Q .non H', rt := Q } (L2.start N vs) H) :
    FnG P w K mg base CX (k + 1) f (PySem.W.fnOf name qual params body scope dV kV doc pm an cdv ct) ps sp := by
  constructor
  · exact len
  intro A outer s H args us vs Q E hg hr e0 hb r hsp
  have nvs := len _ _ _ _ hsp
  have old : ∀ b o, base.get? b = some o → s.heap.get? b = some o := fun b o e => (e0.bs b o e).1
  have inK : K.In s.heap := e0.mod.kin.keeps old
  have noLim : s.heap.NoLimit := e0.mod.nolimit.keeps old
  have kinds : ∀ y ∈ ps.zip us, scope.names.lookup y.1 = some .local ∨ (scope.names.lookup y.1 = some .cell ∧ ((cellsFrom (s.heap.objs.size + 1) scope.names []).lookup y.1).isSome = true) := by
    rintro ⟨n, v⟩ hy
    cases S.par n (List.of_mem_zip hy).1 with
    | inl q => exact Or.inl q
    | inr q => exact Or.inr ⟨q, PySem.W.cellsFrom_some _ _ _ (Or.inl q)⟩
  apply codeAny_call_function hr.depth (inK _ _ lk) rfl S.co S.gen rfl (PySem.W.codeRec_of inK hcd)
  apply hb
  apply wpAny_newFunctionEnv_cells S.kind kinds
  rintro env rfl s1 x
  refine ⟨noLim.keeps x.toInCall.keep, codeAny_func ?_⟩
  obtain ⟨t, ht, hq⟩ := hbody A outer s H vs Q E hg (hr.deeper _) hsp
  have I0 : Inv (cxOf CX P w K mg base N qual scope f cdv A outer s H E) [] (L2.start N vs) H s1 := inv_start S hr.hd e0 nvs r x
  apply wpAny_mono (ht.run [] s1 (L2.start N vs) H _ I0 hq)
  · rintro fl s' hs
    cases fl with
    | ret u =>
      obtain ⟨v, σ', H', J, rv, q⟩ := hs
      exact ⟨v, H', J.os, J.bare, J.base, J.hok, rv, q⟩
    | next =>
      obtain ⟨σ', H', J, q⟩ := hs
      exact ⟨V.non, H', J.os, J.bare, J.base, J.hok, rfl, q⟩
    | brk => exact (hs.elim fun _ z => z.elim fun _ z => z.2).elim
    | cont => exact (hs.elim fun _ z => z.elim fun _ z => z.2).elim
  · exact fun e s' hs => hs

section
variable {X : Cx} {CX : CXT} {k : Nat} {f : Addr} {fd : FuncData} {ps ks : List Str} {sp : Sp} {dvs : List V} {ds : List Value} {E : XK} {x : Str} {p pos : Pos} {e : Expr} {es : List Expr} {t tk : TA} {kws : List Keyword}
theorem run_g {pins : List (Addr × Obj)} {σ : L2.St} {H : Hp} {s : Shared} {Q : VK} {us : List Value} {vs : List V} {binds : List Value} {args : Args} (F : FnG X.prog X.w X.K X.mg X.base CX k f fd ps sp) (hgd : X.A.guards = some []) (hr : Room k X.A)
    (hb : BindsTo s fd args (ps.zip us)) (hx : Passes CX X E) (I : Inv X pins σ H s) (r : Vals vs us) (h : sp vs H Q E) : wpAny (model X.prog X.w) X.A (call (.ref f) args.pos args.kw) (EP X pins σ Q) X.xe s := by
  apply wpAny_call
  apply codeAny_mono (F.run X.A X.stack s H args us vs Q E hgd hr I.env0 hb r h)
  intro r s' hq
  match r, hq with
  | .error e, hq => exact hx pins σ H s e s' I hq
  | .ok (.ret u), hq => exact I.after hq
  | .ok .next, hq => exact False.elim hq
  | .ok .brk, hq => exact False.elim hq
  | .ok .cont, hq => exact False.elim hq
theorem pe_callG (F : FnG X.prog X.w X.K X.mg X.base CX k f fd ps sp) (hgd : X.A.guards = some []) (hr : Room k X.A) (hg : Gl X x) (hm : X.mg x = some (.ref f)) (hk : PySem.W.keepIn X.K (.ref f) = true) (hb : Binds X.K fd ps ds) (hd : Vals dvs ds) (hx : Passes CX X E)
    (ha : PA X (e :: es) t) (hdb : (x == ("__debug__" : Str)) = false := by decide) (he : starEach (e :: es) X.env = (false, eval e X.env) :: starEach es X.env := by rfl) (hpl : (backTo pos (starEach es X.env)).any (·.1) = false := by rfl) :
    PE X (.Call (.Name x p) (e :: es) [] pos) (tCall sp dvs E t) := by
  constructor
  intro pins s σ H Q I h
  apply wpAny_Call_Name_kw
  apply ld_glob I hg hm _ hdb
  apply PySem.W.callWith_K (h₀ := X.base) I.ok.mod.kin hk _ he hpl
  apply thn (ha.run pos pins s σ H _ I h)
  rintro us s1 ⟨vs, H1, I1, r, q⟩
  refine ⟨I1.kIn, ?_⟩
  have r2 : Vals (vs ++ dvs) (us ++ ds) := r.append hd
  have hl : (us ++ ds).length = ps.length := r2.length.symm.trans (F.len _ _ _ _ q)
  exact run_g (args := ⟨us, []⟩) (binds := []) F hgd hr (hb s1 us I1.kIn hl) hx I1 r2 q
theorem pe_callGK {g : List Value → List Value → List Value} {gV : List V → List V → List V} (F : FnG X.prog X.w X.K X.mg X.base CX k f fd ps sp) (hgd : X.A.guards = some []) (hr : Room k X.A) (hg : Gl X x) (hm : X.mg x = some (.ref f)) (hk : PySem.W.keepIn X.K (.ref f) = true) (hb : KBinds X.K fd ps ks g gV) (hx : Passes CX X E)
    (ha : PA X (e :: es) t) (hkw : PK X kws tk) (hall : (backToKw pos (keywordEach kws X.env)).all (·.1.isSome) = true := by rfl) (hks : (backToKw pos (keywordEach kws X.env)).filterMap (·.1) = ks := by rfl)
    (hdb : (x == ("__debug__" : Str)) = false := by decide) (he : starEach (e :: es) X.env = (false, eval e X.env) :: starEach es X.env := by rfl)
    (hpl : ((backTo pos (starEach (e :: es) X.env)).any (·.1) || (backToKw pos (keywordEach kws X.env)).any (·.1.isNone)) = false := by rfl) : PE X (.Call (.Name x p) (e :: es) kws pos) (tCallK sp gV E t tk) := by
  constructor
  intro pins s σ H Q I h
  apply wpAny_Call_Name_kw
  apply ld_glob I hg hm _ hdb
  apply PySem.W.callWith_KW (h₀ := X.base) I.ok.mod.kin hk hall _ hpl he
  apply thn (ha.run pos pins s σ H _ I h)
  rintro us s1 ⟨vs, H1, I1, r, q⟩
  apply thn (hkw.run pos pins s1 σ H1 _ I1 q)
  rintro ws s2 ⟨zs, H2, I2, rz, q2⟩
  refine ⟨I2.kIn, ?_⟩
  rw [hks]
  have r2 := hb.rel r rz
  have hl : (g us ws).length = ps.length := r2.length.symm.trans (F.len _ _ _ _ q2)
  exact run_g (args := ⟨us, ks.zip ws⟩) (binds := []) F hgd hr (hb.to s2 us ws I2.kIn hl) hx I2 r2 q2
end

/-! ### a promise over data -/
abbrev DSpec := List Slot → (RV → List Slot → Prop) → Prop
def OwnW (args : List Slot) (vs : List V) (p : Addr) : Prop := ∃ i, Owns args (vs.map some) i p
def ctOf (args : List Slot) (vs : List V) (F H : Hp) : Ct := ⟨H, F, OwnW args vs, vs, fun i => ∃ b d, args[i]? = some (.own b d)⟩
def ArgsOk (K : PySem.W.Frag) (F : Hp) (args : List Slot) (vs : List V) (H : Hp) : Prop := Ok K (ctOf args vs F H) F args (vs.map some) H
def outS : Slot → Slot
  | .own b d => .own b d
  | _ => .no
@[simp] def outs (n : Nat) (env : List Slot) : List Slot := (env.take n).map outS
@[simp] theorem outS_own (b : Bool) (d : D) : outS (.own b d) = .own b d := rfl
@[simp] theorem outS_val (d : D) : outS (.val d) = .no := rfl
@[simp] theorem outS_no : outS .no = .no := rfl
structure Done (K : PySem.W.Frag) (F : Hp) (args : List Slot) (vs : List V) (H : Hp) (r : RV) (args' : List Slot) (F' : Hp) (v : V) (H' : Hp) : Prop where
  ex : Ex F F'
  sub : Ex F' H'
  keep : ∀ a o, H a = some o → ¬ OwnW args vs a → H' a = some o
  all : ∀ a, H a ≠ none → H' a ≠ none
  new : ∀ a, H a ≠ none → F a = none → F' a = none
  own : ∀ (i : Nat) (b : Bool) (d : D), args[i]? = some (.own b d) → ∃ p o d', vs[i]? = some (.ref p) ∧ args'[i]? = some (.own b d') ∧ H' p = some o ∧ RepO K F' o d'
  res : match r with
    | .vl d => Rep K F' v d
    | .tm d => ∃ p o, v = .ref p ∧ H' p = some o ∧ RepO K F' o d ∧ F' p = none ∧ H p = none
    | .sl _ => False
def spD (K : PySem.W.Frag) (sd : DSpec) : Sp := fun vs H Q _ => ∃ F args R, ArgsOk K F args vs H ∧ (∀ (i : Nat) (d : D), args[i]? ≠ some (.own false d)) ∧ sd args R ∧
  ∀ r args' F' v H', R r args' → Done K F args vs H r args' F' v H' → Q v H'

def startE (n : Nat) (args : List Slot) : List Slot := args ++ List.replicate (n - args.length) .no

theorem ok_start {K : PySem.W.Frag} {F H : Hp} {args : List Slot} {vs : List V} (N : List Str) (h : ArgsOk K F args vs H) (np : ∀ (i : Nat) (d : D), args[i]? ≠ some (.own false d)) :
    Ok K (ctOf args vs F H) F (startE N.length args) (L2.start N vs) H := by
  have hl : vs.length = args.length := by have := h.len; simpa using this
  have ge : ∀ (i : Nat) (s : Slot), s ≠ .no → (startE N.length args)[i]? = some s → args[i]? = some s ∧ i < args.length := fun i s ns e => by
    unfold startE at e
    by_cases q : i < args.length
    · rw [List.getElem?_append_left q] at e; exact ⟨e, q⟩
    · rw [List.getElem?_append_right (by omega), List.getElem?_replicate] at e
      split at e
      · cases e; exact absurd rfl ns
      · cases e
  have gs : ∀ (i : Nat), i < args.length → (L2.start N vs)[i]? = (vs.map some)[i]? := fun i q => by
    unfold L2.start
    rw [List.getElem?_append_left (by rw [List.length_map, hl]; exact q)]
  have ow : ∀ i p, Owns (startE N.length args) (L2.start N vs) i p → Owns args (vs.map some) i p := fun i p ⟨b, d, e, s⟩ => by
    obtain ⟨e1, q⟩ := ge i _ (fun z => by cases z) e
    exact ⟨b, d, e1, by rw [← gs i q]; exact s⟩
  exact {
    len := by unfold startE L2.start; simp [hl]
    sub := h.sub, keep := fun a o e _ => e, all := fun a e => e, new := h.new, bas := Ex.refl F
    vals := fun i d e => by
      obtain ⟨e1, q⟩ := ge i _ (fun z => by cases z) e
      obtain ⟨v, h1, h2⟩ := h.vals i d e1
      exact ⟨v, by rw [gs i q]; exact h1, h2⟩
    owns := fun i b d e => by
      obtain ⟨e1, q⟩ := ge i _ (fun z => by cases z) e
      obtain ⟨p, o, h1, h2, h3, h4, h5, h6⟩ := h.owns i b d e1
      exact ⟨p, o, by rw [gs i q]; exact h1, h2, h3, h4, h5, h6⟩
    sep := fun i j p a b => h.sep i j p (ow i p a) (ow j p b)
    pins := fun i ⟨b, d, e⟩ => by
      cases b with
      | false => exact absurd e (np i d)
      | true =>
        refine ⟨d, ?_⟩
        unfold startE
        rw [List.getElem?_append_left]
        · exact e
        · rcases Nat.lt_or_ge i args.length with z | z
          · exact z
          · rw [List.getElem?_eq_none (by simpa using z)] at e; cases e }

structure FunG (K : PySem.W.Frag) (qual : Str) (body : List Stmt) (scope : Scope) (f : Addr) (fd : FuncData) : Prop where
  ex : ∃ (oc : Value) (od : Option Addr) (name : Str) (params : Arguments) (dV kV doc pm : Value) (an : Option Addr) (cdv ct : Value) (osl : Array (Option Value)),
    fd = PySem.W.fnOf name qual params body scope dV kV doc pm an cdv ct ∧ K.lookup f = some ⟨oc, od, .func fd, osl⟩ ∧ PySem.W.codeIn K cdv qual = true
theorem FunG.of {K : PySem.W.Frag} {x qual : Str} {st : Stmt} {f : Addr} {fd : FuncData} (F : Fun K x qual st f fd) : FunG K qual (defBody st) (defScope st) f fd := by
  obtain ⟨⟨oc, od, kV, doc, pm, an, cdv, ct, osl, h1, h2, h3⟩, _⟩ := F
  exact ⟨oc, od, _, _, _, kV, doc, pm, an, cdv, ct, osl, h1, h2, h3⟩

theorem FunG.ok {P : Program} {w : World} {K : PySem.W.Frag} {mg : Str → Option Value} {base : Heap} {qual : Str} {body : List Stmt} {scope : Scope} {f : Addr} {fd : FuncData} {N ps : List Str} {k : Nat} {sd : DSpec} {m : DStm}
    (F : FunG K qual body scope f fd) (S : FnScope N ps scope) (len : ∀ args R, sd args R → args.length = ps.length)
    (hbody : ∀ (cdv : Value) (A : Around) (outer : List PySem.Env) (s : Shared) (H : Hp) (E : XK), A.guards = some [] → Room k (A.deeper (envOfC qual scope s.heap.objs.size f cdv)) →
      DB (cxOf CX0 P w K mg base N qual scope f cdv A outer s H E).nox body m)
    (hm : ∀ args R, sd args R → m { nx := fun e => R (.vl .non) (outs ps.length e), rt := fun r e => R r (outs ps.length e) } (startE N.length args)) :
    FnG P w K mg base CX0 (k + 1) f fd ps (spD K sd) := by
  obtain ⟨oc, od, name, params, dV, kV, doc, pm, an, cdv, ct, osl, rfl, lk, hcd⟩ := F.ex
  refine fnG_of lk hcd S ?_ ?_
  · rintro vs H Q E ⟨F, args, R, h1, _, h2, _⟩
    have := h1.len
    rw [List.length_map] at this
    rw [this, len args R h2]
  rintro A outer s H vs Q E hg hr ⟨F0, args, R, h1, np, h2, h3⟩
  obtain ⟨t, ht, ev⟩ := hbody cdv A outer s H E hg hr
  refine ⟨t, ht.nox, ?_⟩
  have hl : args.length = ps.length := len args R h2
  have hv : vs.length = args.length := by have := h1.len; rwa [List.length_map] at this
  -- what is told behind
  have fin : ∀ F' env σ H' v r, Ok K (ctOf args vs F0 H) F' env σ H' → RetOk K (ctOf args vs F0 H) F' H' v r → R r (outs ps.length env) → Q v H' := by
    intro F' env σ H' v r I' ro hR
    refine h3 r _ F' v H' hR ⟨I'.bas, I'.sub, I'.keep, I'.all, I'.new, fun i b d e => ?_, ?_⟩
    · cases b with
      | false => exact absurd e (np i d)
      | true =>
      obtain ⟨d', e'⟩ := I'.pins i ⟨true, d, e⟩
      have hi : i < ps.length := by
        rw [← hl]
        rcases Nat.lt_or_ge i args.length with z | z
        · exact z
        · rw [List.getElem?_eq_none (by simpa using z)] at e; cases e
      obtain ⟨p, o, g1, g2, g3, g4, g5, g6⟩ := I'.owns i true d' e'
      obtain ⟨q1, q2, q3⟩ := g6 rfl
      refine ⟨p, o, d', q1, ?_, g2, g3⟩
      unfold outs
      rw [List.getElem?_map, List.getElem?_take_of_lt hi, e']
      rfl
    · cases r with
      | vl d => exact ro
      | tm d => exact ro
      | sl i => exact ro.elim
  exact ev (ctOf args vs F0 H) F0 _ _ H _ _ (ok_start N h1 np) (hm args R h2) ⟨fun F env σ H' I' q => fin F env σ H' .non (.vl .non) I' Rep.non q, fun _ _ _ _ _ z => z.elim, fun _ _ _ _ _ z => z.elim, fun F env σ H' v r I' ro q => fin F env σ H' v r I' ro q, fun _ _ _ _ _ _ _ _ _ z => z.elim⟩
end DL

set_option Elab.async false
set_option linter.all false
set_option maxRecDepth 100000
set_option maxHeartbeats 4000000
set_option autoImplicit false
/-! DL5: calls over data. -/
namespace DL
open PySem PySem.Spec L2 Evl PyProof.Rows

inductive CA where
  | vl (d : D) | sl (i : Nat)
abbrev DMC := List Slot → (List CA → List Slot → Prop) → Prop
def CAOk (K : PySem.W.Frag) (F : Hp) (σ : L2.St) (v : V) : CA → Prop
  | .vl d => Rep K F v d
  | .sl i => σ[i]? = some (some v)
inductive CAs (K : PySem.W.Frag) (F : Hp) (σ : L2.St) : List V → List CA → Prop
  | nil : CAs K F σ [] []
  | cons {v : V} {vs : List V} {a : CA} {as : List CA} : CAOk K F σ v a → CAs K F σ vs as → CAs K F σ (v :: vs) (a :: as)
section
variable {K : PySem.W.Frag} {F F' : Hp} {σ : L2.St}
theorem CAOk.mono (e : Ex F F') {v : V} {a : CA} (h : CAOk K F σ v a) : CAOk K F' σ v a := by
  cases a with
  | vl d => exact Rep.mono e h
  | sl i => exact h
theorem CAs.mono (e : Ex F F') : ∀ {vs : List V} {as : List CA}, CAs K F σ vs as → CAs K F' σ vs as
  | _, _, .nil => .nil
  | _, _, .cons a r => .cons (a.mono e) (CAs.mono e r)
theorem CAs.length : ∀ {vs : List V} {as : List CA}, CAs K F σ vs as → vs.length = as.length
  | _, _, .nil => rfl
  | _, _, .cons _ r => congrArg (· + 1) (CAs.length r)
theorem CAs.get : ∀ {vs : List V} {as : List CA} {i : Nat} {a : CA}, CAs K F σ vs as → as[i]? = some a → ∃ v, vs[i]? = some v ∧ CAOk K F σ v a
  | _, _, _, _, .nil, e => by simp at e
  | _, _, 0, _, .cons a _, e => by simp at e; subst e; exact ⟨_, rfl, a⟩
  | _, _, i + 1, _, .cons _ r, e => by
    obtain ⟨v, h1, h2⟩ := CAs.get (i := i) r (by simpa using e)
    exact ⟨v, by simpa using h1, h2⟩
theorem CAs.append : ∀ {vs ws : List V} {as bs : List CA}, CAs K F σ vs as → CAs K F σ ws bs → CAs K F σ (vs ++ ws) (as ++ bs)
  | _, _, _, _, .nil, s => s
  | _, _, _, _, .cons a r, s => .cons a (CAs.append r s)
theorem CAs.ofRep : ∀ {vs : List V} {ds : List D}, RepL K F vs ds → CAs K F σ vs (ds.map .vl)
  | _, _, .nil => .nil
  | _, _, .cons a r => .cons a (CAs.ofRep r)
end
def EvC (K : PySem.W.Frag) (m : DMC) (t : TA) : Prop := ∀ C F env σ H R (Q : List V → Hp → Prop), Ok K C F env σ H → m env R →
  (∀ as env' F' vs H', R as env' → Aft K C F env σ H F' env' H' → CAs K F' σ vs as → Q vs H') → t σ H Q
def DC (X : Cx) (es : List Expr) (m : DMC) : Prop := ∃ t, PA X es t ∧ EvC X.K m t
def DK (X : Cx) (kws : List Keyword) (m : DMC) : Prop := ∃ t, PK X kws t ∧ EvC X.K m t
@[simp] def mcNil : DMC := fun env R => R [] env
@[simp] def mcCons (a : DM) (r : DMC) : DMC := fun env R => a env fun x e1 => match x with
  | .vl d => r e1 fun as e2 => R (.vl d :: as) e2
  | .tm d => r e1 fun as e2 => R (.vl d :: as) e2
  | .sl i => r e1 fun as e2 => R (.sl i :: as) e2
theorem evc_nil {K : PySem.W.Frag} : EvC K mcNil tNil := fun C F env σ H R Q I h k => k [] env F [] H h I.aft .nil
theorem evc_cons {K : PySem.W.Frag} {m : DM} {r : DMC} {t : TE} {u : TA} (ev : EvD K m t) (er : EvC K r u) : EvC K (mcCons m r) (tCons t u) := by
  intro C F env σ H R Q I h k
  refine ev C F env σ H _ _ I h ?_
  intro x e1 F1 v H1 h1 A1 r1
  have kept : ∀ d : D, x.get e1 (fun d' => d' = d) → r e1 (fun as e2 => R (.vl d :: as) e2) → u σ H1 fun xs H2 => Q (v :: xs) H2 := fun d hd h2 => by
    obtain ⟨F2, d', rfl, A2, ex, rp⟩ := A1.keepIt r1 hd
    refine er C F2 e1 σ H1 _ _ A2.ok h2 ?_
    intro as e3 F3 vs H3 h3 A3 r3
    exact k (.vl d' :: as) e3 F3 (v :: vs) H3 h3 (A2.trans A3) (.cons (rp.mono A3.ex) r3)
  cases x with
  | vl d => exact kept d rfl h1
  | tm d => exact kept d rfl h1
  | sl i =>
    refine er C F1 e1 σ H1 _ _ A1.ok h1 ?_
    intro as e3 F3 vs H3 h3 A3 r3
    exact k (.sl i :: as) e3 F3 (v :: vs) H3 h3 (A1.trans A3) (.cons r1 r3)
theorem dc_nil {X : Cx} : DC X [] mcNil := ⟨_, pa_nil, evc_nil⟩
theorem dc_cons {X : Cx} {e : Expr} {es : List Expr} {m : DM} {mc : DMC} (h : DE X e m) (hr : DC X es mc) (hs : starEach (e :: es) X.env = (false, eval e X.env) :: starEach es X.env := by rfl) : DC X (e :: es) (mcCons m mc) := by
  obtain ⟨t, p, ev⟩ := h
  obtain ⟨u, q, er⟩ := hr
  exact ⟨_, pa_cons p q hs, evc_cons ev er⟩
theorem dk_nil {X : Cx} : DK X [] mcNil := ⟨_, pk_nil, evc_nil⟩
theorem dk_cons {X : Cx} {nm : _} {kpos : _} {e : Expr} {kws : List Keyword} {m : DM} {mc : DMC} (h : DE X e m) (hr : DK X kws mc) : DK X (⟨nm, e, kpos⟩ :: kws) (mcCons m mc) := by
  obtain ⟨t, p, ev⟩ := h
  obtain ⟨u, q, er⟩ := hr
  exact ⟨_, pk_cons p q, evc_cons ev er⟩

/-! ### how the callee sees the caller's slots, and what the caller has behind -/
@[simp] def passS : Slot → Slot
  | .own _ d => .own true d
  | .val d => .val d
  | .no => .no
@[simp] def resolve (env : List Slot) : CA → Slot
  | .vl d => .val d
  | .sl i => match env[i]? with
    | some s => passS s
    | none => .no
@[simp] def isOwn (env : List Slot) (i : Nat) : Bool := match env[i]? with
  | some (.own _ _) => true
  | _ => false
@[simp] def isSl (i : Nat) : CA → Bool
  | .sl j => i == j
  | .vl _ => false
@[simp] def apart (env : List Slot) : List CA → Bool
  | [] => true
  | .sl i :: r => (!isOwn env i || !r.any (isSl i)) && apart env r
  | .vl _ :: r => apart env r
@[simp] def look : List CA → List Slot → Nat → D → D
  | .sl j :: as, .own _ d' :: ss, i, d => if j = i then d' else look as ss i d
  | _ :: as, _ :: ss, i, d => look as ss i d
  | _, _, _, d => d
@[simp] def putBack (as : List CA) (ss : List Slot) : Nat → List Slot → List Slot
  | _, [] => []
  | k, .own b d :: r => .own b (look as ss k d) :: putBack as ss (k + 1) r
  | k, .val d :: r => .val d :: putBack as ss (k + 1) r
  | k, .no :: r => .no :: putBack as ss (k + 1) r
def pbS (as : List CA) (ss : List Slot) (k : Nat) : Slot → Slot
  | .own b d => .own b (look as ss k d)
  | s => s
theorem putBack_get (as : List CA) (ss : List Slot) : ∀ (env : List Slot) (k i : Nat), (putBack as ss k env)[i]? = (env[i]?).map (pbS as ss (k + i))
  | [], k, i => by simp
  | s :: r, k, 0 => by cases s <;> simp [pbS]
  | s :: r, k, i + 1 => by
    have h := putBack_get as ss r (k + 1) i
    have e : k + 1 + i = k + (i + 1) := by omega
    rw [e] at h
    cases s <;> simpa using h
theorem putBack_length (as : List CA) (ss : List Slot) : ∀ (env : List Slot) (k : Nat), (putBack as ss k env).length = env.length
  | [], k => rfl
  | s :: r, k => by cases s <;> simp [putBack_length as ss r (k + 1)]
theorem apart_ix {env : List Slot} : ∀ {as : List CA} {i j a : Nat}, apart env as = true → isOwn env a = true → as[i]? = some (.sl a) → as[j]? = some (.sl a) → i = j
  | [], i, j, a, _, _, e, _ => by simp at e
  | c :: r, 0, 0, a, _, _, _, _ => rfl
  | c :: r, 0, j + 1, a, h, o, e1, e2 => by
    simp at e1; subst e1
    simp only [apart, Bool.and_eq_true, o, Bool.not_true, Bool.false_or, Bool.not_eq_true', List.any_eq_false] at h
    have := h.1 (.sl a) (List.mem_of_getElem? (by simpa using e2))
    simp at this
  | c :: r, i + 1, 0, a, h, o, e1, e2 => by
    simp at e2; subst e2
    simp only [apart, Bool.and_eq_true, o, Bool.not_true, Bool.false_or, Bool.not_eq_true', List.any_eq_false] at h
    have := h.1 (.sl a) (List.mem_of_getElem? (by simpa using e1))
    simp at this
  | c :: r, i + 1, j + 1, a, h, o, e1, e2 => by
    have h' : apart env r = true := by
      cases c with
      | sl q => simp only [apart, Bool.and_eq_true] at h; exact h.2
      | vl d => simpa using h
    exact congrArg (· + 1) (apart_ix h' o (by simpa using e1) (by simpa using e2))
theorem look_at : ∀ {as : List CA} {ss : List Slot} {k i : Nat} {b : Bool} {d d' : D}, as[k]? = some (.sl i) → ss[k]? = some (.own b d') → (∀ j : Nat, as[j]? = some (CA.sl i) → j = k) → look as ss i d = d'
  | [], _, _, _, _, _, _, e, _, _ => by simp at e
  | _ :: _, [], _, _, _, _, _, _, e, _ => by simp at e
  | c :: as, s :: ss, 0, i, b, d, d', e1, e2, _ => by
    simp at e1 e2; subst e1; subst e2; simp
  | c :: as, s :: ss, k + 1, i, b, d, d', e1, e2, u => by
    have r : look as ss i d = d' := look_at (k := k) (by simpa using e1) (by simpa using e2) fun j q => by
      have := u (j + 1) (by simpa using q)
      omega
    have nc : c ≠ .sl i := fun z => by
      have := u 0 (by simp [z])
      omega
    cases c with
    | vl x => simpa using r
    | sl j =>
      have : j ≠ i := fun z => nc (by rw [z])
      cases s <;> simp [this, r]
theorem look_none : ∀ {as : List CA} {ss : List Slot} {i : Nat} {d : D}, (∀ k : Nat, as[k]? ≠ some (CA.sl i)) → look as ss i d = d
  | [], ss, i, d, _ => by cases ss <;> simp
  | c :: as, [], i, d, _ => by cases c <;> simp
  | c :: as, s :: ss, i, d, h => by
    have r : look as ss i d = d := look_none fun k q => h (k + 1) (by simpa using q)
    cases c with
    | vl x => simpa using r
    | sl j =>
      have : j ≠ i := fun z => h 0 (by simp [z])
      cases s <;> simp [this, r]
@[simp] def putB : List CA → List Slot → List Slot → List Slot
  | .sl i :: as, .own _ d' :: ss, env => putB as ss (match env[i]? with
    | some (.own b _) => env.set i (.own b d')
    | _ => env)
  | _ :: as, _ :: ss, env => putB as ss env
  | _, _, env => env
theorem isOwn_set {env : List Slot} {i : Nat} {b b' : Bool} {d d' : D} (e : env[i]? = some (.own b d)) (n : Nat) : isOwn (env.set i (.own b' d')) n = isOwn env n := by
  by_cases q : i = n
  · subst q
    have hl : i < env.length := by
      rcases Nat.lt_or_ge i env.length with z | z
      · exact z
      · rw [List.getElem?_eq_none z] at e; cases e
    show (match (env.set i (.own b' d'))[i]? with | some (.own _ _) => true | _ => false) = match env[i]? with | some (.own _ _) => true | _ => false
    rw [List.getElem?_set_self hl, e]
  · show (match (env.set i (.own b' d'))[n]? with | some (.own _ _) => true | _ => false) = match env[n]? with | some (.own _ _) => true | _ => false
    rw [List.getElem?_set_ne q]
theorem apart_congr {env env' : List Slot} (h : ∀ n, isOwn env' n = isOwn env n) : ∀ as : List CA, apart env' as = apart env as
  | [] => rfl
  | .vl d :: r => by simpa using apart_congr h r
  | .sl i :: r => by
    show ((!isOwn env' i || !r.any (isSl i)) && apart env' r) = ((!isOwn env i || !r.any (isSl i)) && apart env r)
    rw [h, apart_congr h r]
theorem putB_get : ∀ (as : List CA) (ss env : List Slot) (n : Nat), apart env as = true → (putB as ss env)[n]? = (env[n]?).map (pbS as ss n)
  | [], ss, env, n, _ => by
    have : pbS [] ss n = id := funext fun s => by cases s <;> simp [pbS]
    simp [this]
  | c :: as, [], env, n, _ => by
    have : pbS (c :: as) [] n = id := funext fun s => by cases s <;> cases c <;> simp [pbS]
    cases c <;> simp [this]
  | .vl x :: as, s :: ss, env, n, ap => by
    have : pbS (.vl x :: as) (s :: ss) n = pbS as ss n := funext fun q => by cases q <;> simp [pbS]
    simp only [putB, this]
    exact putB_get as ss env n (by simpa using ap)
  | .sl i :: as, .val x :: ss, env, n, ap => by
    have : pbS (.sl i :: as) (.val x :: ss) n = pbS as ss n := funext fun q => by cases q <;> simp [pbS]
    simp only [putB, this]
    exact putB_get as ss env n (by simp only [apart, Bool.and_eq_true] at ap; exact ap.2)
  | .sl i :: as, .no :: ss, env, n, ap => by
    have : pbS (.sl i :: as) (.no :: ss) n = pbS as ss n := funext fun q => by cases q <;> simp [pbS]
    simp only [putB, this]
    exact putB_get as ss env n (by simp only [apart, Bool.and_eq_true] at ap; exact ap.2)
  | .sl i :: as, .own b0 d' :: ss, env, n, ap => by
    have ap0 : (!isOwn env i || !as.any (isSl i)) = true ∧ apart env as = true := by simpa only [apart, Bool.and_eq_true] using ap
    cases q : env[i]? with
    | none =>
      have e : putB (.sl i :: as) (.own b0 d' :: ss) env = putB as ss env := by simp only [putB, q]
      rw [e, putB_get as ss env n ap0.2]
      cases qn : env[n]? with
      | none => rfl
      | some s =>
        have hne : i ≠ n := fun z => by subst z; rw [q] at qn; cases qn
        cases s <;> simp [pbS, hne]
    | some si =>
      cases si with
      | val x =>
        have e : putB (.sl i :: as) (.own b0 d' :: ss) env = putB as ss env := by simp only [putB, q]
        rw [e, putB_get as ss env n ap0.2]
        cases qn : env[n]? with
        | none => rfl
        | some s =>
          by_cases hne : i = n
          · subst hne; rw [q] at qn; cases qn; simp [pbS]
          · cases s <;> simp [pbS, hne]
      | no =>
        have e : putB (.sl i :: as) (.own b0 d' :: ss) env = putB as ss env := by simp only [putB, q]
        rw [e, putB_get as ss env n ap0.2]
        cases qn : env[n]? with
        | none => rfl
        | some s =>
          by_cases hne : i = n
          · subst hne; rw [q] at qn; cases qn; simp [pbS]
          · cases s <;> simp [pbS, hne]
      | own b x =>
        have e : putB (.sl i :: as) (.own b0 d' :: ss) env = putB as ss (env.set i (.own b d')) := by simp only [putB, q]
        have ap1 : apart (env.set i (.own b d')) as = true := by rw [apart_congr (isOwn_set q)]; exact ap0.2
        have hl : i < env.length := by
          rcases Nat.lt_or_ge i env.length with z | z
          · exact z
          · rw [List.getElem?_eq_none z] at q; cases q
        rw [e, putB_get as ss _ n ap1]
        by_cases hne : i = n
        · subst hne
          rw [List.getElem?_set_self hl, q]
          have no : ∀ k : Nat, as[k]? ≠ some (CA.sl i) := fun k z => by
            have h1 := ap0.1
            have : isOwn env i = true := by simp [q]
            rw [this] at h1
            have h2 : as.any (isSl i) = false := by simpa using h1
            rw [List.any_eq_false] at h2
            exact h2 _ (List.mem_of_getElem? z) (by simp)
          simp [pbS, look_none no]
        · rw [List.getElem?_set_ne hne]
          cases qn : env[n]? with
          | none => rfl
          | some s => cases s <;> simp [pbS, hne]
theorem putB_eq {as : List CA} {ss env : List Slot} (ap : apart env as = true) : putB as ss env = putBack as ss 0 env := by
  apply List.ext_getElem?
  intro n
  rw [putB_get as ss env n ap, putBack_get, Nat.zero_add]
theorem resolve_own {env : List Slot} {a : CA} {b : Bool} {d : D} (h : resolve env a = .own b d) : b = true ∧ ∃ i b', a = .sl i ∧ env[i]? = some (.own b' d) := by
  cases a with
  | vl x => simp at h
  | sl i =>
    simp only [resolve] at h
    split at h
    · rename_i s e
      cases s with
      | own b' d' => simp at h; exact ⟨h.1, i, b', rfl, by rw [e, h.2]⟩
      | val d' => simp at h
      | no => simp at h
    · cases h
theorem resolve_val {env : List Slot} {a : CA} {d : D} (h : resolve env a = .val d) : a = .vl d ∨ ∃ i, a = .sl i ∧ env[i]? = some (.val d) := by
  cases a with
  | vl x => simp at h; exact Or.inl (by rw [h])
  | sl i =>
    simp only [resolve] at h
    split at h
    · rename_i s e
      cases s with
      | own b' d' => simp at h
      | val d' => simp at h; exact Or.inr ⟨i, rfl, by rw [e, h]⟩
      | no => simp at h
    · cases h

section
variable {K : PySem.W.Frag} {C : Ct} {F0 F H0 H : Hp} {env0 env : List Slot} {σ : L2.St}
theorem call_parts {vs : List V} {as : List CA} (I : Ok K C F env σ H) (ca : CAs K F σ vs as) (ap : apart env as = true) :
    ArgsOk K F (as.map (resolve env)) vs H ∧ (∀ (i : Nat) (d : D), (as.map (resolve env))[i]? ≠ some (.own false d)) ∧
      ∀ r ss F' v H', Done K F (as.map (resolve env)) vs H r ss F' v H' → Aft K C F env σ H F' (putB as ss env) H' ∧ ∀ p, H p = none → ∀ i, ¬ Owns (putB as ss env) σ i p := by
  have hl := ca.length
  have getA : ∀ (i : Nat) (s : Slot), (as.map (resolve env))[i]? = some s → ∃ a v, as[i]? = some a ∧ vs[i]? = some v ∧ CAOk K F σ v a ∧ resolve env a = s := fun i s e => by
    rw [List.getElem?_map] at e
    cases q : as[i]? with
    | none => rw [q] at e; cases e
    | some a =>
      rw [q] at e
      obtain ⟨v, h1, h2⟩ := ca.get q
      exact ⟨a, v, rfl, h1, h2, by simpa using e⟩
  -- an owned argument is an owned slot
  have ownA : ∀ (i : Nat) (p : Addr), Owns (as.map (resolve env)) (vs.map some) i p → ∃ j, as[i]? = some (.sl j) ∧ Owns env σ j p := fun i p ⟨b, d, e, s⟩ => by
    obtain ⟨a, v, h1, h2, h3, h4⟩ := getA i _ e
    obtain ⟨_, j, b', rfl, h5⟩ := resolve_own h4
    rw [List.getElem?_map, h2] at s
    simp at s
    have h3' : σ[j]? = some (some v) := h3
    exact ⟨j, h1, b', d, h5, by rw [h3', s]⟩
  have isO : ∀ {j : Nat} {p : Addr}, Owns env σ j p → isOwn env j = true := fun {j p} ⟨b, d, e, _⟩ => by simp [e]
  refine ⟨?_, ?_, ?_⟩
  · exact {
      len := by rw [List.length_map, List.length_map, hl]
      sub := I.sub, keep := fun a o e _ => e, all := fun a e => e, new := fun a _ e => e, bas := Ex.refl F
      vals := fun i d e => by
        obtain ⟨a, v, h1, h2, h3, h4⟩ := getA i _ e
        refine ⟨v, by rw [List.getElem?_map, h2]; rfl, ?_⟩
        rcases resolve_val h4 with rfl | ⟨j, rfl, h5⟩
        · exact h3
        · obtain ⟨w, q1, q2⟩ := I.vals j d h5
          have h3' : σ[j]? = some (some v) := h3
          rw [h3'] at q1; cases q1
          exact q2
      owns := fun i b d e => by
        obtain ⟨a, v, h1, h2, h3, h4⟩ := getA i _ e
        obtain ⟨rfl, j, b', rfl, h5⟩ := resolve_own h4
        obtain ⟨p, o, q1, q2, q3, q4, q5, q6⟩ := I.owns j b' d h5
        have h3' : σ[j]? = some (some v) := h3
        rw [h3'] at q1; cases q1
        have hs : (vs.map some)[i]? = some (some (.ref p)) := by rw [List.getElem?_map, h2]; rfl
        exact ⟨p, o, hs, q2, q3, q4, (fun z => by cases z), fun _ => ⟨h2, ⟨i, true, d, e, hs⟩, by show H p ≠ none; rw [q2]; exact fun z => nomatch z⟩⟩
      sep := fun i j p a b => by
        obtain ⟨x, h1, h2⟩ := ownA i p a
        obtain ⟨y, h3, h4⟩ := ownA j p b
        have := I.sep x y p h2 h4
        subst this
        exact apart_ix ap (isO h2) h1 h3
      pins := fun i ⟨b, d, e⟩ => by
        obtain ⟨a, v, h1, h2, h3, h4⟩ := getA i _ e
        obtain ⟨rfl, _⟩ := resolve_own h4
        exact ⟨d, e⟩ }
  · intro i d e
    obtain ⟨a, v, h1, h2, h3, h4⟩ := getA i _ e
    obtain ⟨q, _⟩ := resolve_own h4
    cases q
  intro r ss F' v H' dn
  rw [putB_eq ap]
  have notW : ∀ a, (∀ i, ¬ Owns env σ i a) → ¬ OwnW (as.map (resolve env)) vs a := fun a n ⟨i, q⟩ => by
    obtain ⟨j, _, h2⟩ := ownA i a q
    exact n j h2
  have pbO : ∀ (i : Nat) (b : Bool) (d : D), (putBack as ss 0 env)[i]? = some (.own b d) → ∃ d0, env[i]? = some (.own b d0) ∧ d = look as ss i d0 := fun i b d e => by
    rw [putBack_get, Nat.zero_add] at e
    cases q : env[i]? with
    | none => rw [q] at e; cases e
    | some s =>
      rw [q] at e
      cases s with
      | own b' d' => simp [pbS] at e; exact ⟨d', by rw [e.1], e.2.symm⟩
      | val d' => simp [pbS] at e
      | no => simp [pbS] at e
  have ow2 : ∀ i p, Owns (putBack as ss 0 env) σ i p → Owns env σ i p := fun i p ⟨b, d, e, s⟩ => by
    obtain ⟨d0, h1, _⟩ := pbO i b d e
    exact ⟨b, d0, h1, s⟩
  have B : Aft K C F env σ H F' (putBack as ss 0 env) H' := {
    ok := {
      len := by rw [putBack_length]; exact I.len
      sub := dn.sub
      keep := fun a o e n => by
        refine dn.keep a o (I.keep a o e n) (notW a fun i q => ?_)
        obtain ⟨b, d, h1, h2⟩ := q
        obtain ⟨p, u, q1, q2, q3, q4, q5, q6⟩ := I.owns i b d h1
        rw [h2] at q1; cases q1
        cases b with
        | false => have := q5 rfl; rw [e] at this; cases this
        | true => exact n (q6 rfl).2.1
      all := fun a e => dn.all a (I.all a e)
      new := fun a e z => dn.new a (I.all a e) (I.new a e z)
      bas := I.bas.trans dn.ex
      vals := fun i d e => by
        rw [putBack_get, Nat.zero_add] at e
        cases q : env[i]? with
        | none => rw [q] at e; cases e
        | some s =>
          rw [q] at e
          cases s with
          | own b' d' => simp [pbS] at e
          | val d' =>
            simp [pbS] at e
            subst e
            obtain ⟨w, q1, q2⟩ := I.vals i d' q
            exact ⟨w, q1, q2.mono dn.ex⟩
          | no => simp [pbS] at e
      owns := fun i b d e => by
        obtain ⟨d0, h1, h2⟩ := pbO i b d e
        obtain ⟨p, o, q1, q2, q3, q4, q5, q6⟩ := I.owns i b d0 h1
        have hF : F' p = none := dn.new p (by rw [q2]; exact fun z => nomatch z) q4
        by_cases w : ∃ k : Nat, as[k]? = some (CA.sl i)
        · obtain ⟨k', hk'⟩ := w
          have ea : (as.map (resolve env))[k']? = some (.own true d0) := by rw [List.getElem?_map, hk']; simp [h1]
          obtain ⟨p', o', d', g1, g2, g3, g4⟩ := dn.own k' true d0 ea
          obtain ⟨v', g5, g6⟩ := ca.get hk'
          rw [g1] at g5; cases g5
          have g6' : σ[i]? = some (some (.ref p')) := g6
          rw [q1] at g6'; cases g6'
          have : look as ss i d0 = d' := look_at hk' g2 fun j hj => apart_ix ap (isO ⟨b, d0, h1, q1⟩) hj hk'
          rw [h2, this]
          exact ⟨p, o', q1, g3, g4, hF, q5, q6⟩
        · have : look as ss i d0 = d0 := look_none fun k q => w ⟨k, q⟩
          rw [h2, this]
          refine ⟨p, o, q1, dn.keep p o q2 ?_, q3.mono dn.ex, hF, q5, q6⟩
          rintro ⟨k', q⟩
          obtain ⟨j, z1, z2⟩ := ownA k' p q
          have := I.sep j i p z2 ⟨b, d0, h1, q1⟩
          subst this
          exact w ⟨k', z1⟩
      sep := fun i j p a b => I.sep i j p (ow2 i p a) (ow2 j p b)
      pins := fun i q => by
        obtain ⟨d, e⟩ := I.pins i q
        exact ⟨look as ss i d, by rw [putBack_get, e]; simp [pbS]⟩ }
    ex := dn.ex
    fr := fun a o e n => dn.keep a o e (notW a n)
    nw := fun a e z _ => dn.new a e z
    al := dn.all
    le := fun i b d e => let ⟨d0, h1, _⟩ := pbO i b d e; ⟨d0, h1⟩ }
  exact ⟨B, fun p g4 i q => I.unowned g4 i (ow2 i p q)⟩
theorem call_core {sd : DSpec} {vs : List V} {as : List CA} {R : RV → List Slot → Prop} {Q : VK} {E : XK} (A : Aft K C F0 env0 σ H0 F env H) (ca : CAs K F σ vs as) (ap : apart env as = true)
    (h : sd (as.map (resolve env)) R)
    (k : ∀ r ss F' v H', R r ss → Aft K C F0 env0 σ H0 F' (putB as ss env) H' → RVOk K C F' (putB as ss env) σ H0 H' v r → Q v H') : spD K sd vs H Q E := by
  obtain ⟨h1, h2, h3⟩ := call_parts A.ok ca ap
  refine ⟨F, as.map (resolve env), R, h1, h2, h, ?_⟩
  intro r ss F' v H' hR dn
  obtain ⟨B, no⟩ := h3 r ss F' v H' dn
  refine k r ss F' v H' hR (A.trans B) ?_
  have rs := dn.res
  cases r with
  | vl d => exact rs
  | tm d =>
    obtain ⟨p, o, rfl, g1, g2, g3, g4⟩ := rs
    exact ⟨p, o, rfl, g1, g2, g3, A.ok.gnone g4, no p g4, A.back g4⟩
  | sl i => exact rs.elim
end

@[simp] def mCall (sd : DSpec) (dds : List D) (a : DMC) : DM := fun env R => a env fun as e => apart e as = true ∧ sd ((as ++ dds.map CA.vl).map (resolve e)) fun r ss => R r (putB as ss e)
theorem apart_app {env : List Slot} : ∀ {as : List CA} {dds : List D}, apart env as = true → apart env (as ++ dds.map CA.vl) = true
  | [], [], _ => rfl
  | [], d :: dds, h => apart_app (as := []) (dds := dds) h
  | .vl d :: as, dds, h => apart_app (as := as) h
  | .sl i :: as, dds, h => by
    simp only [apart, Bool.and_eq_true] at h
    show ((!isOwn env i || !(as ++ dds.map CA.vl).any (isSl i)) && apart env (as ++ dds.map CA.vl)) = true
    rw [List.any_append]
    have e : (dds.map CA.vl).any (isSl i) = false := by
      rw [List.any_map]
      induction dds with
      | nil => rfl
      | cons d r ih => simp
    rw [e, Bool.or_false, h.1, apart_app h.2]
    rfl
theorem look_app {dds : List D} : ∀ {as : List CA} {ss : List Slot} {i : Nat} {d : D}, look (as ++ dds.map CA.vl) ss i d = look as ss i d
  | [], ss, i, d => by
    have : ∀ (l : List D) (ss : List Slot), look (l.map CA.vl) ss i d = d := fun l ss => look_none fun k q => by
      rw [List.getElem?_map] at q
      cases h : l[k]? <;> simp [h] at q
    show look (dds.map CA.vl) ss i d = look [] ss i d
    rw [this]
    cases ss <;> rfl
  | c :: as, [], i, d => by cases c <;> simp
  | .vl x :: as, s :: ss, i, d => by
    show look (as ++ dds.map CA.vl) ss i d = look as ss i d
    exact look_app
  | .sl j :: as, .own b d' :: ss, i, d => by
    show (if j = i then d' else look (as ++ dds.map CA.vl) ss i d) = if j = i then d' else look as ss i d
    rw [look_app]
  | .sl j :: as, .val d' :: ss, i, d => by
    show look (as ++ dds.map CA.vl) ss i d = look as ss i d
    exact look_app
  | .sl j :: as, .no :: ss, i, d => by
    show look (as ++ dds.map CA.vl) ss i d = look as ss i d
    exact look_app
theorem putB_vl {dds : List D} : ∀ {ss env : List Slot}, putB (dds.map CA.vl) ss env = env := by
  induction dds with
  | nil => intro ss env; rfl
  | cons d r ih =>
    intro ss env
    cases ss with
    | nil => rfl
    | cons s ss => exact ih
theorem putB_app {dds : List D} : ∀ {as : List CA} {ss env : List Slot}, putB (as ++ dds.map CA.vl) ss env = putB as ss env
  | [], ss, env => by
    show putB (dds.map CA.vl) ss env = putB [] ss env
    rw [putB_vl]; cases ss <;> rfl
  | c :: as, [], env => by cases c <;> rfl
  | .vl x :: as, s :: ss, env => by
    show putB (as ++ dds.map CA.vl) ss env = putB as ss env
    exact putB_app
  | .sl i :: as, s :: ss, env => by
    cases s with
    | own b d => exact putB_app (as := as) (ss := ss)
    | val d => exact putB_app (as := as) (ss := ss)
    | no => exact putB_app (as := as) (ss := ss)
section
variable {X : Cx} {k : Nat} {f : Addr} {fd : FuncData} {ps ks : List Str} {sd : DSpec} {dvs : List V} {dds : List D} {ds : List Value} {x : Str} {p pos : Pos} {e : Expr} {es : List Expr} {kws : List Keyword}
theorem dcallD (F : FnG X.prog X.w X.K X.mg X.base CX0 k f fd ps (spD X.K sd)) (hgd : X.A.guards = some []) (hr : Room k X.A) (hg : Gl X x) (hm : X.mg x = some (.ref f)) (hk : PySem.W.keepIn X.K (.ref f) = true) (hb : Binds X.K fd ps ds) (hd : Vals dvs ds) (rd : ∀ F, RepL X.K F dvs dds)
    {mc : DMC} (h : DC X (e :: es) mc) (hdb : (x == ("__debug__" : Str)) = false := by decide) (he : starEach (e :: es) X.env = (false, eval e X.env) :: starEach es X.env := by rfl) (hpl : (backTo pos (starEach es X.env)).any (·.1) = false := by rfl) :
    DE X (.Call (.Name x p) (e :: es) [] pos) (mCall sd dds mc) := by
  obtain ⟨t, pa, ev⟩ := h
  refine ⟨_, pe_callG (E := E0) F hgd hr hg hm hk hb hd pass0 pa hdb he hpl, ?_⟩
  intro C F env σ H R Q I h k
  refine ev C F env σ H _ _ I h ?_
  intro as e1 F1 vs H1 h1 A1 r1
  refine call_core A1 (r1.append (CAs.ofRep (rd F1))) (apart_app h1.1) h1.2 fun r ss F' v H' hR A2 r2 => ?_
  rw [putB_app] at A2 r2
  exact k r _ F' v H' hR A2 r2
theorem dcall (F : FnG X.prog X.w X.K X.mg X.base CX0 k f fd ps (spD X.K sd)) (hgd : X.A.guards = some []) (hr : Room k X.A) (hg : Gl X x) (hm : X.mg x = some (.ref f)) (hk : PySem.W.keepIn X.K (.ref f) = true) (hb : Binds X.K fd ps [])
    {mc : DMC} (h : DC X (e :: es) mc) (hdb : (x == ("__debug__" : Str)) = false := by decide) (he : starEach (e :: es) X.env = (false, eval e X.env) :: starEach es X.env := by rfl) (hpl : (backTo pos (starEach es X.env)).any (·.1) = false := by rfl) :
    DE X (.Call (.Name x p) (e :: es) [] pos) (mCall sd [] mc) := dcallD F hgd hr hg hm hk hb .nil (fun _ => .nil) h hdb he hpl
end
end DL

set_option Elab.async false
set_option linter.all false
set_option maxRecDepth 100000
set_option maxHeartbeats 4000000
set_option autoImplicit false
/-! DL6: what is walked, targets, for, while, comprehensions. -/
namespace DL
open PySem PySem.Spec L2 Evl PyProof.Rows

/-! ### targets -/
abbrev DTg := D → List Slot → (List Slot → Prop) → Prop
abbrev DTgs := List D → List Slot → (List Slot → Prop) → Prop
def Keeps (js : List Nat) (env env' : List Slot) (σ σ' : L2.St) : Prop :=
  σ'.length = σ.length ∧ (∀ i, i ∉ js → σ'[i]? = σ[i]?) ∧ (∀ (i : Nat) (b : Bool) (d : D), env'[i]? = some (.own b d) → env[i]? = some (.own b d))
theorem Keeps.trans {js : List Nat} {a b c : List Slot} {x y z : L2.St} (h : Keeps js a b x y) (k : Keeps js b c y z) : Keeps js a c x z :=
  ⟨k.1.trans h.1, fun i n => (k.2.1 i n).trans (h.2.1 i n), fun i q d e => h.2.2 i q d (k.2.2 i q d e)⟩
theorem Keeps.mono {js ks : List Nat} {a b : List Slot} {x y : L2.St} (h : Keeps js a b x y) (s : ∀ i ∈ js, i ∈ ks) : Keeps ks a b x y :=
  ⟨h.1, fun i n => h.2.1 i fun q => n (s i q), h.2.2⟩
def EvG (K : PySem.W.Frag) (js : List Nat) (g : DTg) (t : TG) : Prop := ∀ C F env σ H v d R Q, Ok K C F env σ H → Rep K F v d → g d env R →
  (∀ env' σ', R env' → Ok K C F env' σ' H → Keeps js env env' σ σ' → Q σ' H) → t v σ H Q
def EvGs (K : PySem.W.Frag) (js : List Nat) (g : DTgs) (t : TGs) : Prop := ∀ C F env σ H vs ds R Q, Ok K C F env σ H → RepL K F vs ds → g ds env R →
  (∀ env' σ', R env' → Ok K C F env' σ' H → Keeps js env env' σ σ' → Q σ' H) → t vs σ H Q
def DG (X : Cx) (tg : Expr) (js : List Nat) (g : DTg) : Prop := ∃ t, PG X tg t ∧ EvG X.K js g t
def DGs (X : Cx) (tgs : List Expr) (js : List Nat) (g : DTgs) : Prop := ∃ t, PGs X tgs t ∧ EvGs X.K js g t
@[simp] def gN (j : Nat) : DTg := fun d env R => Free env j ∧ R (env.set j (.val d))
@[simp] def gsNil : DTgs := fun ds env R => match ds with
  | [] => R env
  | _ => False
@[simp] def gsCons (g : DTg) (gs : DTgs) : DTgs := fun ds env R => match ds with
  | d :: r => g d env fun e => gs r e R
  | [] => False
@[simp] def gT (n : Nat) (gs : DTgs) : DTg := fun d env R => match d with
  | .tup ds => ds.length = n ∧ gs ds env R
  | _ => False
section
variable {X : Cx} {pos : Pos}
theorem dg_name (j : Nat) {x : Str} (hN : X.N.Nodup) (hi : X.N[j]? = some x) (hx : Loc X.env.scope x) (hf : X.fn x = true ∨ X.env.scope.names.lookup x = some .local := by first | exact .inl rfl | exact .inr rfl | assumption) : DG X (.Name x pos) [j] (gN j) := by
  refine ⟨_, pg_name hN hi hx hf, ?_⟩
  intro C F env σ H v d R Q I r h k
  refine k _ _ h.2 (I.setVal h.1 r) ⟨by simp, fun i n => ?_, fun i b d' e => ?_⟩
  · rw [List.getElem?_set_ne]
    rintro rfl
    exact n (by simp)
  · by_cases q : j = i
    · subst q
      rw [List.getElem?_set] at e
      split at e
      · split at e <;> cases e
      · exact absurd rfl ‹¬ _›
    · rw [List.getElem?_set_ne q] at e; exact e
theorem dgs_nil : DGs X [] [] gsNil := by
  refine ⟨_, pgs_nil, ?_⟩
  intro C F env σ H vs ds R Q I r h k
  cases r with
  | nil => exact ⟨rfl, k env σ h I ⟨rfl, fun _ _ => rfl, fun _ _ _ e => e⟩⟩
  | cons _ _ => exact h.elim
theorem dgs_cons {e : Expr} {es : List Expr} {js ks : List Nat} {g : DTg} {gs : DTgs} (h1 : DG X e js g) (h2 : DGs X es ks gs)
    (hs : (assignEach (e :: es) X.env).map (·.2) = assign e X.env :: (assignEach es X.env).map (·.2) := by rfl) : DGs X (e :: es) (js ++ ks) (gsCons g gs) := by
  obtain ⟨t, p, ev⟩ := h1
  obtain ⟨u, q, er⟩ := h2
  refine ⟨_, pgs_cons p q hs, ?_⟩
  intro C F env σ H vs ds R Q I r h k
  cases r with
  | nil => exact h.elim
  | cons a r =>
    refine ⟨_, _, rfl, ?_⟩
    refine ev C F env σ H _ _ _ _ I a h ?_
    intro e1 σ1 h1 I1 k1
    refine er C F e1 σ1 H _ _ _ _ I1 r h1 ?_
    intro e2 σ2 h2 I2 k2
    exact k e2 σ2 h2 I2 ((k1.mono fun i z => List.mem_append_left _ z).trans (k2.mono fun i z => List.mem_append_right _ z))
theorem dg_tup {es : List Expr} {kk : Nat} {js : List Nat} {gs : DTgs} {n : Nat} (hc : X.calm = true) (h : DGs X es js gs) (hn : (assignEach es X.env).length = n := by rfl) (hst : (assignEach es X.env).findIdx? (·.1) = none := by rfl) : DG X (.Tuple es kk pos) js (gT n gs) := by
  obtain ⟨t, p, ev⟩ := h
  refine ⟨_, pg_tup hc p hn hst, ?_⟩
  intro C F env σ H v d R Q I r h k
  cases r with
  | tup s r =>
    refine ⟨_, _, rfl, ex_t I.sub s, r.length.trans h.1, ?_⟩
    exact ev C F env σ H _ _ _ _ I r h.2 k
  | _ => exact h.elim
end

/-! ### what is walked -/
abbrev Holds := List (Nat × List D)
abbrev DMI := List Slot → (List D → Holds → List Slot → Prop) → Prop
@[simp] def holdE : Holds → List Slot → Prop
  | [], _ => True
  | (i, l) :: r, env => (match env[i]? with
    | some (.own _ (.lst l')) => l' = l
    | _ => False) ∧ holdE r env
@[simp] def pinE : Holds → List Slot → Prop
  | [], _ => True
  | (i, l) :: r, env => (match env[i]? with
    | some (.own true (.lst l')) => l' = l
    | _ => False) ∧ pinE r env
theorem holdE.get : ∀ {h : Holds} {env : List Slot}, holdE h env → ∀ p ∈ h, ∃ b, env[p.1]? = some (.own b (.lst p.2))
  | (i, l) :: r, env, h, p, m => by
    rcases List.mem_cons.mp m with rfl | m
    · have h1 := h.1
      split at h1
      · rename_i b l' e; subst h1; exact ⟨b, e⟩
      · exact h1.elim
    · exact holdE.get h.2 p m
theorem pinE.get : ∀ {h : Holds} {env : List Slot}, pinE h env → ∀ p ∈ h, env[p.1]? = some (.own true (.lst p.2))
  | (i, l) :: r, env, h, p, m => by
    rcases List.mem_cons.mp m with rfl | m
    · have h1 := h.1
      split at h1
      · rename_i l' e; subst h1; exact e
      · exact h1.elim
    · exact pinE.get h.2 p m
theorem pinE.hold : ∀ {h : Holds} {env : List Slot}, pinE h env → holdE h env
  | [], _, _ => trivial
  | (i, l) :: r, env, h => by
    refine ⟨?_, pinE.hold h.2⟩
    have h1 := h.1
    split at h1
    · rename_i l' e; rw [e]; exact h1
    · exact h1.elim
def IterOk (K : PySem.W.Frag) (C : Ct) (F0 : Hp) (σ0 : L2.St) (J : It) (items : List D) (hold : Holds) : Prop :=
  ∀ (i : Nat) (F : Hp) (env : List Slot) (σ : L2.St) (H : Hp), Ok K C F env σ H → Ex F0 F → holdE hold env → (∀ p ∈ hold, σ[p.1]? = σ0[p.1]?) →
    (i < items.length → J.go i H ∧ ∀ x H', J.yld i H x H' → ∃ F' d, items[i]? = some d ∧ Aft K C F env σ H F' env H' ∧ Rep K F' x d) ∧ (items.length ≤ i → J.stop i H)
def EvI (K : PySem.W.Frag) (m : DMI) (wi : TI) : Prop := ∀ C F env σ H R (Q : It → Hp → Prop), Ok K C F env σ H → m env R →
  (∀ items hold env' F' H' J, R items hold env' → Aft K C F env σ H F' env' H' → IterOk K C F' σ J items hold → holdE hold env' → Q J H') → wi σ H Q
def DI (X : Cx) (tg iter : Expr) (m : DMI) : Prop := ∃ wi, PI X tg iter wi ∧ EvI X.K m wi

def NowL (K : PySem.W.Frag) (C : Ct) (F0 : Hp) (σ0 : L2.St) (a : Addr) (ds : List D) (hold : Holds) : Prop :=
  ∀ (F : Hp) (env : List Slot) (σ : L2.St) (H : Hp), Ok K C F env σ H → Ex F0 F → holdE hold env → (∀ p ∈ hold, σ[p.1]? = σ0[p.1]?) → ∃ vs, SqL K H a vs ∧ RepL K F vs ds
def NowT (K : PySem.W.Frag) (C : Ct) (F0 : Hp) (σ0 : L2.St) (a : Addr) (ds : List D) (hold : Holds) : Prop :=
  ∀ (F : Hp) (env : List Slot) (σ : L2.St) (H : Hp), Ok K C F env σ H → Ex F0 F → holdE hold env → (∀ p ∈ hold, σ[p.1]? = σ0[p.1]?) → ∃ vs, SqT K H a vs ∧ RepL K F vs ds
@[simp] def enumD : Nat → List D → List D
  | _, [] => []
  | k, x :: xs => .tup [.int (k : Int), x] :: enumD (k + 1) xs
theorem enumD_length : ∀ (k : Nat) (xs : List D), (enumD k xs).length = xs.length
  | _, [] => rfl
  | k, x :: xs => congrArg (· + 1) (enumD_length (k + 1) xs)
theorem enumD_get : ∀ (k : Nat) (xs : List D) (i : Nat), (enumD k xs)[i]? = (xs[i]?).map fun x => .tup [.int ((k + i : Nat) : Int), x]
  | _, [], i => by simp
  | k, x :: xs, 0 => by simp
  | k, x :: xs, i + 1 => by
    have h := enumD_get (k + 1) xs i
    have e : k + 1 + i = k + (i + 1) := by omega
    rw [e] at h
    simpa using h
@[simp] def zipD (xs ys : List D) : List D := List.zipWith (fun x y => .tup [x, y]) xs ys
section
variable {K : PySem.W.Frag} {C : Ct} {F0 : Hp} {σ0 : L2.St} {a b : Addr} {ds es : List D} {hold hold' : Holds}
theorem it_list (n : NowL K C F0 σ0 a ds hold) : IterOk K C F0 σ0 (Itl K a) ds hold := by
  intro i F env σ H I e h s
  obtain ⟨vs, q, r⟩ := n F env σ H I e h s
  refine ⟨fun hi => ?_, fun hi => ⟨vs, q, by rw [r.length]; exact hi⟩⟩
  obtain ⟨v, h1, h2⟩ := r.get (List.getElem?_eq_getElem hi)
  refine ⟨⟨vs, v, q, h1⟩, fun x H' y => ?_⟩
  obtain ⟨rfl, y⟩ := y
  have := y vs q
  rw [h1] at this; cases this
  exact ⟨F, _, List.getElem?_eq_getElem hi, I.aft, h2⟩
theorem it_tup (n : NowT K C F0 σ0 a ds hold) : IterOk K C F0 σ0 (Itt K a) ds hold := by
  intro i F env σ H I e h s
  obtain ⟨vs, q, r⟩ := n F env σ H I e h s
  refine ⟨fun hi => ?_, fun hi => ⟨vs, q, by rw [r.length]; exact hi⟩⟩
  obtain ⟨v, h1, h2⟩ := r.get (List.getElem?_eq_getElem hi)
  refine ⟨⟨vs, v, q, h1⟩, fun x H' y => ?_⟩
  obtain ⟨rfl, y⟩ := y
  have := y vs q
  rw [h1] at this; cases this
  exact ⟨F, _, List.getElem?_eq_getElem hi, I.aft, h2⟩
theorem lay_pair {F H : Hp} {env : List Slot} {σ : L2.St} {T : Addr} {u v : V} {d e : D} (I : Ok K C F env σ H) (hT : H T = none) (r1 : Rep K F u d) (r2 : Rep K F v e) : ∃ F', Aft K C F env σ H F' env (upd H T (.tup [u, v])) ∧ Rep K F' (.ref T) (.tup [d, e]) := by
  have B := I.lay hT (.tup [u, v])
  exact ⟨_, B, Rep.tup (st_of upd_same) (.cons (r1.mono B.ex) (.cons (r2.mono B.ex) .nil))⟩
theorem it_enum (n : NowL K C F0 σ0 a ds hold) : IterOk K C F0 σ0 (Ite K a) (enumD 0 ds) hold := by
  intro i F env σ H I e h s
  obtain ⟨vs, q, r⟩ := n F env σ H I e h s
  rw [enumD_length]
  refine ⟨fun hi => ?_, fun hi => ⟨vs, q, by rw [r.length]; exact hi⟩⟩
  obtain ⟨v, h1, h2⟩ := r.get (List.getElem?_eq_getElem hi)
  refine ⟨⟨vs, v, q, h1⟩, fun x H' y => ?_⟩
  obtain ⟨T, x', rfl, hT, rfl, y⟩ := y
  have := y vs q
  rw [h1] at this; cases this
  obtain ⟨F', B, rp⟩ := lay_pair I hT (Rep.int (i : Int)) h2
  refine ⟨F', _, ?_, B, rp⟩
  rw [enumD_get, List.getElem?_eq_getElem hi, Nat.zero_add]
  rfl
theorem it_zip (n : NowL K C F0 σ0 a ds hold) (n2 : NowL K C F0 σ0 b es hold) : IterOk K C F0 σ0 (Itz K a b) (zipD ds es) hold := by
  intro i F env σ H I e h s
  obtain ⟨vs, q, r⟩ := n F env σ H I e h s
  obtain ⟨ws, q2, r2⟩ := n2 F env σ H I e h s
  unfold zipD
  rw [List.length_zipWith]
  refine ⟨fun hi => ?_, fun hi => ⟨vs, ws, q, q2, by rw [r.length, r2.length]; omega⟩⟩
  have i1 : i < ds.length := by omega
  have i2 : i < es.length := by omega
  obtain ⟨v, h1, h2⟩ := r.get (List.getElem?_eq_getElem i1)
  obtain ⟨w, h3, h4⟩ := r2.get (List.getElem?_eq_getElem i2)
  refine ⟨⟨vs, ws, v, w, q, q2, h1, h3⟩, fun x H' y => ?_⟩
  obtain ⟨T, x', y', rfl, hT, rfl, y1, y2⟩ := y
  have := y1 vs q
  rw [h1] at this; cases this
  have := y2 ws q2
  rw [h3] at this; cases this
  obtain ⟨F', B, rp⟩ := lay_pair I hT h2 h4
  refine ⟨F', _, ?_, B, rp⟩
  rw [List.getElem?_zipWith, List.getElem?_eq_getElem i1, List.getElem?_eq_getElem i2]
theorem NowL.more (n : NowL K C F0 σ0 a ds hold) (s : ∀ p ∈ hold, p ∈ hold') (hh : ∀ env, holdE hold' env → holdE hold env) : NowL K C F0 σ0 a ds hold' :=
  fun F env σ H I e h z => n F env σ H I e (hh env h) fun p m => z p (s p m)
end
@[simp] def lsOf (l : RV) (env : List Slot) (R : List D → Holds → Prop) : Prop := match l with
  | .vl (.lst ds) => R ds []
  | .tm (.lst ds) => R ds []
  | .sl i => match env[i]? with
    | some (.val (.lst ds)) => R ds []
    | some (.own _ (.lst ds)) => R ds [(i, ds)]
    | _ => False
  | _ => False
section
variable {K : PySem.W.Frag}
theorem now_of {C : Ct} {F F' H H' : Hp} {env env' : List Slot} {σ : L2.St} {v : V} {l : RV} (A : Aft K C F env σ H F' env' H') (r : RVOk K C F' env' σ H H' v l) {R : List D → Holds → Prop}
    (h : lsOf l env' R) : ∃ F2 a ds hold, v = .ref a ∧ R ds hold ∧ Aft K C F env σ H F2 env' H' ∧ Ex F' F2 ∧ NowL K C F2 σ a ds hold ∧ holdE hold env' ∧ ∃ vs, H' a = some (.lst vs) := by
  have kept : ∀ ds, l.get env' (fun d => d = .lst ds) → R ds [] → ∃ F2 a ds hold, v = .ref a ∧ R ds hold ∧ Aft K C F env σ H F2 env' H' ∧ Ex F' F2 ∧ NowL K C F2 σ a ds hold ∧ holdE hold env' ∧ ∃ vs, H' a = some (.lst vs) := fun ds hd hR => by
    obtain ⟨F2, d, rfl, A2, ex, rp⟩ := A.keepIt r hd
    cases rp with
    | lst e q => exact ⟨F2, _, ds, [], rfl, hR, A2, ex, fun F env σ H I x _ _ => ⟨_, sq_of (I.sub _ _ (x _ _ e)), q.mono x⟩, trivial, _, A2.ok.sub _ _ e⟩
  cases l with
  | vl d =>
    cases d with
    | lst ds => exact kept ds rfl h
    | _ => exact h.elim
  | tm d =>
    cases d with
    | lst ds => exact kept ds rfl h
    | _ => exact h.elim
  | sl i =>
    have h' : (match env'[i]? with | some (.val (.lst ds)) => R ds [] | some (.own _ (.lst ds)) => R ds [(i, ds)] | _ => False) := h
    split at h'
    · rename_i ds e
      exact kept ds (by simp [e]) h'
    · rename_i b ds e
      have r' : σ[i]? = some (some v) := r
      obtain ⟨p, o, q1, q2, q3, _⟩ := A.ok.owns i b _ e
      rw [r'] at q1; cases q1
      have ho : ∃ vs, o = .lst vs := by
        unfold RepO at q3
        split at q3
        · exact ⟨_, rfl⟩
        · rename_i z; cases z
        · exact q3.elim
      obtain ⟨vs0, rfl⟩ := ho
      refine ⟨F', p, ds, [(i, ds)], rfl, h', A, Ex.refl _, fun F env2 σ2 H I x hh ss => ?_, by simp [e], vs0, q2⟩
      obtain ⟨b2, e2⟩ := holdE.get hh (i, ds) (by simp)
      obtain ⟨p2, o2, g1, g2, g3, _⟩ := I.owns i b2 _ e2
      have s2 := ss (i, ds) (by simp)
      rw [r', g1] at s2
      cases s2
      unfold RepO at g3
      split at g3
      · rename_i z; cases z; exact ⟨_, sq_of g2, g3⟩
      · rename_i z; cases z
      · exact g3.elim
    · exact h'.elim
end
@[simp] def signsD (s : Str) : List D := s.cps.toList.map fun c => .str ⟨#[c]⟩
@[simp] def mItD (d : D) (R : List D → Prop) : Prop := match d with
  | .lst ds => R ds
  | .tup ds => R ds
  | .str s => R (signsD s)
  | .scr ns => R (ns.map .int)
  | _ => False
@[simp] def mIt (m : DM) : DMI := fun env R => m env fun x e1 => match x with
  | .vl d => mItD d fun ds => R ds [] e1
  | .tm d => mItD d fun ds => R ds [] e1
  | .sl i => match e1[i]? with
    | some (.val d) => mItD d fun ds => R ds [] e1
    | some (.own _ (.lst ds)) => R ds [(i, ds)] e1
    | _ => False
def iAny (K : PySem.W.Frag) (te : TE) : TI := fun σ H R => te σ H fun x H1 => (∃ a, x = .ref a ∧ (∃ xs, SqL K H1 a xs) ∧ R (Itl K a) H1) ∨ (∃ a, x = .ref a ∧ (∃ xs, SqT K H1 a xs) ∧ R (Itt K a) H1) ∨ ∃ z, x = .str z ∧ R (Its z) H1
section
variable {X : Cx} {tg e : Expr} {te : TE}
theorem pi_any (he : PE X e te) : PI X tg e (iAny X.K te) := by
  constructor
  intro pins s σ H R I h
  apply thn (he.run pins s σ H _ I h)
  rintro v s1 ⟨x, H1, I1, r1, q1⟩
  rcases q1 with ⟨a, rfl, ⟨xs, hq⟩, q⟩ | ⟨a, rfl, ⟨xs, hq⟩, q⟩ | ⟨z, rfl, q⟩
  · cases r1
    obtain ⟨its, _, p, _⟩ := I1.list hq
    exact wpAny_pyIter_list p.isList (pi_one (tk := s1.toks) I1 _ (turn_list a _) ⟨_, Heap.get?_push_size _ rfl, rfl, rfl⟩ q)
  · cases r1
    obtain ⟨its, _, p, _⟩ := I1.tuple hq
    exact wpAny_pyIter_tuple (show s1.heap.IsTuple a its.toArray from p) (pi_one (tk := s1.toks) I1 _ (turn_tuple a _) ⟨_, Heap.get?_push_size _ rfl, rfl, rfl⟩ q)
  · obtain ⟨t, rfl⟩ := r1
    by_cases ha : z.cps.all (· < 128) = true
    · exact wpAny_pyIter_ascii ha (pi_one (tk := s1.toks) I1 _ (turn_str _ z t "str_ascii_iterator" (.inl rfl)) ⟨_, Heap.get?_push_size _ rfl, rfl, rfl⟩ q)
    · exact wpAny_pyIter_wide (by simpa using ha) (pi_one (tk := s1.toks) I1 _ (turn_str _ z t "str_iterator" (.inr rfl)) ⟨_, Heap.get?_push_size _ rfl, rfl, rfl⟩ q)
theorem strOk_sign {s : Str} {i c : Nat} (h : PyData.strOk s = true) (e : s.cps.toList[i]? = some c) : PyData.strOk ⟨#[c]⟩ = true := by
  unfold PyData.strOk at h ⊢
  rw [Array.all_eq_true'] at h
  have := h c (by rw [← Array.mem_toList_iff]; exact List.mem_of_getElem? e)
  simpa using this
theorem di_any {m : DM} (h : DE X e m) : DI X tg e (mIt m) := by
  obtain ⟨t, p, ev⟩ := h
  refine ⟨_, pi_any p, ?_⟩
  intro C F env σ H R Q I h k
  refine ev C F env σ H _ _ I h ?_
  intro x e1 F1 v H1 h1 A1 r1
  have kept : ∀ d, x.get e1 (fun d' => d' = d) → (mItD d fun ds => R ds [] e1) → (∃ a, v = .ref a ∧ (∃ xs, SqL X.K H1 a xs) ∧ Q (Itl X.K a) H1) ∨ (∃ a, v = .ref a ∧ (∃ xs, SqT X.K H1 a xs) ∧ Q (Itt X.K a) H1) ∨ ∃ z, v = .str z ∧ Q (Its z) H1 := fun d hd hm => by
    obtain ⟨F2, d', rfl, A2, ex, rp⟩ := A1.keepIt r1 hd
    cases rp with
    | lst e q => exact Or.inl ⟨_, rfl, ⟨_, sq_of (A2.ok.sub _ _ e)⟩, k _ [] e1 F2 H1 _ hm A2 (it_list fun F env σ H I x _ _ => ⟨_, sq_of (I.sub _ _ (x _ _ e)), q.mono x⟩) trivial⟩
    | tup e q => exact Or.inr (Or.inl ⟨_, rfl, ⟨_, ex_t A2.ok.sub e⟩, k _ [] e1 F2 H1 _ hm A2 (it_tup fun F env σ H I x _ _ => ⟨_, ex_t I.sub (ex_t x e), q.mono x⟩) trivial⟩)
    | scr e => exact Or.inl ⟨_, rfl, ⟨_, ex_l A2.ok.sub e⟩, k _ [] e1 F2 H1 _ hm A2 (it_list fun F env σ H I x _ _ => ⟨_, ex_l I.sub (ex_l x e), RepL.ofInts _⟩) trivial⟩
    | str s hs =>
      refine Or.inr (Or.inr ⟨s, rfl, k _ [] e1 F2 H1 _ hm A2 ?_ trivial⟩)
      intro i F env σ H I x _ _
      have hl : (signsD s).length = s.cps.size := by simp
      rw [hl]
      refine ⟨fun hi => ⟨hi, fun y H' yl => ?_⟩, fun hi => hi⟩
      obtain ⟨rfl, c, hc, rfl⟩ := yl
      have hc' : s.cps.toList[i]? = some c := by simpa using hc
      exact ⟨F, .str ⟨#[c]⟩, by simp [hc], I.aft, Rep.str _ (strOk_sign hs hc')⟩
    | _ => exact hm.elim
  cases x with
  | vl d => exact kept d rfl h1
  | tm d => exact kept d rfl h1
  | sl i =>
    have h' : (match e1[i]? with | some (.val d) => mItD d (fun ds => R ds [] e1) | some (.own _ (.lst ds)) => R ds [(i, ds)] e1 | _ => False) := h1
    split at h'
    · rename_i d q
      exact kept d (by simp [q]) h'
    · rename_i b ds q
      obtain ⟨F2, a, ds', hold, rfl, hR, A2, ex, nw, hh, vs, hv⟩ := now_of A1 r1 (R := fun ds hold => R ds hold e1) (by simp [q]; exact h')
      exact Or.inl ⟨a, rfl, ⟨vs, sq_of hv⟩, k _ _ e1 F2 H1 _ hR A2 (it_list nw) hh⟩
    · exact h'.elim
end
@[simp] def mLs (m : DM) : DMI := fun env R => m env fun x e1 => lsOf x e1 fun ds hold => R ds hold e1
@[simp] def mEnum (m : DM) : DMI := fun env R => mLs m env fun ds hold e1 => R (enumD 0 ds) hold e1
@[simp] def mZip (m n : DM) : DMI := fun env R => mLs m env fun ds hold e1 => mLs n e1 fun es hold' e2 => holdE hold e2 ∧ R (zipD ds es) (hold ++ hold') e2
@[simp] def rangeD (lo : Int) (n : Nat) : List D := (List.range n).map fun (i : Nat) => .int (lo + (i : Int))
@[irreducible] def Fits62 (n : Int) : Prop := -(2 ^ 62) ≤ n ∧ n < 2 ^ 62
theorem fits62 {n : Int} (h : -4611686018427387904 ≤ n) (k : n < 4611686018427387904) : Fits62 n := by unfold Fits62; exact ⟨h, k⟩
theorem Fits62.lo {n : Int} (h : Fits62 n) : -(2 ^ 62) ≤ n := by unfold Fits62 at h; exact h.1
theorem Fits62.hi {n : Int} (h : Fits62 n) : n < 2 ^ 62 := by unfold Fits62 at h; exact h.2
@[simp] def mRange1 (m : DM) : DMI := fun env R => m env fun x e1 => x.con e1 fun d => match d with
  | .int n => Fits62 n ∧ R (rangeD 0 n.toNat) [] e1
  | _ => False
@[simp] def mRange2 (m1 m2 : DM) : DMI := fun env R => m1 env fun x e1 => m2 e1 fun y e2 => x.con e2 fun d => y.con e2 fun d' => match d, d' with
  | .int i, .int j => Fits62 i ∧ Fits62 j ∧ R (rangeD i (j - i).toNat) [] e2
  | _, _ => False
theorem holdE_app : ∀ {a b : Holds} {env : List Slot}, holdE (a ++ b) env ↔ holdE a env ∧ holdE b env
  | [], b, env => by simp
  | (i, l) :: a, b, env => by
    show _ ∧ holdE (a ++ b) env ↔ (_ ∧ holdE a env) ∧ holdE b env
    rw [holdE_app]
    exact and_assoc.symm
section
variable {X : Cx} {e f : Expr} {p pos tpos : Pos} {elts : List Expr} {kk : Nat} {tg : Expr}
theorem di_enum {m : DM} (hg : Gl X "enumerate") (hm : X.mg "enumerate" = none) (h : DE X e m) (hs : starEach [e] X.env = [(false, eval e X.env)] := by rfl) (hs' : starEach [e] X.env = (false, eval e X.env) :: starEach [] X.env := by rfl) : DI X (.Tuple elts kk tpos) (.Call (.Name "enumerate" p) [e] [] pos) (mEnum m) := by
  obtain ⟨t, q, ev⟩ := h
  refine ⟨_, pi_enum hg hm (pa_cons q pa_nil hs') hs, ?_⟩
  intro C F env σ H R Q I h k
  refine ev C F env σ H _ _ I h ?_
  intro x e1 F1 v H1 h1 A1 r1
  obtain ⟨F2, a, ds, hold, rfl, hR, A2, ex, nw, hh, vs, hv⟩ := now_of A1 r1 (R := fun ds hold => R (enumD 0 ds) hold e1) h1
  exact ⟨a, vs, rfl, sq_of hv, k _ _ e1 F2 H1 _ hR A2 (it_enum nw) hh⟩
theorem di_zip {m n : DM} (hg : Gl X "zip") (hm : X.mg "zip" = none) (h : DE X e m) (h2 : DE X f n) (hs : starEach [e, f] X.env = (false, eval e X.env) :: starEach [f] X.env := by rfl) (hs2 : starEach [f] X.env = (false, eval f X.env) :: starEach [] X.env := by rfl) (hpl : (backTo pos (starEach [f] X.env)).any (·.1) = false := by rfl) :
    DI X (.Tuple elts kk tpos) (.Call (.Name "zip" p) [e, f] [] pos) (mZip m n) := by
  obtain ⟨t, q, ev⟩ := h
  obtain ⟨u, q2, ev2⟩ := h2
  refine ⟨_, pi_zip hg hm (pa_cons q (pa_cons q2 pa_nil hs2) hs) hs hpl, ?_⟩
  intro C F env σ H R Q I h k
  refine ev C F env σ H _ _ I h ?_
  intro x e1 F1 v H1 h1 A1 r1
  obtain ⟨F2, a, ds, hold, rfl, hR, A2, ex, nw, hh, vs, hv⟩ := now_of A1 r1 (R := fun ds hold => mLs n e1 fun es hold' e2 => holdE hold e2 ∧ R (zipD ds es) (hold ++ hold') e2) h1
  refine ev2 C F2 e1 σ H1 _ _ A2.ok hR ?_
  intro y e2 F3 w H3 h3 A3 r3
  obtain ⟨F4, b, es, hold', rfl, hR2, A4, ex4, nw2, hh2, ws, hw⟩ := now_of A3 r3 (R := fun es hold' => holdE hold e2 ∧ R (zipD ds es) (hold ++ hold') e2) h3
  obtain ⟨vs3, hz, _⟩ := nw F4 e2 σ H3 A4.ok (A4.ex) hR2.1 (fun _ _ => rfl)
  refine ⟨a, b, _, ws, rfl, hz, sq_of hw, k _ _ e2 F4 H3 _ hR2.2 (A2.trans A4) ?_ (holdE_app.mpr ⟨hR2.1, hh2⟩)⟩
  refine it_zip (fun F env σ' H I x hh ss => ?_) (fun F env σ' H I x hh ss => ?_)
  · exact nw F env σ' H I (A4.ex.trans x) (holdE_app.mp hh).1 fun p m => ss p (List.mem_append_left _ m)
  · exact nw2 F env σ' H I x (holdE_app.mp hh).2 fun p m => ss p (List.mem_append_right _ m)
theorem it_range {K : PySem.W.Frag} {C : Ct} {F0 : Hp} {σ0 : L2.St} {lo : Int} {n : Nat} : IterOk K C F0 σ0 (Itr lo n) (rangeD lo n) [] := by
  intro i F env σ H I _ _ _
  have hl : (rangeD lo n).length = n := by simp
  rw [hl]
  refine ⟨fun hi => ⟨hi, fun x H' y => ?_⟩, fun hi => hi⟩
  obtain ⟨rfl, rfl⟩ := y
  exact ⟨F, .int (lo + (i : Int)), by simp [hi], I.aft, Rep.int _⟩
theorem di_range1 {m : DM} (hg : Gl X "range") (hm : X.mg "range" = none) (h : DE X e m) (hs : starEach [e] X.env = [(false, eval e X.env)] := by rfl) (hs' : starEach [e] X.env = (false, eval e X.env) :: starEach [] X.env := by rfl) : DI X tg (.Call (.Name "range" p) [e] [] pos) (mRange1 m) := by
  obtain ⟨t, q, ev⟩ := h
  refine ⟨_, pi_range1 hg hm (pa_cons q pa_nil hs') hs, ?_⟩
  intro C F env σ H R Q I h k
  refine ev C F env σ H _ _ I h ?_
  intro x e1 F1 v H1 h1 A1 r1
  obtain ⟨d, h3, s1⟩ := A1.ok.see r1 h1
  cases d with
  | int n =>
    refine ⟨n, by rw [s1.int], h3.1.lo, h3.1.hi, k _ [] e1 F1 H1 _ h3.2 A1 it_range trivial⟩
  | _ => exact h3.elim
theorem di_range2 {m n : DM} (hg : Gl X "range") (hm : X.mg "range" = none) (h : DE X e m) (h2 : DE X f n) (hs : starEach [e, f] X.env = [(false, eval e X.env), (false, eval f X.env)] := by rfl) (hs2 : starEach [f] X.env = [(false, eval f X.env)] := by rfl) (hs1' : starEach [e, f] X.env = (false, eval e X.env) :: starEach [f] X.env := by rfl) (hs2' : starEach [f] X.env = (false, eval f X.env) :: starEach [] X.env := by rfl) : DI X tg (.Call (.Name "range" p) [e, f] [] pos) (mRange2 m n) := by
  obtain ⟨t, q, ev⟩ := h
  obtain ⟨u, q2, ev2⟩ := h2
  refine ⟨_, pi_range2 hg hm (pa_cons q (pa_cons q2 pa_nil hs2') hs1') hs hs2, ?_⟩
  intro C F env σ H R Q I h k
  refine ev C F env σ H _ _ I h ?_
  intro x e1 F1 v H1 h1 A1 r1
  refine ev2 C F1 e1 σ H1 _ _ A1.ok h1 ?_
  intro y e2 F2 w H2 h2 A2 r2
  obtain ⟨d, h3, s1⟩ := A2.ok.see (r1.on A2) h2
  obtain ⟨d', h4, s2⟩ := A2.ok.see r2 h3
  have A := A1.trans A2
  cases d with
  | int i =>
    cases d' with
    | int j => exact ⟨i, j, by rw [s1.int, s2.int], ⟨h4.1.lo, h4.1.hi, h4.2.1.lo, h4.2.1.hi⟩, k _ [] e2 F2 H2 _ h4.2.2 A it_range trivial⟩
    | _ => exact h4.elim
  | _ => exact h4.elim
end
end DL

set_option Elab.async false
set_option linter.all false
set_option maxRecDepth 100000
set_option maxHeartbeats 4000000
set_option autoImplicit false
/-! DL7: for, while, comprehensions over data. -/
namespace DL
open PySem PySem.Spec L2 Evl PyProof.Rows

/-! ### for -/
@[simp] def forW (hold : Holds) (g : DTg) (mb : DStm) (P : Post) : List D → List Slot → Prop
  | [], env => pinE hold env ∧ P.nx env
  | x :: xs, env => pinE hold env ∧ g x env fun e => mb { P with nx := fun e => forW hold g mb P xs e, ct := fun e => forW hold g mb P xs e, bk := P.nx } e
@[irreducible] def forI (hold : Holds) (g : DTg) (mb : DStm) (P : Post) (items : List D) (env : List Slot) : Prop := forW hold g mb P items env
theorem forI_iff {hold : Holds} {g : DTg} {mb : DStm} {P : Post} {items : List D} {env : List Slot} : forI hold g mb P items env ↔ forW hold g mb P items env := by unfold forI; exact Iff.rfl
@[simp] def mFor (mi : DMI) (g : DTg) (mb : DStm) : DStm := fun P env => mi env fun items hold e => forI hold g mb P items e
theorem Ok.rebase {K : PySem.W.Frag} {C : Ct} {F1 F H H1 : Hp} {e1 env : List Slot} {σ1 σ : L2.St} (h1 : Ok K C F1 e1 σ1 H1) (h : Ok K C F env σ H) (x : Ex F1 F) : Ok K { C with F0 := F1 } F env σ H where
  len := h.len
  sub := h.sub
  keep := h.keep
  all := h.all
  new := fun a e z => h.new a e (by
    cases q : C.F0 a with
    | none => rfl
    | some o =>
      have z' : F1 a = none := z
      rw [h1.bas a o q] at z'; cases z')
  bas := x
  vals := h.vals
  owns := h.owns
  sep := h.sep
  pins := h.pins
theorem Ok.unbase {K : PySem.W.Frag} {C : Ct} {F1 F H H1 : Hp} {e1 env : List Slot} {σ1 σ : L2.St} (h1 : Ok K C F1 e1 σ1 H1) (h : Ok K { C with F0 := F1 } F env σ H) : Ok K C F env σ H where
  len := h.len
  sub := h.sub
  keep := h.keep
  all := h.all
  new := fun a e z => h.new a e (h1.new a e z)
  bas := h1.bas.trans h.bas
  vals := h.vals
  owns := h.owns
  sep := h.sep
  pins := h.pins
section
variable {X : Cx} {pos : Pos}
theorem forW_pin {hold : Holds} {g : DTg} {mb : DStm} {P : Post} {items : List D} {env : List Slot} (h : forW hold g mb P items env) : pinE hold env := by
  cases items <;> exact h.1
theorem ds_for {tg iter : Expr} {body : List Stmt} {js : List Nat} {mi : DMI} {g : DTg} {mb : DStm} (hp : PassesOwn (model X.prog X.w) X.A X.env X.xe) (hc : X.calm = true) (hi : DI X tg iter mi) (hg : DG X tg js g) (hb : DB X body mb)
    (hs : ∀ x, foldedSetIterable iter X.env x = pure x := by intro _; rfl) : DS X (.For tg iter body [] pos) (mFor mi g mb) := by
  obtain ⟨wi, pi, ei⟩ := hi
  obtain ⟨tg', pg, eg⟩ := hg
  obtain ⟨tb, pb, eb⟩ := hb
  refine ⟨_, ps_for hp hc pi pg pb hs, ?_⟩
  intro C F env σ H D P I h k
  refine ei C F env σ H _ _ I h ?_
  intro items hold e1 F1 H1 J h1 A1 io hh
  rw [forI_iff] at h1
  have pin0 := forW_pin h1
  -- the pinned slots stay where they are
  have agree : ∀ F e σ' H, Ok X.K C F e σ' H → pinE hold e → ∀ p ∈ hold, σ'[p.1]? = σ[p.1]? := fun F e σ' H I' q p m => by
    obtain ⟨a, o, g1, _, _, _, _, g6⟩ := I'.owns p.1 true _ (pinE.get q p m)
    obtain ⟨a', o', g1', _, _, _, _, g6'⟩ := A1.ok.owns p.1 true _ (pinE.get pin0 p m)
    have := (g6 rfl).1.symm.trans (g6' rfl).1
    rw [g1, g1']; cases this; rfl
  refine ⟨fun i m σ' H' => m = items.length - i ∧ i ≤ items.length ∧ ∃ F e, Ok X.K C F e σ' H' ∧ Ex F1 F ∧ forW hold g mb P (items.drop i) e, ⟨items.length, by simp, Nat.zero_le _, F1, e1, A1.ok, Ex.refl _, by simpa using h1⟩, ?_⟩
  rintro i m σ' H' ⟨rfl, hi', F2, e2, I2, x2, w2⟩
  have io2 := io i F2 e2 σ' H' I2 x2 (forW_pin w2).hold (agree F2 e2 σ' H' I2 (forW_pin w2))
  by_cases hlt : i < items.length
  · refine Or.inr ⟨(io2.1 hlt).1, fun σ'' H'' => ∃ F e, Ok X.K C F e σ'' H'' ∧ Ex F1 F ∧ forW hold g mb P (items.drop (i + 1)) e, fun σ'' H'' q => ⟨items.length - (i + 1), by omega, rfl, hlt, q⟩, fun x H3 y => ?_⟩
    obtain ⟨F3, d, hd, A3, rp⟩ := (io2.1 hlt).2 x H3 y
    have hdr : items.drop i = d :: items.drop (i + 1) := by
      rw [List.drop_eq_getElem_cons hlt]
      rw [List.getElem?_eq_getElem hlt] at hd
      cases hd; rfl
    rw [hdr] at w2
    refine eg C F3 e2 σ' H3 _ _ _ _ A3.ok rp w2.2 ?_
    intro e4 σ4 h4 I4 k4
    have I4' := A1.ok.rebase I4 (x2.trans A3.ex)
    have back : ∀ F e σ5 H5, Ok X.K { C with F0 := F1 } F e σ5 H5 → forW hold g mb P (items.drop (i + 1)) e → ∃ F e, Ok X.K C F e σ5 H5 ∧ Ex F1 F ∧ forW hold g mb P (items.drop (i + 1)) e :=
      fun F e σ5 H5 I5 q => ⟨F, e, A1.ok.unbase I5, I5.bas, q⟩
    exact eb { C with F0 := F1 } F3 e4 σ4 H3 _ _ I4' h4 ⟨fun F e σ5 H5 I5 q => back F e σ5 H5 I5 q, fun F e σ5 H5 I5 q => k.nx F e σ5 H5 (A1.ok.unbase I5) q, fun F e σ5 H5 I5 q => back F e σ5 H5 I5 q,
      fun F e σ5 H5 v r I5 ro q => k.rt F e σ5 H5 v r (A1.ok.unbase I5) (by cases r <;> exact ro) q,
      fun F e σ5 H5 v x y I5 ro q => k.r2 F e σ5 H5 v x y (A1.ok.unbase I5) (by obtain ⟨T, u, w, a, b, c, d, e⟩ := ro; exact ⟨T, u, w, a, b, by cases x <;> exact c, by cases y <;> exact d, e⟩) q⟩
  · have e : i = items.length := by omega
    subst e
    rw [List.drop_length] at w2
    exact Or.inl ⟨io2.2 (Nat.le_refl _), k.nx F2 e2 σ' H' I2 w2.2⟩

/-! ### while -/
@[simp] def whN (t : DMB) (mb : DStm) : Nat → Post → List Slot → Prop
  | 0, _, _ => False
  | n + 1, P, env => t env fun b e => if b = true then mb { P with nx := fun e => whN t mb n P e, ct := fun e => whN t mb n P e, bk := P.nx } e else P.nx e
@[irreducible] def mWhile (t : DMB) (mb : DStm) (P : Post) (env : List Slot) : Prop := ∃ n, whN t mb n P env
theorem mWhile_iff {t : DMB} {mb : DStm} {P : Post} {env : List Slot} : mWhile t mb P env ↔ ∃ n, whN t mb n P env := by unfold mWhile; exact Iff.rfl
theorem ds_while {c : Expr} {body : List Stmt} {t : DMB} {mb : DStm} (hp : PassesOwn (model X.prog X.w) X.A X.env X.xe) (hc : DT X c t) (hb : DB X body mb) : DS X (.While c body [] pos) (mWhile t mb) := by
  obtain ⟨tc, pc, ec⟩ := hc
  obtain ⟨tb, pb, eb⟩ := hb
  refine ⟨_, ps_while hp pc pb, ?_⟩
  intro C F env σ H D P I h k
  obtain ⟨n, hn⟩ := mWhile_iff.mp h
  refine ⟨fun m σ' H' => ∃ F e, Ok X.K C F e σ' H' ∧ whN t mb m P e, ⟨n, F, env, I, hn⟩, ?_⟩
  rintro m σ' H' ⟨F1, e1, I1, w1⟩
  cases m with
  | zero => exact w1.elim
  | succ m =>
    refine ec C F1 e1 σ' H' _ _ I1 w1 ?_
    intro b e2 F2 H2 h2 A2
    cases b with
    | true =>
      have h2' : mb { P with nx := fun e => whN t mb m P e, ct := fun e => whN t mb m P e, bk := P.nx } e2 := by simpa using h2
      refine ⟨fun σ'' H'' => ∃ F e, Ok X.K C F e σ'' H'' ∧ whN t mb m P e, fun σ'' H'' q => ⟨m, Nat.lt_succ_self m, q⟩, ?_⟩
      exact eb C F2 e2 σ' H2 _ _ A2.ok h2' ⟨fun F e σ5 H5 I5 q => ⟨F, e, I5, q⟩, fun F e σ5 H5 I5 q => k.nx F e σ5 H5 I5 q, fun F e σ5 H5 I5 q => ⟨F, e, I5, q⟩, k.rt, k.r2⟩
    | false =>
      have h2' : P.nx e2 := by simpa using h2
      exact k.nx F2 e2 σ' H2 A2.ok h2'
end

/-! ### comprehensions -/
@[simp] def wipeE (env : List Slot) : List Nat → List Slot
  | [] => env
  | v :: vs => (wipeE env vs).set v .no
@[simp] def unwipe (env e : List Slot) : List Nat → List Slot
  | [] => e
  | v :: vs => (unwipe env e vs).set v (env.getD v .no)
@[simp] def noOwn (env : List Slot) (vs : List Nat) : Bool := vs.all fun v => !isOwn env v
@[simp] def compW (hold : Holds) (g : DTg) (tt : DMB) (me : DM) (vs : List Nat) : List D → List D → List Slot → (List D → List Slot → Prop) → Prop
  | [], acc, env, R => holdE hold env ∧ R acc env
  | x :: xs, acc, env, R => holdE hold env ∧ g x (wipeE env vs) fun e => tt e fun b e2 => if b = true then me e2 fun y e3 => y.get e3 fun d => acc.length < 100000 ∧ compW hold g tt me vs xs (acc ++ [d]) (unwipe env e3 vs) R else compW hold g tt me vs xs acc (unwipe env e2 vs) R
@[irreducible] def compI (hold : Holds) (g : DTg) (tt : DMB) (me : DM) (vs : List Nat) (items acc : List D) (env : List Slot) (R : List D → List Slot → Prop) : Prop := compW hold g tt me vs items acc env R
theorem compI_iff {hold : Holds} {g : DTg} {tt : DMB} {me : DM} {vs : List Nat} {items acc : List D} {env : List Slot} {R : List D → List Slot → Prop} : compI hold g tt me vs items acc env R ↔ compW hold g tt me vs items acc env R := by unfold compI; exact Iff.rfl
@[simp] def mLc (mi : DMI) (g : DTg) (tt : DMB) (me : DM) (vs : List Nat) : DM := fun env R => mi env fun items hold e => noOwn e vs = true ∧ compI hold g tt me vs items [] e fun ds e' => R (.tm (.lst ds)) e'
theorem wipeE_length (env : List Slot) : ∀ vs : List Nat, (wipeE env vs).length = env.length
  | [] => rfl
  | v :: vs => by simp [wipeE_length env vs]
theorem unwipe_length (env e : List Slot) : ∀ vs : List Nat, (unwipe env e vs).length = e.length
  | [] => rfl
  | v :: vs => by simp [unwipe_length env e vs]
theorem wipeE_get {env : List Slot} : ∀ {vs : List Nat} {i : Nat} {s : Slot}, s ≠ .no → ((wipeE env vs)[i]? = some s ↔ env[i]? = some s ∧ i ∉ vs)
  | [], i, s, _ => by simp
  | v :: vs, i, s, ns => by
    show ((wipeE env vs).set v .no)[i]? = some s ↔ _
    by_cases q : v = i
    · subst q
      rw [List.getElem?_set]
      simp only [if_true]
      constructor
      · intro e
        split at e
        · cases e; exact absurd rfl ns
        · cases e
      · rintro ⟨_, n⟩; exact absurd (List.mem_cons_self) n
    · rw [List.getElem?_set_ne q, wipeE_get ns]
      simp [fun z => q (Eq.symm z)]
      intro _ _ z
      exact q z.symm
theorem unwipe_get {env e : List Slot} (hl : env.length = e.length) : ∀ {vs : List Nat} {i : Nat}, (unwipe env e vs)[i]? = if i ∈ vs then env[i]? else e[i]?
  | [], i => by simp
  | v :: vs, i => by
    show ((unwipe env e vs).set v (env.getD v .no))[i]? = _
    by_cases q : v = i
    · subst q
      rw [List.getElem?_set]
      simp only [if_true, List.mem_cons_self]
      rw [unwipe_length]
      split
      · rename_i h
        have h' : v < env.length := by omega
        simp [h']
      · rename_i h
        have h' : env.length ≤ v := by omega
        simp [h']
    · rw [List.getElem?_set_ne q, unwipe_get hl]
      have : (i ∈ v :: vs) ↔ i ∈ vs := by simp [fun z => q (Eq.symm z)]; intro z; exact absurd z.symm q
      simp only [this]
theorem wipe_get {σ : L2.St} : ∀ {vs : List Nat} {i : Nat}, i ∉ vs → (wipe σ vs)[i]? = σ[i]?
  | [], i, _ => rfl
  | v :: vs, i, n => by
    show ((wipe σ vs).set v none)[i]? = _
    rw [List.getElem?_set_ne (fun z => n (by simp [z]))]
    exact wipe_get fun z => n (List.mem_cons_of_mem _ z)
theorem wipe_in {σ : L2.St} : ∀ {vs : List Nat} {i : Nat}, i ∈ vs → i < σ.length → (wipe σ vs)[i]? = some none
  | v :: vs, i, m, h => by
    show ((wipe σ vs).set v none)[i]? = _
    by_cases q : v = i
    · subst q
      rw [List.getElem?_set_self (by rw [wipe_length]; exact h)]
    · rw [List.getElem?_set_ne q]
      exact wipe_in ((List.mem_cons.mp m).resolve_left fun z => q z.symm) h
theorem wipe_same {σ σ2 : L2.St} {vs : List Nat} (hl : σ2.length = σ.length) (h : ∀ i, i ∉ vs → σ2[i]? = σ[i]?) : wipe σ2 vs = wipe σ vs := by
  apply List.ext_getElem?
  intro i
  by_cases q : i ∈ vs
  · by_cases l : i < σ.length
    · rw [wipe_in q l, wipe_in q (by omega)]
    · rw [List.getElem?_eq_none (by rw [wipe_length]; omega), List.getElem?_eq_none (by rw [wipe_length]; omega)]
  · rw [wipe_get q, wipe_get q]; exact h i q
section
variable {K : PySem.W.Frag} {C : Ct} {F F' H H' : Hp} {env e : List Slot} {σ σ2 : L2.St} {vs : List Nat}
theorem noOwn_no (h : noOwn env vs = true) {i : Nat} {b : Bool} {d : D} (e : env[i]? = some (.own b d)) : i ∉ vs := fun m => by
  have := List.all_eq_true.mp h i m
  simp [e] at this
theorem Ok.wiped (h : Ok K C F env σ H) (n : noOwn env vs = true) : Ok K C F (wipeE env vs) (wipe σ vs) H where
  len := by rw [wipe_length, wipeE_length]; exact h.len
  sub := h.sub
  keep := h.keep
  all := h.all
  new := h.new
  bas := h.bas
  vals := fun i d q => by
    obtain ⟨q1, q2⟩ := (wipeE_get (by simp)).mp q
    rw [wipe_get q2]; exact h.vals i d q1
  owns := fun i b d q => by
    obtain ⟨q1, q2⟩ := (wipeE_get (by simp)).mp q
    rw [wipe_get q2]; exact h.owns i b d q1
  sep := fun i j p ⟨b, d, e1, s1⟩ ⟨b2, d2, e2, s2⟩ => by
    obtain ⟨q1, q2⟩ := (wipeE_get (by simp)).mp e1
    obtain ⟨q3, q4⟩ := (wipeE_get (by simp)).mp e2
    rw [wipe_get q2] at s1
    rw [wipe_get q4] at s2
    exact h.sep i j p ⟨b, d, q1, s1⟩ ⟨b2, d2, q3, s2⟩
  pins := fun i q => by
    obtain ⟨d, e⟩ := h.pins i q
    exact ⟨d, (wipeE_get (by simp)).mpr ⟨e, noOwn_no n e⟩⟩
structure Block (env e : List Slot) (σ σ2 : L2.St) (vs : List Nat) : Prop where
  len : σ2.length = σ.length
  st : ∀ i, i ∉ vs → σ2[i]? = σ[i]?
  own : ∀ (i : Nat) (b : Bool) (d : D), e[i]? = some (.own b d) → ∃ d', env[i]? = some (.own b d') ∧ i ∉ vs
theorem Block.owns (B : Block env e σ σ2 vs) {i : Nat} {p : Addr} (h : Owns e σ2 i p) : Owns env σ i p := by
  obtain ⟨b, d, h1, h2⟩ := h
  obtain ⟨d', h3, h4⟩ := B.own i b d h1
  exact ⟨b, d', h3, by rw [← B.st i h4]; exact h2⟩
theorem Block.sub (B : Block env e σ σ2 vs) {e' : List Slot} (s : Sub e e') : Block env e' σ σ2 vs := ⟨B.len, B.st, fun i b d h => by
  obtain ⟨d', h'⟩ := s i b d h
  exact B.own i b d' h'⟩
theorem Ok.unwiped (h0 : Ok K C F env σ H) (n : noOwn env vs = true) (h : Ok K C F' e σ2 H') (x : Ex F F') (B : Block env e σ σ2 vs) : Ok K C F' (unwipe env e vs) σ H' := by
  have hl : env.length = e.length := by rw [← h0.len, ← h.len]; exact B.len.symm
  have og : ∀ (i : Nat) (b : Bool) (d : D), (unwipe env e vs)[i]? = some (.own b d) → e[i]? = some (.own b d) ∧ i ∉ vs := fun i b d q => by
    rw [unwipe_get hl] at q
    split at q
    · rename_i m; exact absurd m (noOwn_no n q)
    · rename_i m; exact ⟨q, m⟩
  exact {
    len := by rw [unwipe_length, ← hl]; exact h0.len
    sub := h.sub, keep := h.keep, all := h.all, new := h.new, bas := h.bas
    vals := fun i d q => by
      rw [unwipe_get hl] at q
      split at q
      · obtain ⟨v, h1, h2⟩ := h0.vals i d q
        exact ⟨v, h1, h2.mono x⟩
      · rename_i m
        rw [← B.st i m]; exact h.vals i d q
    owns := fun i b d q => by
      obtain ⟨q1, q2⟩ := og i b d q
      rw [← B.st i q2]; exact h.owns i b d q1
    sep := fun i j p ⟨b, d, e1, s1⟩ ⟨b2, d2, e2, s2⟩ => by
      obtain ⟨q1, q2⟩ := og i b d e1
      obtain ⟨q3, q4⟩ := og j b2 d2 e2
      exact h.sep i j p ⟨b, d, q1, by rw [B.st i q2]; exact s1⟩ ⟨b2, d2, q3, by rw [B.st j q4]; exact s2⟩
    pins := fun i q => by
      obtain ⟨d, z⟩ := h.pins i q
      obtain ⟨_, _, z2⟩ := B.own i true d z
      exact ⟨d, by rw [unwipe_get hl, if_neg z2]; exact z⟩ }
theorem Aft.unwiped {F1 H1 : Hp} (h0 : Ok K C F env σ H) (n : noOwn env vs = true) (B : Block env e σ σ2 vs) {e' : List Slot} (A : Aft K C F e σ2 H F1 e' H1) : Aft K C F env σ H F1 (unwipe env e' vs) H1 := by
  have B' := B.sub A.le
  have hl : env.length = e'.length := by rw [← h0.len, ← A.ok.len]; exact B.len.symm
  exact {
    ok := h0.unwiped n A.ok A.ex B'
    ex := A.ex
    fr := fun a o q u => A.fr a o q fun i z => u i (B.owns z)
    nw := fun a q z u => A.nw a q z fun i w => u i (B.owns w)
    al := A.al
    le := fun i b d q => by
      rw [unwipe_get hl] at q
      split at q
      · exact ⟨d, q⟩
      · obtain ⟨d', z, _⟩ := B'.own i b d q
        exact ⟨d', z⟩ }
theorem noOwn_unwipe (hl : env.length = e.length) (n : noOwn env vs = true) : noOwn (unwipe env e vs) vs = true := by
  apply List.all_eq_true.mpr
  intro v m
  have := List.all_eq_true.mp n v m
  simp only [isOwn] at this ⊢
  rw [unwipe_get hl, if_pos m]
  exact this
theorem holdE_unwipe_of {hold : Holds} : True := trivial
theorem Aft.poke {F1 H1 : Hp} {p : Addr} {u : HO} (o : HO) (A : Aft K C F env σ H F1 e H1) (hp : H1 p = some u) (hF : F1 p = none) (hG : C.G p = none) (hn : ∀ i, ¬ Owns env σ i p) (h0 : H p = none) : Aft K C F env σ H F1 e (upd H1 p o) where
  ok := {
    len := A.ok.len
    sub := fun a w q => by rw [upd_ne (ne_of_none q hF)]; exact A.ok.sub a w q
    keep := fun a w q z => by rw [upd_ne (ne_of_none q hG)]; exact A.ok.keep a w q z
    all := fun a q => by
      by_cases z : a = p
      · subst z; rw [upd_same]; exact fun w => nomatch w
      · rw [upd_ne z]; exact A.ok.all a q
    new := A.ok.new, bas := A.ok.bas, vals := A.ok.vals
    owns := fun i b d q => by
      obtain ⟨p2, o2, g1, g2, g3⟩ := A.ok.owns i b d q
      refine ⟨p2, o2, g1, ?_, g3⟩
      rw [upd_ne]
      · exact g2
      · rintro rfl
        exact hn i (A.le.owns ⟨b, d, q, g1⟩)
    sep := A.ok.sep, pins := A.ok.pins }
  ex := A.ex
  fr := fun a w q z => by rw [upd_ne (ne_of_none q h0)]; exact A.fr a w q z
  nw := A.nw
  al := fun a q => by
    by_cases z : a = p
    · subst z; rw [upd_same]; exact fun w => nomatch w
    · rw [upd_ne z]; exact A.al a q
  le := A.le
end
theorem compW_hold {hold : Holds} {g : DTg} {tt : DMB} {me : DM} {vs : List Nat} {items acc : List D} {env : List Slot} {R : List D → List Slot → Prop} (h : compW hold g tt me vs items acc env R) : holdE hold env := by
  cases items <;> exact h.1
theorem evd_lc {K : PySem.W.Frag} {mi : DMI} {g : DTg} {tt : DMB} {me : DM} {js vs : List Nat} {wi : TI} {tg : TG} {ti : TT} {te : TE} (ei : EvI K mi wi) (eg : EvG K js g tg) (et : EvB K tt ti) (ee : EvD K me te) (hj : ∀ i ∈ js, i ∈ vs) :
    EvD K (mLc mi g tt me vs) (tLc wi tg ti te vs) := by
  intro C F env σ H R Q I h k
  refine ei C F env σ H _ _ I h ?_
  intro items hold e1 F1 H1 J h1 A1 io hh
  intro p hp
  obtain ⟨n1, w1⟩ := h1
  rw [compI_iff] at w1
  refine ⟨fun i m H' => m = items.length - i ∧ i ≤ items.length ∧ ∃ F2 e acc vacc, Aft K C F1 e1 σ H1 F2 e H' ∧ H' p = some (.lst vacc) ∧ RepL K F2 vacc acc ∧ F2 p = none ∧ noOwn e vs = true ∧
    compW hold g tt me vs (items.drop i) acc e (fun ds e' => R (.tm (.lst ds)) e'), ⟨items.length, by simp, Nat.zero_le _, F1, e1, [], [], A1.ok.tmp hp _, upd_same, .nil, A1.ok.fnone hp, n1, by simpa using w1⟩, ?_⟩
  have hG : C.G p = none := A1.ok.gnone hp
  have hU : ∀ i, ¬ Owns e1 σ i p := A1.ok.unowned hp
  rintro i m H2 ⟨rfl, hi, F2, e2, acc, vacc, A2, hv, ra, hF, n2, w2⟩
  have io2 := io i F2 e2 σ H2 A2.ok A2.ex (compW_hold w2) (fun _ _ => rfl)
  by_cases hlt : i < items.length
  · refine Or.inr ⟨(io2.1 hlt).1, fun H' => ∃ F2 e acc vacc, Aft K C F1 e1 σ H1 F2 e H' ∧ H' p = some (.lst vacc) ∧ RepL K F2 vacc acc ∧ F2 p = none ∧ noOwn e vs = true ∧
      compW hold g tt me vs (items.drop (i + 1)) acc e (fun ds e' => R (.tm (.lst ds)) e'), fun H' q => ⟨items.length - (i + 1), by omega, rfl, hlt, q⟩, fun x H3 y => ?_⟩
    obtain ⟨F3, d, hd, A3, rp⟩ := (io2.1 hlt).2 x H3 y
    have hdr : items.drop i = d :: items.drop (i + 1) := by
      rw [List.drop_eq_getElem_cons hlt]
      rw [List.getElem?_eq_getElem hlt] at hd
      cases hd; rfl
    rw [hdr] at w2
    have A13 := A2.trans A3
    refine eg C F3 (wipeE e2 vs) (wipe σ vs) H3 _ _ _ _ (A3.ok.wiped n2) rp w2.2 ?_
    intro e4 σ4 h4 I4 k4
    have B4 : Block e2 e4 σ σ4 vs := ⟨by rw [k4.1, wipe_length], fun i q => (k4.2.1 i fun z => q (hj i z)).trans (wipe_get q), fun i b d q => by
      obtain ⟨q1, q2⟩ := (wipeE_get (by simp)).mp (k4.2.2 i b d q)
      exact ⟨d, q1, q2⟩⟩
    refine ⟨wipe_same B4.len B4.st |>.trans rfl, ?_⟩
    refine et C F3 e4 σ4 H3 _ _ I4 h4 ?_
    intro b e5 F5 H5 h5 A5
    have pU : ∀ {F' e' H'}, Aft K C F1 e1 σ H1 F' e' H' → ∀ i, ¬ Owns e' σ i p := fun A i q => hU i (A.le.owns q)
    have hl : ∀ {F' e' H'}, Aft K C F3 e4 σ4 H3 F' e' H' → e2.length = e'.length := fun {F' e' H'} A => by
      rw [← A2.ok.len, ← A.ok.len]; exact B4.len.symm
    -- the new list stays through the turn
    have stay : ∀ {F' e' H'}, Aft K C F3 e4 σ4 H3 F' e' H' → H' p = some (.lst vacc) ∧ F' p = none := fun {F' e' H'} A => by
      have u4 : ∀ i, ¬ Owns e4 σ4 i p := fun i q => pU A2 i (B4.owns q)
      have g3 : H3 p = some (.lst vacc) := A3.fr p _ hv (pU A2)
      have f3 : F3 p = none := A3.nw p (by rw [hv]; exact fun z => nomatch z) hF (pU A2)
      exact ⟨A.fr p _ g3 u4, A.nw p (by rw [g3]; exact fun z => nomatch z) f3 u4⟩
    cases b with
    | true =>
      have h5' : me e5 (fun y e3 => y.get e3 fun d => acc.length < 100000 ∧ compW hold g tt me vs (items.drop (i + 1)) (acc ++ [d]) (unwipe e2 e3 vs) fun ds e' => R (.tm (.lst ds)) e') := by simpa using h5
      rw [if_pos rfl]
      refine ee C F5 e5 σ4 H5 _ _ A5.ok h5' ?_
      intro l e6 F6 v6 H6 h6 A6 r6
      obtain ⟨F7, d7, h7, A7, ex7, rp7⟩ := A6.keepIt r6 h6
      have A57 := A5.trans A7
      obtain ⟨s1, s2⟩ := stay A57
      refine ⟨vacc, s1, by rw [ra.length]; exact sz_lt h7.1, F7, _, acc ++ [d7], vacc ++ [v6], Aft.poke _ (A13.trans (Aft.unwiped A3.ok n2 B4 A57)) s1 s2 hG hU hp, upd_same, ?_, s2, noOwn_unwipe (hl A57) n2, h7.2⟩
      exact (ra.mono (A3.ex.trans A57.ex)).append (.cons rp7 .nil)
    | false =>
      have h5' : compW hold g tt me vs (items.drop (i + 1)) acc (unwipe e2 e5 vs) (fun ds e' => R (.tm (.lst ds)) e') := by simpa using h5
      rw [if_neg Bool.false_ne_true]
      obtain ⟨s1, s2⟩ := stay A5
      exact ⟨F5, _, acc, vacc, A13.trans (Aft.unwiped A3.ok n2 B4 A5), s1, ra.mono (A3.ex.trans A5.ex), s2, noOwn_unwipe (hl A5) n2, h5'⟩
  · have e : i = items.length := by omega
    subst e
    rw [List.drop_length] at w2
    refine Or.inl ⟨io2.2 (Nat.le_refl _), ?_⟩
    exact k _ e2 F2 _ H2 w2.2 (A1.trans A2) ⟨p, _, rfl, hv, ra, hF, hG, fun i q => hU i (A2.le.owns q), A1.back hp⟩
end DL

set_option Elab.async false
set_option linter.all false
set_option maxRecDepth 100000
set_option maxHeartbeats 4000000
set_option autoImplicit false
/-! DL8: readings that hang on the data's reading alone; list comprehensions as expressions and as values given to a name. -/
namespace DL
open PySem PySem.Spec L2 Evl PyProof.Rows

def TD (K : PySem.W.Frag) (m : DM) : TE := fun σ H Q => ∃ C F env R, Ok K C F env σ H ∧ m env R ∧ ∀ l env' F' v H', R l env' → Aft K C F env σ H F' env' H' → RVOk K C F' env' σ H H' v l → Q v H'
def TB (K : PySem.W.Frag) (m : DMB) : TT := fun σ H Q => ∃ C F env R, Ok K C F env σ H ∧ m env R ∧ ∀ b env' F' H', R b env' → Aft K C F env σ H F' env' H' → Q b H'
def TGn (K : PySem.W.Frag) (js : List Nat) (g : DTg) : TG := fun v σ H Q => ∃ C F env d R, Ok K C F env σ H ∧ Rep K F v d ∧ g d env R ∧ ∀ env' σ', R env' → Ok K C F env' σ' H → Keeps js env env' σ σ' → Q σ' H
def TIn (K : PySem.W.Frag) (m : DMI) : TI := fun σ H Q => ∃ C F env R, Ok K C F env σ H ∧ m env R ∧ ∀ items hold env' F' H' J, R items hold env' → Aft K C F env σ H F' env' H' → IterOk K C F' σ J items hold → holdE hold env' → Q J H'
section
variable {K : PySem.W.Frag}
theorem evd_TD {m : DM} : EvD K m (TD K m) := fun C F env σ H R Q I h k => ⟨C, F, env, R, I, h, k⟩
theorem evb_TB {m : DMB} : EvB K m (TB K m) := fun C F env σ H R Q I h k => ⟨C, F, env, R, I, h, k⟩
theorem evg_TG {js : List Nat} {g : DTg} : EvG K js g (TGn K js g) := fun C F env σ H v d R Q I r h k => ⟨C, F, env, d, R, I, r, h, k⟩
theorem evi_TI {m : DMI} : EvI K m (TIn K m) := fun C F env σ H R Q I h k => ⟨C, F, env, R, I, h, k⟩
end
section
variable {X : Cx}
theorem DE.can {e : Expr} {m : DM} (h : DE X e m) : PE X e (TD X.K m) := by
  obtain ⟨t, p, ev⟩ := h
  refine ⟨fun pins s σ H Q I q => ?_⟩
  obtain ⟨C, F, env, R, O, hm, k⟩ := q
  exact p.run pins s σ H Q I (ev C F env σ H R Q O hm k)
theorem DT.can {e : Expr} {m : DMB} (h : DT X e m) : PT X e (TB X.K m) := by
  obtain ⟨t, p, ev⟩ := h
  refine ⟨fun pins s σ H Q I q => ?_⟩
  obtain ⟨C, F, env, R, O, hm, k⟩ := q
  exact p.run pins s σ H Q I (ev C F env σ H R Q O hm k)
theorem DG.can {e : Expr} {js : List Nat} {g : DTg} (h : DG X e js g) : PG X e (TGn X.K js g) := by
  obtain ⟨t, p, ev⟩ := h
  refine ⟨fun pins s σ H v u Q I rv q => ?_⟩
  obtain ⟨C, F, env, d, R, O, r, hm, k⟩ := q
  exact p.run pins s σ H v u Q I rv (ev C F env σ H v d R Q O r hm k)
theorem DI.can {tg e : Expr} {m : DMI} (h : DI X tg e m) : PI X tg e (TIn X.K m) := by
  obtain ⟨t, p, ev⟩ := h
  refine ⟨fun pins s σ H R' I q => ?_⟩
  obtain ⟨C, F, env, R, O, hm, k⟩ := q
  exact p.run pins s σ H R' I (ev C F env σ H R R' O hm k)
def DTs (X : Cx) (ifs : List Expr) (m : DMB) : Prop := PTs X ifs (TB X.K m)
@[simp] def mYes : DMB := fun env R => R true env
theorem dts_nil : DTs X [] mYes := by
  refine ⟨fun pins s σ H Q I q => ?_⟩
  obtain ⟨C, F, env, R, O, hm, k⟩ := q
  exact pts_nil.run pins s σ H Q I (k true env F H hm O.aft)
theorem dts_one {c : Expr} {m : DMB} (h : DT X c m) : DTs X [c] m := pts_one h.can
abbrev Blk (X : Cx) (scope : Scope) (s : Shared) (H : Hp) (C : Addr) (cl : List (Str × Addr)) (fp : List Addr) : Cx := X.blk s H scope (compEnvC scope cl C X.env) fp
variable {elt tg iter : Expr} {ifs : List Expr} {scope : Scope} {own : List (Str × Nat)} {pos spos py : Pos} {mi : DMI} {js : List Nat} {g : DTg} {tt : DMB} {me : DM}
theorem dlc (own : List (Str × Nat)) (hc : X.calm = true) (hN : X.N.Nodup) (ok : BlkOk X.N X.env.scope scope own) (hi : DI X tg iter mi)
    (hg : ∀ s H C cl fp, DG (Blk X scope s H C cl fp) tg js g) (ht : ∀ s H C cl fp, DTs (Blk X scope s H C cl fp) ifs tt) (he : ∀ s H C cl fp, DE (Blk X scope s H C cl fp) elt me)
    (hj : ∀ i ∈ js, i ∈ own.map (·.2) := by decide) (hs : ∀ x, foldedSetIterable iter X.env x = pure x := by intro _; rfl) :
    DE X (.ListComp elt [⟨tg, iter, ifs, 0⟩] scope pos) (mLc mi g tt me (own.map (·.2))) :=
  ⟨_, pe_lc (tt := TB X.K tt) hc hN hi.can ok (fun s H C cl fp => (hg s H C cl fp).can) (fun s H C cl fp => ht s H C cl fp) (fun s H C cl fp => (he s H C cl fp).can) hs, evd_lc evi_TI evg_TG evb_TB evd_TD hj⟩
theorem ps_lcTo {i : Nat} {y : Str} (own : List (Str × Nat)) (hc : X.calm = true) (hN : X.N.Nodup) (hy : X.N[i]? = some y) (hyl : X.env.scope.names.lookup y = some .local)
    (hsw : swapsWith (.ListComp elt [⟨tg, iter, ifs, 0⟩] scope pos) (some (.Name y py)) spos.line X.env = pure true) (ok : BlkOk X.N X.env.scope scope own) (hi : DI X tg iter mi)
    (hg : ∀ s H C cl fp, DG (Blk X scope s H C cl fp) tg js g) (ht : ∀ s H C cl fp, DTs (Blk X scope s H C cl fp) ifs tt) (he : ∀ s H C cl fp, DE (Blk X scope s H C cl fp) elt me)
    (hs : ∀ x, foldedSetIterable iter X.env x = pure x := by intro _; rfl) :
    PS X (.Assign [.Name y py] (.ListComp elt [⟨tg, iter, ifs, 0⟩] scope pos) spos) (tAsg (tLc (TIn X.K mi) (TGn X.K js g) (TB X.K tt) (TD X.K me) (own.map (·.2))) (gName i)) :=
  ps_setLc (tt := TB X.K tt) hc hN hy hyl hsw hi.can ok (fun s H C cl fp => (hg s H C cl fp).can) (fun s H C cl fp => ht s H C cl fp) (fun s H C cl fp => (he s H C cl fp).can) hs
theorem ds_setLc {i : Nat} {y : Str} (own : List (Str × Nat)) (hc : X.calm = true) (hN : X.N.Nodup) (hy : X.N[i]? = some y) (hyl : X.env.scope.names.lookup y = some .local)
    (hsw : swapsWith (.ListComp elt [⟨tg, iter, ifs, 0⟩] scope pos) (some (.Name y py)) spos.line X.env = pure true) (ok : BlkOk X.N X.env.scope scope own) (hi : DI X tg iter mi)
    (hg : ∀ s H C cl fp, DG (Blk X scope s H C cl fp) tg js g) (ht : ∀ s H C cl fp, DTs (Blk X scope s H C cl fp) ifs tt) (he : ∀ s H C cl fp, DE (Blk X scope s H C cl fp) elt me)
    (hj : ∀ i ∈ js, i ∈ own.map (·.2) := by decide) (hs : ∀ x, foldedSetIterable iter X.env x = pure x := by intro _; rfl) :
    DS X (.Assign [.Name y py] (.ListComp elt [⟨tg, iter, ifs, 0⟩] scope pos) spos) (mSet i (mLc mi g tt me (own.map (·.2)))) :=
  ⟨_, ps_lcTo own hc hN hy hyl hsw ok hi hg ht he hs, evs_set (evd_lc evi_TI evg_TG evb_TB evd_TD hj)⟩
theorem ds_setLcO {i : Nat} {y : Str} (own : List (Str × Nat)) (hc : X.calm = true) (hN : X.N.Nodup) (hy : X.N[i]? = some y) (hyl : X.env.scope.names.lookup y = some .local)
    (hsw : swapsWith (.ListComp elt [⟨tg, iter, ifs, 0⟩] scope pos) (some (.Name y py)) spos.line X.env = pure true) (ok : BlkOk X.N X.env.scope scope own) (hi : DI X tg iter mi)
    (hg : ∀ s H C cl fp, DG (Blk X scope s H C cl fp) tg js g) (ht : ∀ s H C cl fp, DTs (Blk X scope s H C cl fp) ifs tt) (he : ∀ s H C cl fp, DE (Blk X scope s H C cl fp) elt me)
    (hj : ∀ i ∈ js, i ∈ own.map (·.2) := by decide) (hs : ∀ x, foldedSetIterable iter X.env x = pure x := by intro _; rfl) :
    DS X (.Assign [.Name y py] (.ListComp elt [⟨tg, iter, ifs, 0⟩] scope pos) spos) (mSetO i (mLc mi g tt me (own.map (·.2)))) :=
  ⟨_, ps_lcTo own hc hN hy hyl hsw ok hi hg ht he hs, evs_setO (evd_lc evi_TI evg_TG evb_TB evd_TD hj)⟩
end
end DL

set_option Elab.async false
set_option linter.all false
set_option maxRecDepth 100000
set_option maxHeartbeats 4000000
set_option autoImplicit false
/-! DL9: operators on data. -/
namespace DL
open PySem PySem.Spec L2 Evl PyProof.Rows

/-! ### texts that may stand -/
theorem sOk_iff {x : Str} : PyData.strOk x = true ↔ ∀ c ∈ x.cps.toList, c < 0x110000 := by
  unfold PyData.strOk
  rw [Array.all_eq_true']
  simp
theorem sOk_append {x y : Str} (h : PyData.strOk x = true) (k : PyData.strOk y = true) : PyData.strOk (x ++ y) = true := by
  rw [sOk_iff] at *
  intro c m
  have m' : c ∈ (x.cps ++ y.cps).toList := m
  rw [Array.toList_append, List.mem_append] at m'
  exact m'.elim (h c) (k c)
theorem sOk_sub {x y : Str} (h : PyData.strOk x = true) (k : ∀ c ∈ y.cps.toList, c ∈ x.cps.toList) : PyData.strOk y = true := by
  rw [sOk_iff] at *
  exact fun c m => h c (k c m)
theorem sOk_cut {x : Str} {lo hi : Option Int} (h : PyData.strOk x = true) : PyData.strOk (cutS x lo hi) = true := by
  refine sOk_sub h fun c m => ?_
  unfold cutS at m
  rw [show (⟨((x.cps.toList.drop (HT.sIx x.length 0 lo)).take (HT.sIx x.length x.length hi - HT.sIx x.length 0 lo)).toArray⟩ : Str).cps.toList = (x.cps.toList.drop (HT.sIx x.length 0 lo)).take (HT.sIx x.length x.length hi - HT.sIx x.length 0 lo) from by simp] at m
  exact List.mem_of_mem_drop (List.mem_of_mem_take m)

section
variable {X : Cx} {K : PySem.W.Frag}

/-! ### + - * // % ** << >> & -/
@[simp] def aAdd (d e : D) (R : RV → Prop) : Prop := match d, e with
  | .int i, .int j => R (.vl (.int (i + j)))
  | .str s, .str t => s.length + t.length ≤ sizeLine ∧ R (.vl (.str (s ++ t)))
  | .lst xs, .lst ys => xs.length + ys.length ≤ 100000 ∧ R (.tm (.lst (xs ++ ys)))
  | .tup xs, .tup ys => xs ≠ [] ∧ ys ≠ [] ∧ xs.length + ys.length ≤ 100000 ∧ R (.vl (.tup (xs ++ ys)))
  | _, _ => False
def rAddD (K : PySem.W.Frag) : R2 := fun x y H Q => (∃ i j, x = .int i ∧ y = .int j ∧ Q (.int (i + j)) H) ∨ (∃ i j, x = .str i ∧ y = .str j ∧ i.length + j.length ≤ sizeLine ∧ Q (.str (i ++ j)) H) ∨ rCat x y H Q ∨ rCatT K x y H Q
theorem op_addD : OpR X (binaryOp .Add) (rAddD X.K) := by
  intro pins s σ H x y v u Q I rx ry h
  rcases h with h | h | h | h
  · exact op_add pins s σ H x y v u Q I rx ry h
  · exact op_add_str pins s σ H x y v u Q I rx ry h
  · exact op_cat pins s σ H x y v u Q I rx ry h
  · exact op_catT pins s σ H x y v u Q I rx ry h
theorem o2_add : Op2 K (rAddD K) aAdd := by
  intro C F env σ H v w d e R Q I s1 s2 h g
  unfold aAdd at h
  split at h
  · exact Or.inl ⟨_, _, s1.int, s2.int, g.int I h⟩
  · exact Or.inr (Or.inl ⟨_, _, s1.str.1, s2.str.1, h.1, g.str I (sOk_append s1.str.2 s2.str.2) h.2⟩)
  · obtain ⟨p, vs, rfl, e1, r1⟩ := s1.lst I.sub
    obtain ⟨q, ws, rfl, e2, r2⟩ := s2.lst I.sub
    exact Or.inr (Or.inr (Or.inl ⟨p, q, vs, ws, rfl, rfl, e1, e2, by rw [r1.length, r2.length]; exact sz_of h.1, fun a ha => g.lst I h.2 (r1.append r2) a ha⟩))
  · obtain ⟨p, vs, rfl, e1, r1⟩ := s1.tup
    obtain ⟨q, ws, rfl, e2, r2⟩ := s2.tup
    have n1 : vs ≠ [] := fun z => by subst z; cases r1; exact h.1 rfl
    have n2 : ws ≠ [] := fun z => by subst z; cases r2; exact h.2.1 rfl
    exact Or.inr (Or.inr (Or.inr ⟨p, q, vs, ws, rfl, rfl, ex_t I.sub e1, ex_t I.sub e2, n1, by rw [r1.length, r2.length]; exact sz_of h.2.2.1, fun z => absurd z n2, fun _ a ha => g.tup I h.2.2.2 (r1.append r2) a ha⟩))
  · exact h.elim
@[simp] def aInt (f : Int → Int → Int) (c : Int → Int → Prop) (d e : D) (R : RV → Prop) : Prop := match d, e with
  | .int i, .int j => c i j ∧ R (.vl (.int (f i j)))
  | _, _ => False
theorem o2_int {f : Int → Int → Int} {c c' : Int → Int → Prop} (hc : ∀ i j, c i j → c' i j) : Op2 K (rI c' fun i j => .int (f i j)) (aInt f c) := by
  intro C F env σ H v w d e R Q I s1 s2 h g
  unfold aInt at h
  split at h
  · exact ⟨_, _, s1.int, s2.int, hc _ _ h.1, g.int I h.2⟩
  · exact h.elim
theorem o2_int0 {f : Int → Int → Int} : Op2 K (rI0 fun i j => .int (f i j)) (aInt f fun _ _ => True) := by
  intro C F env σ H v w d e R Q I s1 s2 h g
  unfold aInt at h
  split at h
  · exact ⟨_, _, s1.int, s2.int, g.int I h.2⟩
  · exact h.elim
abbrev aSub := aInt (· - ·) fun _ _ => True
abbrev aFdiv := aInt (· / ·) fun i j => 0 < j ∧ j.natAbs.log2 < 9000
abbrev aMod := aInt (· % ·) fun i j => 0 < j
abbrev aPow := aInt (fun i j => i ^ j.toNat) CPow
abbrev aShl := aInt (fun i j => i * 2 ^ j.toNat) CPow
abbrev aShr := aInt (fun i j => i / 2 ^ j.toNat) fun i j => 0 ≤ j
abbrev aAnd := aInt (fun i j => Builtin.bitAnd i j) fun _ _ => True
theorem o2_sub : Op2 K (rI0 fun i j => .int (i - j)) aSub := o2_int0
theorem o2_fdiv : Op2 K (rI CDivW fun i j => .int (i / j)) aFdiv := o2_int fun _ _ h => h
theorem o2_mod : Op2 K (rI (fun _ j => 0 < j) fun i j => .int (i % j)) aMod := o2_int fun _ _ h => h
theorem o2_pow : Op2 K (rI CPow fun i j => .int (i ^ j.toNat)) aPow := o2_int fun _ _ h => h
theorem o2_shl : Op2 K (rI CPow fun i j => .int (i * 2 ^ j.toNat)) aShl := o2_int fun _ _ h => h
theorem o2_shr : Op2 K (rI (fun _ j => 0 ≤ j) fun i j => .int (i / 2 ^ j.toNat)) aShr := o2_int fun _ _ h => h
theorem o2_and : Op2 K (rI0 fun i j => .int (Builtin.bitAnd i j)) aAnd := o2_int0
@[simp] def aMul (d e : D) (R : RV → Prop) : Prop := match d, e with
  | .int i, .int j => CMulW i j ∧ R (.vl (.int (i * j)))
  | .lst xs, .int k => 0 ≤ k ∧ k ≤ 100000 ∧ xs.length * k.toNat ≤ 100000 ∧ R (.tm (.lst (List.flatten (List.replicate k.toNat xs))))
  | _, _ => False
def rMulD : R2 := fun x y H Q => rI CMulW (fun i j => .int (i * j)) x y H Q ∨ rRep x y H Q
theorem op_mulD : OpR X (binaryOp .Mult) rMulD := by
  intro pins s σ H x y v u Q I rx ry h
  rcases h with h | h
  · exact op_mulW pins s σ H x y v u Q I rx ry h
  · exact op_rep pins s σ H x y v u Q I rx ry h

/-! ### < <= > >= : numbers, texts -/
@[simp] def aOrd (f : Int → Int → Bool) (g : List Nat → List Nat → Bool) (d e : D) (R : RV → Prop) : Prop := match d, e with
  | .int i, .int j => R (.vl (.bl (f i j)))
  | .str s, .str t => R (.vl (.bl (g s.cps.toList t.cps.toList)))
  | _, _ => False
def rOrd (f : Int → Int → Bool) (g : List Nat → List Nat → Bool) : R2 := fun x y H Q => (∃ i j, x = .int i ∧ y = .int j ∧ Q (.bl (f i j)) H) ∨ ∃ i j : Str, x = .str i ∧ y = .str j ∧ Q (.bl (g i.cps.toList j.cps.toList)) H
theorem o2_ord {f : Int → Int → Bool} {k : List Nat → List Nat → Bool} : Op2 K (rOrd f k) (aOrd f k) := by
  intro C F env σ H v w d e R Q I s1 s2 h g
  unfold aOrd at h
  split at h
  · exact Or.inl ⟨_, _, s1.int, s2.int, g.bl I h⟩
  · exact Or.inr ⟨_, _, s1.str.1, s2.str.1, g.bl I h⟩
  · exact h.elim
abbrev aLt := aOrd (fun i j => decide (i < j)) fun s t => decide (s < t)
abbrev aLe := aOrd (fun i j => decide (i ≤ j)) fun s t => !decide (t < s)
abbrev aGt := aOrd (fun i j => decide (j < i)) fun s t => decide (t < s)
abbrev aGe := aOrd (fun i j => decide (j ≤ i)) fun s t => !decide (s < t)
theorem op_ltD : OpR X (compareOp .Lt) (rOrd (fun i j => decide (i < j)) fun s t => decide (s < t)) := by
  intro pins s σ H x y v u Q I rx ry h
  rcases h with h | h
  · exact op_lt pins s σ H x y v u Q I rx ry h
  · exact op_lt_str pins s σ H x y v u Q I rx ry h
theorem op_leD : OpR X (compareOp .LtE) (rOrd (fun i j => decide (i ≤ j)) fun s t => !decide (t < s)) := by
  intro pins s σ H x y v u Q I rx ry h
  rcases h with h | h
  · exact op_le pins s σ H x y v u Q I rx ry h
  · exact op_le_str pins s σ H x y v u Q I rx ry h
theorem op_gtD : OpR X (compareOp .Gt) (rOrd (fun i j => decide (j < i)) fun s t => decide (t < s)) := by
  intro pins s σ H x y v u Q I rx ry h
  rcases h with h | h
  · exact op_gt pins s σ H x y v u Q I rx ry h
  · exact op_gt_str pins s σ H x y v u Q I rx ry h
theorem op_geD : OpR X (compareOp .GtE) (rOrd (fun i j => decide (j ≤ i)) fun s t => !decide (s < t)) := by
  intro pins s σ H x y v u Q I rx ry h
  rcases h with h | h
  · exact op_ge pins s σ H x y v u Q I rx ry h
  · exact op_ge_str pins s σ H x y v u Q I rx ry h

/-! ### ==, != -/
mutual
@[simp] def D.py : D → PyData
  | .non => .none
  | .bl b => .bool b
  | .int i => .int i
  | .str s => .str s
  | .lst xs => .list (D.pyL xs)
  | .tup xs => .tuple (D.pyL xs)
  | .dic _ => .dict []
  | .scr _ => .dict []
  | .fn _ => .dict []
  | .obj _ _ => .dict []
  | .exc _ _ _ => .dict []
@[simp] def D.pyL : List D → List PyData
  | [] => []
  | d :: ds => D.py d :: D.pyL ds
end
@[simp] def D.lvl : Nat → D → Bool
  | _, .non => true
  | _, .bl _ => true
  | _, .int _ => true
  | _, .str _ => true
  | n + 1, .lst xs => xs.all (D.lvl n)
  | n + 1, .tup xs => xs.all (D.lvl n)
  | _, _ => false
def deq (d e : D) : Bool := PyData.eqv d.py e.py
theorem pyL_map : ∀ xs : List D, D.pyL xs = xs.map D.py
  | [] => rfl
  | x :: xs => by simp [pyL_map xs]
mutual
theorem lay_of {F : Hp} : ∀ (d : D) (v : V), Rep K F v d → ∀ n, D.lvl n d = true → d.py.canLay0 = true ∧ d.py.depth ≤ n ∧ Dp K F v d.py
  | .non, _, .non, n, _ => ⟨rfl, Nat.zero_le _, .non⟩
  | .bl b, _, .bl _, n, _ => ⟨rfl, Nat.zero_le _, .bl b⟩
  | .int i, _, .int _, n, _ => ⟨rfl, Nat.zero_le _, .int i⟩
  | .str s, _, .str _ h, n, _ => ⟨h, Nat.zero_le _, .str s⟩
  | .lst ds, _, .lst e r, 0, h => by simp [D.lvl] at h
  | .lst ds, _, .lst e r, n + 1, h => by
    have h' : ds.all (D.lvl n) = true := by simpa [D.lvl] using h
    obtain ⟨a, b, c⟩ := layL_of ds _ r n h'
    exact ⟨by simpa [PyData.canLay0] using a, by simpa [PyData.depth] using b, .lst (sq_of e) c⟩
  | .tup ds, _, .tup e r, 0, h => by simp [D.lvl] at h
  | .tup ds, _, .tup e r, n + 1, h => by
    have h' : ds.all (D.lvl n) = true := by simpa [D.lvl] using h
    obtain ⟨a, b, c⟩ := layL_of ds _ r n h'
    exact ⟨by simpa [PyData.canLay0] using a, by simpa [PyData.depth] using b, .tup e c⟩
  | .dic _, _, _, 0, h => by simp [D.lvl] at h
  | .dic _, _, _, n + 1, h => by simp [D.lvl] at h
  | .scr _, _, _, 0, h => by simp [D.lvl] at h
  | .scr _, _, _, n + 1, h => by simp [D.lvl] at h
  | .fn _, _, _, 0, h => by simp [D.lvl] at h
  | .fn _, _, _, n + 1, h => by simp [D.lvl] at h
  | .obj _ _, _, _, 0, h => by simp [D.lvl] at h
  | .obj _ _, _, _, n + 1, h => by simp [D.lvl] at h
  | .exc _ _ _, _, _, 0, h => by simp [D.lvl] at h
  | .exc _ _ _, _, _, n + 1, h => by simp [D.lvl] at h
theorem layL_of {F : Hp} : ∀ (ds : List D) (vs : List V), RepL K F vs ds → ∀ n, ds.all (D.lvl n) = true → PyData.canLayAll0 (D.pyL ds) = true ∧ PyData.depthAll (D.pyL ds) ≤ n ∧ DpAll K F vs (D.pyL ds)
  | [], _, .nil, n, _ => ⟨rfl, Nat.zero_le _, .nil⟩
  | d :: ds, _, .cons x r, n, h => by
    simp only [List.all_cons, Bool.and_eq_true] at h
    obtain ⟨a1, b1, c1⟩ := lay_of d _ x n h.1
    obtain ⟨a2, b2, c2⟩ := layL_of ds _ r n h.2
    exact ⟨by simp [PyData.canLayAll0, a1, a2], by simp [PyData.depthAll]; omega, .cons c1 c2⟩
end
mutual
theorem Dp.up {F H : Hp} (e : Ex F H) : ∀ {v : V} {d : PyData}, Dp K F v d → Dp K H v d
  | _, _, .non => .non
  | _, _, .bl b => .bl b
  | _, _, .int i => .int i
  | _, _, .str s => .str s
  | _, _, .lst h r => .lst (ex_l e h) (DpAll.up e r)
  | _, _, .tup h r => .tup (ex_t e h) (DpAll.up e r)
theorem DpAll.up {F H : Hp} (e : Ex F H) : ∀ {vs : List V} {ds : List PyData}, DpAll K F vs ds → DpAll K H vs ds
  | _, _, .nil => .nil
  | _, _, .cons a r => .cons (Dp.up e a) (DpAll.up e r)
end
theorem See.lay {F H : Hp} {v : V} {d : D} (x : Ex F H) (s : See K F H v d) (h : D.lvl 60 d = true) : SeqAt.shaped d.py = true ∧ Dp K H v d.py := by
  have main : d.py.canLay0 = true ∧ d.py.depth ≤ 60 ∧ Dp K H v d.py := by
    cases s with
    | rep r =>
      obtain ⟨a, b, c⟩ := lay_of d v r 60 h
      exact ⟨a, b, Dp.up x c⟩
    | obj e r =>
      unfold RepO at r
      split at r
      · rename_i vs ds
        have h' : ds.all (D.lvl 59) = true := by simpa [D.lvl] using h
        obtain ⟨a, b, c⟩ := layL_of ds vs r 59 h'
        exact ⟨by simpa [PyData.canLay0] using a, by simpa [PyData.depth] using b, .lst (sq_of e) (DpAll.up x c)⟩
      · simp [D.lvl] at h
      · exact r.elim
  refine ⟨?_, main.2.2⟩
  unfold SeqAt.shaped
  rw [main.1, Bool.true_and]
  exact decide_eq_true (by omega)
@[simp] def aEq (d e : D) (R : RV → Prop) : Prop := D.lvl 60 d = true ∧ D.lvl 60 e = true ∧ R (.vl (.bl (deq d e)))
@[simp] def aNe (d e : D) (R : RV → Prop) : Prop := D.lvl 60 d = true ∧ D.lvl 60 e = true ∧ R (.vl (.bl (!deq d e)))
theorem o2_eq : Op2 K (rEqD K) aEq := by
  intro C F env σ H v w d e R Q I s1 s2 h g
  obtain ⟨h1, h2, h3⟩ := h
  obtain ⟨a1, a2⟩ := s1.lay I.sub h1
  obtain ⟨b1, b2⟩ := s2.lay I.sub h2
  exact ⟨_, _, a2, b2, a1, b1, g.bl I h3⟩
theorem o2_ne : Op2 K (rNeD K) aNe := by
  intro C F env σ H v w d e R Q I s1 s2 h g
  obtain ⟨h1, h2, h3⟩ := h
  obtain ⟨a1, a2⟩ := s1.lay I.sub h1
  obtain ⟨b1, b2⟩ := s2.lay I.sub h2
  exact ⟨_, _, a2, b2, a1, b1, g.bl I h3⟩
section
@[simp] theorem deq_non : deq .non .non = true := rfl
@[simp] theorem deq_int (i j : Int) : deq (.int i) (.int j) = (i == j) := by simp [deq, PyData.eqv]
@[simp] theorem deq_str (i j : Str) : deq (.str i) (.str j) = (i == j) := by simp [deq, PyData.eqv]
@[simp] theorem deq_bl (i j : Bool) : deq (.bl i) (.bl j) = (i == j) := by simp [deq, PyData.eqv]
@[simp] theorem deq_non_int (j : Int) : deq .non (.int j) = false := by simp [deq, PyData.eqv]
@[simp] theorem deq_non_str (j : Str) : deq .non (.str j) = false := by simp [deq, PyData.eqv]
@[simp] theorem deq_non_lst (j : List D) : deq .non (.lst j) = false := by simp [deq, PyData.eqv]
@[simp] theorem deq_int_non (j : Int) : deq (.int j) .non = false := by simp [deq, PyData.eqv]
@[simp] theorem deq_str_non (j : Str) : deq (.str j) .non = false := by simp [deq, PyData.eqv]
@[simp] theorem deq_lst_non (j : List D) : deq (.lst j) .non = false := by simp [deq, PyData.eqv]
@[simp] theorem deq_str_int (i : Str) (j : Int) : deq (.str i) (.int j) = false := by simp [deq, PyData.eqv]
@[simp] theorem deq_int_str (i : Int) (j : Str) : deq (.int i) (.str j) = false := by simp [deq, PyData.eqv]
@[simp] theorem deq_nil : deq (.lst []) (.lst []) = true := by simp [deq, PyData.eqv, PyData.eqvAll]
@[simp] theorem deq_nil_cons (x : D) (xs : List D) : deq (.lst []) (.lst (x :: xs)) = false := by simp [deq, PyData.eqv, PyData.eqvAll]
@[simp] theorem deq_cons_nil (x : D) (xs : List D) : deq (.lst (x :: xs)) (.lst []) = false := by simp [deq, PyData.eqv, PyData.eqvAll]
@[simp] theorem deq_cons (x y : D) (xs ys : List D) : deq (.lst (x :: xs)) (.lst (y :: ys)) = (deq x y && deq (.lst xs) (.lst ys)) := by simp [deq, PyData.eqv, PyData.eqvAll]
@[simp] theorem deq_tnil : deq (.tup []) (.tup []) = true := by simp [deq, PyData.eqv, PyData.eqvAll]
@[simp] theorem deq_tcons (x y : D) (xs ys : List D) : deq (.tup (x :: xs)) (.tup (y :: ys)) = (deq x y && deq (.tup xs) (.tup ys)) := by simp [deq, PyData.eqv, PyData.eqvAll]
@[simp] theorem deq_tnil_cons (x : D) (xs : List D) : deq (.tup []) (.tup (x :: xs)) = false := by simp [deq, PyData.eqv, PyData.eqvAll]
@[simp] theorem deq_tcons_nil (x : D) (xs : List D) : deq (.tup (x :: xs)) (.tup []) = false := by simp [deq, PyData.eqv, PyData.eqvAll]
end

/-! ### is None, is True -/
@[simp] def D.isNon : D → Bool
  | .non => true
  | _ => false
@[simp] def aIs (d e : D) (R : RV → Prop) : Prop := match e with
  | .non => R (.vl (.bl d.isNon))
  | .bl b => match d with
    | .bl a => R (.vl (.bl (decide (a = b))))
    | _ => False
  | _ => False
@[simp] def aIsN (d e : D) (R : RV → Prop) : Prop := match e with
  | .non => R (.vl (.bl (!d.isNon)))
  | .bl b => match d with
    | .bl a => R (.vl (.bl (!decide (a = b))))
    | _ => False
  | _ => False
theorem See.isNon {F H : Hp} {v : V} {d : D} (s : See K F H v d) : decide (v = .non) = d.isNon := by
  cases s with
  | rep r => cases r <;> simp
  | obj e r =>
    unfold RepO at r
    split at r
    · simp
    · simp
    · exact r.elim
def rIsD (neg : Bool) : R2 := fun x y H Q => (y = .non ∧ Q (.bl (neg ^^ decide (x = .non))) H) ∨ ∃ a b : Bool, x = .bl a ∧ y = .bl b ∧ Q (.bl (neg ^^ decide (a = b))) H
theorem o2_is : Op2 K (rIsD false) aIs := by
  intro C F env σ H v w d e R Q I s1 s2 h g
  unfold aIs at h
  split at h
  · exact Or.inl ⟨s2.non, by rw [s1.isNon]; exact g.bl I (by simpa using h)⟩
  · split at h
    · exact Or.inr ⟨_, _, s1.bl, s2.bl, g.bl I (by simpa using h)⟩
    · exact h.elim
  · exact h.elim
theorem o2_isN : Op2 K (rIsD true) aIsN := by
  intro C F env σ H v w d e R Q I s1 s2 h g
  unfold aIsN at h
  split at h
  · exact Or.inl ⟨s2.non, by rw [s1.isNon]; exact g.bl I (by simpa using h)⟩
  · split at h
    · exact Or.inr ⟨_, _, s1.bl, s2.bl, g.bl I (by simpa using h)⟩
    · exact h.elim
  · exact h.elim
end
end DL

set_option Elab.async false
set_option linter.all false
set_option maxRecDepth 100000
set_option maxHeartbeats 4000000
set_option autoImplicit false
/-! DL10: in, subscripts, slices, built-ins, methods over data. -/
namespace DL
open PySem PySem.Spec L2 Evl PyProof.Rows

section
variable {X : Cx} {K : PySem.W.Frag} {pos : Pos}
theorem op_isD : OpR X (compareOp .Is) (rIsD false) := by
  intro pins s σ H x y v u Q I rx ry h
  rcases h with ⟨h1, h2⟩ | ⟨a, b, h1, h2, h3⟩
  · exact op_isN pins s σ H x y v u Q I rx ry ⟨h1, by simpa using h2⟩
  · exact op_isBl pins s σ H x y v u Q I rx ry ⟨a, b, h1, h2, by simpa using h3⟩
theorem op_isND : OpR X (compareOp .IsNot) (rIsD true) := by
  intro pins s σ H x y v u Q I rx ry h
  rcases h with ⟨h1, h2⟩ | ⟨a, b, h1, h2, h3⟩
  · exact op_notN pins s σ H x y v u Q I rx ry ⟨h1, by simpa using h2⟩
  · exact op_notBl pins s σ H x y v u Q I rx ry ⟨a, b, h1, h2, by simpa using h3⟩

/-! ### in -/
@[simp] def D.flat : D → Bool
  | .non => true
  | .bl _ => true
  | .int _ => true
  | .str _ => true
  | _ => false
@[simp] def feq : D → D → Bool
  | .non, .non => true
  | .bl a, .bl b => a == b
  | .bl a, .int b => (if a then 1 else 0) == b
  | .int a, .bl b => a == (if b then 1 else 0)
  | .int a, .int b => a == b
  | .str a, .str b => a == b
  | _, _ => false
@[simp] def inD (d : D) (xs : List D) : Bool := xs.any fun y => feq y d
@[simp] def inStr (s t : Str) : Bool := match s.cps.toList with
  | [c] => decide (c ∈ t.cps.toList)
  | _ => !(Builtin.Str.occurrences t s 0 t.length 1).isEmpty
@[simp] def aInB (n : Bool) (d e : D) (R : RV → Prop) : Prop := match e with
  | .lst xs => d.flat = true ∧ xs.all D.flat = true ∧ R (.vl (.bl (n ^^ inD d xs)))
  | .tup xs => d.flat = true ∧ xs.all D.flat = true ∧ R (.vl (.bl (n ^^ inD d xs)))
  | .str t => match d with
    | .str s => R (.vl (.bl (n ^^ inStr s t)))
    | _ => False
  | _ => False
abbrev aIn := aInB false
abbrev aNotIn := aInB true
def rInB (K : PySem.W.Frag) (n : Bool) : R2 := fun x y H Q => rIn K n x y H Q ∨ ∃ i j : Str, x = .str i ∧ y = .str j ∧ Q (.bl (n ^^ inStr i j)) H
theorem op_inB : OpR X (compareOp .In) (rInB X.K false) := by
  intro pins s σ H x y v u Q I rx ry h
  rcases h with h | ⟨i, j, h1, h2, h3⟩
  · exact op_in_seq pins s σ H x y v u Q I rx ry h
  · unfold inStr at h3
    split at h3
    · rename_i c e
      have ei : i = ⟨#[c]⟩ := by
        cases i with | mk a => simp at e; cases a; simp at e; simp [e]
      exact op_in_sign pins s σ H x y v u Q I rx ry ⟨c, j, by rw [h1, ei], h2, by simpa using h3⟩
    · exact op_in_str pins s σ H x y v u Q I rx ry ⟨i, j, h1, h2, by simpa using h3⟩
theorem op_notInB : OpR X (compareOp .NotIn) (rInB X.K true) := by
  intro pins s σ H x y v u Q I rx ry h
  rcases h with h | ⟨i, j, h1, h2, h3⟩
  · exact op_notIn_seq pins s σ H x y v u Q I rx ry h
  · unfold inStr at h3
    split at h3
    · rename_i c e
      have ei : i = ⟨#[c]⟩ := by
        cases i with | mk a => simp at e; cases a; simp at e; simp [e]
      exact op_notIn_sign pins s σ H x y v u Q I rx ry ⟨c, j, by rw [h1, ei], h2, by simpa using h3⟩
    · exact op_notIn_str pins s σ H x y v u Q I rx ry ⟨i, j, h1, h2, by simpa using h3⟩
theorem Rep.flat {F : Hp} {v : V} {d : D} (r : Rep K F v d) (h : d.flat = true) : flatV v = true := by
  cases r <;> first | rfl | (simp at h)
theorem Rep.eqV {F G : Hp} {v w : V} {d e : D} (r : Rep K F v d) (s : Rep K G w e) (h : d.flat = true) (k : e.flat = true) : L2.eqV v w = feq d e := by
  cases r <;> cases s <;> first | rfl | (simp at h) | (simp at k)
theorem RepL.flat {F : Hp} : ∀ {vs : List V} {ds : List D}, RepL K F vs ds → ds.all D.flat = true → vs.all flatV = true
  | _, _, .nil, _ => rfl
  | _, _, .cons a r, h => by
    simp only [List.all_cons, Bool.and_eq_true] at h ⊢
    exact ⟨a.flat h.1, RepL.flat r h.2⟩
theorem RepL.inV {F G : Hp} {v : V} {d : D} (r : Rep K F v d) (h : d.flat = true) : ∀ {vs : List V} {ds : List D}, RepL K G vs ds → ds.all D.flat = true → L2.inV v vs = inD d ds
  | _, _, .nil, _ => rfl
  | _, _, .cons a s, k => by
    simp only [List.all_cons, Bool.and_eq_true] at k
    have e := RepL.inV r h s k.2
    unfold L2.inV inD at e ⊢
    rw [List.any_cons, List.any_cons, a.eqV r k.1 h, e]
theorem See.flat {F H : Hp} {v : V} {d : D} (s : See K F H v d) (h : d.flat = true) : Rep K F v d := by
  cases s with
  | rep r => exact r
  | obj e r =>
    unfold RepO at r
    split at r
    · simp at h
    · simp at h
    · exact r.elim
theorem o2_inB {n : Bool} : Op2 K (rInB K n) (aInB n) := by
  intro C F env σ H v w d e R Q I s1 s2 h g
  have bx : ∀ b : Bool, (if n = true then !b else b) = (n ^^ b) := fun b => by cases n <;> cases b <;> rfl
  cases e with
  | lst xs =>
    obtain ⟨p, vs, rfl, e1, r1⟩ := s2.lst I.sub
    have f := s1.flat h.1
    refine Or.inl ⟨p, vs, rfl, Or.inl (sq_of e1), f.flat h.1, r1.flat h.2.1, ?_⟩
    rw [bx, RepL.inV f h.1 r1 h.2.1]
    exact g.bl I h.2.2
  | tup xs =>
    obtain ⟨p, vs, rfl, e1, r1⟩ := s2.tup
    have f := s1.flat h.1
    refine Or.inl ⟨p, vs, rfl, Or.inr (ex_t I.sub e1), f.flat h.1, r1.flat h.2.1, ?_⟩
    rw [bx, RepL.inV f h.1 r1 h.2.1]
    exact g.bl I h.2.2
  | str t =>
    cases d with
    | str s => exact Or.inr ⟨s, t, s1.str.1, s2.str.1, g.bl I h⟩
    | _ => exact h.elim
  | _ => exact h.elim

/-! ### a * b -/
theorem RepL.rep {F : Hp} {vs : List V} {ds : List D} (r : RepL K F vs ds) : ∀ n : Nat, RepL K F (List.flatten (List.replicate n vs)) (List.flatten (List.replicate n ds))
  | 0 => by simp; exact .nil
  | n + 1 => by rw [List.replicate_succ, List.replicate_succ, List.flatten_cons, List.flatten_cons]; exact r.append (RepL.rep r n)

/-! ### subscripts -/
@[simp] def aIx (d e : D) (R : RV → Prop) : Prop := match d, e with
  | .lst xs, .int i => ∃ y, atI xs i = some y ∧ R (.vl y)
  | .tup xs, .int i => ∃ y, atI xs i = some y ∧ R (.vl y)
  | .str s, .int i => s.length ≤ sizeLine ∧ ∃ c, atI s.cps.toList i = some c ∧ R (.vl (.str ⟨#[c]⟩))
  | .scr ns, .int i => ∃ n, atI ns i = some n ∧ R (.vl (.int n))
  | _, _ => False
theorem ixN_lt {n : Nat} {i : Int} {j : Nat} (h : ixN n i = some j) : j < n := by
  unfold ixN at h
  split at h
  · split at h
    · cases h; omega
    · cases h
  · split at h
    · cases h; omega
    · cases h
theorem atI_rep {F : Hp} {vs : List V} {ds : List D} (r : RepL K F vs ds) {i : Int} {y : D} (h : atI ds i = some y) : ∃ v, atI vs i = some v ∧ Rep K F v y := by
  unfold atI at h ⊢
  rw [r.length]
  cases q : ixN ds.length i with
  | none => rw [q] at h; cases h
  | some j =>
    rw [q] at h
    obtain ⟨v, h1, h2⟩ := r.get (show ds[j]? = some y from h)
    exact ⟨v, h1, h2⟩
theorem o2_ix : Op2 K (rIx K) aIx := by
  intro C F env σ H v w d e R Q I s1 s2 h g
  unfold aIx at h
  split at h
  · obtain ⟨y, h1, h2⟩ := h
    obtain ⟨p, vs, rfl, e1, r1⟩ := s1.lst I.sub
    obtain ⟨u, q1, q2⟩ := atI_rep r1 h1
    exact Or.inl ⟨p, vs, _, u, rfl, s2.int, sq_of e1, q1, g.here I h2 q2⟩
  · obtain ⟨y, h1, h2⟩ := h
    obtain ⟨p, vs, rfl, e1, r1⟩ := s1.tup
    obtain ⟨u, q1, q2⟩ := atI_rep r1 h1
    exact Or.inr (Or.inl ⟨p, vs, _, u, rfl, s2.int, ex_t I.sub e1, q1, g.here I h2 q2⟩)
  · obtain ⟨h0, c, h1, h2⟩ := h
    refine Or.inr (Or.inr ⟨_, _, c, s1.str.1, s2.int, h0, h1, g.str I ?_ h2⟩)
    unfold atI at h1
    cases q : ixN _ _ with
    | none => rw [q] at h1; cases h1
    | some j => rw [q] at h1; exact strOk_sign s1.str.2 h1
  · obtain ⟨n, h1, h2⟩ := h
    obtain ⟨p, rfl, e1⟩ := s1.scr
    refine Or.inl ⟨p, _, _, .int n, rfl, s2.int, ex_l I.sub e1, ?_, g.int I h2⟩
    unfold atI at h1 ⊢
    rw [List.length_map]
    cases q : ixN _ _ with
    | none => rw [q] at h1; cases h1
    | some j =>
      rw [q] at h1
      have h1' : (_ : List Int)[j]? = some n := h1
      simp [h1']
  · exact h.elim
theorem dix {a b : Expr} {m1 m2 : DM} (ha : DE X a m1) (hb : DE X b m2) (hs : PlainIx b := by exact fun _ _ => rfl) : DE X (.Subscript a b pos) (mOp2 aIx m1 m2) := by
  obtain ⟨ta, pa, ea⟩ := ha
  obtain ⟨tb, pb, eb⟩ := hb
  exact ⟨_, pe_ix ix_seq pa pb hs, evd_op2 o2_ix ea eb⟩

/-! ### slices -/
abbrev DMO := List Slot → (Option Int → List Slot → Prop) → Prop
def EvO (K : PySem.W.Frag) (m : DMO) (t : TO) : Prop := ∀ C F env σ H R (Q : Option Int → Hp → Prop), Ok K C F env σ H → m env R → (∀ o env' F' H', R o env' → Aft K C F env σ H F' env' H' → Q o H') → t σ H Q
def DO (X : Cx) (e : Option Expr) (m : DMO) : Prop := ∃ t, PO X e t ∧ EvO X.K m t
@[simp] def moNo : DMO := fun env R => R none env
@[simp] def moSo (a : DM) : DMO := fun env R => a env fun x e1 => x.con e1 fun d => match d with
  | .int i => R (some i) e1
  | _ => False
theorem do_none : DO X none moNo := ⟨_, po_none, fun C F env σ H R Q I h k => k none env F H h I.aft⟩
theorem do_some {e : Expr} {m : DM} (h : DE X e m) : DO X (some e) (moSo m) := by
  obtain ⟨t, p, ev⟩ := h
  refine ⟨_, po_some p, ?_⟩
  intro C F env σ H R Q I h k
  refine ev C F env σ H _ _ I h ?_
  intro x e1 F1 v H1 h1 A1 r1
  obtain ⟨d, h3, s1⟩ := A1.ok.see r1 h1
  cases d with
  | int i => exact ⟨i, s1.int, k _ e1 F1 H1 h3 A1⟩
  | _ => exact h3.elim
@[simp] def cutD (xs : List D) (lo hi : Option Int) : List D := (xs.drop (HT.sIx xs.length 0 lo)).take (HT.sIx xs.length xs.length hi - HT.sIx xs.length 0 lo)
@[simp] def aSl (d : D) (lo hi : Option Int) (R : RV → Prop) : Prop := match d with
  | .lst xs => R (.tm (.lst (cutD xs lo hi)))
  | .str s => s.length ≤ sizeLine ∧ R (.vl (.str (cutS s lo hi)))
  | .tup xs => ¬ (HT.sIx xs.length 0 lo = 0 ∧ HT.sIx xs.length xs.length hi = xs.length) ∧ R (.vl (.tup (cutD xs lo hi)))
  | _ => False
@[simp] def mSl (a : DM) (lo hi : DMO) : DM := fun env R => a env fun x e1 => lo e1 fun l e2 => hi e2 fun u e3 => x.con e3 fun d => aSl d l u fun r => R r e3
def rSlD (K : PySem.W.Frag) : V → Option Int → Option Int → Hp → VK → Prop := fun x lo hi H Q => rSlL K x lo hi H Q ∨ rSlS x lo hi H Q ∨ rSlT K x lo hi H Q
theorem sl_any : SlR X (rSlD X.K) := by
  intro pins s σ H x v vl vu lo hi sl Q I rx hs pl pu h
  rcases h with h | h | h
  · exact sl_list pins s σ H x v vl vu lo hi sl Q I rx hs pl pu h
  · exact sl_str pins s σ H x v vl vu lo hi sl Q I rx hs pl pu h
  · exact sl_tup pins s σ H x v vl vu lo hi sl Q I rx hs pl pu h
theorem RepL.cut {F : Hp} {vs : List V} {ds : List D} (r : RepL K F vs ds) (lo hi : Option Int) : RepL K F (cutV vs lo hi) (cutD ds lo hi) := by
  unfold cutV cutD
  rw [r.length]
  exact (r.drop _).take _
theorem dslice {e : Expr} {lo hi : Option Expr} {m : DM} {ml mh : DMO} {p2 : Pos} (h : DE X e m) (hl : DO X lo ml) (hh : DO X hi mh) : DE X (.Subscript e (.Slice lo hi none p2) pos) (mSl m ml mh) := by
  obtain ⟨t, p, ev⟩ := h
  obtain ⟨tl, pl, el⟩ := hl
  obtain ⟨th, ph, eh⟩ := hh
  refine ⟨_, pe_slice sl_any p pl ph, ?_⟩
  intro C F env σ H R Q I h k
  refine ev C F env σ H _ _ I h ?_
  intro x e1 F1 v H1 h1 A1 r1
  refine el C F1 e1 σ H1 _ _ A1.ok h1 ?_
  intro l e2 F2 H2 h2 A2
  refine eh C F2 e2 σ H2 _ _ A2.ok h2 ?_
  intro u e3 F3 H3 h3 A3
  obtain ⟨d, h4, s1⟩ := A3.ok.see ((r1.on A2).on A3) h3
  have A := (A1.trans A2).trans A3
  have g : Gives X.K C F3 e3 σ H3 (fun r => R r e3) Q := fun l F' w H' hl A' r' => k l e3 F' w H' hl (A.trans A') (r'.from fun p => A.back)
  have I3 := A3.ok
  cases d with
  | lst xs =>
    obtain ⟨p, vs, rfl, q1, q2⟩ := s1.lst I3.sub
    exact Or.inl ⟨p, vs, rfl, sq_of q1, fun a ha => g.lst I3 h4 (q2.cut l u) a ha⟩
  | str s => exact Or.inr (Or.inl ⟨s, s1.str.1, h4.1, g.str I3 (sOk_cut s1.str.2) h4.2⟩)
  | tup xs =>
    obtain ⟨p, vs, rfl, q1, q2⟩ := s1.tup
    exact Or.inr (Or.inr ⟨p, vs, rfl, ex_t I3.sub q1, by rw [q2.length]; exact h4.1, fun a ha => g.tup I3 h4.2 (q2.cut l u) a ha⟩)
  | _ => exact h4.elim
@[simp] def mRev (a : DM) : DM := fun env R => a env fun x e1 => x.con e1 fun d => match d with
  | .lst xs => R (.tm (.lst xs.reverse)) e1
  | _ => False

/-! ### calls of built-ins by values -/
abbrev DMA := List Slot → (List RV → List Slot → Prop) → Prop
inductive RVs (K : PySem.W.Frag) (C : Ct) (F : Hp) (env : List Slot) (σ : L2.St) (H0 H : Hp) : List V → List RV → Prop
  | nil : RVs K C F env σ H0 H [] []
  | cons {v : V} {vs : List V} {l : RV} {ls : List RV} : RVOk K C F env σ H0 H v l → RVs K C F env σ H0 H vs ls → RVs K C F env σ H0 H (v :: vs) (l :: ls)
theorem RVs.froms {C : Ct} {F H0 H1 H : Hp} {env : List Slot} {σ : L2.St} (h : ∀ p, H1 p = none → H0 p = none) : ∀ {vs : List V} {ls : List RV}, RVs K C F env σ H1 H vs ls → RVs K C F env σ H0 H vs ls
  | _, _, .nil => .nil
  | _, _, .cons a r => .cons (a.from h) (RVs.froms h r)
def EvA (K : PySem.W.Frag) (m : DMA) (t : TA) : Prop := ∀ C F env σ H R (Q : List V → Hp → Prop), Ok K C F env σ H → m env R →
  (∀ ls env' F' vs H', R ls env' → Aft K C F env σ H F' env' H' → RVs K C F' env' σ H H' vs ls → Q vs H') → t σ H Q
def DA (X : Cx) (es : List Expr) (m : DMA) : Prop := ∃ t, PA X es t ∧ EvA X.K m t
@[simp] def maNil : DMA := fun env R => R [] env
@[simp] def maCons (a : DM) (r : DMA) : DMA := fun env R => a env fun x e1 => r e1 fun ls e2 => R (x :: ls) e2
theorem da_nil : DA X [] maNil := ⟨_, pa_nil, fun C F env σ H R Q I h k => k [] env F [] H h I.aft .nil⟩
theorem da_cons {e : Expr} {es : List Expr} {m : DM} {ma : DMA} (h : DE X e m) (hr : DA X es ma) (hs : starEach (e :: es) X.env = (false, eval e X.env) :: starEach es X.env := by rfl) : DA X (e :: es) (maCons m ma) := by
  obtain ⟨t, p, ev⟩ := h
  obtain ⟨u, q, er⟩ := hr
  refine ⟨_, pa_cons p q hs, ?_⟩
  intro C F env σ H R Q I h k
  refine ev C F env σ H _ _ I h ?_
  intro x e1 F1 v H1 h1 A1 r1
  refine er C F1 e1 σ H1 _ _ A1.ok h1 ?_
  intro ls e3 F3 vs H3 h3 A3 r3
  exact k (x :: ls) e3 F3 (v :: vs) H3 h3 (A1.trans A3) (.cons (r1.on A3) (r3.froms fun p => A1.back))
@[simp] def cons (env : List Slot) : List RV → (List D → Prop) → Prop
  | [], R => R []
  | l :: ls, R => l.con env fun d => cons env ls fun ds => R (d :: ds)
inductive Sees (K : PySem.W.Frag) (F H : Hp) : List V → List D → Prop
  | nil : Sees K F H [] []
  | cons {v : V} {vs : List V} {d : D} {ds : List D} : See K F H v d → Sees K F H vs ds → Sees K F H (v :: vs) (d :: ds)
theorem Ok.sees {C : Ct} {F H0 H : Hp} {env : List Slot} {σ : L2.St} (I : Ok K C F env σ H) : ∀ {vs : List V} {ls : List RV} {R : List D → Prop}, RVs K C F env σ H0 H vs ls → cons env ls R → ∃ ds, R ds ∧ Sees K F H vs ds
  | _, _, R, .nil, h => ⟨[], h, .nil⟩
  | _, _, R, .cons a r, h => by
    obtain ⟨d, h1, s1⟩ := I.see a h
    obtain ⟨ds, h2, s2⟩ := Ok.sees I r h1
    exact ⟨d :: ds, h2, .cons s1 s2⟩
def OpN (K : PySem.W.Frag) (r : List V → Hp → VK → Prop) (f : List D → (RV → Prop) → Prop) : Prop := ∀ (C : Ct) (F : Hp) (env : List Slot) (σ : L2.St) (H : Hp) (vs : List V) (ds : List D) (R : RV → Prop) (Q : VK),
  Ok K C F env σ H → Sees K F H vs ds → f ds R → Gives K C F env σ H R Q → r vs H Q
@[simp] def mFn (f : List D → (RV → Prop) → Prop) (a : DMA) : DM := fun env R => a env fun ls e => cons e ls fun ds => f ds fun l => R l e
theorem evd_fn {r : List V → Hp → VK → Prop} {f : List D → (RV → Prop) → Prop} {m : DMA} {t : TA} (hf : OpN K r f) (ev : EvA K m t) : EvD K (mFn f m) (tCB r t) := by
  intro C F env σ H R Q I h k
  refine ev C F env σ H _ _ I h ?_
  intro ls e1 F1 vs H1 h1 A1 r1
  obtain ⟨ds, h2, s⟩ := A1.ok.sees r1 h1
  exact hf C F1 e1 σ H1 vs ds _ _ A1.ok s h2 fun l F2 u H2 hl A2 r2 => k l e1 F2 u H2 hl (A1.trans A2) (r2.from fun p => A1.back)
theorem dfnB {id : String} {r : List V → Hp → VK → Prop} {f : List D → (RV → Prop) → Prop} {x : Str} {p : Pos} {e : Expr} {es : List Expr} {m : DMA} (hc : CallR X (.builtin id) r) (hf : OpN X.K r f) (hg : Gl X x) (hm : X.mg x = none) (hv : bootBuiltins x = some (.builtin id)) (h : DA X (e :: es) m)
    (hn : x ≠ "__name__" := by decide) (hdb : (x == ("__debug__" : Str)) = false := by decide) (he : starEach (e :: es) X.env = (false, eval e X.env) :: starEach es X.env := by rfl) (hpl : (backTo pos (starEach es X.env)).any (·.1) = false := by rfl) :
    DE X (.Call (.Name x p) (e :: es) [] pos) (mFn f m) := by
  obtain ⟨t, pa, ev⟩ := h
  exact ⟨_, pe_callB hc hg hm hv pa hn hdb he hpl, evd_fn hf ev⟩
theorem dfnT {T : String} {r : List V → Hp → VK → Prop} {f : List D → (RV → Prop) → Prop} {x : Str} {p : Pos} {e : Expr} {es : List Expr} {m : DMA} (hc : CallR X (.type T) r) (hf : OpN X.K r f) (hg : Gl X x) (hm : X.mg x = none) (hv : bootBuiltins x = some (.type T)) (h : DA X (e :: es) m)
    (hn : x ≠ "__name__" := by decide) (hdb : (x == ("__debug__" : Str)) = false := by decide) (he : starEach (e :: es) X.env = (false, eval e X.env) :: starEach es X.env := by rfl) (hpl : (backTo pos (starEach es X.env)).any (·.1) = false := by rfl) :
    DE X (.Call (.Name x p) (e :: es) [] pos) (mFn f m) := by
  obtain ⟨t, pa, ev⟩ := h
  exact ⟨_, pe_callTy hc hg hm hv pa hn hdb he hpl, evd_fn hf ev⟩

@[simp] def aLen : List D → (RV → Prop) → Prop
  | [.lst xs], R => R (.vl (.int (xs.length : Int)))
  | [.tup xs], R => R (.vl (.int (xs.length : Int)))
  | [.scr ns], R => R (.vl (.int (ns.length : Int)))
  | [.str s], R => s.length ≤ sizeLine ∧ R (.vl (.int (s.length : Int)))
  | [.dic ks], R => R (.vl (.int (ks.length : Int)))
  | _, _ => False
def rLenD (K : PySem.W.Frag) : List V → Hp → VK → Prop := fun xs H Q => (∃ x n, xs = [x] ∧ LenV K x H n ∧ Q (.int n) H) ∨ ∃ a kvs, xs = [.ref a] ∧ H a = some (.dK kvs) ∧ Q (.int kvs.length) H
theorem call_lenX : CallR X (.builtin "len") (rLenD X.K) := by
  intro pins s σ H xs us Q I r h
  rcases h with h | h
  · exact call_len pins s σ H xs us Q I r h
  · exact call_lenD pins s σ H xs us Q I r h
theorem on_len : OpN K (rLenD K) aLen := by
  intro C F env σ H vs ds R Q I s h g
  unfold aLen at h
  split at h
  · cases s with
    | cons a r =>
      cases r
      obtain ⟨p, vs, rfl, e1, r1⟩ := a.lst I.sub
      exact Or.inl ⟨_, vs.length, rfl, Or.inl ⟨vs, sq_of e1, rfl⟩, by rw [r1.length]; exact g.int I h⟩
  · cases s with
    | cons a r =>
      cases r
      obtain ⟨p, vs, rfl, e1, r1⟩ := a.tup
      exact Or.inl ⟨_, vs.length, rfl, Or.inr ⟨vs, ex_t I.sub e1, rfl⟩, by rw [r1.length]; exact g.int I h⟩
  · cases s with
    | cons a r =>
      cases r
      obtain ⟨p, rfl, e1⟩ := a.scr
      exact Or.inl ⟨_, _, rfl, Or.inl ⟨_, ex_l I.sub e1, rfl⟩, by rw [List.length_map]; exact g.int I h⟩
  · cases s with
    | cons a r =>
      cases r
      exact Or.inl ⟨_, _, rfl, by rw [a.str.1]; exact ⟨h.1, rfl⟩, g.int I h.2⟩
  · cases s with
    | cons a r =>
      cases r
      obtain ⟨p, kvs, rfl, e1, k1, r1⟩ := a.dic I.sub
      have := congrArg List.length k1
      simp at this
      exact Or.inr ⟨p, kvs, rfl, e1, by rw [this]; exact g.int I h⟩
  · exact h.elim
@[simp] def asInts : List D → Option (List Int)
  | [] => some []
  | .int i :: r => (asInts r).map (i :: ·)
  | _ => none
@[simp] def asBls : List D → Option (List Bool)
  | [] => some []
  | .bl i :: r => (asBls r).map (i :: ·)
  | _ => none
@[simp] def asStrs : List D → Option (List Str)
  | [] => some []
  | .str i :: r => (asStrs r).map (i :: ·)
  | _ => none
theorem asInts_eq : ∀ {ds : List D} {ns : List Int}, asInts ds = some ns → ds = ns.map .int
  | [], ns, h => by simp at h; subst h; rfl
  | d :: ds, ns, h => by
    cases d with
    | int i =>
      simp only [asInts, Option.map_eq_some_iff] at h
      obtain ⟨r, h1, rfl⟩ := h
      rw [asInts_eq h1]; rfl
    | _ => simp at h
theorem asBls_eq : ∀ {ds : List D} {ns : List Bool}, asBls ds = some ns → ds = ns.map .bl
  | [], ns, h => by simp at h; subst h; rfl
  | d :: ds, ns, h => by
    cases d with
    | bl i =>
      simp only [asBls, Option.map_eq_some_iff] at h
      obtain ⟨r, h1, rfl⟩ := h
      rw [asBls_eq h1]; rfl
    | _ => simp at h
theorem asStrs_eq : ∀ {ds : List D} {ns : List Str}, asStrs ds = some ns → ds = ns.map .str
  | [], ns, h => by simp at h; subst h; rfl
  | d :: ds, ns, h => by
    cases d with
    | str i =>
      simp only [asStrs, Option.map_eq_some_iff] at h
      obtain ⟨r, h1, rfl⟩ := h
      rw [asStrs_eq h1]; rfl
    | _ => simp at h
@[simp] theorem asInts_map (ns : List Int) : asInts (ns.map .int) = some ns := by induction ns <;> simp_all
@[simp] theorem asBls_map (ns : List Bool) : asBls (ns.map .bl) = some ns := by induction ns <;> simp_all
@[simp] theorem asStrs_map (ns : List Str) : asStrs (ns.map .str) = some ns := by induction ns <;> simp_all
@[simp] def aSum : List D → (RV → Prop) → Prop
  | [.lst xs], R => ∃ ns, asInts xs = some ns ∧ R (.vl (.int ns.sum))
  | _, _ => False
@[simp] def aMax : List D → (RV → Prop) → Prop
  | [.lst xs], R => ∃ ns, asInts xs = some ns ∧ 0 < ns.length ∧ ∀ m, m ∈ ns → (∀ y, y ∈ ns → y ≤ m) → R (.vl (.int m))
  | [.int i, .int j], R => R (.vl (.int (if j > i then j else i)))
  | _, _ => False
@[simp] def aMin : List D → (RV → Prop) → Prop
  | [.lst xs], R => ∃ ns, asInts xs = some ns ∧ 0 < ns.length ∧ ∀ m, m ∈ ns → (∀ y, y ∈ ns → m ≤ y) → R (.vl (.int m))
  | [.int i, .int j], R => R (.vl (.int (if j < i then j else i)))
  | _, _ => False
@[simp] def aAll : List D → (RV → Prop) → Prop
  | [.lst xs], R => ∃ bs, asBls xs = some bs ∧ R (.vl (.bl (bs.all id)))
  | _, _ => False
@[simp] def aAny : List D → (RV → Prop) → Prop
  | [.lst xs], R => ∃ bs, asBls xs = some bs ∧ R (.vl (.bl (bs.any id)))
  | _, _ => False
theorem Sees.one {F H : Hp} {vs : List V} {d : D} (s : Sees K F H vs [d]) : ∃ v, vs = [v] ∧ See K F H v d := by
  cases s with
  | cons a r => cases r; exact ⟨_, rfl, a⟩
theorem Sees.two {F H : Hp} {vs : List V} {d e : D} (s : Sees K F H vs [d, e]) : ∃ v w, vs = [v, w] ∧ See K F H v d ∧ See K F H w e := by
  cases s with
  | cons a r => obtain ⟨w, rfl, b⟩ := r.one; exact ⟨_, w, rfl, a, b⟩
theorem on_sum : OpN K (rSum K) aSum := by
  intro C F env σ H vs ds R Q I s h g
  unfold aSum at h
  split at h
  · obtain ⟨v, rfl, a⟩ := s.one
    obtain ⟨ns, h1, h2⟩ := h
    obtain ⟨p, ws, rfl, e1, r1⟩ := a.lst I.sub
    rw [asInts_eq h1] at r1
    exact ⟨p, ns, rfl, by rw [r1.ints] at e1; exact sq_of e1, g.int I h2⟩
  · exact h.elim
theorem on_all : OpN K (rAll K) aAll := by
  intro C F env σ H vs ds R Q I s h g
  unfold aAll at h
  split at h
  · obtain ⟨v, rfl, a⟩ := s.one
    obtain ⟨ns, h1, h2⟩ := h
    obtain ⟨p, ws, rfl, e1, r1⟩ := a.lst I.sub
    rw [asBls_eq h1] at r1
    exact ⟨p, ns, rfl, by rw [r1.bls] at e1; exact sq_of e1, g.bl I h2⟩
  · exact h.elim
theorem on_any : OpN K (rAny K) aAny := by
  intro C F env σ H vs ds R Q I s h g
  unfold aAny at h
  split at h
  · obtain ⟨v, rfl, a⟩ := s.one
    obtain ⟨ns, h1, h2⟩ := h
    obtain ⟨p, ws, rfl, e1, r1⟩ := a.lst I.sub
    rw [asBls_eq h1] at r1
    exact ⟨p, ns, rfl, by rw [r1.bls] at e1; exact sq_of e1, g.bl I h2⟩
  · exact h.elim
end
end DL

set_option Elab.async false
set_option linter.all false
set_option maxRecDepth 100000
set_option maxHeartbeats 4000000
set_option autoImplicit false
/-! DL11: more built-ins over data. -/
namespace DL
open PySem PySem.Spec L2 Evl PyProof.Rows

section
variable {X : Cx} {K : PySem.W.Frag} {pos : Pos}
/-! ### max, min -/
def rMaxD2 (K : PySem.W.Frag) : List V → Hp → VK → Prop := fun xs H Q => rMax K xs H Q ∨ ∃ i j, xs = [.int i, .int j] ∧ Q (.int (if j > i then j else i)) H
def rMinD2 (K : PySem.W.Frag) : List V → Hp → VK → Prop := fun xs H Q => rMin K xs H Q ∨ ∃ i j, xs = [.int i, .int j] ∧ Q (.int (if j < i then j else i)) H
theorem call_maxX (hc : X.calm = true) : CallR X (.builtin "max") (rMaxD2 X.K) := by
  intro pins s σ H xs us Q I r h
  rcases h with h | h
  · exact cr_max hc pins s σ H xs us Q I r h
  · exact call_max2 hc pins s σ H xs us Q I r h
theorem call_minX (hc : X.calm = true) : CallR X (.builtin "min") (rMinD2 X.K) := by
  intro pins s σ H xs us Q I r h
  rcases h with h | h
  · exact cr_min hc pins s σ H xs us Q I r h
  · exact call_min2 hc pins s σ H xs us Q I r h
theorem on_max : OpN K (rMaxD2 K) aMax := by
  intro C F env σ H vs ds R Q I s h g
  unfold aMax at h
  split at h
  · obtain ⟨v, rfl, a⟩ := s.one
    obtain ⟨ns, h1, h2, h3⟩ := h
    obtain ⟨p, ws, rfl, e1, r1⟩ := a.lst I.sub
    rw [asInts_eq h1] at r1
    exact Or.inl ⟨p, ns, rfl, by rw [r1.ints] at e1; exact sq_of e1, h2, fun m hm hy => g.int I (h3 m hm hy)⟩
  · obtain ⟨v, w, rfl, a, b⟩ := s.two
    exact Or.inr ⟨_, _, by rw [a.int, b.int], g.int I h⟩
  · exact h.elim
theorem on_min : OpN K (rMinD2 K) aMin := by
  intro C F env σ H vs ds R Q I s h g
  unfold aMin at h
  split at h
  · obtain ⟨v, rfl, a⟩ := s.one
    obtain ⟨ns, h1, h2, h3⟩ := h
    obtain ⟨p, ws, rfl, e1, r1⟩ := a.lst I.sub
    rw [asInts_eq h1] at r1
    exact Or.inl ⟨p, ns, rfl, by rw [r1.ints] at e1; exact sq_of e1, h2, fun m hm hy => g.int I (h3 m hm hy)⟩
  · obtain ⟨v, w, rfl, a, b⟩ := s.two
    exact Or.inr ⟨_, _, by rw [a.int, b.int], g.int I h⟩
  · exact h.elim

/-! ### sorted, list, tuple, ord, int -/
@[simp] def aSorted : List D → (RV → Prop) → Prop
  | [.lst xs], R => match asInts xs with
    | some ns => ∀ ns' : List Int, ns'.Perm ns → ns'.Pairwise (· ≤ ·) → R (.tm (.lst (ns'.map .int)))
    | none => False
  | _, _ => False
theorem on_sorted : OpN K (rSortedI K) aSorted := by
  intro C F env σ H vs ds R Q I s h g
  unfold aSorted at h
  split at h
  · obtain ⟨v, rfl, a⟩ := s.one
    split at h
    · rename_i ns h1
      obtain ⟨p, ws, rfl, e1, r1⟩ := a.lst I.sub
      rw [asInts_eq h1] at r1
      exact ⟨p, ns, rfl, by rw [r1.ints] at e1; exact sq_of e1, fun ns' q hp hs hq => g.lst I (h ns' hp hs) (RepL.ofInts ns') q hq⟩
    · exact h.elim
  · exact h.elim
@[simp] def aList : List D → (RV → Prop) → Prop
  | [.lst xs], R => R (.tm (.lst xs))
  | [.tup xs], R => R (.tm (.lst xs))
  | _, _ => False
@[simp] def aTuple : List D → (RV → Prop) → Prop
  | [.lst xs], R => R (.vl (.tup xs))
  | [.tup xs], R => R (.vl (.tup xs))
  | _, _ => False
theorem on_list : OpN K (fun xs H Q => ∃ p ys, xs = [.ref p] ∧ (SqL K H p ys ∨ SqT K H p ys) ∧ ∀ l, H l = none → Q (.ref l) (upd H l (.lst ys))) aList := by
  intro C F env σ H vs ds R Q I s h g
  unfold aList at h
  split at h
  · obtain ⟨v, rfl, a⟩ := s.one
    obtain ⟨p, ws, rfl, e1, r1⟩ := a.lst I.sub
    exact ⟨p, ws, rfl, Or.inl (sq_of e1), fun q hq => g.lst I h r1 q hq⟩
  · obtain ⟨v, rfl, a⟩ := s.one
    obtain ⟨p, ws, rfl, e1, r1⟩ := a.tup
    exact ⟨p, ws, rfl, Or.inr (ex_t I.sub e1), fun q hq => g.lst I h r1 q hq⟩
  · exact h.elim
theorem See.tupRep {F H : Hp} {v : V} {ds : List D} (s : See K F H v (.tup ds)) : Rep K F v (.tup ds) := by
  cases s with
  | rep r => exact r
  | obj e r =>
    unfold RepO at r
    split at r <;> first | (rename_i q; cases q) | exact r.elim
theorem on_tuple : OpN K (fun xs H Q => ∃ p ys, xs = [.ref p] ∧ ((SqL K H p ys ∧ ∀ l, H l = none → Q (.ref l) (upd H l (.tup ys))) ∨ (SqT K H p ys ∧ Q (.ref p) H))) aTuple := by
  intro C F env σ H vs ds R Q I s h g
  unfold aTuple at h
  split at h
  · obtain ⟨v, rfl, a⟩ := s.one
    obtain ⟨p, ws, rfl, e1, r1⟩ := a.lst I.sub
    exact ⟨p, ws, rfl, Or.inl ⟨sq_of e1, fun q hq => g.tup I h r1 q hq⟩⟩
  · obtain ⟨v, rfl, a⟩ := s.one
    obtain ⟨p, ws, e0, e1, r1⟩ := a.tup
    subst e0
    exact ⟨p, ws, rfl, Or.inr ⟨ex_t I.sub e1, g.here I h a.tupRep⟩⟩
  · exact h.elim
@[simp] def aOrd1 : List D → (RV → Prop) → Prop
  | [.str s], R => s.length = 1 ∧ R (.vl (.int (s.cps.getD 0 0 : Nat)))
  | _, _ => False
theorem on_ord : OpN K (fun xs H Q => ∃ x, xs = [.str x] ∧ x.length = 1 ∧ Q (.int (x.cps.getD 0 0 : Nat)) H) aOrd1 := by
  intro C F env σ H vs ds R Q I s h g
  unfold aOrd1 at h
  split at h
  · obtain ⟨v, rfl, a⟩ := s.one
    exact ⟨_, by rw [a.str.1], h.1, g.int I h.2⟩
  · exact h.elim
@[simp] def aIntOf : List D → (RV → Prop) → Prop
  | [.str s], R => ∃ n, PySem.intText? s = some n ∧ s.length ≤ 640 ∧ R (.vl (.int n))
  | _, _ => False
theorem on_int : OpN K (fun xs H Q => ∃ a n, xs = [.str a] ∧ PySem.intText? a = some n ∧ a.length ≤ 640 ∧ Q (.int n) H) aIntOf := by
  intro C F env σ H vs ds R Q I s h g
  unfold aIntOf at h
  split at h
  · obtain ⟨v, rfl, a⟩ := s.one
    obtain ⟨n, h1, h2, h3⟩ := h
    exact ⟨_, n, by rw [a.str.1], h1, h2, g.int I h3⟩
  · exact h.elim

/-! ### isinstance -/
@[simp] def D.ty : D → String
  | .non => "NoneType"
  | .bl _ => "bool"
  | .int _ => "int"
  | .str _ => "str"
  | .lst _ => "list"
  | .tup _ => "tuple"
  | .dic _ => "dict"
  | .scr _ => "list"
  | .fn _ => "NoneType"
  | .obj _ _ => "NoneType"
  | .exc _ _ _ => "NoneType"
@[simp] def onBi : D → Prop → Prop
  | .fn _, _ => False
  | .obj _ _, _ => False
  | .exc _ _ _, _ => False
  | _, P => P
@[simp] def isTy (d : D) (T : String) : Bool := d.ty == T || (d.ty == "bool" && T == "int")
theorem sqT_ty {H : Hp} {p : Addr} {vs : List V} (h : SqT K H p vs) : TyX K H (.ref p) (.type "tuple") := by
  rcases h with (h | ⟨o, h⟩) | ⟨o, its, n, h, hc, _⟩
  · exact .base (.tup h)
  · exact .fTuple h
  · exact .kTuple h hc
theorem sqL_ty {H : Hp} {p : Addr} {vs : List V} (h : SqL K H p vs) : TyX K H (.ref p) (.type "list") := by
  rcases h with (h | ⟨o, h⟩) | ⟨o, its, n, h, hc, _⟩
  · exact .base (.lst h)
  · exact .base (.frz h)
  · exact .kList h hc
theorem See.ty {F H : Hp} {v : V} {d : D} {P : Prop} (x : Ex F H) (s : See K F H v d) (b : onBi d P) : TyX K H v (.type d.ty) ∧ P := by
  refine ⟨?_, by cases d <;> first | exact b | exact b.elim⟩
  cases d with
  | fn a => exact b.elim
  | obj C fs => exact b.elim
  | exc a dd fs => exact b.elim
  | non => rw [s.non]; exact .base .non
  | bl b' => rw [s.bl]; exact .base (.bl b')
  | int i => rw [s.int]; exact .base (.int i)
  | str y => rw [s.str.1]; exact .base (.str y)
  | lst xs => obtain ⟨p, vs, rfl, e, _⟩ := s.lst x; exact .base (.lst e)
  | tup xs => obtain ⟨p, vs, rfl, e, _⟩ := s.tup; exact sqT_ty (ex_t x e)
  | dic ks => obtain ⟨p, vs, rfl, e, _⟩ := s.dic x; exact .base (.dK e)
  | scr ns => obtain ⟨p, rfl, e⟩ := s.scr; exact sqL_ty (ex_l x e)
@[simp] def mIsi (a : DM) (T : String) : DM := fun env R => a env fun x e1 => x.con e1 fun d => onBi d (R (.vl (.bl (isTy d T))) e1)
theorem disi {e : Expr} {m : DM} {T : String} {x : Str} {p q : Pos} (h : DE X e m) (hg : Gl X "isinstance") (hm : X.mg "isinstance" = none) (hgT : Gl X x) (hmT : X.mg x = none) (hvT : bootBuiltins x = some (.type T))
    (kit : ∀ d : D, PySem.W.kitOne X.K (.type d.ty) (.type T) = some (isTy d T))
    (hn : x ≠ "__name__" := by decide) (hdb : (x == ("__debug__" : Str)) = false := by decide)
    (hs1 : starEach [e, .Name x q] X.env = (false, eval e X.env) :: starEach [.Name x q] X.env := by rfl) (hs2 : starEach [.Name x q] X.env = (false, eval (.Name x q) X.env) :: starEach [] X.env := by rfl)
    (hpl : (backTo pos (starEach [.Name x q] X.env)).any (·.1) = false := by rfl) :
    DE X (.Call (.Name "isinstance" p) [e, .Name x q] [] pos) (mIsi m T) := by
  obtain ⟨t, pe, ev⟩ := h
  have pt : PE X (.Name x q) (tC (.ty T)) := pe_bltn (v := .ty T) hgT hmT hvT rfl hn hdb
  refine ⟨_, pe_callB call_isi hg hm PyProof.Rows.boot_isinstance (pa_cons pe (pa_cons pt pa_nil hs2) hs1) (by decide) (by decide) hs1 hpl, ?_⟩
  intro C F env σ H R Q I h k
  refine ev C F env σ H _ _ I h ?_
  intro y e1 F1 v H1 h1 A1 r1
  obtain ⟨d, h3, s1⟩ := A1.ok.see r1 h1
  exact ⟨v, .ty T, .type d.ty, .type T, isTy d T, rfl, .ty T, (s1.ty A1.ok.sub h3).1, kit d, k _ e1 F1 _ H1 (s1.ty A1.ok.sub h3).2 A1 (Rep.bl _)⟩
@[simp] def mIsi2 (a : DM) (T U : String) : DM := fun env R => a env fun x e1 => x.con e1 fun d => onBi d (R (.vl (.bl (isTy d T || isTy d U))) e1)
theorem disi2 {e : Expr} {m : DM} {T U : String} {x y : Str} {p q q2 qt : Pos} {kk : Nat} (h : DE X e m) (hg : Gl X "isinstance") (hm : X.mg "isinstance" = none)
    (hgT : Gl X x) (hmT : X.mg x = none) (hvT : bootBuiltins x = some (.type T)) (hgU : Gl X y) (hmU : X.mg y = none) (hvU : bootBuiltins y = some (.type U))
    (kit : ∀ d : D, PySem.W.kitAny X.K (.type d.ty) [.type T, .type U] = some (isTy d T || isTy d U))
    (hn : x ≠ "__name__" := by decide) (hdb : (x == ("__debug__" : Str)) = false := by decide) (hn2 : y ≠ "__name__" := by decide) (hdb2 : (y == ("__debug__" : Str)) = false := by decide)
    (ht1 : starEach [.Name x q, .Name y q2] X.env = (false, eval (.Name x q) X.env) :: starEach [.Name y q2] X.env := by rfl) (ht2 : starEach [.Name y q2] X.env = (false, eval (.Name y q2) X.env) :: starEach [] X.env := by rfl)
    (hs1 : starEach [e, .Tuple [.Name x q, .Name y q2] kk qt] X.env = (false, eval e X.env) :: starEach [.Tuple [.Name x q, .Name y q2] kk qt] X.env := by rfl)
    (hs2 : starEach [.Tuple [.Name x q, .Name y q2] kk qt] X.env = (false, eval (.Tuple [.Name x q, .Name y q2] kk qt) X.env) :: starEach [] X.env := by rfl)
    (hpl : (backTo pos (starEach [.Tuple [.Name x q, .Name y q2] kk qt] X.env)).any (·.1) = false := by rfl) :
    DE X (.Call (.Name "isinstance" p) [e, .Tuple [.Name x q, .Name y q2] kk qt] [] pos) (mIsi2 m T U) := by
  obtain ⟨t, pe, ev⟩ := h
  have pt : PE X (.Name x q) (tC (.ty T)) := pe_bltn (v := .ty T) hgT hmT hvT rfl hn hdb
  have pu : PE X (.Name y q2) (tC (.ty U)) := pe_bltn (v := .ty U) hgU hmU hvU rfl hn2 hdb2
  refine ⟨_, pe_callB call_isiT hg hm PyProof.Rows.boot_isinstance (pa_cons pe (pa_cons (pe_tup (pa_cons pt (pa_cons pu pa_nil ht2) ht1)) pa_nil hs2) hs1) (by decide) (by decide) hs1 hpl, ?_⟩
  intro C F env σ H R Q I h k
  refine ev C F env σ H _ _ I h ?_
  intro z e1 F1 v H1 h1 A1 r1
  obtain ⟨d, h3, s1⟩ := A1.ok.see r1 h1
  refine ⟨by show 2 ≤ sizeLine; decide, fun T' hT' => ?_⟩
  have B := A1.ok.tmp hT' (.tup [.ty T, .ty U])
  have s1' : See X.K F1 (upd H1 T' (.tup [.ty T, .ty U])) v d := by
    cases s1 with
    | rep r => exact .rep r
    | obj e r => exact .obj (by rw [upd_ne (ne_of_none e hT')]; exact e) r
  exact ⟨v, T', [.ty T, .ty U], .type d.ty, [.type T, .type U], _, rfl, upd_same, .cons (.ty T) (.cons (.ty U) .nil), (s1'.ty B.ok.sub h3).1, kit d, k _ e1 F1 _ _ (s1'.ty B.ok.sub h3).2 (A1.trans B) (Rep.bl _)⟩
end

/-! ### repr -/
section
theorem toNat_lt (c : Char) : c.toNat < 0x110000 := by
  have h := c.valid
  simp only [UInt32.isValidChar, Nat.isValidChar] at h
  have : c.toNat = c.val.toNat := rfl
  omega
theorem mem_map_toNat {l : List Char} {n : Nat} (h : n ∈ l.map Char.toNat) : n < 0x110000 := by
  obtain ⟨c, _, rfl⟩ := List.mem_map.mp h
  exact toNat_lt c
theorem sOk_ofString (s : String) : PyData.strOk (Str.ofString s) = true := by
  rw [sOk_iff]
  rw [Str.ofString_eq_toList]
  intro c h
  exact mem_map_toNat (by simpa using h)
theorem sOk_join {sep : Str} (h : PyData.strOk sep = true) : ∀ {ts : List Str}, (∀ t ∈ ts, PyData.strOk t = true) → PyData.strOk (Str.join sep ts) = true
  | [], _ => by rw [sOk_iff]; intro c m; exact absurd m (by simp [Str.join, Str.empty])
  | [x], k => k x (by simp)
  | x :: y :: r, k => by
    show PyData.strOk (x ++ sep ++ Str.join sep (y :: r)) = true
    exact sOk_append (sOk_append (k x (by simp)) h) (sOk_join h fun t m => k t (List.mem_cons_of_mem _ m))
theorem sOk_textFrom : ∀ {ts : List Str} {k : Nat} {acc : Str}, PyData.strOk acc = true → (∀ t ∈ ts, PyData.strOk t = true) → PyData.strOk (textFrom k acc ts) = true
  | [], k, acc, h, _ => h
  | t :: r, k, acc, h, q => by
    show PyData.strOk (textFrom (k + 1) (acc ++ (if k > 0 then ", " else "" : String) ++ t) r) = true
    refine sOk_textFrom (sOk_append (sOk_append h (sOk_ofString _)) (q t (by simp))) fun u m => q u (List.mem_cons_of_mem _ m)
theorem reprChar_ok {q c n : Nat} (hc : c < 0x110000) (h : n ∈ Builtin.Str.reprChar q c) : n < 0x110000 := by
  unfold Builtin.Str.reprChar at h
  have hx : ∀ w, n ∈ (List.replicate (w - ((Nat.toDigits 16 c).map Char.toNat).length) 48 ++ (Nat.toDigits 16 c).map Char.toNat) → n < 0x110000 := fun w m => by
    rcases List.mem_append.mp m with m | m
    · have := (List.mem_replicate.mp m).2; omega
    · exact mem_map_toNat m
  have two : ∀ a b : Nat, a < 0x110000 → b < 0x110000 → n ∈ [a, b] → n < 0x110000 := fun a b ha hb m => by
    simp at m; rcases m with rfl | rfl <;> assumption
  dsimp only at h
  split at h
  · exact two _ _ (by omega) hc h
  · split at h
    · exact two _ _ (by omega) (by omega) h
    · split at h
      · exact two _ _ (by omega) (by omega) h
      · split at h
        · exact two _ _ (by omega) (by omega) h
        · split at h
          · simp at h; omega
          · split at h
            · rcases List.mem_append.mp h with h | h
              · exact two _ _ (by omega) (by omega) h
              · exact hx _ h
            · split at h
              · rcases List.mem_append.mp h with h | h
                · exact two _ _ (by omega) (by omega) h
                · exact hx _ h
              · rcases List.mem_append.mp h with h | h
                · exact two _ _ (by omega) (by omega) h
                · exact hx _ h
theorem reprFold_ok {q : Nat} : ∀ {l : List Nat} {acc : Array Nat}, (∀ c ∈ l, c < 0x110000) → (∀ c ∈ acc.toList, c < 0x110000) → ∀ c ∈ (l.foldl (fun out c => out ++ (Builtin.Str.reprChar q c).toArray) acc).toList, c < 0x110000
  | [], acc, _, h => h
  | x :: l, acc, hl, h => by
    refine reprFold_ok (l := l) (fun c m => hl c (List.mem_cons_of_mem _ m)) fun c m => ?_
    rw [Array.toList_append, List.mem_append] at m
    exact m.elim (h c) fun m => reprChar_ok (hl x (by simp)) m
theorem sOk_repr {s : Str} (h : PyData.strOk s = true) : PyData.strOk (reprText s) = true := by
  rw [sOk_iff] at h ⊢
  intro c m
  unfold reprText at m
  have q : reprQuote s < 0x110000 := by unfold reprQuote; split <;> omega
  rw [← Array.foldl_toList] at m
  simp only [Array.toList_push, List.mem_append, List.mem_singleton] at m
  rcases m with m | rfl
  · exact reprFold_ok h (by simpa using q) c m
  · exact q
mutual
theorem sOk_shown : ∀ d : PyData, d.canLay0 = true → PyData.strOk d.shown = true
  | .none, _ => by simp only [PyData.shown]; exact sOk_ofString _
  | .bool b, _ => by simp only [PyData.shown]; split <;> exact sOk_ofString _
  | .int i, _ => by simp only [PyData.shown]; exact sOk_ofString _
  | .str s, h => by simp only [PyData.shown]; exact sOk_repr (by simpa [PyData.canLay0] using h)
  | .list xs, h => by
    simp only [PyData.shown, listText]
    exact sOk_append (sOk_textFrom (sOk_ofString _) (sOk_shownAll xs (by simpa [PyData.canLay0] using h))) (sOk_ofString _)
  | .tuple xs, h => by
    simp only [PyData.shown, tupleText]
    exact sOk_append (sOk_append (sOk_ofString _) (sOk_join (sOk_ofString _) (sOk_shownAll xs (by simpa [PyData.canLay0] using h)))) (sOk_ofString _)
  | .dict _, h => by simp [PyData.canLay0] at h
theorem sOk_shownAll : ∀ ds : List PyData, PyData.canLayAll0 ds = true → ∀ t ∈ PyData.shownAll ds, PyData.strOk t = true
  | [], _, t, m => by simp [PyData.shownAll] at m
  | d :: ds, h, t, m => by
    simp only [PyData.canLayAll0, Bool.and_eq_true] at h
    simp only [PyData.shownAll, List.mem_cons] at m
    rcases m with rfl | m
    · exact sOk_shown d h.1
    · exact sOk_shownAll ds h.2 t m
end
/-! a bound of what repr tells -/
mutual
@[simp] def D.wt : D → Nat
  | .non => 4
  | .bl _ => 5
  | .int _ => 1921
  | .str s => 10 * s.length + 2
  | .lst xs => D.wtL xs + 4
  | .tup xs => D.wtL xs + 4
  | _ => 0
@[simp] def D.wtL : List D → Nat
  | [] => 0
  | d :: ds => D.wt d + 2 + D.wtL ds
end
theorem wtL_append : ∀ xs ys : List D, D.wtL (xs ++ ys) = D.wtL xs + D.wtL ys
  | [], ys => by simp
  | x :: xs, ys => by simp [wtL_append xs ys]; omega
theorem wtL_le {k : Nat} : ∀ {xs : List D}, (∀ d ∈ xs, d.wt ≤ k) → D.wtL xs ≤ xs.length * (k + 2)
  | [], _ => by simp
  | x :: xs, h => by
    have h1 := h x (by simp)
    have h2 := wtL_le (xs := xs) fun d m => h d (List.mem_cons_of_mem _ m)
    simp only [D.wtL, List.length_cons, Nat.add_mul]
    omega
/-! numbers that repr writes -/
mutual
@[simp] def D.shw : D → Bool
  | .int i => decide (i.natAbs.log2 < 1920)
  | .lst xs => D.shwL xs
  | .tup xs => D.shwL xs
  | _ => true
@[simp] def D.shwL : List D → Bool
  | [] => true
  | d :: ds => D.shw d && D.shwL ds
end
theorem shwL_all : ∀ {xs : List D}, (∀ d ∈ xs, d.shw = true) → D.shwL xs = true
  | [], _ => rfl
  | x :: xs, h => by
    simp only [D.shwL, Bool.and_eq_true]
    exact ⟨h x (by simp), shwL_all fun d m => h d (List.mem_cons_of_mem _ m)⟩
theorem reprChar_len {q c : Nat} (hc : c < 0x110000) : (Builtin.Str.reprChar q c).length ≤ 10 := by
  unfold Builtin.Str.reprChar
  have hx : ∀ w, w ≤ 8 → (List.replicate (w - ((Nat.toDigits 16 c).map Char.toNat).length) 48 ++ (Nat.toDigits 16 c).map Char.toNat).length ≤ 8 := fun w h => by
    have := (Nat.length_toDigits_le_iff (b := 16) (n := c) (k := 8) (by decide) (by decide)).mpr (by omega)
    simp only [List.length_append, List.length_replicate, List.length_map]
    omega
  dsimp only
  have h2 := hx 2 (by decide)
  have h4 := hx 4 (by decide)
  have h8 := hx 8 (by decide)
  split
  · simp
  · split
    · simp
    · split
      · simp
      · split
        · simp
        · split
          · simp
          · split
            · rw [List.length_append]; simp only [List.length_cons, List.length_nil]; omega
            · split
              · rw [List.length_append]; simp only [List.length_cons, List.length_nil]; omega
              · rw [List.length_append]; simp only [List.length_cons, List.length_nil]; omega
theorem reprFold_len {q : Nat} : ∀ {l : List Nat} {acc : Array Nat}, (∀ c ∈ l, c < 0x110000) → (l.foldl (fun out c => out ++ (Builtin.Str.reprChar q c).toArray) acc).size ≤ acc.size + 10 * l.length
  | [], acc, _ => by simp
  | x :: l, acc, hl => by
    have h1 := reprFold_len (q := q) (l := l) (acc := acc ++ (Builtin.Str.reprChar q x).toArray) fun c m => hl c (List.mem_cons_of_mem _ m)
    have h2 := reprChar_len (q := q) (hl x (by simp))
    simp only [List.foldl_cons, Array.size_append, List.size_toArray, List.length_cons] at h1 ⊢
    omega
theorem repr_len {s : Str} (h : PyData.strOk s = true) : (reprText s).length ≤ 10 * s.length + 2 := by
  rw [sOk_iff] at h
  unfold reprText
  rw [← Array.foldl_toList]
  have := reprFold_len (q := reprQuote s) (acc := #[reprQuote s]) h
  show (Array.push _ _).size ≤ _
  rw [Array.size_push]
  have e : s.cps.toList.length = s.length := by simp [Str.length]
  rw [e] at this
  have e1 : (#[reprQuote s] : Array Nat).size = 1 := rfl
  rw [e1] at this
  omega
theorem textFrom_size : ∀ (ts : List Str) (k : Nat) (acc : Str), (textFrom k acc ts).length ≤ acc.length + (ts.map fun t => t.length + 2).sum
  | [], k, acc => by show acc.length ≤ _; omega
  | t :: r, k, acc => by
    have h := textFrom_size r (k + 1) (acc ++ (if k > 0 then ", " else "" : String) ++ t)
    have e : (acc ++ (if k > 0 then ", " else "" : String) ++ t).length ≤ acc.length + 2 + t.length := by
      rw [strLen_append, strLen_append]
      split
      · have : Str.length (", " : String) = 2 := rfl
        omega
      · have : Str.length ("" : String) = 0 := rfl
        omega
    show (textFrom (k + 1) _ r).length ≤ _
    simp only [List.map_cons, List.sum_cons]
    omega
theorem join_size : ∀ ts : List Str, (Str.join (", " : String) ts).length ≤ (ts.map fun t => t.length + 2).sum
  | [] => Nat.zero_le _
  | [x] => by show x.length ≤ _; simp
  | x :: y :: r => by
    have h := join_size (y :: r)
    show (x ++ (", " : String) ++ Str.join (", " : String) (y :: r)).length ≤ _
    rw [strLen_append, strLen_append]
    have : Str.length (", " : String) = 2 := rfl
    simp only [List.map_cons, List.sum_cons] at h ⊢
    omega
mutual
theorem shown_size {K : PySem.W.Frag} {F : Hp} : ∀ (d : D) (v : V), Rep K F v d → ∀ n, D.lvl n d = true → d.shw = true → d.py.showable = true ∧ d.py.shown.length ≤ d.wt
  | .non, _, .non, n, _, _ => ⟨rfl, by simp only [D.py, PyData.shown]; exact Nat.le_refl _⟩
  | .bl b, _, .bl _, n, _, _ => ⟨rfl, by cases b <;> simp only [D.py, PyData.shown] <;> decide⟩
  | .int i, _, .int _, n, _, h => by
    have h' : i.natAbs.log2 < 1920 := by simpa using h
    refine ⟨by simpa [PyData.showable] using h', ?_⟩
    simp only [D.py, PyData.shown, D.wt, PySem.ofString_length]
    exact int_text_length_le (by decide) h'
  | .str s, _, .str _ o, n, _, _ => ⟨rfl, by simp only [D.py, PyData.shown, D.wt]; exact repr_len o⟩
  | .lst ds, _, .lst e r, 0, h, _ => by simp [D.lvl] at h
  | .lst ds, _, .lst e r, n + 1, h, k => by
    obtain ⟨a, b⟩ := shownL_size ds _ r n (by simpa [D.lvl] using h) (by simpa using k)
    refine ⟨by simpa [PyData.showable] using a, ?_⟩
    simp only [D.py, PyData.shown, D.wt, listText]
    have := textFrom_size (PyData.shownAll (D.pyL ds)) 0 ("[" : String)
    have e1 : Str.length ("[" : String) = 1 := rfl
    have e2 : Str.length ("]" : String) = 1 := rfl
    rw [strLen_append]
    omega
  | .tup ds, _, .tup e r, 0, h, _ => by simp [D.lvl] at h
  | .tup ds, _, .tup e r, n + 1, h, k => by
    obtain ⟨a, b⟩ := shownL_size ds _ r n (by simpa [D.lvl] using h) (by simpa using k)
    refine ⟨by simpa [PyData.showable] using a, ?_⟩
    simp only [D.py, PyData.shown, D.wt, tupleText]
    have := join_size (PyData.shownAll (D.pyL ds))
    have e1 : Str.length ("(" : String) = 1 := rfl
    rw [strLen_append, strLen_append]
    have e2 : Str.length (if ((PyData.shownAll (D.pyL ds)).length == 1) = true then ",)" else ")" : String) ≤ 2 := by
      split
      · exact Nat.le_refl 2
      · exact (by decide : (1 : Nat) ≤ 2)
    omega
  | .dic _, _, _, 0, h, _ => by simp [D.lvl] at h
  | .dic _, _, _, n + 1, h, _ => by simp [D.lvl] at h
  | .scr _, _, _, 0, h, _ => by simp [D.lvl] at h
  | .scr _, _, _, n + 1, h, _ => by simp [D.lvl] at h
  | .fn _, _, _, 0, h, _ => by simp [D.lvl] at h
  | .fn _, _, _, n + 1, h, _ => by simp [D.lvl] at h
  | .obj _ _, _, _, 0, h, _ => by simp [D.lvl] at h
  | .obj _ _, _, _, n + 1, h, _ => by simp [D.lvl] at h
  | .exc _ _ _, _, _, 0, h, _ => by simp [D.lvl] at h
  | .exc _ _ _, _, _, n + 1, h, _ => by simp [D.lvl] at h
theorem shownL_size {K : PySem.W.Frag} {F : Hp} : ∀ (ds : List D) (vs : List V), RepL K F vs ds → ∀ n, ds.all (D.lvl n) = true → D.shwL ds = true → PyData.showableAll (D.pyL ds) = true ∧ ((PyData.shownAll (D.pyL ds)).map fun t => t.length + 2).sum ≤ D.wtL ds
  | [], _, .nil, n, _, _ => ⟨rfl, by simp [PyData.shownAll]⟩
  | d :: ds, _, .cons x r, n, h, k => by
    simp only [List.all_cons, Bool.and_eq_true] at h
    simp only [D.shwL, Bool.and_eq_true] at k
    obtain ⟨a1, b1⟩ := shown_size d _ x n h.1 k.1
    obtain ⟨a2, b2⟩ := shownL_size ds _ r n h.2 k.2
    refine ⟨by simp [PyData.showableAll, a1, a2], ?_⟩
    simp only [D.pyL, PyData.shownAll, List.map_cons, List.sum_cons, D.wtL]
    omega
end
end
def reprD (d : D) : Str := d.py.shown
@[simp] def aRepr : List D → (RV → Prop) → Prop
  | [d], R => D.lvl 60 d = true ∧ d.shw = true ∧ d.wt ≤ 16000000 ∧ R (.vl (.str (reprD d)))
  | _, _ => False
section
variable {X : Cx} {K : PySem.W.Frag}
theorem See.plain {F H : Hp} {v : V} {d : D} (x : Ex F H) (s : See K F H v d) (h : D.lvl 60 d = true) : ∃ F', Ex F F' ∧ (F' = F ∨ ∃ p o, F' = upd F p o ∧ H p = some o) ∧ Rep K F' v d := by
  cases s with
  | rep r => exact ⟨F, Ex.refl F, Or.inl rfl, r⟩
  | obj e r =>
    rename_i p o
    cases q : F p with
    | none => exact ⟨upd F p o, Ex.new q, Or.inr ⟨p, o, rfl, e⟩, (r.mono (Ex.new q)).rep upd_same⟩
    | some u =>
      have := x p u q
      rw [e] at this; cases this
      exact ⟨F, Ex.refl F, Or.inl rfl, r.rep q⟩
def rRepr (K : PySem.W.Frag) : List V → Hp → VK → Prop := fun xs H Q => ∃ x d, xs = [x] ∧ Dp K H x d ∧ d.canLay0 = true ∧ d.showable = true ∧ d.depth ≤ 60 ∧ d.shown.length ≤ sizeLine ∧ Q (.str d.shown) H
theorem call_repr (hgd : X.A.guards = some []) (hu : X.A.units + 64 < cLine) : CallR X (.builtin "repr") (rRepr X.K) := by
  intro pins s σ H xs us Q I r h
  obtain ⟨x, d, rfl, hd, hl, hs, hp, hz, q⟩ := h
  obtain ⟨u, rfl, rx⟩ := vals1 r
  obtain ⟨as, rd⟩ := Dp.reads I d x u hd rx
  cases hd with
  | non =>
    cases rx
    simp only [PyData.shown] at q
    exact PySem.P.repr_of_none ⟨.str _, H, I.tok _, ⟨_, rfl⟩, q⟩
  | bl b =>
    cases rx
    simp only [PyData.shown] at q
    refine PySem.P.repr_of_bool ⟨.str _, H, I.tok _, ⟨_, rfl⟩, ?_⟩
    exact q
  | int i =>
    obtain ⟨t, rfl⟩ := rx
    simp only [PyData.shown] at q
    exact PySem.P.repr_of_int (by simpa [PyData.showable] using hs) ⟨.str _, H, I.tok _, ⟨_, rfl⟩, q⟩
  | str z =>
    obtain ⟨t, rfl⟩ := rx
    simp only [PyData.shown] at q hz
    exact PySem.P.repr_of_str ⟨.str _, H, I.tok _, ⟨_, rfl⟩, q⟩ hz
  | lst _ _ =>
    cases rx
    refine repr_of_reads' rd hs (fun h => ?_) hgd (by omega) (fun _ _ e => e) (fun h' u tk hk => ⟨.str _, H, I.kept hk, ⟨_, rfl⟩, q⟩) hz
    rw [PyData.hasDict_of_canLay _ hl] at h; cases h
  | tup _ _ =>
    cases rx
    refine repr_of_reads' rd hs (fun h => ?_) hgd (by omega) (fun _ _ e => e) (fun h' u tk hk => ⟨.str _, H, I.kept hk, ⟨_, rfl⟩, q⟩) hz
    rw [PyData.hasDict_of_canLay _ hl] at h; cases h
theorem on_repr : OpN K (rRepr K) aRepr := by
  intro C F env σ H vs ds R Q I s h g
  unfold aRepr at h
  split at h
  · obtain ⟨v, rfl, a⟩ := s.one
    obtain ⟨h1, h2, h3, h4⟩ := h
    obtain ⟨F', ex, hF', rp⟩ := a.plain I.sub h1
    have ex' : Ex F' H := by
      rcases hF' with rfl | ⟨p, o, rfl, hp⟩
      · exact I.sub
      · intro b u e
        by_cases z : b = p
        · subst z; rw [upd_same] at e; cases e; exact hp
        · rw [upd_ne z] at e; exact I.sub b u e
    obtain ⟨a1, a2, a3⟩ := lay_of _ v rp 60 h1
    obtain ⟨b1, b2⟩ := shown_size _ v rp 60 h1 h2
    exact ⟨v, _, rfl, Dp.up ex' a3, a1, b1, a2, by rw [sizeLine_eq]; omega, g.str I (sOk_shown _ a1) h4⟩
  · exact h.elim
end
end DL

set_option Elab.async false
set_option linter.all false
set_option maxRecDepth 100000
set_option maxHeartbeats 4000000
set_option autoImplicit false
/-! DL12: stores, dicts, several targets, methods of texts. -/
namespace DL
open PySem PySem.Spec L2 Evl PyProof.Rows

section
variable {X : Cx} {K : PySem.W.Frag} {pos : Pos}
/-! ### x.append(e), x.extend(e), x[k] = e, of an owned list -/
@[simp] def putOwn (env : List Slot) (i : Nat) (f : D → (D → Prop) → Prop) (R : List Slot → Prop) : Prop := match env[i]? with
  | some (.own b d) => f d fun d' => R (env.set i (.own b d'))
  | _ => False
@[simp] def ownL (env : List Slot) (i : Nat) : Prop := match env[i]? with
  | some (.own _ (.lst _)) => True
  | _ => False
@[simp] def ownD (env : List Slot) (i : Nat) : Prop := match env[i]? with
  | some (.own _ (.dic _)) => True
  | _ => False
@[simp] def mApp (i : Nat) (a : DM) : DStm := fun P env => ownL env i ∧ a env fun x e => x.get e fun d => putOwn e i (fun c R => match c with
  | .lst xs => xs.length < 100000 ∧ R (.lst (xs ++ [d]))
  | _ => False) P.nx
@[simp] def mExt (i : Nat) (a : DM) : DStm := fun P env => ownL env i ∧ a env fun x e => x.con e fun d => putOwn e i (fun c R => match c, d with
  | .lst xs, .lst ys => xs.length + ys.length ≤ 100000 ∧ R (.lst (xs ++ ys))
  | _, _ => False) P.nx
theorem ownL_at {C : Ct} {F H : Hp} {env : List Slot} {σ : L2.St} {i : Nat} (I : Ok K C F env σ H) (h : ownL env i) : ∃ p vs, σ[i]? = some (some (.ref p)) ∧ H p = some (.lst vs) := by
  unfold ownL at h
  split at h
  · rename_i b xs e
    obtain ⟨p, o, h1, h2, h3, _⟩ := I.owns i b _ e
    unfold RepO at h3
    split at h3
    · exact ⟨p, _, h1, h2⟩
    · rename_i z; cases z
    · exact h3.elim
  · exact h.elim
theorem putOwn_at {C : Ct} {F H : Hp} {env : List Slot} {σ : L2.St} {i : Nat} {f : D → (D → Prop) → Prop} {R : List Slot → Prop} (I : Ok K C F env σ H) (h : putOwn env i f R) :
    ∃ p o b d, env[i]? = some (.own b d) ∧ σ[i]? = some (some (.ref p)) ∧ H p = some o ∧ RepO K F o d ∧ F p = none ∧ (f d fun d' => R (env.set i (.own b d'))) ∧
      ∀ o' d', RepO K F o' d' → Ok K C F (env.set i (.own b d')) σ (upd H p o') := by
  unfold putOwn at h
  split at h
  · rename_i b d e
    obtain ⟨p, o, h1, h2, h3, h4, _⟩ := I.owns i b _ e
    exact ⟨p, o, b, d, e, h1, h2, h3, h4, h, fun o' d' r => I.change e h1 r⟩
  · exact h.elim
theorem lst_of {F : Hp} {o : HO} {xs : List D} (h : RepO K F o (.lst xs)) : ∃ vs, o = .lst vs ∧ RepL K F vs xs := by
  unfold RepO at h
  split at h
  · rename_i z; cases z; exact ⟨_, rfl, h⟩
  · rename_i z; cases z
  · exact h.elim
theorem dic_of {F : Hp} {o : HO} {ks : List (Key × D)} (h : RepO K F o (.dic ks)) : ∃ kvs, o = .dK kvs ∧ kvs.map (·.1) = ks.map (·.1) ∧ RepL K F (kvs.map (·.2)) (ks.map (·.2)) := by
  unfold RepO at h
  split at h
  · rename_i z; cases z
  · rename_i z; cases z; exact ⟨_, rfl, h.1, h.2⟩
  · exact h.elim
theorem ds_app (i : Nat) {x : Str} {e : Expr} {m : DM} {px apos cpos : Pos} (hN : X.N[i]? = some x) (hv : Vis X.env.scope x) (h : DE X e m)
    (hd : (x == ("__debug__" : Str)) = false := by decide) (hcd : (x == ("__classdict__" : Str)) = false := by decide)
    (h1 : attributeBase (.Name x px) "append" X.env (eval (.Name x px) X.env) = eval (.Name x px) X.env := by rfl)
    (h2 : ((((backTo cpos (starEach [e] X.env)).all fun x => !x.fst) && (backToKw cpos (keywordEach [] X.env)).all fun x => x.fst.isSome) && decide (([e].length + ([] : List Keyword).length + if ([] : List Keyword).isEmpty = true then 0 else 1) < 30)) = true := by rfl)
    (h3 : (apos.endLine == cpos.line) = true := by rfl) (h4 : starEach [e] X.env = (false, eval e X.env) :: starEach [] X.env := by rfl) (h5 : ((backTo cpos (starEach [] X.env)).any fun x => x.fst) = false := by rfl)
    (hs : swapsWith (.Call (.Attribute (.Name x px) "append" apos) [e] [] cpos) none pos.line X.env = pure false := by rfl) : DS X (.Expr (.Call (.Attribute (.Name x px) "append" apos) [e] [] cpos) pos) (mApp i m) := by
  obtain ⟨t, p, ev⟩ := h
  refine ⟨_, ps_expr (pe_bm PySem.F.plainAttrs_list PySem.F.slot_list_append PySem.F.type_list_append mt_append (pe_var hN hv hd hcd) (pa_cons p pa_nil h4) h1 h2 h3 h4 h5) hs, ?_⟩
  intro C F env σ H D P I h k
  obtain ⟨p0, vs0, q0, q1⟩ := ownL_at I h.1
  refine ⟨.ref p0, q0, Or.inl ⟨rfl, _, sq_of q1⟩, ?_⟩
  refine ev C F env σ H _ _ I h.2 ?_
  intro l e1 F1 v H1 h1 A1 r1
  obtain ⟨F2, d, h2, A2, ex, rp⟩ := A1.keepIt r1 h1
  obtain ⟨p, o, b, c, z1, z2, z3, z4, z5, z6, z7⟩ := putOwn_at A2.ok h2
  rw [q0] at z2; cases z2
  cases c with
  | lst xs =>
    obtain ⟨vs, rfl, rl⟩ := lst_of z4
    exact ⟨p0, vs, v, rfl, rfl, z3, by rw [rl.length]; exact sz_lt z6.1, k.nx F2 _ σ _ (z7 (.lst (vs ++ [v])) (.lst (xs ++ [d])) (rl.append (.cons rp .nil))) z6.2⟩
  | _ => exact z6.elim
theorem ds_ext (i : Nat) {x : Str} {e : Expr} {m : DM} {px apos cpos : Pos} (hN : X.N[i]? = some x) (hv : Vis X.env.scope x) (h : DE X e m)
    (hd : (x == ("__debug__" : Str)) = false := by decide) (hcd : (x == ("__classdict__" : Str)) = false := by decide)
    (h1 : attributeBase (.Name x px) "extend" X.env (eval (.Name x px) X.env) = eval (.Name x px) X.env := by rfl)
    (h2 : ((((backTo cpos (starEach [e] X.env)).all fun x => !x.fst) && (backToKw cpos (keywordEach [] X.env)).all fun x => x.fst.isSome) && decide (([e].length + ([] : List Keyword).length + if ([] : List Keyword).isEmpty = true then 0 else 1) < 30)) = true := by rfl)
    (h3 : (apos.endLine == cpos.line) = true := by rfl) (h4 : starEach [e] X.env = (false, eval e X.env) :: starEach [] X.env := by rfl) (h5 : ((backTo cpos (starEach [] X.env)).any fun x => x.fst) = false := by rfl)
    (hs : swapsWith (.Call (.Attribute (.Name x px) "extend" apos) [e] [] cpos) none pos.line X.env = pure false := by rfl) : DS X (.Expr (.Call (.Attribute (.Name x px) "extend" apos) [e] [] cpos) pos) (mExt i m) := by
  obtain ⟨t, p, ev⟩ := h
  refine ⟨_, ps_expr (pe_bm PySem.F.plainAttrs_list PySem.F.slot_list_extend PySem.F.type_list_extend mt_extend (pe_var hN hv hd hcd) (pa_cons p pa_nil h4) h1 h2 h3 h4 h5) hs, ?_⟩
  intro C F env σ H D P I h k
  obtain ⟨p0, vs0, q0, q1⟩ := ownL_at I h.1
  refine ⟨.ref p0, q0, Or.inl ⟨rfl, _, sq_of q1⟩, ?_⟩
  refine ev C F env σ H _ _ I h.2 ?_
  intro l e1 F1 v H1 h1 A1 r1
  obtain ⟨d, h2, s1⟩ := A1.ok.see r1 h1
  obtain ⟨p, o, b, c, z1, z2, z3, z4, z5, z6, z7⟩ := putOwn_at A1.ok h2
  rw [q0] at z2; cases z2
  cases c with
  | lst xs =>
    cases d with
    | lst ys =>
      obtain ⟨vs, rfl, rl⟩ := lst_of z4
      obtain ⟨q, ws, rfl, e2, r2⟩ := s1.lst A1.ok.sub
      exact ⟨p0, q, vs, ws, rfl, rfl, z3, e2, by rw [rl.length, r2.length]; exact sz_of z6.1, k.nx F1 _ σ _ (z7 (.lst (vs ++ ws)) (.lst (xs ++ ys)) (rl.append r2)) z6.2⟩
    | _ => exact z6.elim
  | _ => exact z6.elim
@[simp] def mSetIx (i : Nat) (mk mv : DM) : DStm := fun P env => mv env fun x e1 => x.get e1 fun d => ownL e1 i ∧ mk e1 fun y e2 => y.con e2 fun kd => putOwn e2 i (fun c R => match c, kd with
  | .lst xs, .int j => ∃ n, ixN xs.length j = some n ∧ R (.lst (xs.set n d))
  | _, _ => False) P.nx
theorem ds_setIx (i : Nat) {x : Str} {ek ev : Expr} {mk mv : DM} {px ps : Pos} (hN : X.N[i]? = some x) (hv : Vis X.env.scope x) (hk : DE X ek mk) (hw : DE X ev mv)
    (hd : (x == ("__debug__" : Str)) = false := by decide) (hcd : (x == ("__classdict__" : Str)) = false := by decide)
    (ha : ∀ v, assign (.Subscript (.Name x px) ek ps) X.env v = (do
      let ov ← holding [v] (eval (.Name x px) X.env)
      let iv ← holding [v, ov] (eval ek X.env)
      standAt ps
      holding [v, ov, iv] (setItem ov iv v)
      release [v, ov, iv] []) := by intro _; rfl)
    (hs : swapsWithSole [.Subscript (.Name x px) ek ps] ev pos.line X.env = pure false := by rfl) (hw2 : swappedStores [.Subscript (.Name x px) ek ps] ev X.env = pure none := by rfl)
    (h1 : (assignEach [.Subscript (.Name x px) ek ps] X.env).map (·.2) = [assign (.Subscript (.Name x px) ek ps) X.env] := by rfl) : DS X (.Assign [.Subscript (.Name x px) ek ps] ev pos) (mSetIx i mk mv) := by
  obtain ⟨tk, pk, evk⟩ := hk
  obtain ⟨tv, pv', evv⟩ := hw
  refine ⟨_, ps_asg pv' (pg_sub (pe_var hN hv hd hcd) pk set_list ha) hs hw2 h1, ?_⟩
  intro C F env σ H D P I h k
  refine evv C F env σ H _ _ I h ?_
  intro l e1 F1 v H1 h1 A1 r1
  obtain ⟨F2, d, h2, A2, ex, rp⟩ := A1.keepIt r1 h1
  obtain ⟨p0, vs0, q0, q1⟩ := ownL_at A2.ok h2.1
  refine ⟨.ref p0, q0, ?_⟩
  refine evk C F2 e1 σ H1 _ _ A2.ok h2.2 ?_
  intro l2 e2 F3 w H3 h3 A3 r3
  obtain ⟨kd, h4, s3⟩ := A3.ok.see r3 h3
  obtain ⟨p, o, b, c, z1, z2, z3, z4, z5, z6, z7⟩ := putOwn_at A3.ok h4
  rw [q0] at z2; cases z2
  cases c with
  | lst xs =>
    cases kd with
    | int j =>
      obtain ⟨n, y1, y2⟩ := z6
      obtain ⟨vs, rfl, rl⟩ := lst_of z4
      exact ⟨p0, vs, j, n, rfl, s3.int, z3, by rw [rl.length]; exact y1, k.nx F3 _ σ _ (z7 (.lst (vs.set n v)) (.lst (xs.set n d)) (rl.set (rp.mono A3.ex) n)) y2⟩
    | _ => exact z6.elim
  | _ => exact z6.elim

/-! ### x op= e, of things -/
@[simp] def aAug (f : D → D → (RV → Prop) → Prop) (j : Nat) (a : DM) : DStm := fun P env => match env[j]? with
  | some (.val d) => a env fun x e => x.con e fun y => f d y fun l => l.get e fun z => Free e j ∧ P.nx (e.set j (.val z))
  | _ => False
def rAugAdd : TIp := fun x y H Q => (∃ i j, x = .int i ∧ y = .int j ∧ Q (.int (i + j)) H) ∨ ∃ i j, x = .str i ∧ y = .str j ∧ i.length + j.length ≤ sizeLine ∧ Q (.str (i ++ j)) H
theorem ip_addD : PIp X .Add rAugAdd := by
  intro pins s σ H x y v u Q I rx ry h
  rcases h with h | h
  · exact ip_add pins s σ H x y v u Q I rx ry h
  · exact iop_add_str pins s σ H x y v u Q I rx ry h
@[simp] def bAdd (d e : D) (R : RV → Prop) : Prop := match d, e with
  | .int i, .int j => R (.vl (.int (i + j)))
  | .str s, .str t => s.length + t.length ≤ sizeLine ∧ R (.vl (.str (s ++ t)))
  | _, _ => False
@[simp] def bSub (d e : D) (R : RV → Prop) : Prop := match d, e with
  | .int i, .int j => R (.vl (.int (i - j)))
  | _, _ => False
def Ip2 (K : PySem.W.Frag) (r : TIp) (f : D → D → (RV → Prop) → Prop) : Prop := ∀ (C : Ct) (F : Hp) (env : List Slot) (σ : L2.St) (H : Hp) (v w : V) (d e : D) (R : RV → Prop) (Q : VK),
  Ok K C F env σ H → See K F H v d → See K F H w e → f d e R → Gives K C F env σ H R Q → r v w H Q
theorem i2_add : Ip2 K rAugAdd bAdd := by
  intro C F env σ H v w d e R Q I s1 s2 h g
  unfold bAdd at h
  split at h
  · exact Or.inl ⟨_, _, s1.int, s2.int, g.int I h⟩
  · exact Or.inr ⟨_, _, s1.str.1, s2.str.1, h.1, g.str I (sOk_append s1.str.2 s2.str.2) h.2⟩
  · exact h.elim
theorem i2_sub : Ip2 K (ipI fun i j => i - j) bSub := by
  intro C F env σ H v w d e R Q I s1 s2 h g
  unfold bSub at h
  split at h
  · exact ⟨_, _, s1.int, s2.int, g.int I h⟩
  · exact h.elim
theorem ds_aug (j : Nat) {x : Str} {e : Expr} {m : DM} {op : Operator} {r : TIp} {f : D → D → (RV → Prop) → Prop} {pos' : Pos} (hN : X.N.Nodup) (hi : X.N[j]? = some x) (hx : Loc X.env.scope x) (ho : PIp X op r) (hf : Ip2 X.K r f) (h : DE X e m)
    (hfn : X.fn x = true ∨ X.env.scope.names.lookup x = some .local := by first | exact .inl rfl | exact .inr rfl | assumption) : DS X (.AugAssign (.Name x pos') op e pos) (aAug f j m) := by
  obtain ⟨t, p, ev⟩ := h
  refine ⟨_, ps_aug hN hi hx p ho hfn, ?_⟩
  intro C F env σ H D P I h k
  unfold aAug at h
  split at h
  · rename_i d e0
    obtain ⟨v, q1, q2⟩ := I.vals j d e0
    refine ⟨v, q1, ?_⟩
    refine ev C F env σ H _ _ I h ?_
    intro l e1 F1 w H1 h1 A1 r1
    obtain ⟨y, h2, s1⟩ := A1.ok.see r1 h1
    refine hf C F1 e1 σ H1 v w d y _ _ A1.ok (.rep (q2.mono A1.ex)) s1 h2 ?_
    intro l2 F2 u H2 h3 A2 r2
    obtain ⟨F3, z, h4, A3, ex, rp⟩ := A2.keepIt r2 h3
    exact k.nx F3 _ _ H2 (A3.ok.setVal h4.1 rp) h4.2
  · exact h.elim

/-! ### several targets -/
@[simp] def mUn (n : Nat) (gs : DTgs) (a : DM) : DStm := fun P env => a env fun x e => x.get e fun d => match d with
  | .tup ds => ds.length = n ∧ gs ds e P.nx
  | _ => False
theorem ds_un {es : List Expr} {e : Expr} {js : List Nat} {gs : DTgs} {m : DM} {kk : Nat} {pt : Pos} {n : Nat} (hc : X.calm = true) (hg : DGs X es js gs) (h : DE X e m) (hn : (assignEach es X.env).length = n := by rfl) (hst : (assignEach es X.env).findIdx? (·.1) = none := by rfl)
    (hs : swapsWithSole [.Tuple es kk pt] e pos.line X.env = pure false := by rfl) (hw : swappedStores [.Tuple es kk pt] e X.env = pure none := by rfl) (h1 : (assignEach [.Tuple es kk pt] X.env).map (·.2) = [assign (.Tuple es kk pt) X.env] := by rfl) :
    DS X (.Assign [.Tuple es kk pt] e pos) (mUn n gs m) := by
  obtain ⟨tg, pg, eg⟩ := hg
  obtain ⟨t, p, ev⟩ := h
  refine ⟨_, ps_asg p (pg_tup hc pg hn hst) hs hw h1, ?_⟩
  intro C F env σ H D P I h k
  refine ev C F env σ H _ _ I h ?_
  intro l e1 F1 v H1 h1 A1 r1
  obtain ⟨F2, d, h2, A2, ex, rp⟩ := A1.keepIt r1 h1
  cases rp with
  | tup s r =>
    refine ⟨_, _, rfl, ex_t A2.ok.sub s, r.length.trans h2.1, ?_⟩
    exact eg C F2 e1 σ H1 _ _ _ _ A2.ok r h2.2 fun env' σ' q I' kp => k.nx F2 env' σ' H1 I' q
  | _ => exact h2.elim
@[simp] def mUnL (n : Nat) (gs : DTgs) (a : DM) : DStm := fun P env => a env fun x e => x.get e fun d => match d with
  | .lst ds => ds.length = n ∧ gs ds e P.nx
  | _ => False
theorem ds_unL {es : List Expr} {e : Expr} {js : List Nat} {gs : DTgs} {m : DM} {kk : Nat} {pt : Pos} {n : Nat} (hc : X.calm = true) (hg : DGs X es js gs) (h : DE X e m) (hn : (assignEach es X.env).length = n := by rfl) (hst : (assignEach es X.env).findIdx? (·.1) = none := by rfl)
    (hs : swapsWithSole [.Tuple es kk pt] e pos.line X.env = pure false := by rfl) (hw : swappedStores [.Tuple es kk pt] e X.env = pure none := by rfl) (h1 : (assignEach [.Tuple es kk pt] X.env).map (·.2) = [assign (.Tuple es kk pt) X.env] := by rfl) :
    DS X (.Assign [.Tuple es kk pt] e pos) (mUnL n gs m) := by
  obtain ⟨tg, pg, eg⟩ := hg
  obtain ⟨t, p, ev⟩ := h
  refine ⟨_, ps_asg p (pg_unl hc pg hn hst) hs hw h1, ?_⟩
  intro C F env σ H D P I h k
  refine ev C F env σ H _ _ I h ?_
  intro l e1 F1 v H1 h1 A1 r1
  obtain ⟨F2, d, h2, A2, ex, rp⟩ := A1.keepIt r1 h1
  cases rp with
  | lst s r =>
    refine ⟨_, _, rfl, sq_of (A2.ok.sub _ _ s), r.length.trans h2.1, ?_⟩
    exact eg C F2 e1 σ H1 _ _ _ _ A2.ok r h2.2 fun env' σ' q I' kp => k.nx F2 env' σ' H1 I' q
  | _ => exact h2.elim
@[simp] def mPar2 (i j : Nat) (a : DML) : DStm := fun P env => a env fun ds e => match ds with
  | [d, d'] => Free e i ∧ Free (e.set i (.val d)) j ∧ P.nx ((e.set i (.val d)).set j (.val d'))
  | _ => False
theorem ds_par2 {i j : Nat} {x y : Str} {a b : Expr} {m : DML} {px py pt : Pos} {kt k2 pt2} (hc : X.calm = true) (hN : X.N.Nodup) (hi : X.N[i]? = some x) (hj : X.N[j]? = some y) (hij : i ≠ j)
    (hx : X.env.scope.names.lookup x = some .local) (hy : X.env.scope.names.lookup y = some .local) (h : DL X [a, b] m)
    (hw : swappedStores [.Tuple [.Name x px, .Name y py] kt pt] (.Tuple [a, b] k2 pt2) X.env = pure (some [x, y]))
    (hs : swapsWithSole [.Tuple [.Name x px, .Name y py] kt pt] (.Tuple [a, b] k2 pt2) pos.line X.env = pure false := by rfl) :
    DS X (.Assign [.Tuple [.Name x px, .Name y py] kt pt] (.Tuple [a, b] k2 pt2) pos) (mPar2 i j m) := by
  obtain ⟨t, p, ev⟩ := h
  refine ⟨_, ps_par hc hN hi hj hij hx hy p hw hs, ?_⟩
  intro C F env σ H D P I h k
  refine ev C F env σ H _ _ I h ?_
  intro ds e1 F1 vs H1 h1 A1 r1
  cases r1 with
  | cons ra r =>
    cases r with
    | cons rb r =>
      cases r with
      | nil => exact ⟨_, _, rfl, k.nx F1 _ _ H1 ((A1.ok.setVal h1.1 ra).setVal h1.2.1 rb) h1.2.2⟩
      | cons _ _ => exact h1.elim
    | nil => exact h1.elim
  | nil => exact h1.elim
@[simp] def mPar3 (i j l : Nat) (a : DML) : DStm := fun P env => a env fun ds e => match ds with
  | [d, d', d''] => Free e i ∧ Free (e.set i (.val d)) j ∧ Free ((e.set i (.val d)).set j (.val d')) l ∧ P.nx (((e.set i (.val d)).set j (.val d')).set l (.val d''))
  | _ => False
theorem ds_par3 {i j l : Nat} {x y z : Str} {a b c : Expr} {m : DML} {px py pz pt : Pos} {kt k2 pt2} (hc : X.calm = true) (hN : X.N.Nodup) (hi : X.N[i]? = some x) (hj : X.N[j]? = some y) (hl : X.N[l]? = some z) (hij : i ≠ j) (hil : i ≠ l) (hjl : j ≠ l)
    (hx : X.env.scope.names.lookup x = some .local) (hy : X.env.scope.names.lookup y = some .local) (hz : X.env.scope.names.lookup z = some .local) (h : DL X [a, b, c] m)
    (hw : swappedStores [.Tuple [.Name x px, .Name y py, .Name z pz] kt pt] (.Tuple [a, b, c] k2 pt2) X.env = pure (some [x, y, z]))
    (hs : swapsWithSole [.Tuple [.Name x px, .Name y py, .Name z pz] kt pt] (.Tuple [a, b, c] k2 pt2) pos.line X.env = pure false := by rfl) :
    DS X (.Assign [.Tuple [.Name x px, .Name y py, .Name z pz] kt pt] (.Tuple [a, b, c] k2 pt2) pos) (mPar3 i j l m) := by
  obtain ⟨t, p, ev⟩ := h
  refine ⟨_, ps_par3 hc hN hi hj hl hij hil hjl hx hy hz p hw hs, ?_⟩
  intro C F env σ H D P I h k
  refine ev C F env σ H _ _ I h ?_
  intro ds e1 F1 vs H1 h1 A1 r1
  cases r1 with
  | cons ra r =>
    cases r with
    | cons rb r =>
      cases r with
      | cons rc r =>
        cases r with
        | nil => exact ⟨_, _, _, rfl, k.nx F1 _ _ H1 (((A1.ok.setVal h1.1 ra).setVal h1.2.1 rb).setVal h1.2.2.1 rc) h1.2.2.2⟩
        | cons _ _ => exact h1.elim
      | nil => exact h1.elim
    | nil => exact h1.elim
  | nil => exact h1.elim

/-! ### dicts with keys that are numbers or texts -/
@[simp] def keyOf : D → Option Key
  | .int i => some (.inl i)
  | .str s => some (.inr s)
  | _ => none
@[simp] def dGet (ks : List (Key × D)) (k : Key) : Option D := (ks.find? fun p => decide (p.1 = k)).map (·.2)
def dPut (ks : List (Key × D)) (k : Key) (v : D) : List (Key × D) :=
  if (ks.any fun p => decide (p.1 = k)) = true then ks.map (fun p => if p.1 = k then (p.1, v) else p) else ks ++ [(k, v)]
theorem keyOf_V {F H : Hp} {v : V} {d : D} {k : Key} (s : See K F H v d) (h : keyOf d = some k) : v = kV k := by
  cases d with
  | int i => cases h; exact s.int
  | str i => cases h; exact s.str.1
  | _ => cases h
@[simp] def mDNew : DM := fun env R => R (.tm (.dic [])) env
theorem ddnew : DE X (.Dict [] [] pos) mDNew := by
  refine ⟨_, pe_dnewK, ?_⟩
  intro C F env σ H R Q I h k p hp
  exact k _ env F _ _ h (I.tmp hp (.dK [])) ⟨p, .dK [], rfl, upd_same, ⟨rfl, .nil⟩, I.fnone hp, I.gnone hp, I.unowned hp, hp⟩
theorem find_rep {F : Hp} : ∀ {kvs : List (Key × V)} {ks : List (Key × D)}, kvs.map (·.1) = ks.map (·.1) → RepL K F (kvs.map (·.2)) (ks.map (·.2)) → ∀ k : Key,
    (∃ v d, valV kvs k = some v ∧ dGet ks k = some d ∧ Rep K F v d) ∨ (valV kvs k = none ∧ dGet ks k = none)
  | [], [], _, _, k => Or.inr ⟨rfl, rfl⟩
  | [], _ :: _, h, _, _ => by simp at h
  | _ :: _, [], h, _, _ => by simp at h
  | p :: kvs, q :: ks, h, r, k => by
    simp only [List.map_cons, List.cons.injEq] at h
    cases r with
    | cons a r =>
      by_cases e : q.1 = k
      · refine Or.inl ⟨p.2, q.2, ?_, ?_, a⟩
        · unfold valV; rw [List.find?_cons, decide_eq_true (h.1.trans e)]; rfl
        · simp [e]
      · have e' : ¬ p.1 = k := fun z => e (h.1.symm.trans z)
        have ih := find_rep h.2 r k
        have e1 : valV (p :: kvs) k = valV kvs k := by unfold valV; rw [List.find?_cons, decide_eq_false e']
        have e2 : dGet (q :: ks) k = dGet ks k := by simp [e]
        rw [e1, e2]; exact ih
@[simp] def aDIn (n : Bool) (d e : D) (R : RV → Prop) : Prop := match e, keyOf d with
  | .dic ks, some k => R (.vl (.bl (n ^^ (dGet ks k).isSome)))
  | _, _ => False
def rDIn (n : Bool) : R2 := fun y x H Q => ∃ a o, x = .ref a ∧ DGet H a y o ∧ Q (.bl (n ^^ o.isSome)) H
theorem o2_din {n : Bool} : Op2 K (rDIn n) (aDIn n) := by
  intro C F env σ H v w d e R Q I s1 s2 h g
  unfold aDIn at h
  split at h
  · rename_i ks k hk
    obtain ⟨p, kvs, rfl, e1, k1, r1⟩ := s2.dic I.sub
    have hv := keyOf_V s1 hk
    refine ⟨p, valV kvs k, rfl, by rw [hv]; exact DGet.k e1, ?_⟩
    rcases find_rep k1 r1 k with ⟨a, b, q1, q2, _⟩ | ⟨q1, q2⟩
    · rw [q1]; rw [q2] at h; exact g.bl I h
    · rw [q1]; rw [q2] at h; exact g.bl I h
  · exact h.elim
theorem ddin {a b : Expr} {m1 m2 : DM} (hu : X.A.units + 1 < cLine) (ha : DE X a m1) (hb : DE X b m2) (h1 : behindInMarks .In b = false := by first | exact nobehind _ (by decide) (by decide) | rfl | with_unfolding_all rfl) : DE X (.Compare a [.In] [b] pos) (mOp2 (aDIn false) m1 m2) := by
  obtain ⟨ta, pa, ea⟩ := ha
  obtain ⟨tb, pb, eb⟩ := hb
  refine ⟨_, pe_cmp (pc_din hu pa pb) h1, ?_⟩
  have := evd_op2 (o2_din (n := false)) ea eb
  intro C F env σ H R Q I h k
  have q := this C F env σ H R Q I h k
  simpa [tOp, tDIn, rDIn] using q
theorem ddnotin {a b : Expr} {m1 m2 : DM} (hu : X.A.units + 1 < cLine) (ha : DE X a m1) (hb : DE X b m2) (h1 : behindInMarks .NotIn b = false := by first | exact nobehind _ (by decide) (by decide) | rfl | with_unfolding_all rfl) : DE X (.Compare a [.NotIn] [b] pos) (mOp2 (aDIn true) m1 m2) := by
  obtain ⟨ta, pa, ea⟩ := ha
  obtain ⟨tb, pb, eb⟩ := hb
  refine ⟨_, pe_cmp (pc_dnotin hu pa pb) h1, ?_⟩
  have := evd_op2 (o2_din (n := true)) ea eb
  intro C F env σ H R Q I h k
  have q := this C F env σ H R Q I h k
  simpa [tOp, tDNotIn, rDIn] using q
@[simp] def aDIx (d e : D) (R : RV → Prop) : Prop := match d, keyOf e with
  | .dic ks, some k => ∃ y, dGet ks k = some y ∧ R (.vl y)
  | _, _ => False
def rDIx : R2 := fun x y H Q => ∃ a v, x = .ref a ∧ DGet H a y (some v) ∧ Q v H
theorem o2_dix : Op2 K rDIx aDIx := by
  intro C F env σ H v w d e R Q I s1 s2 h g
  unfold aDIx at h
  split at h
  · rename_i ks k hk
    obtain ⟨y, h1, h2⟩ := h
    obtain ⟨p, kvs, rfl, e1, k1, r1⟩ := s1.dic I.sub
    have hv := keyOf_V s2 hk
    rcases find_rep k1 r1 k with ⟨a, b, q1, q2, q3⟩ | ⟨q1, q2⟩
    · rw [h1] at q2; cases q2
      exact ⟨p, a, rfl, by rw [hv, ← q1]; exact DGet.k e1, g.here I h2 q3⟩
    · rw [h1] at q2; cases q2
  · exact h.elim
theorem ddix {a b : Expr} {m1 m2 : DM} (hu : X.A.units + 1 < cLine) (ha : DE X a m1) (hb : DE X b m2) (hs : NoSl b := by exact fun _ _ => rfl) : DE X (.Subscript a b pos) (mOp2 aDIx m1 m2) := by
  obtain ⟨ta, pa, ea⟩ := ha
  obtain ⟨tb, pb, eb⟩ := hb
  exact ⟨_, pe_dget hu pa pb hs, evd_op2 o2_dix ea eb⟩
theorem keys_any {k : Key} : ∀ {kvs : List (Key × V)} {ks : List (Key × D)}, kvs.map (·.1) = ks.map (·.1) → (kvs.any fun p => decide (p.1 = k)) = ks.any fun p => decide (p.1 = k)
  | [], [], _ => rfl
  | [], _ :: _, h => by simp at h
  | _ :: _, [], h => by simp at h
  | p :: kvs, q :: ks, h => by
    simp only [List.map_cons, List.cons.injEq] at h
    rw [List.any_cons, List.any_cons, keys_any h.2, h.1]
theorem put_map {F : Hp} {v : V} {d : D} (a : Rep K F v d) (k : Key) : ∀ {kvs : List (Key × V)} {ks : List (Key × D)}, kvs.map (·.1) = ks.map (·.1) → RepL K F (kvs.map (·.2)) (ks.map (·.2)) →
    (kvs.map fun p => if p.1 = k then (p.1, v) else p).map (·.1) = (ks.map fun p => if p.1 = k then (p.1, d) else p).map (·.1) ∧ RepL K F ((kvs.map fun p => if p.1 = k then (p.1, v) else p).map (·.2)) ((ks.map fun p => if p.1 = k then (p.1, d) else p).map (·.2))
  | [], [], _, _ => ⟨rfl, .nil⟩
  | [], _ :: _, h, _ => by simp at h
  | _ :: _, [], h, _ => by simp at h
  | p :: kvs, q :: ks, h, r => by
    simp only [List.map_cons, List.cons.injEq] at h
    cases r with
    | cons b r =>
      obtain ⟨h1, h2⟩ := put_map a k h.2 r
      rw [List.map_cons, List.map_cons, List.map_cons, List.map_cons, List.map_cons, List.map_cons, h1]
      by_cases e : q.1 = k
      · have e' : p.1 = k := h.1.trans e
        rw [if_pos e, if_pos e']
        exact ⟨by rw [h.1], .cons a h2⟩
      · have e' : ¬ p.1 = k := fun z => e (h.1.symm.trans z)
        rw [if_neg e, if_neg e']
        exact ⟨by rw [h.1], .cons b h2⟩
theorem put_rep {F : Hp} {v : V} {d : D} (a : Rep K F v d) (k : Key) {kvs : List (Key × V)} {ks : List (Key × D)} (h : kvs.map (·.1) = ks.map (·.1)) (r : RepL K F (kvs.map (·.2)) (ks.map (·.2))) :
    (putK kvs k v).map (·.1) = (dPut ks k d).map (·.1) ∧ RepL K F ((putK kvs k v).map (·.2)) ((dPut ks k d).map (·.2)) := by
  unfold putK dPut
  rw [keys_any h]
  split
  · exact put_map a k h r
  · rw [List.map_append, List.map_append, List.map_append, List.map_append, h]
    exact ⟨rfl, r.append (.cons a .nil)⟩
@[simp] def mDPut (i : Nat) (mk mv : DM) : DStm := fun P env => mv env fun x e1 => x.get e1 fun d => ownD e1 i ∧ mk e1 fun y e2 => y.con e2 fun kd => putOwn e2 i (fun c R => match c, keyOf kd with
  | .dic ks, some k => ks.length < 100000 ∧ R (.dic (dPut ks k d))
  | _, _ => False) P.nx
theorem ownD_at {C : Ct} {F H : Hp} {env : List Slot} {σ : L2.St} {i : Nat} (I : Ok K C F env σ H) (h : ownD env i) : ∃ p vs, σ[i]? = some (some (.ref p)) ∧ H p = some (.dK vs) := by
  unfold ownD at h
  split at h
  · rename_i b xs e
    obtain ⟨p, o, h1, h2, h3, _⟩ := I.owns i b _ e
    obtain ⟨kvs, rfl, _⟩ := dic_of h3
    exact ⟨p, _, h1, h2⟩
  · exact h.elim
theorem ds_dput (i : Nat) {x : Str} {ek ev : Expr} {mk mv : DM} {px ps : Pos} (hu : X.A.units + 1 < cLine) (hN : X.N[i]? = some x) (hv : Vis X.env.scope x) (hk : DE X ek mk) (hw : DE X ev mv)
    (hd : (x == ("__debug__" : Str)) = false := by decide) (hcd : (x == ("__classdict__" : Str)) = false := by decide)
    (hs : swapsWith ev (some (.Subscript (.Name x px) ek ps)) pos.line X.env = pure false := by rfl) : DS X (.Assign [.Subscript (.Name x px) ek ps] ev pos) (mDPut i mk mv) := by
  obtain ⟨tk, pk, evk⟩ := hk
  obtain ⟨tv, pv', evv⟩ := hw
  refine ⟨_, ps_dput hu (pe_var hN hv hd hcd) pk pv' hs, ?_⟩
  intro C F env σ H D P I h k
  refine evv C F env σ H _ _ I h ?_
  intro l e1 F1 v H1 h1 A1 r1
  obtain ⟨F2, d, h2, A2, ex, rp⟩ := A1.keepIt r1 h1
  obtain ⟨p0, vs0, q0, q1⟩ := ownD_at A2.ok h2.1
  refine ⟨.ref p0, q0, ?_⟩
  refine evk C F2 e1 σ H1 _ _ A2.ok h2.2 ?_
  intro l2 e2 F3 w H3 h3 A3 r3
  obtain ⟨kd, h4, s3⟩ := A3.ok.see r3 h3
  obtain ⟨p, o, b, c, z1, z2, z3, z4, z5, z6, z7⟩ := putOwn_at A3.ok h4
  rw [q0] at z2; cases z2
  split at z6
  · rename_i ks kk hkk
    obtain ⟨kvs, rfl, y1, y2⟩ := dic_of z4
    have hv := keyOf_V s3 hkk
    obtain ⟨g1, g2⟩ := put_rep (rp.mono A3.ex) kk y1 y2
    have hl : kvs.length = ks.length := by simpa using congrArg List.length y1
    exact ⟨p0, _, rfl, by rw [hv]; exact DPut.k z3 (by rw [hl]; exact sz_lt z6.1), k.nx F3 _ σ _ (z7 (.dK (putK kvs kk v)) (.dic (dPut ks kk d)) ⟨g1, g2⟩) z6.2⟩
  · exact z6.elim

/-! ### methods of texts -/
theorem sOk_list {l : List Nat} (h : ∀ c ∈ l, c < 0x110000) : PyData.strOk ⟨l.toArray⟩ = true := by
  rw [sOk_iff]; simpa using h
@[simp] def mM1 (f : D → D → (RV → Prop) → Prop) (a b : DM) : DM := fun env R => a env fun x e1 => x.con e1 fun d => match d with
  | .str _ => b e1 fun y e2 => y.con e2 fun e => f d e fun l => R l e2
  | _ => False
def Mt1 (K : PySem.W.Frag) (r : V → List V → Hp → VK → Prop) (f : D → D → (RV → Prop) → Prop) : Prop := ∀ (C : Ct) (F : Hp) (env : List Slot) (σ : L2.St) (H : Hp) (s : Str) (w : V) (e : D) (R : RV → Prop) (Q : VK),
  Ok K C F env σ H → PyData.strOk s = true → See K F H w e → f (.str s) e R → Gives K C F env σ H R Q → r (.str s) [w] H Q
theorem evd_m1 {K : PySem.W.Frag} {r : V → List V → Hp → VK → Prop} {f : D → D → (RV → Prop) → Prop} {m1 m2 : DM} {ta tb : TE} (hf : Mt1 K r f) (ha : EvD K m1 ta) (hb : EvD K m2 tb) : EvD K (mM1 f m1 m2) (tM1 r ta tb) := by
  intro C F env σ H R Q I h k
  refine ha C F env σ H _ _ I h ?_
  intro x e1 F1 v H1 h1 A1 r1
  obtain ⟨d, h2, s1⟩ := A1.ok.see r1 h1
  cases d with
  | str s =>
    have hv := s1.str
    refine ⟨⟨s, hv.1⟩, ?_⟩
    refine hb C F1 e1 σ H1 _ _ A1.ok h2 ?_
    intro y e2 F2 w H2 h3 A2 r2
    obtain ⟨e, h4, s2⟩ := A2.ok.see r2 h3
    rw [hv.1]
    have A := A1.trans A2
    exact hf C F2 e2 σ H2 s w e _ _ A2.ok hv.2 s2 h4 fun l F3 u H3 hl A3 r3 => k l e2 F3 u H3 hl (A.trans A3) (r3.from fun p => A.back)
  | _ => exact h2.elim
@[simp] def aJoin (d e : D) (R : RV → Prop) : Prop := match d, e with
  | .str s, .lst xs => ∃ ys, asStrs xs = some ys ∧ (ys.map (·.length)).sum + ys.length * s.length ≤ 16777216 ∧ R (.vl (.str (Txt.join s ys)))
  | _, _ => False
end
end DL

set_option Elab.async false
set_option linter.all false
set_option maxRecDepth 100000
set_option maxHeartbeats 4000000
set_option autoImplicit false
/-! DL13: more of texts; the law's own call. -/
namespace DL
open PySem PySem.Spec L2 Evl PyProof.Rows

section
variable {X : Cx} {K : PySem.W.Frag} {pos : Pos}
theorem djoin {o e : Expr} {m1 m2 : DM} {apos : Pos} (ho : DE X o m1) (he : DE X e m2) (hs : starEach [e] X.env = [(false, eval e X.env)] := by rfl) (hb : attributeBase o "join" X.env (eval o X.env) = eval o X.env := by rfl) (hl : (apos.endLine == pos.line) = true := by rfl) :
    DE X (.Call (.Attribute o "join" apos) [e] [] pos) (mM1 aJoin m1 m2) := by
  obtain ⟨t, p, ev⟩ := ho
  obtain ⟨u, q, ev2⟩ := he
  refine ⟨_, pe_join p q hs hb hl, evd_m1 ?_ ev ev2⟩
  intro C F env σ H s w e R Q I hs s2 h g
  unfold aJoin at h
  split at h
  · rename_i xs e1
    cases e1
    obtain ⟨ys, h1, h2, h3⟩ := h
    obtain ⟨p, vs, rfl, q1, q2⟩ := s2.lst I.sub
    rw [asStrs_eq h1] at q2
    refine ⟨_, p, ys, rfl, rfl, Or.inl (by rw [q2.strs] at q1; exact sq_of q1), h2, g.str I ?_ h3⟩
    rw [TL.join_eq]
    exact sOk_join hs fun t m => RepL.sOk q2 t m
  · exact h.elim
@[simp] def aSplit (d e : D) (R : RV → Prop) : Prop := match d, e with
  | .str s, .str t => (t.length == 0) = false ∧ s.length + 2 ≤ sizeLine ∧ (∀ x ∈ Txt.split s t, PyData.strOk x = true) ∧ R (.tm (.lst ((Txt.split s t).map .str)))
  | _, _ => False
theorem dsplit {o e : Expr} {m1 m2 : DM} {apos : Pos} (ho : DE X o m1) (he : DE X e m2) (hs : starEach [e] X.env = [(false, eval e X.env)] := by rfl) (hb : attributeBase o "split" X.env (eval o X.env) = eval o X.env := by rfl) (hl : (apos.endLine == pos.line) = true := by rfl) :
    DE X (.Call (.Attribute o "split" apos) [e] [] pos) (mM1 aSplit m1 m2) := by
  obtain ⟨t, p, ev⟩ := ho
  obtain ⟨u, q, ev2⟩ := he
  refine ⟨_, pe_split p q hs hb hl, evd_m1 ?_ ev ev2⟩
  intro C F env σ H s w e R Q I hs s2 h g
  unfold aSplit at h
  split at h
  · rename_i t e1
    cases e1
    exact ⟨_, _, rfl, by rw [s2.str.1], h.1, h.2.1, fun q hq => g.lst I h.2.2.2 (RepL.ofStrs _ h.2.2.1) q hq⟩
  · exact h.elim
theorem drev {e : Expr} {m : DM} {k : Nat} {p1 p2 p3 : Pos} (he : DE X e m) : DE X (.Subscript e (.Slice none none (some (.UnaryOp .USub (.Constant (.int 1) k p1) p2)) p3) pos) (mRev m) := by
  obtain ⟨t, p, ev⟩ := he
  refine ⟨_, pe_revL p, ?_⟩
  intro C F env σ H R Q I h k
  refine ev C F env σ H _ _ I h ?_
  intro x e1 F1 v H1 h1 A1 r1
  obtain ⟨d, h2, s1⟩ := A1.ok.see r1 h1
  cases d with
  | lst xs =>
    obtain ⟨p, vs, rfl, q1, q2⟩ := s1.lst A1.ok.sub
    refine ⟨p, vs, rfl, sq_of q1, fun q hq => ?_⟩
    have g : Gives X.K C F1 e1 σ H1 (fun r => R r e1) Q := fun l F' w H' hl A' r' => k l e1 F' w H' hl (A1.trans A') (r'.from fun p => A1.back)
    exact g.lst A1.ok h2 q2.reverse q hq
  | _ => exact h2.elim
/-! ### unary minus -/
@[simp] def mNeg (a : DM) : DM := fun env R => a env fun x e1 => x.con e1 fun d => match d with
  | .int i => R (.vl (.int (-i))) e1
  | _ => False
theorem dneg {e : Expr} {m : DM} (he : DE X e m) : DE X (.UnaryOp .USub e pos) (mNeg m) := by
  obtain ⟨t, p, ev⟩ := he
  refine ⟨_, pe_un un_neg p, ?_⟩
  intro C F env σ H R Q I h k
  refine ev C F env σ H _ _ I h ?_
  intro x e1 F1 v H1 h1 A1 r1
  obtain ⟨d, h2, s1⟩ := A1.ok.see r1 h1
  cases d with
  | int i => exact ⟨i, s1.int, k _ e1 F1 _ H1 h2 A1 (Rep.int _)⟩
  | _ => exact h2.elim
end

/-! ### calls with keywords -/
section
variable {X : Cx} {CX : CXT} {k : Nat} {f : Addr} {fd : FuncData} {ps ks : List Str} {sp : Sp} {sd : DSpec} {E : XK} {x : Str} {p pos : Pos} {e : Expr} {es : List Expr} {t tk : TA} {kws : List Keyword}
theorem pe_callG0 {g : List Value → List Value → List Value} {gV : List V → List V → List V} (F : FnG X.prog X.w X.K X.mg X.base CX k f fd ps sp) (hgd : X.A.guards = some []) (hr : Room k X.A) (hg : Gl X x) (hm : X.mg x = some (.ref f)) (hk : PySem.W.keepIn X.K (.ref f) = true) (hb : KBinds X.K fd ps ks g gV) (hx : Passes CX X E)
    (hkw : PK X kws tk) (hall : (backToKw pos (keywordEach kws X.env)).all (·.1.isSome) = true := by rfl) (hks : (backToKw pos (keywordEach kws X.env)).filterMap (·.1) = ks := by rfl)
    (hdb : (x == ("__debug__" : Str)) = false := by decide) (hpl : ((backTo pos (starEach [] X.env)).any (·.1) || (backToKw pos (keywordEach kws X.env)).any (·.1.isNone)) = false := by rfl) : PE X (.Call (.Name x p) [] kws pos) (tCallK sp gV E tNil tk) := by
  constructor
  intro pins s σ H Q I h
  apply wpAny_Call_Name_kw
  apply ld_glob I hg hm _ hdb
  apply PySem.W.callWith_KW0 (h₀ := X.base) I.ok.mod.kin hk hall _ hpl
  apply thn (hkw.run pos pins s σ H _ I h)
  rintro ws s2 ⟨zs, H2, I2, rz, q2⟩
  refine ⟨I2.kIn, ?_⟩
  rw [hks]
  have r2 := hb.rel (vs := []) (us := []) .nil rz
  have hl : (g [] ws).length = ps.length := r2.length.symm.trans (F.len _ _ _ _ q2)
  exact run_g (args := ⟨[], ks.zip ws⟩) (binds := []) F hgd hr (hb.to s2 [] ws I2.kIn hl) hx I2 r2 q2
def ArrC (gV : List V → List V → List V) (gC : List CA → List CA → List CA) : Prop := ∀ (K : PySem.W.Frag) (F : Hp) (σ : L2.St) (vs zs : List V) (as bs : List CA), CAs K F σ vs as → CAs K F σ zs bs → CAs K F σ (gV vs zs) (gC as bs)
@[simp] def mCallK (sd : DSpec) (gC : List CA → List CA → List CA) (a b : DMC) : DM := fun env R => a env fun as e => b e fun bs e2 => apart e2 (gC as bs) = true ∧ sd ((gC as bs).map (resolve e2)) fun r ss => R r (putB (gC as bs) ss e2)
theorem evd_callK {K : PySem.W.Frag} {gV : List V → List V → List V} {gC : List CA → List CA → List CA} {mc mk : DMC} {t tk : TA} (hA : ArrC gV gC) (ev : EvC K mc t) (ek : EvC K mk tk) : EvD K (mCallK sd gC mc mk) (tCallK (spD K sd) gV E0 t tk) := by
  intro C F env σ H R Q I h k
  refine ev C F env σ H _ _ I h ?_
  intro as e1 F1 vs H1 h1 A1 r1
  refine ek C F1 e1 σ H1 _ _ A1.ok h1 ?_
  intro bs e2 F2 zs H2 h2 A2 r2
  exact call_core (A1.trans A2) (hA K F2 σ vs zs as bs (r1.mono A2.ex) r2) h2.1 h2.2 fun r ss F' v H' hR A3 r3 => k r _ F' v H' hR A3 r3
theorem dcallK {g : List Value → List Value → List Value} {gV : List V → List V → List V} (gC : List CA → List CA → List CA) (F : FnG X.prog X.w X.K X.mg X.base CX0 k f fd ps (spD X.K sd)) (hgd : X.A.guards = some []) (hr : Room k X.A) (hg : Gl X x) (hm : X.mg x = some (.ref f)) (hk : PySem.W.keepIn X.K (.ref f) = true) (hb : KBinds X.K fd ps ks g gV)
    (hA : ArrC gV gC) {mc mk : DMC} (h : DC X (e :: es) mc) (h2 : DK X kws mk) (hall : (backToKw pos (keywordEach kws X.env)).all (·.1.isSome) = true := by rfl) (hks : (backToKw pos (keywordEach kws X.env)).filterMap (·.1) = ks := by rfl)
    (hdb : (x == ("__debug__" : Str)) = false := by decide) (he : starEach (e :: es) X.env = (false, eval e X.env) :: starEach es X.env := by rfl)
    (hpl : ((backTo pos (starEach (e :: es) X.env)).any (·.1) || (backToKw pos (keywordEach kws X.env)).any (·.1.isNone)) = false := by rfl) : DE X (.Call (.Name x p) (e :: es) kws pos) (mCallK sd gC mc mk) := by
  obtain ⟨t, pa, ev⟩ := h
  obtain ⟨tk, pk, ek⟩ := h2
  exact ⟨_, pe_callGK (E := E0) F hgd hr hg hm hk hb pass0 pa pk hall hks hdb he hpl, evd_callK hA ev ek⟩
theorem dcallK0 {g : List Value → List Value → List Value} {gV : List V → List V → List V} (gC : List CA → List CA → List CA) (F : FnG X.prog X.w X.K X.mg X.base CX0 k f fd ps (spD X.K sd)) (hgd : X.A.guards = some []) (hr : Room k X.A) (hg : Gl X x) (hm : X.mg x = some (.ref f)) (hk : PySem.W.keepIn X.K (.ref f) = true) (hb : KBinds X.K fd ps ks g gV)
    (hA : ArrC gV gC) {mk : DMC} (h2 : DK X kws mk) (hall : (backToKw pos (keywordEach kws X.env)).all (·.1.isSome) = true := by rfl) (hks : (backToKw pos (keywordEach kws X.env)).filterMap (·.1) = ks := by rfl)
    (hdb : (x == ("__debug__" : Str)) = false := by decide) (hpl : ((backTo pos (starEach [] X.env)).any (·.1) || (backToKw pos (keywordEach kws X.env)).any (·.1.isNone)) = false := by rfl) : DE X (.Call (.Name x p) [] kws pos) (mCallK sd gC mcNil mk) := by
  obtain ⟨tk, pk, ek⟩ := h2
  exact ⟨_, pe_callG0 (E := E0) F hgd hr hg hm hk hb pass0 pk hall hks hdb hpl, evd_callK hA evc_nil ek⟩
end

/-! ### the law's own call -/
theorem law_callG {P : Program} {w : World} {K : PySem.W.Frag} {mg mb : Str → Option Value} {k : Nat} {fa a : Addr} {fd : FuncData} {x : Str} {sd : DSpec} {s₁ : Shared} {vs : List Value} {ns : List Int}
    (KX : K.In s₁.heap) (hns : s₁.heap.Ns mainGlobals mg) (hb : s₁.heap.Ns builtinsNs mb) (hbb : ∀ x : Str, x ≠ "__name__" → mb x = bootBuiltins x) (hlim : s₁.heap.NoLimit) (hg : s₁.gens = #[])
    (ha : s₁.heap.get? a = some { cls := .type "list", data := .seq vs.toArray }) (hi : IntsAre vs ns) (hl : ns.length ≤ sizeLine) (hr : Room k callerA)
    (F : ∀ base : Heap, K.In base → base.Ns mainGlobals mg → FnG P w K mg base CX0 k fa fd [x] (spD K sd)) (hbind : ∀ (s : Shared) (u : Value), BindsTo s fd ⟨[u], []⟩ [(x, u)])
    (hsd : sd [.val (.scr ns)] fun r _ => r = .vl (.bl true)) :
    codeAny (model P w) callerA (.call (.ref fa) ⟨[.ref a], []⟩) (fun r s' => r = .ok (.ret (.bool true)) ∧ OldK s₁.heap s'.heap ∧ s'.os = s₁.os ∧ AllBare s'.gens) s₁ := by
  have lenV := hi.length
  -- H tells nothing, or of the script alone
  have main : ∀ H : Hp, (∀ b u, H b = some u → b = a ∧ u = .frz { cls := .type "list", data := .seq vs.toArray } (.lst (ns.map V.int))) → SqL K H a (ns.map V.int) → HOk P w H s₁.heap → (H a ≠ none → K.lookup a = none) →
      codeAny (model P w) callerA (.call (.ref fa) ⟨[.ref a], []⟩) (fun r s' => r = .ok (.ret (.bool true)) ∧ OldK s₁.heap s'.heap ∧ s'.os = s₁.os ∧ AllBare s'.gens) s₁ := by
    intro H hO hS ok nK
    have plainD : ∀ {b : Addr} {o : Obj} {es : Array DictEntry} {ep : Nat}, s₁.heap.get? b = some o → o.data = .dict es ep → H b = none := by
      intro b o es ep e d
      match q : H b with
      | none => rfl
      | some u =>
        obtain ⟨rfl, _⟩ := hO b u q
        rw [ha] at e
        cases e
        exact nomatch d
    have carry : ∀ {b : Addr} {m : Str → Option Value}, s₁.heap.Ns b m → (hidT s₁.heap H).Ns b m := by
      rintro b m ⟨o, es, ep, e, d, r⟩
      exact ⟨o, es, ep, hidT_get e (plainD e d), d, r⟩
    have inB : K.In (hidT s₁.heap H) := by
      intro b o e
      refine hidT_get (KX b o e) ?_
      match q : H b with
      | none => rfl
      | some u =>
        obtain ⟨rfl, _⟩ := hO b u q
        rw [nK (by rw [q]; exact fun z => nomatch z)] at e
        cases e
    obtain ⟨ml, hl1, hl2⟩ := hlim
    have e0 : Env0 P w K mg (hidT s₁.heap H) callerA [] s₁ H := {
      frames := rfl
      mod := ⟨inB, carry hns, ⟨mb, carry hb, hbb⟩, ⟨ml, carry hl1, hl2⟩⟩
      bs := fun b o e => of_hidT e
      bsz := Nat.le_of_eq (hidT_size _ _)
      funs := trivial
      frf := fun b hb => nomatch (show b ∈ ([] : List Addr) from hb)
      hok := ok
      bare := .of_eq hg }
    have hsp : spD K sd [.ref a] H (fun v _ => v = .bl true) E0 := by
      refine ⟨H, [.val (.scr ns)], _, ?_, ?_, hsd, ?_⟩
      · exact {
          len := rfl, sub := Ex.refl H, keep := fun b o e _ => e, all := fun b e => e, new := fun b _ e => e, bas := Ex.refl H
          vals := fun i d e => by
            match i, e with
            | 0, e => cases e; exact ⟨.ref a, rfl, .scr hS⟩
          owns := fun i b d e => by
            match i, e with
            | 0, e => cases e
          sep := fun i j p ⟨b, d, e, _⟩ _ => by
            match i, e with
            | 0, e => cases e
          pins := fun i ⟨b, d, e⟩ => by
            match i, e with
            | 0, e => cases e }
      · intro i d e
        match i, e with
        | 0, e => cases e
      · rintro r args' F' v H' rfl dn
        have := dn.res
        cases (show Rep K F' v (.bl true) from this)
        rfl
    apply codeAny_mono ((F _ inB (carry hns)).run callerA [] s₁ H ⟨[.ref a], []⟩ [.ref a] [.ref a] _ _ rfl hr e0 (hbind s₁ (.ref a)) (.cons rfl .nil) hsp)
    intro r s' h
    match r, h with
    | .error e, h => exact h.elim
    | .ok .next, h => exact False.elim h
    | .ok .brk, h => exact False.elim h
    | .ok .cont, h => exact False.elim h
    | .ok (.ret u), h =>
      obtain ⟨v, H', os, bare, un, ok', rv, rfl⟩ := h
      cases (show u = Value.bool true from rv)
      refine ⟨rfl, OldK.of_keep ?_, os, bare⟩
      intro b o e
      match q : H b with
      | none => exact un.keep b o e q (fun z => nomatch z) (fun z => nomatch z)
      | some u =>
        obtain ⟨rfl, rfl⟩ := hO b u q
        obtain ⟨e1, _⟩ := ok b _ q
        obtain ⟨e2, _⟩ := ok' b _ (un.frzs b _ _ q)
        rw [e] at e1
        cases e1
        exact e2
  have rv := vals_ints hi
  match hk : K.lookup a with
  | some o =>
    have e := KX a o hk
    rw [ha] at e
    cases e
    refine main (fun _ => none) (fun b u z => nomatch z) (Or.inr ⟨_, vs.toArray, _, hk, rfl, rfl, rfl, ?_, ?_⟩) (fun b u z => nomatch z) (fun z => absurd rfl z)
    · rw [List.size_toArray, lenV]; exact hl
    · simpa using rv
  | none =>
    refine main (fun b => if b = a then some (.frz { cls := .type "list", data := .seq vs.toArray } (.lst (ns.map V.int))) else none) ?_ (Or.inl (Or.inr ⟨_, if_pos rfl⟩)) ?_ fun _ => hk
    · intro b u z
      by_cases hb : b = a
      · have z' := (if_pos hb).symm.trans z
        cases z'; exact ⟨hb, rfl⟩
      · have z' := (if_neg hb).symm.trans z
        cases z'
    · intro b u z
      by_cases hb : b = a
      · have z' := (if_pos hb).symm.trans z
        cases z'
        subst hb
        exact ⟨ha, by rw [List.length_map]; exact hl, vs, _, rv, ha⟩
      · have z' := (if_neg hb).symm.trans z
        cases z'

theorem walkG {l : PySem.W.OpenLaw} {n k : Nat} {q : Program} {loose : List Str} {XP : (Str → Option Value) → Heap → Prop} {YP : World → Heap → Prop} {d : DefRec} {K : Params → PySem.W.Frag} {sd : DSpec} {x : Str}
    (hn : l.most = some n) (hn2 : n ≤ sizeLine) (hdf : d.params.defaults = []) (hr : Room k callerA) (hY : ∀ (w : World) (h : Heap), YP w h → (K w.params).In h)
    (F : ∀ (w : World) (mg : Str → Option Value) (fa : Addr) (h : Heap), (K w.params).In h → h.Ns mainGlobals mg → mg d.name = some (.ref fa) →
      ∃ fd : FuncData, (∀ (s : Shared) (u : Value), BindsTo s fd ⟨[u], []⟩ [(x, u)]) ∧ ∀ base : Heap, (K w.params).In base → base.Ns mainGlobals mg → FnG l.prog w (K w.params) mg base CX0 k fa fd [x] (spD (K w.params) sd))
    (hsd : ∀ ns : List Int, ns.length ≤ n → sd [.val (.scr ns)] fun r _ => r = .vl (.bl true)) :
    PySem.W.WalkO q loose XP YP l.row.toRowW d [] (fun f vs => PySem.call f vs) := by
  apply Att.attach_call hn hdf
  intro w s₀ s₁ mg mb fa o pm cd doc a vs ns G Y ho hd hcd hmg hobj hints hlen hg
  obtain ⟨fd, hb, hF⟩ := F w mg fa _ (hY w _ Y) G.T.g hmg
  exact law_callG (hY w _ Y) G.T.g G.T.b G.T.builtins G.T.nolimit hg hobj hints (Nat.le_trans hlen hn2) hr hF hb (hsd ns hlen)
end DL

set_option Elab.async false
set_option linter.all false
set_option maxRecDepth 100000
set_option maxHeartbeats 4000000
set_option autoImplicit false
/-! DL14: words for printed derivations. -/
namespace DL
open PySem PySem.Spec L2 Evl PyProof.Rows

section
variable {X : Cx} {pos : Pos}
theorem dgintE {x : Str} {i : Int} (hg : Gl X x) (h : ∃ u, X.mg x = some u ∧ RelV (.int i) u) (hd : (x == ("__debug__" : Str)) = false := by decide) : DE X (.Name x pos) (mC (.int i)) := by
  obtain ⟨u, h1, h2⟩ := h
  exact dgint hg h1 h2 hd
theorem dgstrE {x : Str} {i : Str} (hg : Gl X x) (h : ∃ u, X.mg x = some u ∧ RelV (.str i) u) (ho : PyData.strOk i = true := by decide +kernel) (hd : (x == ("__debug__" : Str)) = false := by decide) : DE X (.Name x pos) (mC (.str i)) := by
  obtain ⟨u, h1, h2⟩ := h
  exact dgstr hg h1 h2 ho hd
structure Cal (P : Program) (w : World) (K : PySem.W.Frag) (mg : Str → Option Value) (base : Heap) (x : Str) (st : Stmt) (k : Nat) (ps : List Str) (sd : DSpec) : Prop where
  ex : ∃ f fd, Fun K x x st f fd ∧ FnG P w K mg base CX0 k f fd ps (spD K sd) ∧ mg x = some (.ref f) ∧ Binds K fd ps []
variable {k : Nat} {st : Stmt} {ps ks : List Str} {sd : DSpec} {x : Str} {p : Pos} {e : Expr} {es : List Expr} {kws : List Keyword}
theorem dcallC (c : Cal X.prog X.w X.K X.mg X.base x st k ps sd) (hgd : X.A.guards = some []) (hr : Room k X.A) (hg : Gl X x) {mc : DMC} (h : DC X (e :: es) mc)
    (hdb : (x == ("__debug__" : Str)) = false := by decide) (he : starEach (e :: es) X.env = (false, eval e X.env) :: starEach es X.env := by rfl) (hpl : (backTo pos (starEach es X.env)).any (·.1) = false := by rfl) :
    DE X (.Call (.Name x p) (e :: es) [] pos) (mCall sd [] mc) := by
  obtain ⟨f, fd, F, G, hm, hb⟩ := c.ex
  exact dcall G hgd hr hg hm F.kp hb h hdb he hpl
def arr {α : Type} (perm : List Nat) (us ws : List α) : List α := perm.filterMap fun i => (us ++ ws)[i]?
theorem arr_vals {perm : List Nat} : ∀ {vs : List V} {us : List Value} {zs : List V} {ws : List Value}, Vals vs us → Vals zs ws → Vals (arr perm vs zs) (arr perm us ws) := by
  intro vs us zs ws r1 r2
  have r := r1.append r2
  unfold arr
  induction perm with
  | nil => exact .nil
  | cons i l ih =>
    rw [List.filterMap_cons, List.filterMap_cons]
    cases q : (vs ++ zs)[i]? with
    | none => rw [r.none_of q]; exact ih
    | some v =>
      obtain ⟨u, hu, ru⟩ := r.get q
      rw [hu]
      exact .cons ru ih
theorem arr_ca {perm : List Nat} : ArrC (arr perm) (arr perm) := by
  intro K F σ vs zs as bs r1 r2
  have r := r1.append r2
  unfold arr
  induction perm with
  | nil => exact .nil
  | cons i l ih =>
    rw [List.filterMap_cons, List.filterMap_cons]
    cases q : (as ++ bs)[i]? with
    | none =>
      have q' : (vs ++ zs)[i]? = none := by
        rw [List.getElem?_eq_none_iff] at q ⊢
        rw [r.length]; exact q
      rw [q']; exact ih
    | some a =>
      obtain ⟨v, hv, rv⟩ := r.get q
      rw [hv]
      exact .cons rv ih
def arrN {α : Type} (n m : Nat) (perm : List Nat) (us ws : List α) : List α := if us.length = n ∧ ws.length = m then arr perm us ws else []
theorem arrN_vals {n m : Nat} {perm : List Nat} : ∀ {vs : List V} {us : List Value} {zs : List V} {ws : List Value}, Vals vs us → Vals zs ws → Vals (arrN n m perm vs zs) (arrN n m perm us ws) := by
  intro vs us zs ws r1 r2
  unfold arrN
  rw [r1.length, r2.length]
  split
  · exact arr_vals r1 r2
  · exact .nil
theorem arrN_ca {n m : Nat} {perm : List Nat} : ArrC (arrN n m perm) (arrN n m perm) := by
  intro K F σ vs zs as bs r1 r2
  unfold arrN
  rw [r1.length, r2.length]
  split
  · exact arr_ca K F σ vs zs as bs r1 r2
  · exact .nil
theorem kbinds_of {K : PySem.W.Frag} {y qual : Str} {f : Addr} {fd : FuncData} (F : Fun K y qual st f fd) (n m : Nat) (perm : List Nat) (hp : ps ≠ [])
    (h : ∀ (kV doc pm : Value) (an : Option Addr) (cdv ct : Value) (us ws : List Value), us.length = n → ws.length = m → bindArgs (PySem.W.fnOf y qual (defArgs st) (defBody st) (defScope st) .none kV doc pm an cdv ct) ⟨us, ks.zip ws⟩ = pure (ps.zip (arr perm us ws))) :
    KBinds K fd ps ks (arrN n m perm) (arrN n m perm) := by
  obtain ⟨oc, od, kV, doc, pm, an, cdv, ct, osl, rfl, lk, hcd⟩ := F.ex
  refine ⟨fun s us ws _ hl => .of_eq ?_, arrN_vals⟩
  unfold arrN at hl ⊢
  split at hl
  · rename_i hc
    rw [if_pos hc]
    exact h kV doc pm an cdv ct us ws hc.1 hc.2
  · exact absurd (List.length_eq_zero_iff.mp hl.symm) hp
theorem dcallKC (c : Cal X.prog X.w X.K X.mg X.base x st k ps sd) (n m : Nat) (perm : List Nat) (hgd : X.A.guards = some []) (hr : Room k X.A) (hg : Gl X x) (hp : ps ≠ [])
    (hb : ∀ (kV doc pm : Value) (an : Option Addr) (cdv ct : Value) (us ws : List Value), us.length = n → ws.length = m → bindArgs (PySem.W.fnOf x x (defArgs st) (defBody st) (defScope st) .none kV doc pm an cdv ct) ⟨us, ks.zip ws⟩ = pure (ps.zip (arr perm us ws)))
    {mc mk : DMC} (h : DC X (e :: es) mc) (h2 : DK X kws mk) (hall : (backToKw pos (keywordEach kws X.env)).all (·.1.isSome) = true := by rfl) (hks : (backToKw pos (keywordEach kws X.env)).filterMap (·.1) = ks := by rfl)
    (hdb : (x == ("__debug__" : Str)) = false := by decide) (he : starEach (e :: es) X.env = (false, eval e X.env) :: starEach es X.env := by rfl)
    (hpl : ((backTo pos (starEach (e :: es) X.env)).any (·.1) || (backToKw pos (keywordEach kws X.env)).any (·.1.isNone)) = false := by rfl) : DE X (.Call (.Name x p) (e :: es) kws pos) (mCallK sd (arrN n m perm) mc mk) := by
  obtain ⟨f, fd, F, G, hm, _⟩ := c.ex
  exact dcallK (arrN n m perm) G hgd hr hg hm F.kp (kbinds_of F n m perm hp hb) arrN_ca h h2 hall hks hdb he hpl
theorem dcallKC0 (c : Cal X.prog X.w X.K X.mg X.base x st k ps sd) (m : Nat) (perm : List Nat) (hgd : X.A.guards = some []) (hr : Room k X.A) (hg : Gl X x) (hp : ps ≠ [])
    (hb : ∀ (kV doc pm : Value) (an : Option Addr) (cdv ct : Value) (us ws : List Value), us.length = 0 → ws.length = m → bindArgs (PySem.W.fnOf x x (defArgs st) (defBody st) (defScope st) .none kV doc pm an cdv ct) ⟨us, ks.zip ws⟩ = pure (ps.zip (arr perm us ws)))
    {mk : DMC} (h2 : DK X kws mk) (hall : (backToKw pos (keywordEach kws X.env)).all (·.1.isSome) = true := by rfl) (hks : (backToKw pos (keywordEach kws X.env)).filterMap (·.1) = ks := by rfl)
    (hdb : (x == ("__debug__" : Str)) = false := by decide)
    (hpl : ((backTo pos (starEach [] X.env)).any (·.1) || (backToKw pos (keywordEach kws X.env)).any (·.1.isNone)) = false := by rfl) : DE X (.Call (.Name x p) [] kws pos) (mCallK sd (arrN 0 m perm) mcNil mk) := by
  obtain ⟨f, fd, F, G, hm, _⟩ := c.ex
  exact dcallK0 (arrN 0 m perm) G hgd hr hg hm F.kp (kbinds_of F 0 m perm hp hb) arrN_ca h2 hall hks hdb hpl
end
end DL

set_option Elab.async false
set_option linter.all false
set_option maxRecDepth 100000
set_option maxHeartbeats 4000000
set_option autoImplicit false
/-! DL15: times; a dict's names as tests; enumerate of tuples; range with a step. -/
namespace DL
open PySem PySem.Spec L2 Evl PyProof.Rows

section
variable {X : Cx} {K : PySem.W.Frag} {pos : Pos}
theorem o2_mul : Op2 K rMulD aMul := by
  intro C F env σ H v w d e R Q I s1 s2 h g
  unfold aMul at h
  split at h
  · exact Or.inl ⟨_, _, s1.int, s2.int, h.1, g.int I h.2⟩
  · rename_i xs k
    obtain ⟨p, vs, rfl, e1, r1⟩ := s1.lst I.sub
    obtain ⟨h0, h1, h2, h3⟩ := h
    exact Or.inr ⟨p, k, vs, rfl, s2.int, e1, by omega, by omega, by rw [r1.length]; exact sz_of h2, fun q hq => g.lst I h3 (r1.rep _) q hq⟩
  · exact h.elim
theorem dtdin {a b : Expr} {m1 m2 : DM} (hu : X.A.units + 1 < cLine) (ha : DE X a m1) (hb : DE X b m2) (h1 : behindInMarks .In b = false := by first | exact nobehind _ (by decide) (by decide) | rfl | with_unfolding_all rfl) : DT X (.Compare a [.In] [b] pos) (mB (mOp2 (aDIn false) m1 m2)) := by
  obtain ⟨ta, pa, ea⟩ := ha
  obtain ⟨tb, pb, eb⟩ := hb
  refine ⟨_, pt_cmp (pc_din hu pa pb) h1, ?_⟩
  have := evb_of (evd_op2 (o2_din (n := false)) ea eb)
  intro C F env σ H R Q I h k
  have q := this C F env σ H R Q I h k
  simpa [tOp, tDIn, rDIn, tB, tTest] using q
theorem dtdnotin {a b : Expr} {m1 m2 : DM} (hu : X.A.units + 1 < cLine) (ha : DE X a m1) (hb : DE X b m2) (h1 : behindInMarks .NotIn b = false := by first | exact nobehind _ (by decide) (by decide) | rfl | with_unfolding_all rfl) : DT X (.Compare a [.NotIn] [b] pos) (mB (mOp2 (aDIn true) m1 m2)) := by
  obtain ⟨ta, pa, ea⟩ := ha
  obtain ⟨tb, pb, eb⟩ := hb
  refine ⟨_, pt_cmp (pc_dnotin hu pa pb) h1, ?_⟩
  have := evb_of (evd_op2 (o2_din (n := true)) ea eb)
  intro C F env σ H R Q I h k
  have q := this C F env σ H R Q I h k
  simpa [tOp, tDNotIn, rDIn, tB, tTest] using q
end

/-! ### enumerate of a tuple, of a text -/
theorem enum_new1 {v : Value} {o : Obj} {H : Heap → Prop} (B : Begins v o H) :
    Meets (Builtin.«enumerate.__new__» ⟨[.type "enumerate", v], []⟩) (fun _ R s => H s.heap ∧
      R (.ok (.ret (.ref (s.heap.push o).objs.size))) { s with heap := (s.heap.push o).push { cls := .type "enumerate", data := .fields #[.none, .bool false, .ref s.heap.objs.size, rawInt 0, .none, .none] } }) :=
  .of_wp fun prog w A R s h => by
    obtain ⟨hp, g, d, tk, os⟩ := s; obtain ⟨h1, h⟩ := h
    have hsub := sub_enumerate
    have q1 : ∀ {A' : Around} {E : Value → Shared → Prop} {Q : Value → Shared → Prop}, Q (.ref hp.objs.size) ⟨hp.push o, g, d, tk, os⟩ → wpAny (model prog w) A' (pyIter v) Q E ⟨hp, g, d, tk, os⟩ :=
      fun q => B.iter prog w _ _ ⟨hp, g, d, tk, os⟩ _ h1 q
    wp_walk using q1
    refine wpAny_stack_any fun st => wpAny_pure ?_
    split
    · rename_i c _ _ _ _ _
      cases (c == Value.type "enumerate")
      · wp_walk using q1
        exact ⟨_, rfl, h⟩
      · wp_walk using q1
        exact ⟨_, rfl, h⟩
    · wp_walk using q1
      exact ⟨_, rfl, h⟩
section
variable {prog : Program} {w : World} {A : Around} {E : Value → Shared → Prop} {s : Shared}
theorem enum_begins1 {v : Value} {o : Obj} {H : Heap → Prop} {Q : Value → Shared → Prop} (B : Begins v o H) (h1 : H s.heap)
    (h : ∀ h', IsEnum h' (s.heap.objs.size + 1) s.heap.objs.size 0 .none → h'.get? s.heap.objs.size = some o → h'.objs.size = s.heap.objs.size + 2 →
      (∀ b o, s.heap.get? b = some o → h'.get? b = some o) → Q (.ref (s.heap.objs.size + 1)) { s with heap := h' }) :
    wpAny (model prog w) A (call (.type "enumerate") [v]) Q E s := by
  refine callType_new F.called_enumerate (by decide) (F.typeCall_enumerate_1 _) (F.newCall_enumerate_1 _) (fun obj => F.args_object_init_2 obj _) F.entry_enumerate_new
    (enum_new1 B) ⟨h1, ?_⟩
  have hz : (s.heap.push o).objs.size = s.heap.objs.size + 1 := Heap.size_push ..
  show _ ∧ _
  rw [hz]
  have he : IsEnum ((s.heap.push o).push { cls := .type "enumerate", data := .fields #[.none, .bool false, .ref s.heap.objs.size, rawInt 0, .none, .none] }) (s.heap.objs.size + 1) s.heap.objs.size 0 .none := by
    have := Heap.get?_push_size (s.heap.push o) (o := { cls := .type "enumerate", data := .fields #[.none, .bool false, .ref s.heap.objs.size, rawInt 0, .none, .none] }) rfl
    rw [hz] at this; exact this
  refine ⟨⟨_, he, rfl⟩, h _ he (Heap.get?_push_of_some _ (Heap.get?_push_size _ B.free)) (by rw [Heap.size_push, hz]) fun b o x => Heap.get?_push_of_some _ (Heap.get?_push_of_some _ x)⟩
end
def Iten (K : PySem.W.Frag) (a : Addr) : It :=
  ⟨fun i H => ∃ (xs : List V) (x : V), SqT K H a xs ∧ xs[i]? = some x, fun i H v H' => ∃ T x, v = .ref T ∧ H T = none ∧ H' = upd H T (.tup [.int (i : Nat), x]) ∧ ∀ xs, SqT K H a xs → xs[i]? = some x, fun i H => ∃ xs : List V, SqT K H a xs ∧ xs.length ≤ i⟩
theorem turn_enumT {P : Program} {w : World} {K : PySem.W.Frag} {elts : List Expr} {kk : Nat} {tpos : Pos} (a e it : Addr) :
    Turn P w K (.Tuple elts kk tpos) (Iten K a) [e, it] e (fun i h => (∃ old, IsEnum h e it ((i : Nat) : Int) old) ∧ h.IsTupleIter it a i ∧ e ≠ it ∧ a ≠ it ∧ e ≠ a) where
  mem := by simp
  obj := fun i h st b hb => by
    obtain ⟨⟨old, he⟩, ⟨o, ho, hc, hd⟩, _⟩ := st
    have e' : b = e ∨ b = it := by simpa using hb
    rcases e' with z | z
    · rw [z]; exact ⟨_, he, fun v q => nomatch q⟩
    · rw [z]; exact ⟨o, ho, fun v q => by rw [hd] at q; cases q⟩
  keep := fun i h h' st k => let ⟨⟨old, he⟩, hi, hne⟩ := st; ⟨⟨old, k e (by simp) _ he⟩, hi.at fun o q => k it (by simp) o q, hne⟩
  item := by
    intro X hP hw hK hc i pins s σ H E I hf st hg
    subst hP hw hK
    obtain ⟨⟨old, he⟩, hit, hne, hai, hea⟩ := st
    obtain ⟨xs, x, hq, hx⟩ := hg
    obtain ⟨its, rv, p, hz⟩ := I.tuple hq
    obtain ⟨u, hu, ru⟩ := rv.get hx
    have hel : e < s.heap.objs.size := Heap.lt_size he
    have hil : it < s.heap.objs.size := by obtain ⟨_, q, _⟩ := hit; exact Heap.lt_size q
    have hi : i < its.toArray.size := by
      rcases Nat.lt_or_ge i its.length with z | z
      · simpa using z
      · rw [List.getElem?_eq_none (by simpa using z)] at hu; cases hu
    refine wpAny_pyNext_enum_itemD (Draws.tuple (A := X.A.in1) (I.ok.hd hc) it a hai its.toArray) he ⟨hit, show s.heap.IsTuple a its.toArray from p⟩ hi hne (by simp [hne, hea]) fun v h' tk hP ho hst hT hsz hk => ?_
    have hv : v = u := by
      have h1 : its[i]? = some v := by simpa using hP
      rw [hu] at h1; cases h1; rfl
    subst hv
    refine ⟨_, rfl, wpAny_letOwnedTupleGo_enum (s := { s with heap := h', toks := tk + 1 }) ho fun h'' he' sb => ?_⟩
    have hT2 : h''.get? s.heap.objs.size = some { cls := .type "tuple", data := .seq #[.int i tk, v] } := (sb.2 _ (Nat.ne_of_gt hel)).trans hT
    have new : ObjOk X.prog X.w (upd H s.heap.objs.size (.tup [.int (i : Nat), x])) h'' s.heap.objs.size (.tup [.int (i : Nat), x]) :=
      ⟨by show 2 ≤ sizeLine; decide, [.int i tk, v], .cons ⟨_, rfl⟩ (.cons ru .nil), ⟨_, hT2, rfl, _, rfl⟩⟩
    have I1 : Inv X pins σ (upd H s.heap.objs.size (.tup [.int (i : Nat), x])) { s with heap := h'', toks := tk + 1 } :=
      I.turnedNew (ch := [e, it]) (fun b ob hb q => (sb.2 b (fun z => hb (by simp [z]))).trans (hk b ob (fun z => hb (by simp [z])) (fun z => hb (by simp [z])) q)) hf (Nat.le_refl _) new
    refine ⟨.ref s.heap.objs.size, _, I1, rfl, ⟨_, x, rfl, I.hok.fresh (Nat.le_refl _), rfl, fun ys hy => by rw [I.tuple_inj hy hq]; exact hx⟩, ⟨⟨v, ?_⟩, hst.1.at fun o q => (sb.2 it (Ne.symm hne)).trans q, hne, hai, hea⟩, fun b hb => ?_⟩
    · have e1 : ((i + 1 : Nat) : Int) = (i : Int) + 1 := by omega
      rw [e1]; exact he'
    · have hb' : b < s.heap.objs.size := by
        have e' : b = e ∨ b = it := by simpa using hb
        rcases e' with z | z
        · rw [z]; exact hel
        · rw [z]; exact hil
      rw [upd_ne (Nat.ne_of_lt hb')]
      exact (hf b hb).1
  done := by
    intro X hP hw hK hc i pins s σ H E I hf st hg
    subst hP hw hK
    obtain ⟨⟨old, he⟩, hit, hne, hai, hea⟩ := st
    obtain ⟨xs, hq, hx⟩ := hg
    obtain ⟨its, rv, p, hz⟩ := I.tuple hq
    obtain ⟨f0, f1, f2, f3, f4, f5⟩ := hf it (by simp)
    have hl := rv.length
    have D : Draws X.prog X.w X.A.in1 it [it, a] i (fun _ _ => True) (fun j h => j = i ∧ h.IsTupleIter it a i ∧ h.IsTuple a its.toArray) := {
      live := fun _ _ st => let ⟨o, ho, _⟩ := st.2.1; ⟨o, ho⟩
      frame := fun _ _ _ st hk => ⟨st.1, st.2.1.at fun o e => hk it (by simp) o e, st.2.2.at fun o e => hk a (by simp) o e⟩
      item := fun j s Q E hj st hQ => absurd st.1 (Nat.ne_of_lt hj)
      done := fun s Q E st hE => wpAny_nextOf_tuple_end (A := X.A.in1) (I.ok.hd hc) st.2.1 st.2.2 (by simp; omega) hE }
    exact wpAny_pyNext_enum_endD D he ⟨rfl, hit, show s.heap.IsTuple a its.toArray from p⟩ fun h' eb => ⟨rfl, I.turned (t' := s.toks) (fun b o hb q => eb b o hb q) f0 f1 f3 f4 f5⟩
  self := fun A i s Q E st h => let ⟨⟨_, he⟩, _⟩ := st; wpAny_pyIter_enum he h
def iEnumA (K : PySem.W.Frag) (ta : TA) : TI := fun σ H R => ta σ H fun vs H1 => ∃ a, vs = [.ref a] ∧ ((∃ xs, SqL K H1 a xs ∧ R (Ite K a) H1) ∨ ∃ xs, SqT K H1 a xs ∧ R (Iten K a) H1)
theorem pi_enumA {X : Cx} {e : Expr} {ta : TA} {p pos tpos : Pos} {elts : List Expr} {kk : Nat} (hg : Gl X "enumerate") (hm : X.mg "enumerate" = none) (ha : PA X [e] ta) (hs : starEach [e] X.env = [(false, eval e X.env)] := by rfl) :
    PI X (.Tuple elts kk tpos) (.Call (.Name "enumerate" p) [e] [] pos) (iEnumA X.K ta) := by
  refine ⟨fun pins s σ H R I h => ?_⟩
  refine Call_ (ld_blt I hg hm boot_enumerate (PyProof.Rows.callWith_type1 (thn (ha.run pos pins s σ H _ I h) fun us s1 ⟨vs, H1, I1, r1, q1⟩ => ?_) hs rfl))
  obtain ⟨a, ex, q1⟩ := q1
  subst ex
  cases r1 with
  | cons r rr =>
    cases rr
    cases r
    have fo : ∀ b ∈ [s1.heap.objs.size + 1, s1.heap.objs.size], FpOk X pins H1 b := fun b hb => by
      have e' : b = s1.heap.objs.size + 1 ∨ b = s1.heap.objs.size := by simpa using hb
      have hle : s1.heap.objs.size ≤ b := by
        rcases e' with z | z
        · rw [z]; exact Nat.le_add_right _ _
        · rw [z]; exact Nat.le_refl _
      exact I1.fpOk hle (I1.hok.fresh hle)
    rcases q1 with ⟨xs, hq, q⟩ | ⟨xs, hq, q⟩
    · obtain ⟨its, rv, p', hz⟩ := I1.list hq
      refine call_enumerate_list p'.isList fun h' he hit hsz hk => wpAny_pyIter_enum he ?_
      have I2 : Inv X pins σ H1 { s1 with heap := h' } := I1.kept (t' := s1.toks) hk
      exact ⟨s1.heap.objs.size + 1, [s1.heap.objs.size + 1, s1.heap.objs.size], _, _, H1, rfl, I2, turn_enum a (s1.heap.objs.size + 1) s1.heap.objs.size, ⟨⟨.none, he⟩, hit, Nat.succ_ne_self _⟩, fo, q⟩
    · obtain ⟨its, rv, p', hz⟩ := I1.tuple hq
      have pt : s1.heap.IsTuple a its.toArray := p'
      have hal : a < s1.heap.objs.size := by obtain ⟨_, z, _⟩ := pt; exact Heap.lt_size z
      refine enum_begins1 (begins_tuple a its.toArray) pt fun h' he hit hsz hk => wpAny_pyIter_enum he ?_
      have I2 : Inv X pins σ H1 { s1 with heap := h' } := I1.kept (t' := s1.toks) hk
      exact ⟨s1.heap.objs.size + 1, [s1.heap.objs.size + 1, s1.heap.objs.size], _, _, H1, rfl, I2, turn_enumT a (s1.heap.objs.size + 1) s1.heap.objs.size, ⟨⟨.none, he⟩, ⟨_, hit, rfl, rfl⟩, Nat.succ_ne_self _, Nat.ne_of_lt hal, Nat.ne_of_gt (Nat.lt_succ_of_lt hal)⟩, fo, q⟩
theorem it_enumT {K : PySem.W.Frag} {C : Ct} {F0 : Hp} {σ0 : L2.St} {a : Addr} {ds : List D} {hold : Holds} (n : NowT K C F0 σ0 a ds hold) : IterOk K C F0 σ0 (Iten K a) (enumD 0 ds) hold := by
  intro i F env σ H I e h s
  obtain ⟨vs, q, r⟩ := n F env σ H I e h s
  rw [enumD_length]
  refine ⟨fun hi => ?_, fun hi => ⟨vs, q, by rw [r.length]; exact hi⟩⟩
  obtain ⟨v, h1, h2⟩ := r.get (List.getElem?_eq_getElem hi)
  refine ⟨⟨vs, v, q, h1⟩, fun x H' y => ?_⟩
  obtain ⟨T, x', rfl, hT, rfl, y⟩ := y
  have := y vs q
  rw [h1] at this; cases this
  obtain ⟨F', B, rp⟩ := lay_pair I hT (Rep.int (i : Int)) h2
  refine ⟨F', _, ?_, B, rp⟩
  rw [enumD_get, List.getElem?_eq_getElem hi, Nat.zero_add]
  rfl
@[simp] def sqOf (l : RV) (env : List Slot) (R : List D → Holds → Prop) : Prop := match l with
  | .vl (.lst ds) => R ds []
  | .vl (.tup ds) => R ds []
  | .tm (.lst ds) => R ds []
  | .sl i => match env[i]? with
    | some (.val (.lst ds)) => R ds []
    | some (.val (.tup ds)) => R ds []
    | some (.own _ (.lst ds)) => R ds [(i, ds)]
    | _ => False
  | _ => False
theorem nowA_of {K : PySem.W.Frag} {C : Ct} {F F' H H' : Hp} {env env' : List Slot} {σ : L2.St} {v : V} {l : RV} (A : Aft K C F env σ H F' env' H') (r : RVOk K C F' env' σ H H' v l) {R : List D → Holds → Prop}
    (h : sqOf l env' R) : ∃ F2 a ds hold, v = .ref a ∧ R ds hold ∧ Aft K C F env σ H F2 env' H' ∧ Ex F' F2 ∧ holdE hold env' ∧ ((NowL K C F2 σ a ds hold ∧ ∃ vs, H' a = some (.lst vs)) ∨ (NowT K C F2 σ a ds hold ∧ ∃ vs, SqT K H' a vs)) := by
  have ls : lsOf l env' R → ∃ F2 a ds hold, v = .ref a ∧ R ds hold ∧ Aft K C F env σ H F2 env' H' ∧ Ex F' F2 ∧ holdE hold env' ∧ ((NowL K C F2 σ a ds hold ∧ ∃ vs, H' a = some (.lst vs)) ∨ (NowT K C F2 σ a ds hold ∧ ∃ vs, SqT K H' a vs)) := fun h => by
    obtain ⟨F2, a, ds, hold, e, hR, A2, ex, nw, hh, hv⟩ := now_of A r h
    exact ⟨F2, a, ds, hold, e, hR, A2, ex, hh, Or.inl ⟨nw, hv⟩⟩
  have tp : ∀ ds, l.get env' (fun d => d = .tup ds) → R ds [] → ∃ F2 a ds hold, v = .ref a ∧ R ds hold ∧ Aft K C F env σ H F2 env' H' ∧ Ex F' F2 ∧ holdE hold env' ∧ ((NowL K C F2 σ a ds hold ∧ ∃ vs, H' a = some (.lst vs)) ∨ (NowT K C F2 σ a ds hold ∧ ∃ vs, SqT K H' a vs)) := fun ds hd hR => by
    obtain ⟨F2, d, rfl, A2, ex, rp⟩ := A.keepIt r hd
    cases rp with
    | tup e q => exact ⟨F2, _, ds, [], rfl, hR, A2, ex, trivial, Or.inr ⟨fun F env σ H I x _ _ => ⟨_, ex_t I.sub (ex_t x e), q.mono x⟩, _, ex_t A2.ok.sub e⟩⟩
  cases l with
  | vl d =>
    cases d with
    | lst ds => exact ls h
    | tup ds => exact tp ds rfl h
    | _ => exact h.elim
  | tm d =>
    cases d with
    | lst ds => exact ls h
    | _ => exact h.elim
  | sl i =>
    have h' : (match env'[i]? with | some (.val (.lst ds)) => R ds [] | some (.val (.tup ds)) => R ds [] | some (.own _ (.lst ds)) => R ds [(i, ds)] | _ => False) := h
    split at h'
    · rename_i ds e; exact ls (by simp [e]; exact h')
    · rename_i ds e; exact tp ds (by simp [e]) h'
    · rename_i b ds e; exact ls (by simp [e]; exact h')
    · exact h'.elim
@[simp] def mSq (m : DM) : DMI := fun env R => m env fun x e1 => sqOf x e1 fun ds hold => R ds hold e1
@[simp] def mEnumA (m : DM) : DMI := fun env R => mSq m env fun ds hold e1 => R (enumD 0 ds) hold e1
theorem di_enumA {X : Cx} {e : Expr} {p pos tpos : Pos} {elts : List Expr} {kk : Nat} {m : DM} (hg : Gl X "enumerate") (hm : X.mg "enumerate" = none) (h : DE X e m) (hs : starEach [e] X.env = [(false, eval e X.env)] := by rfl) (hs' : starEach [e] X.env = (false, eval e X.env) :: starEach [] X.env := by rfl) : DI X (.Tuple elts kk tpos) (.Call (.Name "enumerate" p) [e] [] pos) (mEnumA m) := by
  obtain ⟨t, q, ev⟩ := h
  refine ⟨_, pi_enumA hg hm (pa_cons q pa_nil hs') hs, ?_⟩
  intro C F env σ H R Q I h k
  refine ev C F env σ H _ _ I h ?_
  intro x e1 F1 v H1 h1 A1 r1
  obtain ⟨F2, a, ds, hold, rfl, hR, A2, ex, hh, nw⟩ := nowA_of A1 r1 (R := fun ds hold => R (enumD 0 ds) hold e1) h1
  rcases nw with ⟨nw, vs, hv⟩ | ⟨nw, vs, hv⟩
  · exact ⟨a, rfl, Or.inl ⟨vs, sq_of hv, k _ _ e1 F2 H1 _ hR A2 (it_enum nw) hh⟩⟩
  · exact ⟨a, rfl, Or.inr ⟨vs, hv, k _ _ e1 F2 H1 _ hR A2 (it_enumT nw) hh⟩⟩

/-! ### what isinstance tells of built-in types -/
section
variable {K : PySem.W.Frag}
theorem kt_int : ∀ d : D, PySem.W.kitOne K (.type d.ty) (.type "int") = some (isTy d "int")
  | .non => by rfl
  | .bl _ => by rfl
  | .int _ => by rfl
  | .str _ => by rfl
  | .lst _ => by rfl
  | .tup _ => by rfl
  | .dic _ => by rfl
  | .scr _ => by rfl
  | .fn _ => by rfl
  | .obj _ _ => by rfl
  | .exc _ _ _ => by rfl
theorem kt_bool : ∀ d : D, PySem.W.kitOne K (.type d.ty) (.type "bool") = some (isTy d "bool")
  | .non => by rfl
  | .bl _ => by rfl
  | .int _ => by rfl
  | .str _ => by rfl
  | .lst _ => by rfl
  | .tup _ => by rfl
  | .dic _ => by rfl
  | .scr _ => by rfl
  | .fn _ => by rfl
  | .obj _ _ => by rfl
  | .exc _ _ _ => by rfl
theorem kt_str : ∀ d : D, PySem.W.kitOne K (.type d.ty) (.type "str") = some (isTy d "str")
  | .non => by rfl
  | .bl _ => by rfl
  | .int _ => by rfl
  | .str _ => by rfl
  | .lst _ => by rfl
  | .tup _ => by rfl
  | .dic _ => by rfl
  | .scr _ => by rfl
  | .fn _ => by rfl
  | .obj _ _ => by rfl
  | .exc _ _ _ => by rfl
theorem kt_list : ∀ d : D, PySem.W.kitOne K (.type d.ty) (.type "list") = some (isTy d "list")
  | .non => by rfl
  | .bl _ => by rfl
  | .int _ => by rfl
  | .str _ => by rfl
  | .lst _ => by rfl
  | .tup _ => by rfl
  | .dic _ => by rfl
  | .scr _ => by rfl
  | .fn _ => by rfl
  | .obj _ _ => by rfl
  | .exc _ _ _ => by rfl
theorem kt_tuple : ∀ d : D, PySem.W.kitOne K (.type d.ty) (.type "tuple") = some (isTy d "tuple")
  | .non => by rfl
  | .bl _ => by rfl
  | .int _ => by rfl
  | .str _ => by rfl
  | .lst _ => by rfl
  | .tup _ => by rfl
  | .dic _ => by rfl
  | .scr _ => by rfl
  | .fn _ => by rfl
  | .obj _ _ => by rfl
  | .exc _ _ _ => by rfl
theorem kt_dict : ∀ d : D, PySem.W.kitOne K (.type d.ty) (.type "dict") = some (isTy d "dict")
  | .non => by rfl
  | .bl _ => by rfl
  | .int _ => by rfl
  | .str _ => by rfl
  | .lst _ => by rfl
  | .tup _ => by rfl
  | .dic _ => by rfl
  | .scr _ => by rfl
  | .fn _ => by rfl
  | .obj _ _ => by rfl
  | .exc _ _ _ => by rfl
theorem kt2 {T U : String} (h1 : ∀ d : D, PySem.W.kitOne K (.type d.ty) (.type T) = some (isTy d T)) (h2 : ∀ d : D, PySem.W.kitOne K (.type d.ty) (.type U) = some (isTy d U)) (d : D) :
    PySem.W.kitAny K (.type d.ty) [.type T, .type U] = some (isTy d T || isTy d U) := by
  unfold PySem.W.kitAny
  rw [h1 d]
  cases isTy d T
  · unfold PySem.W.kitAny
    rw [h2 d]
    cases isTy d U <;> rfl
  · rfl
end
end DL

set_option Elab.async false
set_option linter.all false
set_option maxRecDepth 100000
set_option maxHeartbeats 4000000
set_option autoImplicit false
/-! DL16: pairs of results; two names given new things at once; a loop over two names that changes what they hold for the last time. -/
namespace DL
open PySem PySem.Spec L2 Evl PyProof.Rows

section
variable {K : PySem.W.Frag} {C : Ct} {F F' H H0 H' : Hp} {env env' : List Slot} {σ : L2.St} {u w : V}
@[simp] def putR (j : Nat) (x : RV) (env : List Slot) (R : List Slot → Prop) : Prop := match x with
  | .vl d => Free env j ∧ R (env.set j (.val d))
  | .tm d => Free env j ∧ R (env.set j (.own false d))
  | .sl _ => False
theorem ok_put {j : Nat} {x : RV} {R : List Slot → Prop} (I : Ok K C F env σ H) (r : RVOk K C F env σ H0 H u x) (h : putR j x env R) :
    ∃ env', R env' ∧ Ok K C F env' (σ.set j (some u)) H ∧ ∀ y, RVOk K C F env σ H0 H w y → (∀ i, y ≠ .sl i) → ((∃ d, x = .tm d) → (∃ d, y = .tm d) → u ≠ w) → RVOk K C F env' (σ.set j (some u)) H0 H w y := by
  cases x with
  | vl d =>
    refine ⟨_, h.2, I.setVal h.1 r, fun y ry ns _ => ?_⟩
    cases y with
    | vl e => exact ry
    | tm e =>
      obtain ⟨p, o, rfl, g1, g2, g3, g4, g5, g6⟩ := ry
      refine ⟨p, o, rfl, g1, g2, g3, g4, fun i ⟨b, d1, e1, s1⟩ => ?_, g6⟩
      by_cases q : j = i
      · subst q
        rw [List.getElem?_set] at e1
        split at e1
        · split at e1 <;> cases e1
        · exact absurd rfl ‹¬ _›
      · rw [List.getElem?_set_ne q] at e1 s1
        exact g5 i ⟨b, d1, e1, s1⟩
    | sl i => exact absurd rfl (ns i)
  | tm d =>
    obtain ⟨p, o, rfl, f1, f2, f3, f4, f5, f6⟩ := r
    refine ⟨_, h.2, I.setOwn h.1 f1 f2 f3 f4 f5, fun y ry ns ne => ?_⟩
    cases y with
    | vl e => exact ry
    | tm e =>
      obtain ⟨p', o', rfl, g1, g2, g3, g4, g5, g6⟩ := ry
      refine ⟨p', o', rfl, g1, g2, g3, g4, fun i ⟨b, d1, e1, s1⟩ => ?_, g6⟩
      by_cases q : j = i
      · subst q
        rw [List.getElem?_set] at s1
        split at s1
        · split at s1
          · have := ne ⟨_, rfl⟩ ⟨_, rfl⟩
            cases s1
            exact this rfl
          · cases s1
        · exact absurd rfl ‹¬ _›
      · rw [List.getElem?_set_ne q] at e1 s1
        exact g5 i ⟨b, d1, e1, s1⟩
    | sl i => exact absurd rfl (ns i)
  | sl i => exact h.elim
@[simp] def put2 (i j : Nat) (x y : RV) (env : List Slot) (R : List Slot → Prop) : Prop := putR i x env fun e => putR j y e R
theorem put_ns {j : Nat} {y : RV} {R : List Slot → Prop} (h : putR j y env R) : ∀ i, y ≠ .sl i := by
  rintro i rfl
  exact h
end

section
variable {X : Cx} {pos : Pos}
@[simp] def mPar2X (i j : Nat) (a b : DM) : DStm := fun P env => a env fun x e1 => b e1 fun y e2 => (∀ k, y ≠ .sl k) ∧ put2 i j x y e2 P.nx
theorem ds_par2X {i j : Nat} {x y : Str} {a b : Expr} {m1 m2 : DM} {px py pt : Pos} {kt k2 pt2} (hc : X.calm = true) (hN : X.N.Nodup) (hi : X.N[i]? = some x) (hj : X.N[j]? = some y) (hij : i ≠ j)
    (hx : X.env.scope.names.lookup x = some .local) (hy : X.env.scope.names.lookup y = some .local) (h1 : DE X a m1) (h2 : DE X b m2)
    (hw : swappedStores [.Tuple [.Name x px, .Name y py] kt pt] (.Tuple [a, b] k2 pt2) X.env = pure (some [x, y]))
    (hs : swapsWithSole [.Tuple [.Name x px, .Name y py] kt pt] (.Tuple [a, b] k2 pt2) pos.line X.env = pure false := by rfl)
    (hs1 : starEach (a :: [b]) X.env = (false, eval a X.env) :: starEach [b] X.env := by rfl) (hs2 : starEach (b :: []) X.env = (false, eval b X.env) :: starEach [] X.env := by rfl) :
    DS X (.Assign [.Tuple [.Name x px, .Name y py] kt pt] (.Tuple [a, b] k2 pt2) pos) (mPar2X i j m1 m2) := by
  obtain ⟨t, p, ev⟩ := h1
  obtain ⟨t', p', ev'⟩ := h2
  refine ⟨_, ps_par hc hN hi hj hij hx hy (pa_cons p (pa_cons p' pa_nil hs2) hs1) hw hs, ?_⟩
  intro C F env σ H D P I h k
  refine ev C F env σ H _ _ I h ?_
  intro x e1 F1 v H1 h1 A1 r1
  refine ev' C F1 e1 σ H1 _ _ A1.ok h1 ?_
  intro y e2 F2 w H2 h2 A2 r2
  refine ⟨v, w, rfl, ?_⟩
  have ns := h2.1
  obtain ⟨e3, h3, I3, more⟩ := ok_put (H0 := H) A2.ok (r1.on A2) h2.2
  have r2' := more y (r2.from fun p => A1.back) ns (by
    rintro ⟨d, rfl⟩ ⟨d', rfl⟩ rfl
    obtain ⟨q, o, rfl, g1, _⟩ := r1
    obtain ⟨q', o', e, _, _, _, _, _, z⟩ := r2
    cases e
    rw [g1] at z; cases z)
  obtain ⟨e4, h4, I4, _⟩ := ok_put (H0 := H) (w := .non) I3 r2' h3
  exact k.nx F2 e4 _ H2 I4 h4
@[simp] def rv1 (x : RV) (e : List Slot) (R : RV → Prop) : Prop := match x with
  | .vl d => R (.vl d)
  | .tm d => R (.tm d)
  | .sl i => match e[i]? with
    | some (.val d) => R (.vl d)
    | some (.own false d) => R (.tm d)
    | _ => False
@[simp] def mRet2 (a b : DM) : DStm := fun P env => a env fun x e1 => b e1 fun y e2 => x ≠ y ∧ rv1 x e2 fun x' => rv1 y e2 fun y' => P.r2 x' y' e2
theorem rv1_ok {K : PySem.W.Frag} {C : Ct} {F H H0 : Hp} {env : List Slot} {σ : L2.St} {v : V} {x : RV} {R : RV → Prop} (I : Ok K C F env σ H) (r : RVOk K C F env σ H0 H v x) (h : rv1 x env R) :
    ∃ x', R x' ∧ RetOk K C F H v x' ∧ ((∃ d, x' = .tm d) → (∃ p, v = .ref p ∧ ((∃ d, x = .tm d) ∨ ∃ i, x = .sl i ∧ Owns env σ i p))) := by
  cases x with
  | vl d => exact ⟨.vl d, h, r, fun ⟨_, e⟩ => by cases e⟩
  | tm d =>
    obtain ⟨p, o, e, g1, g2, g3, g4, _⟩ := r
    exact ⟨.tm d, h, ⟨p, o, e, g1, g2, g3, g4⟩, fun _ => ⟨p, e, Or.inl ⟨d, rfl⟩⟩⟩
  | sl i =>
    have h' : (match env[i]? with | some (.val d) => R (.vl d) | some (.own false d) => R (.tm d) | _ => False) := h
    have r' : σ[i]? = some (some v) := r
    split at h'
    · rename_i d e
      obtain ⟨w, q1, q2⟩ := I.vals i d e
      rw [r'] at q1; cases q1
      exact ⟨.vl d, h', q2, fun ⟨_, e⟩ => by cases e⟩
    · rename_i d e
      obtain ⟨q, o, q1, q2, q3, q4, q5, _⟩ := I.owns i false d e
      rw [r'] at q1; cases q1
      exact ⟨.tm d, h', ⟨q, o, rfl, q2, q3, q4, q5 rfl⟩, fun _ => ⟨q, rfl, Or.inr ⟨i, rfl, false, d, e, r'⟩⟩⟩
    · exact h'.elim
theorem RetOk.tmp {K : PySem.W.Frag} {C : Ct} {F H : Hp} {v : V} {x : RV} {T : Addr} {o : HO} (hT : H T = none) (r : RetOk K C F H v x) : RetOk K C F (upd H T o) v x := by
  cases x with
  | vl d => exact r
  | tm d =>
    obtain ⟨p, u, e, g1, g2, g3, g4⟩ := r
    exact ⟨p, u, e, by rw [upd_ne (ne_of_none g1 hT)]; exact g1, g2, g3, g4⟩
  | sl i => exact r
theorem ds_ret2 {a b : Expr} {m1 m2 : DM} {kt : _} {pt : Pos} (h1 : DE X a m1) (h2 : DE X b m2) (hs1 : starEach (a :: [b]) X.env = (false, eval a X.env) :: starEach [b] X.env := by rfl) (hs2 : starEach (b :: []) X.env = (false, eval b X.env) :: starEach [] X.env := by rfl) :
    DS X (.Return (some (.Tuple [a, b] kt pt)) pos) (mRet2 m1 m2) := by
  obtain ⟨t, p, ev⟩ := h1
  obtain ⟨t', p', ev'⟩ := h2
  refine ⟨_, ps_ret (pe_tup (pa_cons p (pa_cons p' pa_nil hs2) hs1)), ?_⟩
  intro C F env σ H D P I h k
  refine ev C F env σ H _ _ I h ?_
  intro x e1 F1 v H1 h1 A1 r1
  refine ev' C F1 e1 σ H1 _ _ A1.ok h1 ?_
  intro y e2 F2 w H2 h2 A2 r2
  obtain ⟨nxy, h2⟩ := h2
  refine ⟨by show 2 ≤ sizeLine; decide, fun T hT => ?_⟩
  obtain ⟨x', h3, q1, t1⟩ := rv1_ok A2.ok (r1.on A2) h2
  obtain ⟨y', h4, q2, t2⟩ := rv1_ok A2.ok r2 h3
  have B := A2.ok.tmp hT (.tup [v, w])
  refine k.r2 F2 e2 σ _ (.ref T) x' y' B.ok ⟨T, v, w, rfl, st_of upd_same, q1.tmp hT, q2.tmp hT, fun a b => ?_⟩ h4
  rintro rfl
  obtain ⟨p1, e1', o1⟩ := t1 a
  obtain ⟨p2, e2', o2⟩ := t2 b
  subst e1'
  cases e2'
  rcases o1 with ⟨d1, rfl⟩ | ⟨i, rfl, w1⟩
  · obtain ⟨q, o, e, g1, g2, g3, g4, g5, g6⟩ := r1
    cases e
    rcases o2 with ⟨d2, rfl⟩ | ⟨j, rfl, w2⟩
    · obtain ⟨q', o', e, _, _, _, _, _, z⟩ := r2
      cases e
      rw [g1] at z; cases z
    · exact g5 j (A2.le.owns w2)
  · rcases o2 with ⟨d2, rfl⟩ | ⟨j, rfl, w2⟩
    · obtain ⟨q', o', e, _, _, _, _, z, _⟩ := r2
      cases e
      exact z i w1
    · exact nxy (by rw [A2.ok.sep i j _ w1 w2])

/-! ### a def that gives a pair -/
abbrev DSpec2 := List Slot → (RV → RV → List Slot → Prop) → Prop
def Res1 (K : PySem.W.Frag) (F' H H' : Hp) (v : V) : RV → Prop
  | .vl d => Rep K F' v d
  | .tm d => ∃ p o, v = .ref p ∧ H' p = some o ∧ RepO K F' o d ∧ F' p = none ∧ H p = none
  | .sl _ => False
def spD2 (K : PySem.W.Frag) (sd : DSpec2) : Sp := fun vs H Q _ => ∃ F args R, ArgsOk K F args vs H ∧ (∀ (i : Nat) (d : D), args[i]? ≠ some (.own false d)) ∧ sd args R ∧
  ∀ x y args' F' T u w H', R x y args' → Done K F args vs H (.vl .non) args' F' .non H' → SqT K H' T [u, w] → Res1 K F' H H' u x → Res1 K F' H H' w y → ((∃ d, x = .tm d) → (∃ d, y = .tm d) → u ≠ w) → Q (.ref T) H'
theorem FunG.ok2 {P : Program} {w : World} {K : PySem.W.Frag} {mg : Str → Option Value} {base : Heap} {qual : Str} {body : List Stmt} {scope : Scope} {f : Addr} {fd : FuncData} {N ps : List Str} {k : Nat} {sd : DSpec2} {m : DStm}
    (F : FunG K qual body scope f fd) (S : FnScope N ps scope) (len : ∀ args R, sd args R → args.length = ps.length)
    (hbody : ∀ (cdv : Value) (A : Around) (outer : List PySem.Env) (s : Shared) (H : Hp) (E : XK), A.guards = some [] → Room k (A.deeper (envOfC qual scope s.heap.objs.size f cdv)) →
      DB (cxOf CX0 P w K mg base N qual scope f cdv A outer s H E).nox body m)
    (hm : ∀ args R, sd args R → m { nx := fun _ => False, rt := fun _ _ => False, r2 := fun x y e => R x y (outs ps.length e) } (startE N.length args)) :
    FnG P w K mg base CX0 (k + 1) f fd ps (spD2 K sd) := by
  obtain ⟨oc, od, name, params, dV, kV, doc, pm, an, cdv, ct, osl, rfl, lk, hcd⟩ := F.ex
  refine fnG_of lk hcd S ?_ ?_
  · rintro vs H Q E ⟨F, args, R, h1, _, h2, _⟩
    have := h1.len
    rw [List.length_map] at this
    rw [this, len args R h2]
  rintro A outer s H vs Q E hg hr ⟨F0, args, R, h1, np, h2, h3⟩
  obtain ⟨t, ht, ev⟩ := hbody cdv A outer s H E hg hr
  refine ⟨t, ht.nox, ?_⟩
  have hl : args.length = ps.length := len args R h2
  have hv : vs.length = args.length := by have := h1.len; rwa [List.length_map] at this
  have fin : ∀ F' env σ H' v x y, Ok K (ctOf args vs F0 H) F' env σ H' → Ret2 K (ctOf args vs F0 H) F' H' v x y → R x y (outs ps.length env) → Q v H' := by
    intro F' env σ H' v x y I' ro hR
    obtain ⟨T, u, w, rfl, hq, ru, rw', ne⟩ := ro
    refine h3 x y _ F' T u w H' hR ⟨I'.bas, I'.sub, I'.keep, I'.all, I'.new, fun i b d e => ?_, Rep.non⟩ hq (by cases x <;> exact ru) (by cases y <;> exact rw') ne
    cases b with
    | false => exact absurd e (np i d)
    | true =>
      obtain ⟨d', e'⟩ := I'.pins i ⟨true, d, e⟩
      have hi : i < ps.length := by
        rw [← hl]
        rcases Nat.lt_or_ge i args.length with z | z
        · exact z
        · rw [List.getElem?_eq_none (by simpa using z)] at e; cases e
      obtain ⟨p, o, g1, g2, g3, g4, g5, g6⟩ := I'.owns i true d' e'
      obtain ⟨q1, q2, q3⟩ := g6 rfl
      refine ⟨p, o, d', q1, ?_, g2, g3⟩
      unfold outs
      rw [List.getElem?_map, List.getElem?_take_of_lt hi, e']
      rfl
  exact ev (ctOf args vs F0 H) F0 _ _ H _ _ (ok_start N h1 np) (hm args R h2) ⟨fun _ _ _ _ _ z => z.elim, fun _ _ _ _ _ z => z.elim, fun _ _ _ _ _ z => z.elim, fun _ _ _ _ _ _ _ _ z => z.elim, fun F env σ H' v x y I' ro q => fin F env σ H' v x y I' ro q⟩
structure Cal2 (P : Program) (w : World) (K : PySem.W.Frag) (mg : Str → Option Value) (base : Heap) (x : Str) (st : Stmt) (k : Nat) (ps : List Str) (sd : DSpec2) : Prop where
  ex : ∃ f fd, Fun K x x st f fd ∧ FnG P w K mg base CX0 k f fd ps (spD2 K sd) ∧ mg x = some (.ref f) ∧ Binds K fd ps []
@[simp] def mUn2 (i j : Nat) (sd : DSpec2) (a : DMC) : DStm := fun P env => a env fun as e => apart e as = true ∧ sd (as.map (resolve e)) fun x y ss => (∀ k, y ≠ .sl k) ∧ put2 i j x y (putB as ss e) P.nx
theorem ds_un2 {k : Nat} {st : Stmt} {ps : List Str} {sd : DSpec2} {f x y : Str} {p pt px py : Pos} {kt : _} {e : Expr} {es : List Expr} {i j : Nat} (hc : X.calm = true) (c : Cal2 X.prog X.w X.K X.mg X.base f st k ps sd) (hgd : X.A.guards = some []) (hr : Room k X.A) (hg : Gl X f)
    (hN : X.N.Nodup) (hi : X.N[i]? = some x) (hj : X.N[j]? = some y) (hx : Loc X.env.scope x) (hy : Loc X.env.scope y) {mc : DMC} (h : DC X (e :: es) mc)
    (hdb : (f == ("__debug__" : Str)) = false := by decide) (he : starEach (e :: es) X.env = (false, eval e X.env) :: starEach es X.env := by rfl) (hpl : (backTo p (starEach es X.env)).any (·.1) = false := by rfl)
    (hfx : X.fn x = true ∨ X.env.scope.names.lookup x = some .local := by first | exact .inl rfl | exact .inr rfl | assumption) (hfy : X.fn y = true ∨ X.env.scope.names.lookup y = some .local := by first | exact .inl rfl | exact .inr rfl | assumption)
    (hn : (assignEach [.Name x px, .Name y py] X.env).length = 2 := by rfl) (hst : (assignEach [.Name x px, .Name y py] X.env).findIdx? (·.1) = none := by rfl)
    (ha1 : (assignEach [.Name x px, .Name y py] X.env).map (·.2) = assign (.Name x px) X.env :: (assignEach [.Name y py] X.env).map (·.2) := by rfl)
    (ha2 : (assignEach [.Name y py] X.env).map (·.2) = assign (.Name y py) X.env :: (assignEach [] X.env).map (·.2) := by rfl) {pf : Pos}
    (hs : swapsWithSole [.Tuple [.Name x px, .Name y py] kt pt] (.Call (.Name f pf) (e :: es) [] p) pos.line X.env = pure false := by rfl) (hw : swappedStores [.Tuple [.Name x px, .Name y py] kt pt] (.Call (.Name f pf) (e :: es) [] p) X.env = pure none := by rfl)
    (h1 : (assignEach [.Tuple [.Name x px, .Name y py] kt pt] X.env).map (·.2) = [assign (.Tuple [.Name x px, .Name y py] kt pt) X.env] := by rfl) :
    DS X (.Assign [.Tuple [.Name x px, .Name y py] kt pt] (.Call (.Name f pf) (e :: es) [] p) pos) (mUn2 i j sd mc) := by
  obtain ⟨fa, fd, Fn, G, hm, hb⟩ := c.ex
  obtain ⟨t, pa, ev⟩ := h
  refine ⟨_, ps_asg (pe_callG (E := E0) G hgd hr hg hm Fn.kp hb .nil pass0 pa hdb he hpl) (pg_tup hc (pgs_cons (pg_name hN hi hx hfx) (pgs_cons (pg_name hN hj hy hfy) pgs_nil ha2) ha1) hn hst) hs hw h1, ?_⟩
  intro C F env σ H D P I h k
  refine ev C F env σ H _ _ I h ?_
  intro as e1 F1 vs H1 h1 A1 r1
  obtain ⟨ap, h1⟩ := h1
  obtain ⟨c1, c2, c3⟩ := call_parts A1.ok r1 ap
  rw [List.append_nil]
  refine ⟨F1, as.map (resolve e1), _, c1, c2, h1, ?_⟩
  intro x y ss F' T u w H' hR dn hq ru rw' ne
  obtain ⟨B, no⟩ := c3 _ ss F' _ H' dn
  have A := A1.trans B
  have conv : ∀ (v : V) (z : RV), Res1 X.K F' H1 H' v z → RVOk X.K C F' (putB as ss e1) σ H1 H' v z := fun v z rz => by
    cases z with
    | vl d => exact rz
    | tm d =>
      obtain ⟨p, o, e, g1, g2, g3, g4⟩ := rz
      exact ⟨p, o, e, g1, g2, g3, A1.ok.gnone g4, no p g4, g4⟩
    | sl i => exact rz.elim
  refine ⟨T, [u, w], rfl, hq, rfl, u, [w], rfl, ?_⟩
  obtain ⟨ns, hR⟩ := hR
  obtain ⟨e3, h3, I3, more⟩ := ok_put (H0 := H1) A.ok (conv u x ru) hR
  refine ⟨w, [], rfl, rfl, ?_⟩
  obtain ⟨e4, h4, I4, _⟩ := ok_put (H0 := H1) (w := .non) I3 (more y (conv w y rw') ns ne) h3
  exact k.nx F' e4 _ H' I4 h4
end
end DL

set_option Elab.async false
set_option linter.all false
set_option maxRecDepth 100000
set_option maxHeartbeats 4000000
set_option autoImplicit false
/-! DL17: for z in (x, y): if z is not None: z.append(..), x and y never asked again. -/
namespace DL
open PySem PySem.Spec L2 Evl PyProof.Rows

section
variable {K : PySem.W.Frag} {C : Ct} {F H : Hp} {env : List Slot} {σ σ' : L2.St} {k : Nat}
theorem no_get {i : Nat} {s : Slot} (h : (env.set k .no)[i]? = some s) (n : s ≠ .no) : k ≠ i ∧ env[i]? = some s := by
  by_cases q : k = i
  · subst q
    rw [List.getElem?_set] at h
    split at h
    · split at h
      · cases h; exact absurd rfl n
      · cases h
    · exact absurd rfl ‹¬ _›
  · rw [List.getElem?_set_ne q] at h
    exact ⟨q, h⟩
theorem Ok.drop (h : Ok K C F env σ H) (f : Free env k) (hl : σ'.length = σ.length) (hs : ∀ n, n ≠ k → σ'[n]? = σ[n]?) : Ok K C F (env.set k .no) σ' H where
  len := by rw [hl, List.length_set]; exact h.len
  sub := h.sub
  keep := h.keep
  all := h.all
  new := h.new
  bas := h.bas
  vals := fun i d e => by
    obtain ⟨q, e'⟩ := no_get e (by simp)
    rw [hs i (Ne.symm q)]
    exact h.vals i d e'
  owns := fun i b d e => by
    obtain ⟨q, e'⟩ := no_get e (by simp)
    rw [hs i (Ne.symm q)]
    exact h.owns i b d e'
  sep := fun i j p ⟨b, d, e1, s1⟩ ⟨b2, d2, e2, s2⟩ => by
    obtain ⟨q1, e1'⟩ := no_get e1 (by simp)
    obtain ⟨q2, e2'⟩ := no_get e2 (by simp)
    rw [hs i (Ne.symm q1)] at s1
    rw [hs j (Ne.symm q2)] at s2
    exact h.sep i j p ⟨b, d, e1', s1⟩ ⟨b2, d2, e2', s2⟩
  pins := fun i q => Free.pins f (h.pins i q)
theorem Ok.poke (h : Ok K C F env σ H) {p : Addr} {o o' : HO} (hp : H p = some o) (hF : F p = none) (hG : C.G p = none) (hn : ∀ i, ¬ Owns env σ i p) : Ok K C F env σ (upd H p o') where
  len := h.len
  sub := fun a u e => by rw [upd_ne (ne_of_none e hF)]; exact h.sub a u e
  keep := fun a u e n => by rw [upd_ne (ne_of_none e hG)]; exact h.keep a u e n
  all := fun a e => by
    by_cases q : a = p
    · subst q; rw [upd_same]; exact fun z => nomatch z
    · rw [upd_ne q]; exact h.all a e
  new := h.new
  bas := h.bas
  vals := h.vals
  owns := fun i b d e => by
    obtain ⟨q, u, h1, h2, h3, h4, h5, h6⟩ := h.owns i b d e
    refine ⟨q, u, h1, ?_, h3, h4, h5, h6⟩
    rw [upd_ne]
    · exact h2
    · rintro rfl
      exact hn i ⟨b, d, e, h1⟩
  sep := h.sep
  pins := h.pins
end
@[simp] def lateOk (env : List Slot) (i : Nat) : Prop := match env[i]? with
  | some (.own false (.lst xs)) => xs.length < 90000
  | some (.val .non) => True
  | _ => False
@[simp] def mForLate (i j k : Nat) : DStm := fun P env => lateOk env i ∧ lateOk env j ∧ Free env k ∧ P.nx (((env.set i .no).set j .no).set k .no)
def LateV (C : Ct) (F : Hp) (env : List Slot) (σ : L2.St) (H : Hp) (n : Nat) (v : V) : Prop := v = .non ∨ ∃ p vs, v = .ref p ∧ H p = some (.lst vs) ∧ vs.length ≤ 90000 + n ∧ F p = none ∧ C.G p = none ∧ ∀ i, ¬ Owns env σ i p
theorem late_of {K : PySem.W.Frag} {C : Ct} {F H : Hp} {env : List Slot} {σ : L2.St} {i : Nat} (I : Ok K C F env σ H) (h : lateOk env i) : Free env i ∧ ∃ v, σ[i]? = some (some v) ∧ (v = .non ∨ ∃ p vs, v = .ref p ∧ H p = some (.lst vs) ∧ vs.length ≤ 90000 ∧ F p = none ∧ C.G p = none ∧ Owns env σ i p) := by
  unfold lateOk at h
  split at h
  · rename_i xs e
    obtain ⟨p, o, h1, h2, h3, h4, h5, h6⟩ := I.owns i false _ e
    obtain ⟨vs, rfl, r⟩ := lst_of h3
    exact ⟨by unfold Free; rw [e]; trivial, _, h1, Or.inr ⟨p, vs, rfl, h2, by rw [r.length]; omega, h4, h5 rfl, false, _, e, h1⟩⟩
  · rename_i e
    obtain ⟨v, h1, h2⟩ := I.vals i _ e
    cases h2
    exact ⟨by unfold Free; rw [e]; trivial, _, h1, Or.inl rfl⟩
  · exact h.elim
section
variable {X : Cx} {pos : Pos}
theorem ds_forLate {i j k : Nat} {x y z : Str} {s : Str} {js jn : Nat} {p1 p2 p3 p4 p5 p6 p7 p8 ap cp sp ip tp : Pos} {kt : _} (hp : PassesOwn (model X.prog X.w) X.A X.env X.xe) (hc : X.calm = true) (hNd : X.N.Nodup)
    (hi : X.N[i]? = some x) (hj : X.N[j]? = some y) (hk : X.N[k]? = some z) (vi : Vis X.env.scope x) (vj : Vis X.env.scope y) (vk : Vis X.env.scope z) (lk : Loc X.env.scope z) (hij : i ≠ j) (hik : i ≠ k) (hjk : j ≠ k)
    (dx : (x == ("__debug__" : Str)) = false := by decide) (dy : (y == ("__debug__" : Str)) = false := by decide) (dz : (z == ("__debug__" : Str)) = false := by decide)
    (cx : (x == ("__classdict__" : Str)) = false := by decide) (cy : (y == ("__classdict__" : Str)) = false := by decide) (cz : (z == ("__classdict__" : Str)) = false := by decide)
    (t1 : starEach [.Name x p1, .Name y p2] X.env = (false, eval (.Name x p1) X.env) :: starEach [.Name y p2] X.env := by rfl) (t2 : starEach [.Name y p2] X.env = (false, eval (.Name y p2) X.env) :: starEach [] X.env := by rfl)
    (hm : behindInMarks .IsNot (.Constant .none jn p5) = false := by first | exact nomark _ | rfl | with_unfolding_all rfl)
    (h1 : attributeBase (.Name z p6) "append" X.env (eval (.Name z p6) X.env) = eval (.Name z p6) X.env := by rfl)
    (h2 : ((((backTo cp (starEach [.Constant (.str s) js p7] X.env)).all fun x => !x.fst) && (backToKw cp (keywordEach [] X.env)).all fun x => x.fst.isSome) && decide (([(.Constant (.str s) js p7 : Expr)].length + ([] : List Keyword).length + if ([] : List Keyword).isEmpty = true then 0 else 1) < 30)) = true := by rfl)
    (h3 : (ap.endLine == cp.line) = true := by rfl) (h4 : starEach [.Constant (.str s) js p7] X.env = (false, eval (.Constant (.str s) js p7) X.env) :: starEach [] X.env := by rfl) (h5 : ((backTo cp (starEach [] X.env)).any fun x => x.fst) = false := by rfl)
    (hs : swapsWith (.Call (.Attribute (.Name z p6) "append" ap) [.Constant (.str s) js p7] [] cp) none sp.line X.env = pure false := by rfl)
    (hf : X.fn z = true ∨ X.env.scope.names.lookup z = some .local := by first | exact .inl rfl | exact .inr rfl | assumption)
    (hfo : ∀ q, foldedSetIterable (.Tuple [.Name x p1, .Name y p2] kt tp) X.env q = pure q := by intro _; rfl) :
    DS X (.For (.Name z p3) (.Tuple [.Name x p1, .Name y p2] kt tp) [.If (.Compare (.Name z p4) [.IsNot] [.Constant .none jn p5] p8) [.Expr (.Call (.Attribute (.Name z p6) "append" ap) [.Constant (.str s) js p7] [] cp) sp] [] ip] [] pos) (mForLate i j k) := by
  have pz : ∀ q, PE X (.Name z q) (tVar k) := fun q => pe_var hk vk dz cz
  have body := pss_one (ps_if (pos := ip) (pt_cmpR (pos := p8) op_isND (pz p4) (pe_non (j := jn) (pos := p5)) hm)
    (pss_one (ps_expr (pos := sp) (pe_bm PySem.F.plainAttrs_list PySem.F.slot_list_append PySem.F.type_list_append mt_append (pz p6) (pa_cons (pe_str (x := s) (j := js) (pos := p7)) pa_nil h4) h1 h2 h3 h4 h5) hs)) pss_nil)
  refine ⟨_, ps_for hp hc (pi_tup (pe_tup (x1 := kt) (pos := tp) (pa_cons (pe_var hi vi dx cx) (pa_cons (pe_var hj vj dy cy) pa_nil t2) t1))) (pg_name hNd hk lk hf) body hfo, ?_⟩
  intro C F env σ H D P I h kn
  obtain ⟨l1, l2, fk, h⟩ := h
  obtain ⟨f1, v1, s1, w1⟩ := late_of I l1
  obtain ⟨f2, v2, s2, w2⟩ := late_of I l2
  refine ⟨v1, s1, v2, s2, ?_⟩
  refine ⟨by show 2 ≤ sizeLine; decide, fun T hT => ?_⟩
  have B := I.lay hT (.tup [v1, v2])
  have Iq := B.ok
  have hnT : ∀ {p : Addr} {o : HO}, H p = some o → p ≠ T := fun e q => by subst q; rw [hT] at e; cases e
  -- the slots are told nothing of
  have f2' : Free (env.set i .no) j := by
    unfold Free at f2 ⊢
    rw [List.getElem?_set_ne hij]; exact f2
  have fk' : Free ((env.set i .no).set j .no) k := by
    unfold Free at fk ⊢
    rw [List.getElem?_set_ne hjk, List.getElem?_set_ne hik]; exact fk
  have J0 := ((Iq.drop f1 rfl fun _ _ => rfl).drop f2' rfl fun _ _ => rfl)
  have own0 : ∀ n p, Owns ((env.set i .no).set j .no) σ n p → Owns env σ n p ∧ n ≠ i ∧ n ≠ j := fun n p ⟨b, d, e, s⟩ => by
    obtain ⟨q1, e1⟩ := no_get e (by simp)
    obtain ⟨q2, e2⟩ := no_get e1 (by simp)
    exact ⟨⟨b, d, e2, s⟩, Ne.symm q2, Ne.symm q1⟩
  have mk : ∀ (n : Nat) (v : V), σ[n]? = some (some v) → (n = i ∨ n = j) → (v = .non ∨ ∃ p vs, v = .ref p ∧ H p = some (.lst vs) ∧ vs.length ≤ 90000 ∧ F p = none ∧ C.G p = none ∧ Owns env σ n p) →
      v = .non ∨ ∃ p vs, v = .ref p ∧ (upd H T (.tup [v1, v2])) p = some (.lst vs) ∧ vs.length ≤ 90000 ∧ (upd F T (.tup [v1, v2])) p = none ∧ C.G p = none ∧ ∀ m, ¬ Owns ((env.set i .no).set j .no) σ m p := fun n v hs hn hv => by
    rcases hv with hv | ⟨p, vs, e, g1, g2, g3, g4, g5⟩
    · exact Or.inl hv
    · refine Or.inr ⟨p, vs, e, by rw [upd_ne (hnT g1)]; exact g1, g2, by rw [upd_ne (hnT g1)]; exact g3, g4, fun m q => ?_⟩
      obtain ⟨q1, q2, q3⟩ := own0 m p q
      have := I.sep m n p q1 g5
      rcases hn with rfl | rfl
      · exact q2 this
      · exact q3 this
  have lv1 := mk i v1 s1 (Or.inl rfl) w1
  have lv2 := mk j v2 s2 (Or.inr rfl) w2
  refine ⟨T, rfl, ⟨[v1, v2], st_of upd_same⟩, ?_⟩
  -- the turns
  let E2 := ((env.set i .no).set j .no).set k .no
  have ownk : ∀ (σ' : L2.St) n p, (∀ n, n ≠ k → σ'[n]? = σ[n]?) → Owns E2 σ' n p → Owns ((env.set i .no).set j .no) σ n p := fun σ' n p hs ⟨b, d, e, s⟩ => by
    obtain ⟨q1, e1⟩ := no_get e (by simp)
    exact ⟨b, d, e1, by rw [← hs n (Ne.symm q1)]; exact s⟩
  refine ⟨fun t m σ' H' => m = 2 - t ∧ t ≤ 2 ∧ σ'.length = σ.length ∧ (∀ n, n ≠ k → σ'[n]? = σ[n]?) ∧ Ok X.K C (upd F T (.tup [v1, v2])) E2 σ' H' ∧
    (∀ v, v = v1 ∨ v = v2 → v = .non ∨ ∃ p vs, v = .ref p ∧ H' p = some (.lst vs) ∧ vs.length ≤ 90000 + t ∧ (upd F T (.tup [v1, v2])) p = none ∧ C.G p = none ∧ ∀ m, ¬ Owns ((env.set i .no).set j .no) σ m p),
    ⟨2, rfl, by decide, rfl, fun _ _ => rfl, J0.drop fk' rfl fun _ _ => rfl, fun v hv => ?_⟩, ?_⟩
  · rcases hv with rfl | rfl
    · exact lv1
    · exact lv2
  rintro t m σ' H' ⟨rfl, ht, hl, hsame, J, late⟩
  have hqT : SqT X.K H' T [v1, v2] := ex_t J.sub (st_of upd_same)
  by_cases h2 : t < 2
  · have hx : ∃ v, [v1, v2][t]? = some v ∧ (v = v1 ∨ v = v2) := by
      match t, h2 with
      | 0, _ => exact ⟨v1, rfl, Or.inl rfl⟩
      | 1, _ => exact ⟨v2, rfl, Or.inr rfl⟩
    obtain ⟨v, hv, hor⟩ := hx
    refine Or.inr ⟨⟨[v1, v2], v, hqT, hv⟩, fun σ'' H'' => σ''.length = σ.length ∧ (∀ n, n ≠ k → σ''[n]? = σ[n]?) ∧ Ok X.K C (upd F T (.tup [v1, v2])) E2 σ'' H'' ∧
      (∀ v, v = v1 ∨ v = v2 → v = .non ∨ ∃ p vs, v = .ref p ∧ H'' p = some (.lst vs) ∧ vs.length ≤ 90000 + (t + 1) ∧ (upd F T (.tup [v1, v2])) p = none ∧ C.G p = none ∧ ∀ m, ¬ Owns ((env.set i .no).set j .no) σ m p),
      fun σ'' H'' q => ⟨2 - (t + 1), by omega, rfl, by omega, q⟩, fun xv H3 yl => ?_⟩
    obtain ⟨rfl, yl⟩ := yl
    have := yl _ hqT
    rw [hv] at this; cases this
    have hkl : k < σ'.length := by
      rcases Nat.lt_or_ge k σ'.length with z | z
      · exact z
      · exfalso
        unfold Free at fk
        rw [List.getElem?_eq_none (by rw [← I.len, ← hl]; exact z)] at fk
        exact fk
    have sk : (σ'.set k (some v))[k]? = some (some v) := List.getElem?_set_self hkl
    have hl' : (σ'.set k (some v)).length = σ.length := by rw [List.length_set]; exact hl
    have hsame' : ∀ n, n ≠ k → (σ'.set k (some v))[n]? = σ[n]? := fun n q => by rw [List.getElem?_set_ne (Ne.symm q)]; exact hsame n q
    have fE : Free E2 k := by
      have hkE : k < ((env.set i .no).set j .no).length := by rw [List.length_set, List.length_set, ← I.len, ← hl]; exact hkl
      show Free (((env.set i .no).set j .no).set k .no) k
      unfold Free
      rw [List.getElem?_set_self hkE]
      trivial
    have eE : E2.set k .no = E2 := by
      show (((env.set i .no).set j .no).set k .no).set k .no = _
      rw [List.set_set]
    have J' : Ok X.K C (upd F T (.tup [v1, v2])) E2 (σ'.set k (some v)) H3 := by
      have := J.drop (σ' := σ'.set k (some v)) fE (by rw [List.length_set]) fun n q => by rw [List.getElem?_set_ne (Ne.symm q)]
      rwa [eE] at this
    refine ⟨v, sk, Or.inl ⟨rfl, _, rfl, ?_⟩⟩
    rcases late v hor with rfl | ⟨p, vs, rfl, g1, g2, g3, g4, g5⟩
    · refine ⟨hl', hsame', J', fun u hu => ?_⟩
      rcases late u hu with z | ⟨p, vs, e, g1, g2, g3⟩
      · exact Or.inl z
      · exact Or.inr ⟨p, vs, e, g1, by omega, g3⟩
    · refine ⟨.ref p, sk, Or.inl ⟨rfl, _, sq_of g1⟩, p, vs, .str s, rfl, rfl, g1, sz_lt (by omega), ?_⟩
      refine ⟨hl', hsame', J'.poke g1 g3 g4 fun n q => g5 n (ownk _ n p hsame' q), fun u hu => ?_⟩
      rcases late u hu with z | ⟨p', vs', e, q1, q2, q3⟩
      · exact Or.inl z
      · by_cases q : p' = p
        · subst q
          rw [g1] at q1; cases q1
          exact Or.inr ⟨p', _, e, upd_same, by rw [List.length_append]; simp; omega, q3⟩
        · exact Or.inr ⟨p', vs', e, by rw [upd_ne q]; exact q1, by omega, q3⟩
  · have : t = 2 := by omega
    subst this
    exact Or.inl ⟨⟨[v1, v2], hqT, Nat.le_refl 2⟩, kn.nx _ E2 σ' H' J h⟩
@[simp] def mSetX (j : Nat) (a : DM) : DStm := fun P env => a env fun x e => putR j x e P.nx
theorem ds_setX {j : Nat} {x : Str} {e : Expr} {m : DM} {pos' : Pos} (hN : X.N.Nodup) (hi : X.N[j]? = some x) (hx : Loc X.env.scope x) (h : DE X e m) (hs : swapsWith e (some (.Name x pos')) pos.line X.env = pure false := by rfl) (hf : X.fn x = true ∨ X.env.scope.names.lookup x = some .local := by first | exact .inl rfl | exact .inr rfl | assumption) :
    DS X (.Assign [.Name x pos'] e pos) (mSetX j m) := by
  obtain ⟨t, p, ev⟩ := h
  refine ⟨_, ps_set hN hi hx p hs hf, ?_⟩
  intro C F env σ H D P I h k
  refine ev C F env σ H _ _ I h ?_
  intro l e1 F1 v H1 h1 A1 r1
  obtain ⟨e2, h2, I2, _⟩ := ok_put (H0 := H) (w := .non) A1.ok r1 h1
  exact k.nx F1 e2 _ H1 I2 h2
end
end DL

set_option Elab.async false
set_option linter.all false
set_option maxRecDepth 100000
set_option maxHeartbeats 4000000
set_option autoImplicit false
/-! DL18: how readings are walked: one obligation at a time; loops and comprehensions by invariants. -/
namespace DL
open PySem L2

theorem ex_i {α : Type} {a : Option α} {y : α} {K : α → Prop} (h : a = some y) (k : K y) : ∃ y, a = some y ∧ K y := ⟨y, h, k⟩
theorem an_i {a b : Prop} (h : a) (k : b) : a ∧ b := ⟨h, k⟩
theorem ite_i {c : Prop} [Decidable c] {a b : Prop} (h1 : c → a) (h2 : ¬ c → b) : ite c a b := by
  split
  · exact h1 ‹_›
  · exact h2 ‹_›
theorem ite_t {c : Prop} [Decidable c] {a b : Prop} (h : c) (h1 : a) : ite c a b := by rw [if_pos h]; exact h1
theorem ite_f {c : Prop} [Decidable c] {a b : Prop} (h : ¬ c) (h1 : b) : ite c a b := by rw [if_neg h]; exact h1

def cStep (g : DTg) (tt : DMB) (me : DM) (vs : List Nat) (env : List Slot) (x : D) (K : Option D → List Slot → Prop) : Prop :=
  g x (wipeE env vs) fun e => tt e fun b e2 => if b = true then me e2 fun y e3 => y.get e3 fun d => K (some d) (unwipe env e3 vs) else K none (unwipe env e2 vs)
theorem compW_inv {hold : Holds} {g : DTg} {tt : DMB} {me : DM} {vs : List Nat} {R : List D → List Slot → Prop} (I : Nat → List D → List Slot → Prop) : ∀ (items : List D) (i : Nat) (acc : List D) (env : List Slot),
    I i acc env → (∀ j acc env, I j acc env → holdE hold env ∧ acc.length < 100000) →
    (∀ j x acc env, items[j]? = some x → I (i + j) acc env → ∀ K : Option D → List Slot → Prop, (∀ o e, I (i + j + 1) (acc ++ o.toList) e → K o e) → cStep g tt me vs env x K) →
    (∀ acc env, I (i + items.length) acc env → R acc env) → compW hold g tt me vs items acc env R
  | [], i, acc, env, h, hh, st, fin => ⟨(hh _ _ _ h).1, fin _ _ h⟩
  | x :: xs, i, acc, env, h, hh, st, fin => by
    refine ⟨(hh _ _ _ h).1, ?_⟩
    have ih : ∀ acc env, I (i + 1) acc env → compW hold g tt me vs xs acc env R := fun acc env h' => by
      refine compW_inv I xs (i + 1) acc env h' hh (fun j x acc env e q => ?_) (fun acc env q => fin acc env (by rw [List.length_cons]; rwa [show i + (xs.length + 1) = i + 1 + xs.length by omega]))
      rw [show i + 1 + j = i + (j + 1) by omega] at q ⊢
      exact st (j + 1) x acc env (by simpa using e) q
    exact st 0 x acc env rfl h (fun o e => match o with
      | some d => acc.length < 100000 ∧ compW hold g tt me vs xs (acc ++ [d]) e R
      | none => compW hold g tt me vs xs acc e R) (fun o e q => by
        cases o with
        | some d => exact ⟨(hh _ _ _ h).2, ih _ _ q⟩
        | none => exact ih _ _ (by simpa using q))
theorem compW_pure {hold : Holds} {g : DTg} {tt : DMB} {me : DM} {vs : List Nat} {R : List D → List Slot → Prop} {env : List Slot} (f : D → Option D) (hh : holdE hold env) : ∀ (items acc : List D), acc.length + items.length ≤ 100000 →
    (∀ x ∈ items, ∀ K : Option D → List Slot → Prop, K (f x) env → cStep g tt me vs env x K) → R (acc ++ items.filterMap f) env → compW hold g tt me vs items acc env R
  | [], acc, hl, st, fin => ⟨hh, by simpa using fin⟩
  | x :: xs, acc, hl, st, fin => by
    rw [List.length_cons] at hl
    refine ⟨hh, st x (by simp) (fun o e => match o with
      | some d => acc.length < 100000 ∧ compW hold g tt me vs xs (acc ++ [d]) e R
      | none => compW hold g tt me vs xs acc e R) ?_⟩
    cases q : f x with
    | some d =>
      exact ⟨by omega, compW_pure f hh xs (acc ++ [d]) (by simp; omega) (fun y m => st y (List.mem_cons_of_mem _ m)) (by simpa [q, List.filterMap_cons] using fin)⟩
    | none => exact compW_pure f hh xs acc (by omega) (fun y m => st y (List.mem_cons_of_mem _ m)) (by simpa [q, List.filterMap_cons] using fin)
theorem forW_inv {hold : Holds} {g : DTg} {mb : DStm} {P : Post} (I : Nat → List Slot → Prop) : ∀ (items : List D) (i : Nat) (env : List Slot),
    I i env → (∀ j env, I j env → pinE hold env) →
    (∀ j x env, items[j]? = some x → I (i + j) env → ∀ N : List Slot → Prop, (∀ e, I (i + j + 1) e → N e) → g x env fun e => mb { P with nx := N, ct := N, bk := P.nx } e) →
    (∀ env, I (i + items.length) env → P.nx env) → forW hold g mb P items env
  | [], i, env, h, hh, st, fin => ⟨hh _ _ h, fin _ h⟩
  | x :: xs, i, env, h, hh, st, fin => by
    refine ⟨hh _ _ h, st 0 x env rfl h _ fun e q => ?_⟩
    refine forW_inv I xs (i + 1) e q hh (fun j x env ee qq => ?_) (fun env qq => fin env (by rw [List.length_cons]; rwa [show i + (xs.length + 1) = i + 1 + xs.length by omega]))
    rw [show i + 1 + j = i + (j + 1) by omega] at qq ⊢
    exact st (j + 1) x env (by simpa using ee) qq
theorem while_inv {t : DMB} {mb : DStm} {P : Post} (I : Nat → List Slot → Prop)
    (st : ∀ n env, I n env → ∀ N : List Slot → Prop, (∀ m e, m < n → I m e → N e) → t env fun b e => if b = true then mb { P with nx := N, ct := N, bk := P.nx } e else P.nx e) :
    ∀ (n : Nat) (env : List Slot), I n env → whN t mb (n + 1) P env := by
  have mono : True := trivial
  have key : ∀ (k n : Nat) (env : List Slot), n ≤ k → I n env → ∀ f, k < f → whN t mb f P env := by
    intro k
    induction k with
    | zero =>
      intro n env hn h f hf
      cases f with
      | zero => omega
      | succ f => exact st n env h _ fun m e hm q => by omega
    | succ k ih =>
      intro n env hn h f hf
      cases f with
      | zero => omega
      | succ f => exact st n env h _ fun m e hm q => ih m e (by omega) q f (by omega)
  exact fun n env h => key n n env (Nat.le_refl _) h (n + 1) (Nat.lt_succ_self _)
theorem while_i {t : DMB} {mb : DStm} {P : Post} {env : List Slot} (n : Nat) (h : whN t mb n P env) : mWhile t mb P env := mWhile_iff.mpr ⟨n, h⟩
theorem compI_range {hold : Holds} {g : DTg} {tt : DMB} {me : DM} {vs : List Nat} {R : List D → List Slot → Prop} {env : List Slot} {n : Nat} (f : Nat → Option D) (hh : holdE hold env) (hn : n ≤ 100000)
    (st : ∀ k, k < n → ∀ K : Option D → List Slot → Prop, K (f k) env → cStep g tt me vs env (.int (k : Int)) K) (fin : R ((List.range n).filterMap f) env) : compI hold g tt me vs (rangeD 0 n) [] env R := by
  rw [compI_iff]
  let f' : D → Option D := fun d => match d with
    | .int i => f i.toNat
    | _ => none
  have e : (rangeD 0 n).filterMap f' = (List.range n).filterMap f := by
    unfold rangeD
    rw [List.filterMap_map]
    refine congrFun (congrArg _ (funext fun k => ?_)) _
    show f (0 + (k : Int)).toNat = f k
    rw [Int.zero_add]; rfl
  refine compW_pure f' hh _ [] (by simp [rangeD]; exact hn) (fun x hx K hK => ?_) (by rw [e]; exact fin)
  obtain ⟨k, hk, rfl⟩ := List.mem_map.mp hx
  rw [Int.zero_add] at hK ⊢
  exact st k (List.mem_range.mp hk) K hK
theorem compI_list {hold : Holds} {g : DTg} {tt : DMB} {me : DM} {vs : List Nat} {R : List D → List Slot → Prop} {env : List Slot} {items : List D} (f : D → Option D) (hh : holdE hold env) (hn : items.length ≤ 100000)
    (st : ∀ x ∈ items, ∀ K : Option D → List Slot → Prop, K (f x) env → cStep g tt me vs env x K) (fin : R (items.filterMap f) env) : compI hold g tt me vs items [] env R := by
  rw [compI_iff]
  exact compW_pure f hh items [] (by simpa using hn) st (by simpa using fin)
theorem compI_inv {hold : Holds} {g : DTg} {tt : DMB} {me : DM} {vs : List Nat} {R : List D → List Slot → Prop} {env : List Slot} {items : List D} (I : Nat → List D → List Slot → Prop) (h : I 0 [] env) (hh : ∀ j acc env, I j acc env → holdE hold env ∧ acc.length < 100000)
    (st : ∀ j x acc env, items[j]? = some x → I j acc env → ∀ K : Option D → List Slot → Prop, (∀ o e, I (j + 1) (acc ++ o.toList) e → K o e) → cStep g tt me vs env x K)
    (fin : ∀ acc env, I items.length acc env → R acc env) : compI hold g tt me vs items [] env R := by
  rw [compI_iff]
  refine compW_inv I items 0 [] env h hh (fun j x acc env e q => ?_) (fun acc env q => fin acc env (by rwa [Nat.zero_add] at q))
  rw [Nat.zero_add] at q ⊢
  exact st j x acc env e q
theorem forI_inv {hold : Holds} {g : DTg} {mb : DStm} {P : Post} {items : List D} {env : List Slot} (I : Nat → List Slot → Prop) (h : I 0 env) (hh : ∀ j env, I j env → pinE hold env)
    (st : ∀ j x env, items[j]? = some x → I j env → ∀ N : List Slot → Prop, (∀ e, I (j + 1) e → N e) → g x env fun e => mb { P with nx := N, ct := N, bk := P.nx } e)
    (fin : ∀ env, I items.length env → P.nx env) : forI hold g mb P items env := by
  rw [forI_iff]
  refine forW_inv I items 0 env h hh (fun j x env e q => ?_) (fun env q => fin env (by rwa [Nat.zero_add] at q))
  rw [Nat.zero_add] at q ⊢
  exact st j x env e q
theorem nodup_range_map {α : Type} {f : Nat → α} {n : Nat} (h : ∀ i j, i < n → j < n → f i = f j → i = j) : ((List.range n).map f).Nodup := by
  unfold List.Nodup
  rw [List.pairwise_map]
  exact (List.nodup_range (n := n)).imp_of_mem fun ha hb hne e => hne (h _ _ (List.mem_range.mp ha) (List.mem_range.mp hb) e)
theorem compI_rangeE {hold : Holds} {g : DTg} {tt : DMB} {me : DM} {vs : List Nat} {R : List D → List Slot → Prop} {env : List Slot} {items : List D} {n : Nat} (f : Nat → Option D) (he : items = rangeD 0 n) (hh : holdE hold env) (hn : n ≤ 100000)
    (st : ∀ k, k < n → ∀ K : Option D → List Slot → Prop, K (f k) env → cStep g tt me vs env (.int (k : Int)) K) (fin : R ((List.range n).filterMap f) env) : compI hold g tt me vs items [] env R := by
  subst he
  exact compI_range f hh hn st fin
theorem forI_invE {hold : Holds} {g : DTg} {mb : DStm} {P : Post} {items items' : List D} {env : List Slot} (he : items = items') (I : Nat → List Slot → Prop) (h : I 0 env) (hh : ∀ j env, I j env → pinE hold env)
    (st : ∀ j x env, items'[j]? = some x → I j env → ∀ N : List Slot → Prop, (∀ e, I (j + 1) e → N e) → g x env fun e => mb { P with nx := N, ct := N, bk := P.nx } e)
    (fin : ∀ env, I items'.length env → P.nx env) : forI hold g mb P items env := by
  subst he
  exact forI_inv I h hh st fin
theorem rangeD_get {lo : Int} {n j : Nat} {x : D} (h : (rangeD lo n)[j]? = some x) : j < n ∧ x = .int (lo + (j : Int)) := by
  unfold rangeD at h
  rw [List.getElem?_map] at h
  obtain ⟨k, hk, rfl⟩ := Option.map_eq_some_iff.mp h
  have hj : j < n := by
    rcases Nat.lt_or_ge j n with z | z
    · exact z
    · rw [List.getElem?_eq_none (by simpa using z)] at hk; cases hk
  rw [List.getElem?_range hj] at hk
  cases hk
  exact ⟨hj, rfl⟩
theorem rangeD_len (lo : Int) (n : Nat) : (rangeD lo n).length = n := by simp [rangeD]
end DL

set_option Elab.async false
set_option linter.all false
set_option maxRecDepth 100000
set_option maxHeartbeats 4000000
set_option autoImplicit false
/-! X1: own exception classes whose __init__ is B.__init__(self, text); self.f = e, B an own class over ValueError. -/
namespace DL
open PySem PySem.Spec L2 Evl PyProof.Rows

def veB (K : PySem.W.Frag) (C : Addr) : Bool := match K.lookup C with
  | some ⟨.type "type", _, .cls cd, sl⟩ => (match cd.mro, sl.toList with
    | .ref C' :: bm, [_, _, _, _, some (.builtin n), _] => C' == C && (n == "ValueError.__new__" && (cd.hasDict && (!cd.hasDel && HandSPX.refsVE bm)))
    | _, _ => false)
  | _ => false
theorem veB_ok {K : PySem.W.Frag} {C : Addr} (h : veB K C = true) : ∃ nm q N bs bm sn sub ab col dd k0 k1 k2 k3 k5, K.lookup C = some (excClassObj nm q C N bs bm true sn sub ab col dd k0 k1 k2 k3 k5 "ValueError.__new__") ∧ HandSPX.refsVE bm = true := by
  unfold veB at h
  split at h
  · rename_i dd cd sl ho
    split at h
    · rename_i C' bm k0 k1 k2 k3 n k5 hm hs
      rw [Bool.and_eq_true, Bool.and_eq_true, Bool.and_eq_true, Bool.and_eq_true, beq_iff_eq, beq_iff_eq, Bool.not_eq_true'] at h
      obtain ⟨e1, e2, e3, e4, e5⟩ := h
      cases cd with
      | mk nm bs mro N q hd sn sub ab col del =>
        cases sl with
        | mk l =>
          have hm' : mro = .ref C' :: bm := hm
          have hs' : l = [k0, k1, k2, k3, some (.builtin n), k5] := hs
          have e3' : hd = true := e3
          have e4' : del = false := e4
          subst e1; subst e2; subst hm'; subst hs'; subst e3'; subst e4'
          exact ⟨nm, q, N, bs, bm, sn, sub, ab, col, dd, k0, k1, k2, k3, k5, ho, e5⟩
    · exact absurd h Bool.false_ne_true
  · exact absurd h Bool.false_ne_true
structure XBase (K : PySem.W.Frag) (Ba : Addr) : Prop where
  rd : PySem.W.readsIn K Ba (.type "type") = true
  ga : PySem.W.specialIn K (.ref Ba) "__getattribute__" = some (some (.builtin "type.__getattribute__"))
  at_ : PySem.W.findCls K (.ref Ba) (.type "type") "__init__" = some (.val (.builtin "ValueError.__init__"))
section
variable {X : Cx} {e : Expr} {es : List Expr} {ta : TA} {x : Str} {p1 p2 pos : Pos} {Ba : Addr}
theorem pe_xinit (hb : XBase X.K Ba) (hg : Gl X x) (hm : X.mg x = some (.ref Ba)) (ha : PA X (e :: es) ta) (hdb : (x == ("__debug__" : Str)) = false := by decide) {pl : Sem Bool}
    (hc : eval (.Call (.Attribute (.Name x p1) "__init__" p2) (e :: es) [] pos) X.env = (do
      let ov ← eval (.Name x p1) X.env
      standAt p2.atName
      let (f, first) ← holding [ov] (getMethod ov "__init__" pl)
      callWith pos f first (backTo pos (starEach (e :: es) X.env)) (backToKw pos (keywordEach [] X.env))) := by rfl)
    (he : starEach (e :: es) X.env = (false, eval e X.env) :: starEach es X.env := by rfl) (hpl : (backTo pos (starEach es X.env)).any (·.1) = false := by rfl) :
    PE X (.Call (.Attribute (.Name x p1) "__init__" p2) (e :: es) [] pos) (tVeI X.K ta) := by
  constructor
  intro pins s σ H Q I h
  apply PySem.W.methodCall_KW (ld_glob I hg hm _ hdb) hc
  apply PySem.W.method_cls I.kIn hb.ga
  apply PySem.W.cls_value I.kIn hb.rd hb.at_ (by decide +kernel)
  refine PyProof.Rows.callWith_method1 (thn (ha.run pos pins _ σ H _ (I.tok _) h) ?_) he hpl
  rintro us s1 ⟨vs, H1, I1, r1, a, C, ws, ev, hl, T, ea, q⟩
  subst ev
  obtain ⟨u0, ur, rfl, ra, rw'⟩ : ∃ u0 ur, us = u0 :: ur ∧ RelV (.ref a) u0 ∧ Vals ws ur := by
    cases r1 with
    | cons ra rw' => exact ⟨_, _, rfl, ra, rw'⟩
  have eu : u0 = Value.ref a := ra
  subst eu
  have hn : ur.length ≤ sizeLine := by
    have := Paired.length rw'
    have z := sizeLine_eq
    omega
  exact oinit_ok T I1 ea hn fun s' J => ⟨.non, H1, J, rfl, q⟩
end

def spXi (K : PySem.W.Frag) (C : Addr) (f : Str) : Sp := fun vs H Q _ => ∃ (a : Addr) (v : V), vs = [.ref a, v] ∧ OexC K C ∧ PySem.W.findIn K (.ref C) f = some none ∧ H a = some (exo a C none) ∧
  ∀ d, H d = none → d ≠ a → Q .non (upd (upd H d (exd d [(f, v)])) a (exo a C (some d)))
section
variable {P : Program} {w : World} {K : PySem.W.Frag} {mg : Str → Option Value} {base : Heap}
theorem xinit_fn {qual p f m : Str} {st : Stmt} {fI C : Addr} {fd : FuncData} (F : Fun K "__init__" qual st fI fd) (S : FnScope ["self", p] ["self", p] (defScope st))
    (hbody : ∀ (cdv : Value) (A : Around) (outer : List PySem.Env) (s : Shared) (H : Hp) (E : XK),
      PSs (cxOf (L2.CX P w) P w K mg base ["self", p] qual (defScope st) fI cdv A outer s H E) (defBody st) (tSeq (tDrop (tVeI K (tCons (tVar 0) (tCons (tC (.str m)) tNil)))) (tOst K f (tVar 0) (tVar 1)))) :
    FnOk P w K mg base (L2.CX P w) 1 fI fd ["self", p] (spXi K C f) := by
  refine Fun.okX F S ?_ ?_
  · rintro vs H Q E ⟨a, v, rfl, _⟩; rfl
  · rintro cdv A outer s H vs Q E hr ⟨a, v, rfl, T, hno, ea, h⟩
    refine ⟨_, hbody cdv A outer s H E, ?_⟩
    refine ⟨.ref a, rfl, ?_⟩
    refine ⟨a, C, [.str m], rfl, Nat.le_of_ble_eq_true rfl, T, ea, ?_⟩
    refine ⟨v, rfl, .ref a, rfl, a, C, rfl, T, hno, Or.inl ⟨ea, fun d hd ne => ?_⟩⟩
    exact h d hd ne
end
def tMk1 (C : Addr) (f : Str) (t : TE) : L2.St → Hp → XK → Prop := fun σ H Q => t σ H fun v H1 => ∀ dx, H1 dx = none → Q (.ref C) (some dx) (upd H1 dx (.xd [(f, v)]))
structure XCl (P : Program) (w : World) (K : PySem.W.Frag) (mg : Str → Option Value) (base : Heap) (x f : Str) (C : Addr) : Prop where
  hm : mg x = some (.ref C)
  xf : XfC K C
  no : PySem.W.findIn K (.ref C) f = some none
  made : ∀ (X : Cx) (e : Expr) (m : DM) (p pos : Pos), X.prog = P → X.w = w → X.K = K → X.mg = mg → X.base = base → Room 2 X.A → Gl X x → PE X e (TD K m) → starEach (e :: []) X.env = (false, eval e X.env) :: starEach [] X.env → PMk X (.Call (.Name x p) [e] [] pos) (tMk1 C f (TD K m))
theorem exo_out {H : Hp} {a dx C : Addr} {f : Str} {v : V} (ha : H a = none) (hd : H dx = none) (ne : dx ≠ a) :
    upd (L2.del (upd (upd (upd H a (exo a C none)) dx (exd dx [(f, v)])) a (exo a C (some dx))) a) dx (.xd [(f, v)]) = upd H dx (.xd [(f, v)]) := by
  funext b
  by_cases h1 : b = dx
  · subst h1; rw [upd_same, upd_same]
  · rw [upd_ne h1, upd_ne h1]
    by_cases h2 : b = a
    · subst h2; rw [del_same, ha]
    · rw [del_ne h2, upd_ne h2, upd_ne h1, upd_ne h2]
theorem td_mono {K : PySem.W.Frag} {m : DM} {σ : L2.St} {H : Hp} {Q Q' : VK} (h : ∀ v H1, Q v H1 → Q' v H1) (q : TD K m σ H Q) : TD K m σ H Q' := by
  obtain ⟨C, F, env, R, h1, h2, h3⟩ := q
  exact ⟨C, F, env, R, h1, h2, fun l env' F' v H' a b c => h v H' (h3 l env' F' v H' a b c)⟩
theorem xcl_VE {P : Program} {w : World} {K : PySem.W.Frag} {mg : Str → Option Value} {base : Heap} {x f p : Str} {C fI : Addr} {fd : FuncData} (hm : mg x = some (.ref C)) (T : OexC K C) (xf : XfC K C) (no : PySem.W.findIn K (.ref C) f = some none) (iC : PySem.W.findIn K (.ref C) "__init__" = some (some (.ref fI)))
    (tI : PySem.W.typeIn K (.ref fI) = some (.type "function")) (F1 : FnOk P w K mg base (L2.CX P w) 1 fI fd ["self", p] (spXi K C f)) (hb : Binds K fd ["self", p] []) (hdb : (x == ("__debug__" : Str)) = false) : XCl P w K mg base x f C := by
  refine ⟨hm, xf, no, ?_⟩
  rintro X e m px pos rfl rfl rfl rfl rfl hr hg pe he pins s σ H Q I h
  refine pmk_oex T iC tI F1 hr hb .nil passL hg hm (pa_cons pe pa_nil he) hdb he rfl pins s σ H Q I ?_
  refine td_mono (fun v H1 q => ?_) h
  refine ⟨by show 1 ≤ 1000; decide, fun a ha => ⟨a, v, rfl, T, no, upd_same, fun dx hd ne => ?_⟩⟩
  have hd1 : H1 dx = none := by rw [upd_ne ne] at hd; exact hd
  refine ⟨rfl, dx, [(f, v)], upd_same, ?_, hd1, ?_⟩
  · rw [upd_ne ne, upd_same]
  · rw [exo_out ha hd1 ne]
    exact q dx hd1
end DL

set_option Elab.async false
set_option linter.all false
set_option maxRecDepth 100000
set_option maxHeartbeats 4000000
set_option autoImplicit false
/-! X2: defs that may raise, over data. An exception is told by the number of its class (cm: the classes' values) and its fields. -/
namespace DL
open PySem PySem.Spec L2 Evl PyProof.Rows

abbrev XP := Nat → List (Str × D) → List Slot → Prop
abbrev DSpecX := List Slot → (RV → List Slot → Prop) → XP → Prop
@[simp] def noX (sd : DSpecX) : DSpec := fun args R => sd args R fun _ _ _ => False
structure XOk (K : PySem.W.Frag) (cm : Nat → Value) (F H : Hp) (x : Nat) (fs : List (Str × D)) (cls : Value) (dd : Addr) : Prop where
  cls : cls = cm x
  at_ : ∃ kvs, H dd = some (.xd kvs) ∧ kvs.map (·.1) = fs.map (·.1) ∧ RepL K F (kvs.map (·.2)) (fs.map (·.2))
  new : F dd = none
def spX (K : PySem.W.Frag) (cm : Nat → Value) (sd : DSpecX) : Sp := fun vs H Q E => ∃ F args R RX, ArgsOk K F args vs H ∧ (∀ (i : Nat) (d : D), args[i]? ≠ some (.own false d)) ∧ sd args R RX ∧
  (∀ r args' F' v H', R r args' → Done K F args vs H r args' F' v H' → Q v H') ∧
  ∀ x fs args' F' H' cls dd, RX x fs args' → Done K F args vs H (.vl .non) args' F' .non H' → XOk K cm F' H' x fs cls dd → H dd = none → E cls (some dd) H'
structure ConnX (K : PySem.W.Frag) (cm : Nat → Value) (W : WX) (C : Ct) (PX : XP) : Prop where
  go : ∀ F env σ H x fs cls dd, Ok K C F env σ H → XOk K cm F H x fs cls dd → C.G dd = none → (∀ i, ¬ Owns env σ i dd) → PX x fs env → W cls (some dd) σ H
def EvSx (K : PySem.W.Frag) (cm : Nat → Value) (W : WX) (m : DStm) (t : TS) : Prop := ∀ C F env σ H D P, Ok K C F env σ H → m P env → Conn K C D P → ConnX K cm W C P.ex → t D σ H
def DSx (X : Cx) (cm : Nat → Value) (st : Stmt) (m : DStm) : Prop := ∀ W, Takes X W → ∃ t, PS X st t ∧ EvSx X.K cm W m t
def DBx (X : Cx) (cm : Nat → Value) (sts : List Stmt) (m : DStm) : Prop := ∀ W, Takes X W → ∃ t, PSs X sts t ∧ EvSx X.K cm W m t
def EvDx (K : PySem.W.Frag) (cm : Nat → Value) (W : WX) (m : XP → DM) (t : TE) : Prop := ∀ C F env σ H (PX : XP) R Q, Ok K C F env σ H → m PX env R → ConnX K cm W C PX →
  (∀ l env' F' v H', R l env' → Aft K C F env σ H F' env' H' → RVOk K C F' env' σ H H' v l → Q v H') → t σ H Q
def DEx (X : Cx) (cm : Nat → Value) (e : Expr) (m : XP → DM) : Prop := ∀ W, Takes X W → ∃ t, PE X e t ∧ EvDx X.K cm W m t
section
variable {X : Cx} {cm : Nat → Value} {pos : Pos}
theorem dsx_of {st : Stmt} {m : DStm} (h : DS X st m) : DSx X cm st m := fun W _ => by
  obtain ⟨t, p, e⟩ := h
  exact ⟨t, p, fun C F env σ H D P I hm k _ => e C F env σ H D P I hm k⟩
theorem dbx_of {st : List Stmt} {m : DStm} (h : DB X st m) : DBx X cm st m := fun W _ => by
  obtain ⟨t, p, e⟩ := h
  exact ⟨t, p, fun C F env σ H D P I hm k _ => e C F env σ H D P I hm k⟩
theorem dex_of {e : Expr} {m : DM} (h : DE X e m) : DEx X cm e (fun _ => m) := fun W _ => by
  obtain ⟨t, p, ev⟩ := h
  exact ⟨t, p, fun C F env σ H PX R Q I hm _ k => ev C F env σ H R Q I hm k⟩
theorem dbx_nil : DBx X cm [] mSkip := dbx_of db_nil
theorem dbx_cons {st : Stmt} {rest : List Stmt} {a b : DStm} (ha : DSx X cm st a) (hb : DBx X cm rest b) : DBx X cm (st :: rest) (mSeq a b) := fun W tk => by
  obtain ⟨t, p, ea⟩ := ha W tk
  obtain ⟨u, q, eb⟩ := hb W tk
  refine ⟨_, pss_cons p q, ?_⟩
  intro C F env σ H D P I h k kx
  exact ea C F env σ H { D with nx := u D } { P with nx := b P } I h ⟨fun F env σ H I h => eb C F env σ H D P I h k kx, k.bk, k.ct, k.rt, k.r2⟩ kx
theorem dbx_one {st : Stmt} {a : DStm} (ha : DSx X cm st a) : DBx X cm [st] a := fun W tk => by
  obtain ⟨t, p, ea⟩ := ha W tk
  exact ⟨_, pss_one p, ea⟩
theorem dsx_frz (i : Nat) {st : Stmt} {a : DStm} (ha : DSx X cm st a) : DSx X cm st (mFrz i a) := fun W tk => by
  obtain ⟨t, p, ea⟩ := ha W tk
  refine ⟨t, p, ?_⟩
  intro C F env σ H D P I h k kx
  obtain ⟨F', _, I'⟩ := I.freeze i
  exact ea C F' _ σ H D P I' h k kx
theorem dsx_if {c : Expr} {a b : List Stmt} {t : DMB} {m1 m2 : DStm} (hc : DT X c t) (ha : DBx X cm a m1) (hb : DBx X cm b m2) : DSx X cm (.If c a b pos) (mIfS t m1 m2) := fun W tk => by
  obtain ⟨tc, pc, ec⟩ := hc
  obtain ⟨ta, pa, ea⟩ := ha W tk
  obtain ⟨tb, pb, eb⟩ := hb W tk
  refine ⟨_, ps_if pc pa pb, ?_⟩
  intro C F env σ H D P I h k kx
  refine ec C F env σ H _ _ I h ?_
  intro x e1 F1 H1 h1 A1
  cases x with
  | true =>
    have h1' : m1 P e1 := by simpa using h1
    show (if true = true then ta D σ H1 else tb D σ H1)
    rw [if_pos rfl]
    exact ea C F1 e1 σ H1 D P A1.ok h1' k kx
  | false =>
    have h1' : m2 P e1 := by simpa using h1
    show (if false = true then ta D σ H1 else tb D σ H1)
    rw [if_neg Bool.false_ne_true]
    exact eb C F1 e1 σ H1 D P A1.ok h1' k kx
@[simp] def wX (k : DM → DStm) (m : XP → DM) : DStm := fun P env => k (m P.ex) P env
theorem dsx_expr {e : Expr} {m : XP → DM} (h : DEx X cm e m) (hs : swapsWith e none pos.line X.env = pure false := by rfl) : DSx X cm (.Expr e pos) (wX mDrop m) := fun W tk => by
  obtain ⟨t, p, ev⟩ := h W tk
  refine ⟨_, ps_expr p hs, ?_⟩
  intro C F env σ H D P I h k kx
  exact ev C F env σ H P.ex _ _ I h kx fun l e1 F1 v H1 h1 A1 r1 => k.nx F1 e1 σ H1 A1.ok h1
theorem dsx_set {j : Nat} {x : Str} {e : Expr} {m : XP → DM} {pos' : Pos} (hN : X.N.Nodup) (hi : X.N[j]? = some x) (hx : Loc X.env.scope x) (h : DEx X cm e m) (hs : swapsWith e (some (.Name x pos')) pos.line X.env = pure false := by rfl) (hf : X.fn x = true ∨ X.env.scope.names.lookup x = some .local := by first | exact .inl rfl | exact .inr rfl | assumption) :
    DSx X cm (.Assign [.Name x pos'] e pos) (wX (mSet j) m) := fun W tk => by
  obtain ⟨t, p, ev⟩ := h W tk
  refine ⟨_, ps_set hN hi hx p hs hf, ?_⟩
  intro C F env σ H D P I h k kx
  refine ev C F env σ H P.ex _ _ I h kx ?_
  intro l e1 F1 v H1 h1 A1 r1
  obtain ⟨F2, d, h2, A2, ex, rp⟩ := A1.keepIt r1 h1
  exact k.nx F2 _ _ H1 (A2.ok.setVal h2.1 rp) h2.2
theorem dsx_setO {j : Nat} {x : Str} {e : Expr} {m : XP → DM} {pos' : Pos} (hN : X.N.Nodup) (hi : X.N[j]? = some x) (hx : Loc X.env.scope x) (h : DEx X cm e m) (hs : swapsWith e (some (.Name x pos')) pos.line X.env = pure false := by rfl) (hf : X.fn x = true ∨ X.env.scope.names.lookup x = some .local := by first | exact .inl rfl | exact .inr rfl | assumption) :
    DSx X cm (.Assign [.Name x pos'] e pos) (wX (mSetO j) m) := fun W tk => by
  obtain ⟨t, p, ev⟩ := h W tk
  refine ⟨_, ps_set hN hi hx p hs hf, ?_⟩
  intro C F env σ H D P I h k kx
  refine ev C F env σ H P.ex _ _ I h kx ?_
  intro l e1 F1 v H1 h1 A1 r1
  cases l with
  | tm d =>
    obtain ⟨p, o, rfl, g1, g2, g3, g4, g5, g6⟩ := r1
    exact k.nx F1 _ _ H1 (A1.ok.setOwn h1.1 g1 g2 g3 g4 g5) h1.2
  | _ => exact h1.elim
theorem dsx_ret {e : Expr} {m : XP → DM} (h : DEx X cm e m) : DSx X cm (.Return (some e) pos) (wX mRet m) := fun W tk => by
  obtain ⟨t, p, ev⟩ := h W tk
  refine ⟨_, ps_ret p, ?_⟩
  intro C F env σ H D P I h k kx
  refine ev C F env σ H P.ex _ _ I h kx ?_
  intro l e1 F1 v H1 h1 A1 r1
  cases l with
  | vl d => exact k.rt F1 e1 σ H1 v (.vl d) A1.ok r1 h1
  | tm d =>
    obtain ⟨p, o, g0, g1, g2, g3, g4, g5, g6⟩ := r1
    exact k.rt F1 e1 σ H1 v (.tm d) A1.ok ⟨p, o, g0, g1, g2, g3, g4⟩ h1
  | sl i =>
    have h1' : (match e1[i]? with | some (.val d) => P.rt (.vl d) e1 | some (.own false d) => P.rt (.tm d) e1 | _ => False) := h1
    have r1' : σ[i]? = some (some v) := r1
    split at h1'
    · rename_i d e
      obtain ⟨w, q1, q2⟩ := A1.ok.vals i d e
      rw [r1'] at q1; cases q1
      exact k.rt F1 e1 σ H1 v (.vl d) A1.ok q2 h1'
    · rename_i d e
      obtain ⟨q, o, q1, q2, q3, q4, q5, _⟩ := A1.ok.owns i false d e
      rw [r1'] at q1; cases q1
      exact k.rt F1 e1 σ H1 _ (.tm d) A1.ok ⟨q, o, rfl, q2, q3, q4, q5 rfl⟩ h1'
    · exact h1'.elim
end

/-! ### a call that may raise -/
section
variable {X : Cx} {k : Nat} {f : Addr} {fd : FuncData} {ps ks : List Str} {x : Str} {p pos : Pos} {e : Expr} {es : List Expr} {t tk : TA} {kws : List Keyword} {CX : CXT} {sp : Sp}
theorem run_gS {E : L2.St → XK} {pins : List (Addr × Obj)} {σ : L2.St} {H : Hp} {s : Shared} {Q : VK} {us : List Value} {vs : List V} {args : Args} (F : FnG X.prog X.w X.K X.mg X.base CX k f fd ps sp) (hgd : X.A.guards = some []) (hr : Room k X.A)
    (hb : BindsTo s fd args (ps.zip us)) (hx : PassesAt CX X σ (E σ)) (I : Inv X pins σ H s) (r : Vals vs us) (h : sp vs H Q (E σ)) : wpAny (model X.prog X.w) X.A (call (.ref f) args.pos args.kw) (EP X pins σ Q) X.xe s := by
  apply wpAny_call
  apply codeAny_mono (F.run X.A X.stack s H args us vs Q (E σ) hgd hr I.env0 hb r h)
  intro r s' hq
  match r, hq with
  | .error er, hq => exact hx pins H s er s' I hq
  | .ok (.ret u), hq => exact I.after hq
  | .ok .next, hq => exact False.elim hq
  | .ok .brk, hq => exact False.elim hq
  | .ok .cont, hq => exact False.elim hq
theorem pe_callGS {E : L2.St → XK} (F : FnG X.prog X.w X.K X.mg X.base CX k f fd ps sp) (hgd : X.A.guards = some []) (hr : Room k X.A) (hg : Gl X x) (hm : X.mg x = some (.ref f)) (hk : PySem.W.keepIn X.K (.ref f) = true) (hb : Binds X.K fd ps []) (hx : ∀ σ, PassesAt CX X σ (E σ))
    (ha : PA X (e :: es) t) (hdb : (x == ("__debug__" : Str)) = false := by decide) (he : starEach (e :: es) X.env = (false, eval e X.env) :: starEach es X.env := by rfl) (hpl : (backTo pos (starEach es X.env)).any (·.1) = false := by rfl) :
    PE X (.Call (.Name x p) (e :: es) [] pos) (tCallS sp E t) := by
  constructor
  intro pins s σ H Q I h
  apply wpAny_Call_Name_kw
  apply ld_glob I hg hm _ hdb
  apply PySem.W.callWith_K (h₀ := X.base) I.ok.mod.kin hk _ he hpl
  apply thn (ha.run pos pins s σ H _ I h)
  rintro us s1 ⟨vs, H1, I1, r, q⟩
  refine ⟨I1.kIn, ?_⟩
  have hl : us.length = ps.length := r.length.symm.trans (F.len _ _ _ _ q)
  have b := hb s1 us I1.kIn (by simpa using hl)
  rw [List.append_nil] at b
  exact run_gS (args := ⟨us, []⟩) F hgd hr b (hx σ) I1 r q
def tCallKS (sp : Sp) (gV : List V → List V → List V) (E : L2.St → XK) (t tk : TA) : TE := fun σ H Q => t σ H fun vs H1 => tk σ H1 fun zs H2 => sp (gV vs zs) H2 Q (E σ)
theorem pe_callGKS {E : L2.St → XK} {g : List Value → List Value → List Value} {gV : List V → List V → List V} (F : FnG X.prog X.w X.K X.mg X.base CX k f fd ps sp) (hgd : X.A.guards = some []) (hr : Room k X.A) (hg : Gl X x) (hm : X.mg x = some (.ref f)) (hk : PySem.W.keepIn X.K (.ref f) = true) (hb : KBinds X.K fd ps ks g gV) (hx : ∀ σ, PassesAt CX X σ (E σ))
    (ha : PA X (e :: es) t) (hkw : PK X kws tk) (hall : (backToKw pos (keywordEach kws X.env)).all (·.1.isSome) = true := by rfl) (hks : (backToKw pos (keywordEach kws X.env)).filterMap (·.1) = ks := by rfl)
    (hdb : (x == ("__debug__" : Str)) = false := by decide) (he : starEach (e :: es) X.env = (false, eval e X.env) :: starEach es X.env := by rfl)
    (hpl : ((backTo pos (starEach (e :: es) X.env)).any (·.1) || (backToKw pos (keywordEach kws X.env)).any (·.1.isNone)) = false := by rfl) : PE X (.Call (.Name x p) (e :: es) kws pos) (tCallKS sp gV E t tk) := by
  constructor
  intro pins s σ H Q I h
  apply wpAny_Call_Name_kw
  apply ld_glob I hg hm _ hdb
  apply PySem.W.callWith_KW (h₀ := X.base) I.ok.mod.kin hk hall _ hpl he
  apply thn (ha.run pos pins s σ H _ I h)
  rintro us s1 ⟨vs, H1, I1, r, q⟩
  apply thn (hkw.run pos pins s1 σ H1 _ I1 q)
  rintro ws s2 ⟨zs, H2, I2, rz, q2⟩
  refine ⟨I2.kIn, ?_⟩
  rw [hks]
  have r2 := hb.rel r rz
  have hl : (g us ws).length = ps.length := r2.length.symm.trans (F.len _ _ _ _ q2)
  exact run_gS (args := ⟨us, ks.zip ws⟩) F hgd hr (hb.to s2 us ws I2.kIn hl) (hx σ) I2 r2 q2
theorem pe_callGKS0 {E : L2.St → XK} {g : List Value → List Value → List Value} {gV : List V → List V → List V} (F : FnG X.prog X.w X.K X.mg X.base CX k f fd ps sp) (hgd : X.A.guards = some []) (hr : Room k X.A) (hg : Gl X x) (hm : X.mg x = some (.ref f)) (hk : PySem.W.keepIn X.K (.ref f) = true) (hb : KBinds X.K fd ps ks g gV) (hx : ∀ σ, PassesAt CX X σ (E σ))
    (hkw : PK X kws tk) (hall : (backToKw pos (keywordEach kws X.env)).all (·.1.isSome) = true := by rfl) (hks : (backToKw pos (keywordEach kws X.env)).filterMap (·.1) = ks := by rfl)
    (hdb : (x == ("__debug__" : Str)) = false := by decide) (hpl : ((backTo pos (starEach [] X.env)).any (·.1) || (backToKw pos (keywordEach kws X.env)).any (·.1.isNone)) = false := by rfl) : PE X (.Call (.Name x p) [] kws pos) (tCallKS sp gV E tNil tk) := by
  constructor
  intro pins s σ H Q I h
  apply wpAny_Call_Name_kw
  apply ld_glob I hg hm _ hdb
  apply PySem.W.callWith_KW0 (h₀ := X.base) I.ok.mod.kin hk hall _ hpl
  apply thn (hkw.run pos pins s σ H _ I h)
  rintro ws s2 ⟨zs, H2, I2, rz, q2⟩
  refine ⟨I2.kIn, ?_⟩
  rw [hks]
  have r2 := hb.rel (vs := []) (us := []) .nil rz
  have hl : (g [] ws).length = ps.length := r2.length.symm.trans (F.len _ _ _ _ q2)
  exact run_gS (args := ⟨[], ks.zip ws⟩) F hgd hr (hb.to s2 [] ws I2.kIn hl) (hx σ) I2 r2 q2
end
section
variable {K : PySem.W.Frag} {C : Ct} {F0 F H0 H : Hp} {env0 env : List Slot} {σ : L2.St} {cm : Nat → Value}
theorem call_coreX {sd : DSpecX} {vs : List V} {as : List CA} {R : RV → List Slot → Prop} {PX : XP} {Q : VK} {W : WX} (A : Aft K C F0 env0 σ H0 F env H) (ca : CAs K F σ vs as) (ap : apart env as = true)
    (h : sd (as.map (resolve env)) R fun x fs ss => PX x fs (putB as ss env)) (kx : ConnX K cm W C PX)
    (k : ∀ r ss F' v H', R r ss → Aft K C F0 env0 σ H0 F' (putB as ss env) H' → RVOk K C F' (putB as ss env) σ H0 H' v r → Q v H') : spX K cm sd vs H Q (WE W σ) := by
  obtain ⟨h1, h2, h3⟩ := call_parts A.ok ca ap
  refine ⟨F, as.map (resolve env), R, _, h1, h2, h, ?_, ?_⟩
  · intro r ss F' v H' hR dn
    obtain ⟨B, no⟩ := h3 r ss F' v H' dn
    refine k r ss F' v H' hR (A.trans B) ?_
    have rs := dn.res
    cases r with
    | vl d => exact rs
    | tm d =>
      obtain ⟨p, o, rfl, g1, g2, g3, g4⟩ := rs
      exact ⟨p, o, rfl, g1, g2, g3, A.ok.gnone g4, no p g4, A.back g4⟩
    | sl i => exact rs.elim
  · intro x fs ss F' H' cls dd hR dn xo hn
    obtain ⟨B, no⟩ := h3 _ ss F' _ H' dn
    exact kx.go F' _ σ H' x fs cls dd B.ok xo (A.ok.gnone hn) (no dd hn) hR
end
@[simp] def mCallX (sd : DSpecX) (a : DMC) : XP → DM := fun PX env R => a env fun as e => apart e as = true ∧ sd (as.map (resolve e)) (fun r ss => R r (putB as ss e)) fun x fs ss => PX x fs (putB as ss e)
@[simp] def mCallKX (sd : DSpecX) (gC : List CA → List CA → List CA) (a b : DMC) : XP → DM := fun PX env R => a env fun as e => b e fun bs e2 => apart e2 (gC as bs) = true ∧ sd ((gC as bs).map (resolve e2)) (fun r ss => R r (putB (gC as bs) ss e2)) fun x fs ss => PX x fs (putB (gC as bs) ss e2)
structure CalX (P : Program) (w : World) (K : PySem.W.Frag) (mg : Str → Option Value) (cm : Nat → Value) (base : Heap) (x : Str) (st : Stmt) (k : Nat) (ps : List Str) (sd : DSpecX) : Prop where
  ex : ∃ f fd, Fun K x x st f fd ∧ FnG P w K mg base (L2.CX P w) k f fd ps (spX K cm sd) ∧ mg x = some (.ref f) ∧ Binds K fd ps []
theorem CalX.cal {P : Program} {w : World} {K : PySem.W.Frag} {mg : Str → Option Value} {cm : Nat → Value} {base : Heap} {x : Str} {st : Stmt} {k : Nat} {ps : List Str} {sd : DSpecX} (c : CalX P w K mg cm base x st k ps sd) : Cal P w K mg base x st k ps (noX sd) := by
  obtain ⟨f, fd, h1, h2, h3, h4⟩ := c.ex
  have up : ∀ vs H Q E, spD K (noX sd) vs H Q E → spX K cm sd vs H Q fun _ _ _ => False := by
    rintro vs H Q E ⟨F, args, R, a1, a2, a3, a4⟩
    exact ⟨F, args, R, _, a1, a2, a3, a4, fun _ _ _ _ _ _ _ z => z.elim⟩
  refine ⟨f, fd, h1, ⟨fun vs H Q E q => h2.len vs H Q _ (up vs H Q E q), fun A outer s H args us vs Q E hg hr he hb hv hs => ?_⟩, h3, h4⟩
  apply codeAny_mono (h2.run A outer s H args us vs Q _ hg hr he hb hv (up vs H Q E hs))
  intro r s' hq
  match r, hq with
  | .error er, hq =>
    obtain ⟨_, _, _, _, _, _, _, _, _, _, _, _, z⟩ := hq
    exact z.elim
  | .ok (.ret u), hq => exact hq
  | .ok .next, hq => exact False.elim hq
  | .ok .brk, hq => exact False.elim hq
  | .ok .cont, hq => exact False.elim hq
section
variable {X : Cx} {cm : Nat → Value} {k : Nat} {st : Stmt} {ps ks : List Str} {sd : DSpecX} {x : Str} {p pos : Pos} {e : Expr} {es : List Expr} {kws : List Keyword}
theorem dex_call (c : CalX X.prog X.w X.K X.mg cm X.base x st k ps sd) (hgd : X.A.guards = some []) (hr : Room k X.A) (hg : Gl X x) {mc : DMC} (h : DC X (e :: es) mc)
    (hdb : (x == ("__debug__" : Str)) = false := by decide) (he : starEach (e :: es) X.env = (false, eval e X.env) :: starEach es X.env := by rfl) (hpl : (backTo pos (starEach es X.env)).any (·.1) = false := by rfl) :
    DEx X cm (.Call (.Name x p) (e :: es) [] pos) (mCallX sd mc) := fun W tk => by
  obtain ⟨f, fd, F, G, hm, hb⟩ := c.ex
  obtain ⟨t, pa, ev⟩ := h
  refine ⟨_, pe_callGS G hgd hr hg hm F.kp hb (passAt tk) pa hdb he hpl, ?_⟩
  intro C F env σ H PX R Q I h kx k
  refine ev C F env σ H _ _ I h ?_
  intro as e1 F1 vs H1 h1 A1 r1
  exact call_coreX A1 r1 h1.1 h1.2 kx fun r ss F' v H' hR A2 r2 => k r _ F' v H' hR A2 r2
theorem dex_callK (c : CalX X.prog X.w X.K X.mg cm X.base x st k ps sd) (n m : Nat) (perm : List Nat) (hgd : X.A.guards = some []) (hr : Room k X.A) (hg : Gl X x) (hp : ps ≠ [])
    (hb : ∀ (kV doc pm : Value) (an : Option Addr) (cdv ct : Value) (us ws : List Value), us.length = n → ws.length = m → bindArgs (PySem.W.fnOf x x (defArgs st) (defBody st) (defScope st) .none kV doc pm an cdv ct) ⟨us, ks.zip ws⟩ = pure (ps.zip (arr perm us ws)))
    {mc mk : DMC} (h : DC X (e :: es) mc) (h2 : DK X kws mk) (hall : (backToKw pos (keywordEach kws X.env)).all (·.1.isSome) = true := by rfl) (hks : (backToKw pos (keywordEach kws X.env)).filterMap (·.1) = ks := by rfl)
    (hdb : (x == ("__debug__" : Str)) = false := by decide) (he : starEach (e :: es) X.env = (false, eval e X.env) :: starEach es X.env := by rfl)
    (hpl : ((backTo pos (starEach (e :: es) X.env)).any (·.1) || (backToKw pos (keywordEach kws X.env)).any (·.1.isNone)) = false := by rfl) : DEx X cm (.Call (.Name x p) (e :: es) kws pos) (mCallKX sd (arrN n m perm) mc mk) := fun W tk => by
  obtain ⟨f, fd, F, G, hm, _⟩ := c.ex
  obtain ⟨t, pa, ev⟩ := h
  obtain ⟨t2, pk, ek⟩ := h2
  refine ⟨_, pe_callGKS G hgd hr hg hm F.kp (kbinds_of F n m perm hp hb) (passAt tk) pa pk hall hks hdb he hpl, ?_⟩
  intro C F env σ H PX R Q I h kx k
  refine ev C F env σ H _ _ I h ?_
  intro as e1 F1 vs H1 h1 A1 r1
  refine ek C F1 e1 σ H1 _ _ A1.ok h1 ?_
  intro bs e2 F2 zs H2 h2 A2 r2
  exact call_coreX (A1.trans A2) (arrN_ca _ F2 σ vs zs as bs (r1.mono A2.ex) r2) h2.1 h2.2 kx fun r ss F' v H' hR A3 r3 => k r _ F' v H' hR A3 r3
theorem dex_callK0 (c : CalX X.prog X.w X.K X.mg cm X.base x st k ps sd) (m : Nat) (perm : List Nat) (hgd : X.A.guards = some []) (hr : Room k X.A) (hg : Gl X x) (hp : ps ≠ [])
    (hb : ∀ (kV doc pm : Value) (an : Option Addr) (cdv ct : Value) (us ws : List Value), us.length = 0 → ws.length = m → bindArgs (PySem.W.fnOf x x (defArgs st) (defBody st) (defScope st) .none kV doc pm an cdv ct) ⟨us, ks.zip ws⟩ = pure (ps.zip (arr perm us ws)))
    {mk : DMC} (h2 : DK X kws mk) (hall : (backToKw pos (keywordEach kws X.env)).all (·.1.isSome) = true := by rfl) (hks : (backToKw pos (keywordEach kws X.env)).filterMap (·.1) = ks := by rfl)
    (hdb : (x == ("__debug__" : Str)) = false := by decide)
    (hpl : ((backTo pos (starEach [] X.env)).any (·.1) || (backToKw pos (keywordEach kws X.env)).any (·.1.isNone)) = false := by rfl) : DEx X cm (.Call (.Name x p) [] kws pos) (mCallKX sd (arrN 0 m perm) mcNil mk) := fun W tk => by
  obtain ⟨f, fd, F, G, hm, _⟩ := c.ex
  obtain ⟨t2, pk, ek⟩ := h2
  refine ⟨_, pe_callGKS0 G hgd hr hg hm F.kp (kbinds_of F 0 m perm hp hb) (passAt tk) pk hall hks hdb hpl, ?_⟩
  intro C F env σ H PX R Q I h kx k
  refine evc_nil C F env σ H _ _ I h ?_
  intro as e1 F1 vs H1 h1 A1 r1
  refine ek C F1 e1 σ H1 _ _ A1.ok h1 ?_
  intro bs e2 F2 zs H2 h2 A2 r2
  exact call_coreX (A1.trans A2) (arrN_ca _ F2 σ vs zs as bs (r1.mono A2.ex) r2) h2.1 h2.2 kx fun r ss F' v H' hR A3 r3 => k r _ F' v H' hR A3 r3
@[simp] def mTupX (a : DM) (b : XP → DM) : XP → DM := fun PX env R => a env fun x e1 => x.get e1 fun d => b PX e1 fun y e2 => y.get e2 fun d2 => R (.vl (.tup [d, d2])) e2
theorem dex_tup2 {a b : Expr} {x1 : _} {m1 : DM} {m2 : XP → DM} (ha : DE X a m1) (hb : DEx X cm b m2) (hs : starEach (a :: [b]) X.env = (false, eval a X.env) :: starEach [b] X.env := by rfl) (hs2 : starEach (b :: []) X.env = (false, eval b X.env) :: starEach [] X.env := by rfl) :
    DEx X cm (.Tuple [a, b] x1 pos) (mTupX m1 m2) := fun W tk => by
  obtain ⟨t, p, ev⟩ := ha
  obtain ⟨u, q, er⟩ := hb W tk
  refine ⟨_, pe_tup (pa_cons p (pa_cons q pa_nil hs2) hs), ?_⟩
  intro C F env σ H PX R Q I h kx k
  refine ev C F env σ H _ _ I h ?_
  intro x e1 F1 v H1 h1 A1 r1
  obtain ⟨F2, d, h2, A2, ex, rp⟩ := A1.keepIt r1 h1
  refine er C F2 e1 σ H1 PX _ _ A2.ok h2 kx ?_
  intro y e3 F3 w H3 h3 A3 r3
  obtain ⟨F4, d2, h4, A4, ex4, rp4⟩ := (A2.trans A3).keepIt (r3.from fun p => A2.back) h3
  refine ⟨by show 2 ≤ sizeLine; decide, fun q hq => ?_⟩
  have B := A4.ok.lay hq (.tup [v, w])
  exact k _ e3 _ _ _ h4 (A4.trans B) (Rep.tup (st_of upd_same) (.cons (((rp.mono A3.ex).mono ex4).mono B.ex) (.cons (rp4.mono B.ex) .nil)))
end

/-! ### raise C(e) -/
@[simp] def mRaise (x : Nat) (f : Str) (m : DM) : DStm := fun P env => m env fun l e1 => l.get e1 fun d => P.ex x [(f, d)] e1
section
variable {X : Cx} {cm : Nat → Value} {pos cp px : Pos} {x f : Str} {e : Expr} {i : Nat}
theorem dsx_raise {m : DM} {Ca : Addr} (i : Nat) (hc : X.calm = true) (c : XCl X.prog X.w X.K X.mg X.base x f Ca) (hcm : cm i = .ref Ca) (hr : Room 2 X.A) (hg : Gl X x) (h : DE X e m) (he : starEach (e :: []) X.env = (false, eval e X.env) :: starEach [] X.env := by rfl) :
    DSx X cm (.Raise (some (.Call (.Name x px) [e] [] cp)) none pos) (mRaise i f m) := fun W tk => by
  refine ⟨_, ps_raise hc tk (c.made X e m px cp rfl rfl rfl rfl rfl hr hg h.can he), ?_⟩
  intro C F env σ H D P I hm k kx
  refine ⟨C, F, env, _, I, hm, ?_⟩
  intro l e1 F1 v H1 h1 A1 r1 dx hd1
  obtain ⟨F2, d, h2, A2, ex, rp⟩ := A1.keepIt r1 h1
  have B := A2.ok.tmp hd1 (.xd [(f, v)])
  exact kx.go F2 e1 σ _ i [(f, d)] _ dx B.ok ⟨hcm.symm, ⟨[(f, v)], upd_same, rfl, .cons rp .nil⟩, A2.ok.fnone hd1⟩ (A2.ok.gnone hd1) (fun j => A2.ok.unowned hd1 j) h2
end
end DL

set_option Elab.async false
set_option linter.all false
set_option maxRecDepth 100000
set_option maxHeartbeats 4000000
set_option autoImplicit false
/-! X3: loops whose bodies may raise; the rule for a def that may raise. -/
namespace DL
open PySem PySem.Spec L2 Evl PyProof.Rows
section
variable {X : Cx} {cm : Nat → Value} {pos : Pos}
theorem dsx_for {tg iter : Expr} {body : List Stmt} {js : List Nat} {mi : DMI} {g : DTg} {mb : DStm} (hp : PassesOwn (model X.prog X.w) X.A X.env X.xe) (hc : X.calm = true) (hi : DI X tg iter mi) (hg : DG X tg js g) (hb : DBx X cm body mb)
    (hs : ∀ x, foldedSetIterable iter X.env x = pure x := by intro _; rfl) : DSx X cm (.For tg iter body [] pos) (mFor mi g mb) := fun W tk => by
  obtain ⟨wi, pi, ei⟩ := hi
  obtain ⟨tg', pg, eg⟩ := hg
  obtain ⟨tb, pb, eb⟩ := hb W tk
  refine ⟨_, ps_for hp hc pi pg pb hs, ?_⟩
  intro C F env σ H D P I h k kx
  refine ei C F env σ H _ _ I h ?_
  intro items hold e1 F1 H1 J h1 A1 io hh
  rw [forI_iff] at h1
  have pin0 := forW_pin h1
  have agree : ∀ F e σ' H, Ok X.K C F e σ' H → pinE hold e → ∀ p ∈ hold, σ'[p.1]? = σ[p.1]? := fun F e σ' H I' q p m => by
    obtain ⟨a, o, g1, _, _, _, _, g6⟩ := I'.owns p.1 true _ (pinE.get q p m)
    obtain ⟨a', o', g1', _, _, _, _, g6'⟩ := A1.ok.owns p.1 true _ (pinE.get pin0 p m)
    have := (g6 rfl).1.symm.trans (g6' rfl).1
    rw [g1, g1']; cases this; rfl
  refine ⟨fun i m σ' H' => m = items.length - i ∧ i ≤ items.length ∧ ∃ F e, Ok X.K C F e σ' H' ∧ Ex F1 F ∧ forW hold g mb P (items.drop i) e, ⟨items.length, by simp, Nat.zero_le _, F1, e1, A1.ok, Ex.refl _, by simpa using h1⟩, ?_⟩
  rintro i m σ' H' ⟨rfl, hi', F2, e2, I2, x2, w2⟩
  have io2 := io i F2 e2 σ' H' I2 x2 (forW_pin w2).hold (agree F2 e2 σ' H' I2 (forW_pin w2))
  by_cases hlt : i < items.length
  · refine Or.inr ⟨(io2.1 hlt).1, fun σ'' H'' => ∃ F e, Ok X.K C F e σ'' H'' ∧ Ex F1 F ∧ forW hold g mb P (items.drop (i + 1)) e, fun σ'' H'' q => ⟨items.length - (i + 1), by omega, rfl, hlt, q⟩, fun x H3 y => ?_⟩
    obtain ⟨F3, d, hd, A3, rp⟩ := (io2.1 hlt).2 x H3 y
    have hdr : items.drop i = d :: items.drop (i + 1) := by
      rw [List.drop_eq_getElem_cons hlt]
      rw [List.getElem?_eq_getElem hlt] at hd
      cases hd; rfl
    rw [hdr] at w2
    refine eg C F3 e2 σ' H3 _ _ _ _ A3.ok rp w2.2 ?_
    intro e4 σ4 h4 I4 k4
    have I4' := A1.ok.rebase I4 (x2.trans A3.ex)
    have back : ∀ F e σ5 H5, Ok X.K { C with F0 := F1 } F e σ5 H5 → forW hold g mb P (items.drop (i + 1)) e → ∃ F e, Ok X.K C F e σ5 H5 ∧ Ex F1 F ∧ forW hold g mb P (items.drop (i + 1)) e :=
      fun F e σ5 H5 I5 q => ⟨F, e, A1.ok.unbase I5, I5.bas, q⟩
    refine eb { C with F0 := F1 } F3 e4 σ4 H3 _ _ I4' h4 ⟨fun F e σ5 H5 I5 q => back F e σ5 H5 I5 q, fun F e σ5 H5 I5 q => k.nx F e σ5 H5 (A1.ok.unbase I5) q, fun F e σ5 H5 I5 q => back F e σ5 H5 I5 q,
      fun F e σ5 H5 v r I5 ro q => k.rt F e σ5 H5 v r (A1.ok.unbase I5) (by cases r <;> exact ro) q,
      fun F e σ5 H5 v x y I5 ro q => k.r2 F e σ5 H5 v x y (A1.ok.unbase I5) (by obtain ⟨T, u, w, a, b, c, d, e⟩ := ro; exact ⟨T, u, w, a, b, by cases x <;> exact c, by cases y <;> exact d, e⟩) q⟩ ?_
    exact ⟨fun F e σ5 H5 y fs cls dd I5 xo hG un q => kx.go F e σ5 H5 y fs cls dd (A1.ok.unbase I5) xo hG un q⟩
  · have e : i = items.length := by omega
    subst e
    rw [List.drop_length] at w2
    exact Or.inl ⟨io2.2 (Nat.le_refl _), k.nx F2 e2 σ' H' I2 w2.2⟩
theorem dsx_while {c : Expr} {body : List Stmt} {t : DMB} {mb : DStm} (hp : PassesOwn (model X.prog X.w) X.A X.env X.xe) (hc : DT X c t) (hb : DBx X cm body mb) : DSx X cm (.While c body [] pos) (mWhile t mb) := fun W tk => by
  obtain ⟨tc, pc, ec⟩ := hc
  obtain ⟨tb, pb, eb⟩ := hb W tk
  refine ⟨_, ps_while hp pc pb, ?_⟩
  intro C F env σ H D P I h k kx
  obtain ⟨n, hn⟩ := mWhile_iff.mp h
  refine ⟨fun m σ' H' => ∃ F e, Ok X.K C F e σ' H' ∧ whN t mb m P e, ⟨n, F, env, I, hn⟩, ?_⟩
  rintro m σ' H' ⟨F1, e1, I1, w1⟩
  cases m with
  | zero => exact w1.elim
  | succ m =>
    refine ec C F1 e1 σ' H' _ _ I1 w1 ?_
    intro b e2 F2 H2 h2 A2
    cases b with
    | true =>
      have h2' : mb { P with nx := fun e => whN t mb m P e, ct := fun e => whN t mb m P e, bk := P.nx } e2 := by simpa using h2
      refine ⟨fun σ'' H'' => ∃ F e, Ok X.K C F e σ'' H'' ∧ whN t mb m P e, fun σ'' H'' q => ⟨m, Nat.lt_succ_self m, q⟩, ?_⟩
      exact eb C F2 e2 σ' H2 _ _ A2.ok h2' ⟨fun F e σ5 H5 I5 q => ⟨F, e, I5, q⟩, fun F e σ5 H5 I5 q => k.nx F e σ5 H5 I5 q, fun F e σ5 H5 I5 q => ⟨F, e, I5, q⟩, k.rt, k.r2⟩ kx
    | false =>
      have h2' : P.nx e2 := by simpa using h2
      exact k.nx F2 e2 σ' H2 A2.ok h2'
end

/-! ### the rule for a def that may raise -/
theorem done_out {K : PySem.W.Frag} {F0 F' H H' : Hp} {args env : List Slot} {vs : List V} {σ : L2.St} {v : V} {r : RV} {n : Nat} (hn : args.length = n) (np : ∀ (i : Nat) (d : D), args[i]? ≠ some (.own false d))
    (I' : Ok K (ctOf args vs F0 H) F' env σ H') (ro : RetOk K (ctOf args vs F0 H) F' H' v r) : Done K F0 args vs H r (outs n env) F' v H' := by
  refine ⟨I'.bas, I'.sub, I'.keep, I'.all, I'.new, fun i b d e => ?_, ?_⟩
  · cases b with
    | false => exact absurd e (np i d)
    | true =>
      obtain ⟨d', e'⟩ := I'.pins i ⟨true, d, e⟩
      have hi : i < n := by
        rw [← hn]
        rcases Nat.lt_or_ge i args.length with z | z
        · exact z
        · rw [List.getElem?_eq_none (by simpa using z)] at e; cases e
      obtain ⟨p, o, g1, g2, g3, g4, g5, g6⟩ := I'.owns i true d' e'
      obtain ⟨q1, q2, q3⟩ := g6 rfl
      refine ⟨p, o, d', q1, ?_, g2, g3⟩
      unfold outs
      rw [List.getElem?_map, List.getElem?_take_of_lt hi, e']
      rfl
  · cases r with
    | vl d => exact ro
    | tm d => exact ro
    | sl i => exact ro.elim
theorem FunG.okX {P : Program} {w : World} {K : PySem.W.Frag} {mg : Str → Option Value} {cm : Nat → Value} {base : Heap} {qual : Str} {body : List Stmt} {scope : Scope} {f : Addr} {fd : FuncData} {N ps : List Str} {k : Nat} {sd : DSpecX} {m : DStm}
    (F : FunG K qual body scope f fd) (S : FnScope N ps scope) (len : ∀ args R E, sd args R E → args.length = ps.length)
    (hbody : ∀ (cdv : Value) (A : Around) (outer : List PySem.Env) (s : Shared) (H : Hp) (E : XK), A.guards = some [] → Room k (A.deeper (envOfC qual scope s.heap.objs.size f cdv)) →
      DBx (cxOf (L2.CX P w) P w K mg base N qual scope f cdv A outer s H E) cm body m)
    (hm : ∀ args R E, sd args R E → m { nx := fun e => R (.vl .non) (outs ps.length e), rt := fun r e => R r (outs ps.length e), ex := fun x fs e => E x fs (outs ps.length e) } (startE N.length args)) :
    FnG P w K mg base (L2.CX P w) (k + 1) f fd ps (spX K cm sd) := by
  obtain ⟨oc, od, name, params, dV, kV, doc, pm, an, cdv, ct, osl, rfl, lk, hcd⟩ := F.ex
  refine fnG_of lk hcd S ?_ ?_
  · rintro vs H Q E ⟨F, args, R, RX, h1, _, h2, _⟩
    have := h1.len
    rw [List.length_map] at this
    rw [this, len args R RX h2]
  rintro A outer s H vs Q E hg hr ⟨F0, args, R, RX, h1, np, h2, h3, h4⟩
  obtain ⟨t, ht, ev⟩ := hbody cdv A outer s H E hg hr _ (takes_of rfl rfl rfl rfl)
  refine ⟨t, ht, ?_⟩
  have hl : args.length = ps.length := len args R RX h2
  refine ev (ctOf args vs F0 H) F0 _ _ H _ _ (ok_start N h1 np) (hm args R RX h2) ⟨fun F env σ H' I' q => ?_, fun _ _ _ _ _ z => z.elim, fun _ _ _ _ _ z => z.elim, fun F env σ H' v r I' ro q => ?_, fun _ _ _ _ _ _ _ _ _ z => z.elim⟩ ⟨fun F env σ H' x fs cls dd I' xo hG un q => ?_⟩
  · exact h3 _ _ F _ H' q (done_out hl np I' Rep.non)
  · exact h3 _ _ F _ H' q (done_out hl np I' ro)
  · exact h4 x fs _ F H' cls dd q (done_out hl np I' Rep.non) xo hG
end DL

set_option Elab.async false
set_option linter.all false
set_option maxRecDepth 100000
set_option maxHeartbeats 4000000
set_option autoImplicit false
/-! X4: try with several clauses, with and without names. -/
namespace DL
open PySem PySem.Spec L2 Evl PyProof.Rows

structure Cls1 where
  c : Value
  i : Option Nat
  ts : Addr → Value → Option Addr → TS
def goneE (i : Nat) (D : Ends) : Ends := { nx := fun σ H => D.nx (σ.set i none) H, rt := D.rt, bk := fun σ H => D.bk (σ.set i none) H, ct := fun σ H => D.ct (σ.set i none) H }
def runCl (k : Cls1) (D : Ends) (a : Addr) (cls : Value) (d : Option Addr) (σ : L2.St) (H : Hp) : Prop := match k.i with
  | none => k.ts a cls d D σ H
  | some i => k.ts a cls d (goneE i D) (σ.set i (some (.ref a))) H
def wMix (K : PySem.W.Frag) (D : Ends) : List Cls1 → WX
  | [] => fun _ _ _ _ => False
  | k :: r => fun cls d σ H => ∃ b, PySem.W.exmOne K cls k.c = some b ∧ (b = true → ∀ a, H a = none → runCl k D a cls d σ H) ∧ (b = false → wMix K D r cls d σ H)
abbrev SuiteOk (X : Cx) (sts : List Stmt) (ts : Addr → Value → Option Addr → TS) : Prop :=
  ∀ (a : Addr) (oe : Obj) (cls : Value) (d : Option Addr) (pn : List (Addr × Obj)), Zc cls d oe → (∃ vs, oe.data = .fields vs) → PSs (X.suite a ((a, oe) :: pn)) sts (ts a cls d)
inductive HdX (X : Cx) : List ExceptHandler → List Cls1 → Prop
  | rest {hs : List ExceptHandler} : HdX X hs []
  | only {x : Str} {c : Value} {ts : Addr → Value → Option Addr → TS} {b₀ : Stmt} {suite : List Stmt} {np pos : Pos} {hs : List ExceptHandler} {l : List Cls1} (hg : Gl X x) (hdb : (x == ("__debug__" : Str)) = false) (hm : X.mg x = some c)
      (hsu : SuiteOk X (b₀ :: suite) ts) (r : HdX X hs l) : HdX X (.ExceptHandler (some (.Name x np)) none (b₀ :: suite) pos :: hs) (⟨c, none, ts⟩ :: l)
  | as_ {x n : Str} {i : Nat} {c : Value} {ts : Addr → Value → Option Addr → TS} {b₀ : Stmt} {suite : List Stmt} {np pos : Pos} {hs : List ExceptHandler} {l : List Cls1} (hg : Gl X x) (hdb : (x == ("__debug__" : Str)) = false) (hm : X.mg x = some c)
      (hi : X.N[i]? = some n) (hln : X.env.kindOf n = some .local) (hsu : SuiteOk X (b₀ :: suite) ts) (r : HdX X hs l) : HdX X (.ExceptHandler (some (.Name x np)) (some n) (b₀ :: suite) pos :: hs) (⟨c, some i, ts⟩ :: l)

structure Caught (X : Cx) (pins : List (Addr × Obj)) (σ : L2.St) (H : Hp) (a : Addr) (cls : Value) (d : Option Addr) (s : Shared) : Prop where
  ex : ∃ (G : Heap) (s0 : Shared), Inv X pins σ H s0 ∧ (∀ b o, s0.heap.get? b = some o → b ∉ frs X.stack → G.get? b = some o) ∧ s0.heap.UpToSlots s.heap ∧ HandSPX.FlyingZ G (X.env :: X.outer) a (Zc cls d) s.heap ∧ s.os = s0.os ∧ AllBare s.gens
  na : H a = none
section
variable {X : Cx} {pins : List (Addr × Obj)} {σ : L2.St} {H : Hp} {a : Addr} {cls : Value} {d : Option Addr} {s : Shared}
theorem Caught.inv (c : Caught X pins σ H a cls d s) : Inv X pins σ H s := by
  obtain ⟨G, s0, I, nb, up, fl, os, ag⟩ := c.ex
  exact I.landed nb fl.1 up os ag
theorem Caught.obj (c : Caught X pins σ H a cls d s) : ∃ oe vs, s.heap.get? a = some oe ∧ Zc cls d oe ∧ oe.data = .fields vs := by
  obtain ⟨G, s0, I, nb, up, fl, os, ag⟩ := c.ex
  exact fl.there
theorem Caught.apart (c : Caught X pins σ H a cls d s) : a ∉ frs (X.env :: X.outer) := by
  obtain ⟨G, s0, I, nb, up, fl, os, ag⟩ := c.ex
  obtain ⟨oe, vs, e1, _, e2⟩ := fl.there
  intro hm
  obtain ⟨_, o, e3, nf⟩ := fl.2.2.1.mem hm
  rw [e1] at e3
  cases e3
  exact nf vs e2
theorem Caught.within (c : Caught X pins σ H a cls d s) (hf : X.env.frame = some X.env.locals) {oe : Obj} {vs : Array Value} (he : s.heap.get? a = some oe) (hd : oe.data = .fields vs) : Inv (X.suite a ((a, oe) :: (X.pn ++ pins))) [] σ H s := by
  have ap := c.apart
  refine c.inv.suite he hd c.na ?_ ?_
  · rintro rfl
    exact ap (by simp [frs, hf])
  · intro hm
    obtain ⟨e, h1, h2⟩ := List.mem_filterMap.mp hm
    exact ap (List.mem_filterMap.mpr ⟨e, List.mem_cons_of_mem _ h1, h2⟩)
theorem Caught.again (c : Caught X pins σ H a cls d s) {M : Model} {A : Around} {E : Value → Shared → Prop} {Q : Unit → Shared → Prop} (h : ∀ s', Caught X pins σ H a cls d s' → Q () s') : wpAny M A (setFlight (.ref a) none) Q E s := by
  obtain ⟨G, s0, I, nb, up, fl, os, ag⟩ := c.ex
  exact HandSPX.lands_againZ fl fun h' fl' up' => h _ ⟨⟨G, s0, I, nb, up.trans up', fl', os, ag⟩, c.na⟩
theorem Caught.test (c : Caught X pins σ H a cls d s) (hf : X.env.frame = some X.env.locals) {x : Str} {np : Pos} {v : Value} {b : Bool} (hg : Gl X x) (hdb : (x == ("__debug__" : Str)) = false) (hm : X.mg x = some v) (hx : PySem.W.exmOne X.K cls v = some b)
    {Q : Bool → Shared → Prop} {E E' : Value → Shared → Prop} (h : Q b s) : wpAny (model X.prog X.w) (X.A.mark (some (.ref a))) (eval (.Name x np) X.env) (fun u s' => wpAny (model X.prog X.w) (X.A.mark (some (.ref a))) (excMatches (.ref a) u) Q E' s') E s := by
  obtain ⟨oe, vs, e1, e2, e3⟩ := c.obj
  have tl : PySem.W.Looks (model X.prog X.w) s.heap (typeOf (.ref a)) cls := fun A Q E s' k q => wpAny_typeOf_ref (k _ _ e1) (e2.1.symm ▸ q)
  exact ld_glob (X := X.suite a ((a, oe) :: (X.pn ++ pins))) (c.within hf e1 e3) hg hm ((PySem.W.exm_one c.inv.kIn tl hx).here h) hdb
end
section
variable {X : Cx} {pins : List (Addr × Obj)} {σ : L2.St} {H : Hp} {a : Addr} {cls : Value} {d : Option Addr} {s : Shared} {D : Ends}
theorem suite_run (c : Caught X pins σ H a cls d s) (hf : X.env.frame = some X.env.locals) {ts : Addr → Value → Option Addr → TS} {sts : List Stmt} (hsu : SuiteOk X sts ts) (h : ts a cls d D σ H) {R : Flow → Shared → Prop} {E : Value → Shared → Prop}
    (k : ∀ f s', SP X pins D f s' → R f s') : wpAny (model X.prog X.w) (X.A.mark (some (.ref a))) (execs sts X.env) R E s := by
  obtain ⟨oe, vs, e1, e2, e3⟩ := c.obj
  have ok := c.inv.ok
  refine wpAny_mono ((hsu a oe cls d (X.pn ++ pins) e2 ⟨vs, e3⟩).run [] s σ H D (c.within hf e1 e3) h) (fun f s' z => k f s' ?_) fun _ _ z => False.elim z
  match f, z with
  | .next, ⟨σ', H', I', q⟩ => exact ⟨σ', H', I'.unsuite ok, q⟩
  | .brk, ⟨σ', H', I', q⟩ => exact ⟨σ', H', I'.unsuite ok, q⟩
  | .cont, ⟨σ', H', I', q⟩ => exact ⟨σ', H', I'.unsuite ok, q⟩
  | .ret u, ⟨v, σ', H', I', r, q⟩ => exact ⟨v, σ', H', I'.unsuite ok, r, q⟩
theorem suite_runAs (c : Caught X pins σ H a cls d s) (hf : X.env.frame = some X.env.locals) (hN : X.N.Nodup) {n : Str} {i : Nat} (hi : X.N[i]? = some n) (hln : X.env.kindOf n = some .local) {ts : Addr → Value → Option Addr → TS} {sts : List Stmt} (hsu : SuiteOk X sts ts)
    (h : ts a cls d (goneE i D) (σ.set i (some (.ref a))) H) {pos : Pos} {E : Value → Shared → Prop} {E2 : Value → Shared → Prop} :
    wpAny (model X.prog X.w) (X.A.mark (some (.ref a))) (storeName X.env n (.ref a)) (fun _ s2 => wpAny (model X.prog X.w) (X.A.mark (some (.ref a))) (execs sts X.env) (fun f s3 => wpAny (model X.prog X.w) X.A (do bindName X.env n .none; unbindBehindTheSuite X.env n pos) (fun _ s4 => SP X pins D f s4) X.xe s3) E s2) E2 s := by
  obtain ⟨oe, vs, e1, e2, e3⟩ := c.obj
  have ok := c.inv.ok
  refine store_ok (X := X.suite a ((a, oe) :: (X.pn ++ pins))) (v := .ref a) (c.within hf e1 e3) hN hi (.inl hln) rfl (fun s5 I5 => ?_) (.inr hln)
  refine wpAny_mono ((hsu a oe cls d (X.pn ++ pins) e2 ⟨vs, e3⟩).run [] s5 _ H _ I5 h) (fun f s' z => ?_) fun _ _ z => False.elim z
  match f, z with
  | .next, ⟨σ', H', I', q⟩ => exact gone_ok (I'.unsuite ok) hN hi hln fun s7 J => ⟨_, H', J, q⟩
  | .brk, ⟨σ', H', I', q⟩ => exact gone_ok (I'.unsuite ok) hN hi hln fun s7 J => ⟨_, H', J, q⟩
  | .cont, ⟨σ', H', I', q⟩ => exact gone_ok (I'.unsuite ok) hN hi hln fun s7 J => ⟨_, H', J, q⟩
  | .ret u, ⟨v, σ', H', I', r, q⟩ => exact gone_ok (I'.unsuite ok) hN hi hln fun s7 J => ⟨v, _, H', J, r, q⟩
theorem handle_ok (hf : X.env.frame = some X.env.locals) (hN : X.N.Nodup) : ∀ {hs : List ExceptHandler} {l : List Cls1}, HdX X hs l → ∀ {s : Shared}, Caught X pins σ H a cls d s → wMix X.K D l cls d σ H →
    wpAny (model X.prog X.w) X.A (handleBy (.ref a) X.env hs) (SP X pins D) X.xe s := by
  intro hs l hh
  induction hh with
  | rest => intro s c w; exact w.elim
  | only hg hdb hm hsu r ih =>
    rintro s c ⟨b, hb, h1, h2⟩
    refine wpAny_handleBy_cons (codeAny_handlers_test (c.test hf hg hdb hm hb ?_)) (fun q => nomatch q)
    cases b with
    | true => exact codeAny_handlers_suite (c.again fun s' c' => suite_run c' hf hsu (h1 rfl a c.na) fun f s2 z => z)
    | false => exact ih c (h2 rfl)
  | as_ hg hdb hm hi hln hsu r ih =>
    rintro s c ⟨b, hb, h1, h2⟩
    refine wpAny_handleBy_cons (codeAny_handlers_test (c.test hf hg hdb hm hb ?_)) (fun q => nomatch q)
    cases b with
    | true => exact codeAny_handlers_suite_as (c.again fun s' c' => suite_runAs c' hf hN hi hln hsu (h1 rfl a c.na))
    | false => exact ih c (h2 rfl)
end
section
variable {X : Cx} {body : List Stmt} {h₀ : ExceptHandler} {hds : List ExceptHandler} {l : Ends → List Cls1} {pos : Pos} {tb : WX → TS}
theorem ps_tryX (hs : X.stack = X.env :: X.outer) (hf : X.env.frame = some X.env.locals) (hN : X.N.Nodup) {cs : List Cls1}
    (hb : ∀ (W : WX) (pn : List (Addr × Obj)) (xe : Value → Shared → Prop), Takes (X.tr pn xe) W → PassesOwn (model X.prog X.w) X.A X.env xe → PSs (X.tr pn xe) body (tb W))
    (hh : HdX X (h₀ :: hds) cs) : PS X (.Try body (h₀ :: hds) [] [] pos) (fun D σ H => tb (wMix X.K D cs) D σ H) := by
  constructor
  intro pins s σ H D I h
  have ok := I.ok
  have fr : X.A.frames = some (X.env :: X.outer) := ok.frames.trans (congrArg some hs)
  apply wpAny_Try_except
  have main := hb (wMix X.K D cs) (X.pn ++ pins) (fun e s1 => wpAny (model X.prog X.w) X.A (noteFrame e X.env) (fun _ s2 => wpAny (model X.prog X.w) X.A (setFlight e none) (fun _ s3 => wpAny (model X.prog X.w) X.A (handleBy e X.env (h₀ :: hds)) (SP X pins D) X.xe s3) X.xe s2) X.xe s1) ?_ PassesOwn.looking
  · refine wpAny_mono (main.run [] s σ H D (I.toTry _) h) (fun f s1 z => ?_) fun _ _ z => z
    match f, z with
    | .next, ⟨σ', H', J, q⟩ => exact wpAny_execs_nil ⟨σ', H', J.ofTry ok, q⟩
    | .brk, ⟨σ', H', J, q⟩ => exact ⟨σ', H', J.ofTry ok, q⟩
    | .cont, ⟨σ', H', J, q⟩ => exact ⟨σ', H', J.ofTry ok, q⟩
    | .ret u, ⟨v, σ', H', J, r, q⟩ => exact ⟨v, σ', H', J.ofTry ok, r, q⟩
  · rintro u s' ⟨a, G, s0, pins', σ', H', cls, d, rfl, J, nb, up, sky, na, os, ag, w⟩
    have sky' : Sky G (X.env :: X.outer) a (Zc cls d) X.env.locals s'.heap := hs ▸ sky
    exact Sky.land Zc.steady fr hf sky' fun h3 fl up3 => handle_ok hf hN hh ⟨⟨G, s0, J.ofTry ok, nb, up.trans up3, fl, os, ag⟩, na⟩ w
end
end DL

set_option Elab.async false
set_option linter.all false
set_option maxRecDepth 100000
set_option maxHeartbeats 4000000
set_option autoImplicit false
/-! X5: try over data. -/
namespace DL
open PySem PySem.Spec L2 Evl PyProof.Rows

def TSd (K : PySem.W.Frag) (m : DStm) : TS := fun D σ H => ∃ C F env P, Ok K C F env σ H ∧ m P env ∧ Conn K C D P
def TSdx (K : PySem.W.Frag) (cm : Nat → Value) (W : WX) (m : DStm) : TS := fun D σ H => ∃ C F env P, Ok K C F env σ H ∧ m P env ∧ Conn K C D P ∧ ConnX K cm W C P.ex
theorem pss_sem {X : Cx} {sts : List Stmt} {m : DStm} (h : DB X sts m) : PSs X sts (TSd X.K m) := by
  obtain ⟨t, p, e⟩ := h
  exact ⟨fun pins s σ H D I ⟨C, F, env, P, h1, h2, h3⟩ => p.run pins s σ H D I (e C F env σ H D P h1 h2 h3)⟩
theorem pss_semX {X : Cx} {cm : Nat → Value} {W : WX} {sts : List Stmt} {m : DStm} (h : DBx X cm sts m) (tk : Takes X W) : PSs X sts (TSdx X.K cm W m) := by
  obtain ⟨t, p, e⟩ := h W tk
  exact ⟨fun pins s σ H D I ⟨C, F, env, P, h1, h2, h3, h4⟩ => p.run pins s σ H D I (e C F env σ H D P h1 h2 h3 h4)⟩
theorem Ok.setNo {K : PySem.W.Frag} {C : Ct} {F H : Hp} {env : List Slot} {σ : L2.St} {j : Nat} {o : Option V} (h : Ok K C F env σ H) (f : Free env j) : Ok K C F (env.set j .no) (σ.set j o) H := by
  have ne : ∀ (i : Nat) (s : Slot), (env.set j .no)[i]? = some s → s ≠ .no → j ≠ i ∧ env[i]? = some s := fun i s e ns => by
    by_cases q : j = i
    · subst q
      rw [List.getElem?_set] at e
      simp only [if_true] at e
      split at e
      · cases e; exact absurd rfl ns
      · cases e
    · rw [List.getElem?_set_ne q] at e; exact ⟨q, e⟩
  have ow : ∀ i p, Owns (env.set j .no) (σ.set j o) i p → Owns env σ i p := fun i p ⟨b, d, e, s⟩ => by
    obtain ⟨q, e'⟩ := ne i _ e (fun z => nomatch z)
    rw [List.getElem?_set_ne q] at s
    exact ⟨b, d, e', s⟩
  exact {
    len := by rw [List.length_set, List.length_set]; exact h.len
    sub := h.sub, keep := h.keep, all := h.all, new := h.new, bas := h.bas
    vals := fun i d e => by
      obtain ⟨q, e'⟩ := ne i _ e (fun z => nomatch z)
      rw [List.getElem?_set_ne q]
      exact h.vals i d e'
    owns := fun i b d e => by
      obtain ⟨q, e'⟩ := ne i _ e (fun z => nomatch z)
      rw [List.getElem?_set_ne q]
      exact h.owns i b d e'
    sep := fun i k p h1 h2 => h.sep i k p (ow i p h1) (ow k p h2)
    pins := fun i q => Free.pins f (h.pins i q) }

inductive Hd where
  | only (y : Nat) (m : DStm) | as_ (y i : Nat) (m : Addr → Addr → DStm)
@[simp] def gonePost (i : Nat) (P : Post) : Post := { nx := fun e => Free e i ∧ P.nx (e.set i .no), rt := P.rt, bk := fun e => Free e i ∧ P.bk (e.set i .no), ct := fun e => Free e i ∧ P.ct (e.set i .no), r2 := P.r2 }
@[simp] def disp (isa : Nat → Nat → Option Bool) (P : Post) : List Hd → XP
  | [] => fun _ _ _ => False
  | .only y m :: r => fun x fs env => match isa x y with
    | some true => m P env
    | some false => disp isa P r x fs env
    | none => False
  | .as_ y i m :: r => fun x fs env => match isa x y with
    | some true => x = y ∧ Free env i ∧ ∀ a dd, m a dd (gonePost i P) (env.set i (.val (.exc a dd fs)))
    | some false => disp isa P r x fs env
    | none => False
@[simp] def mTry (isa : Nat → Nat → Option Bool) (mb : DStm) (hs : List Hd) : DStm := fun P env => mb { P with ex := disp isa P hs } env
def isaOk (K : PySem.W.Frag) (cm : Nat → Value) (isa : Nat → Nat → Option Bool) : Prop := ∀ x y b, isa x y = some b → PySem.W.exmOne K (cm x) (cm y) = some b
inductive HdOk (X : Cx) (cm : Nat → Value) : List ExceptHandler → List Hd → Prop
  | rest {hs : List ExceptHandler} : HdOk X cm hs []
  | only {x : Str} {y : Nat} {m : DStm} {b₀ : Stmt} {suite : List Stmt} {np pos : Pos} {hs : List ExceptHandler} {l : List Hd} (hg : Gl X x) (hdb : (x == ("__debug__" : Str)) = false) (hm : X.mg x = some (cm y))
      (hsu : ∀ (a : Addr) (oe : Obj) (pn : List (Addr × Obj)), DB (X.suite a ((a, oe) :: pn)) (b₀ :: suite) m) (r : HdOk X cm hs l) : HdOk X cm (.ExceptHandler (some (.Name x np)) none (b₀ :: suite) pos :: hs) (.only y m :: l)
  | as_ {x n : Str} {y i : Nat} {m : Addr → Addr → DStm} {b₀ : Stmt} {suite : List Stmt} {np pos : Pos} {hs : List ExceptHandler} {l : List Hd} (hg : Gl X x) (hdb : (x == ("__debug__" : Str)) = false) (hm : X.mg x = some (cm y))
      (hi : X.N[i]? = some n) (hln : X.env.kindOf n = some .local) (hsu : ∀ (a dd : Addr) (oe : Obj) (pn : List (Addr × Obj)), Zc (cm y) (some dd) oe → (∃ vs, oe.data = .fields vs) → DB (X.suite a ((a, oe) :: pn)) (b₀ :: suite) (m a dd)) (r : HdOk X cm hs l) :
      HdOk X cm (.ExceptHandler (some (.Name x np)) (some n) (b₀ :: suite) pos :: hs) (.as_ y i m :: l)
def Hd.cl (K : PySem.W.Frag) (cm : Nat → Value) : Hd → Cls1
  | .only y m => ⟨cm y, none, fun _ _ _ => TSd K m⟩
  | .as_ y i m => ⟨cm y, some i, fun a cls d D σ H => ∃ dd, d = some dd ∧ cls = cm y ∧ TSd K (m a dd) D σ H⟩
section
variable {X : Cx} {cm : Nat → Value} {pos : Pos}
theorem HdOk.hdx {hs : List ExceptHandler} {l : List Hd} (h : HdOk X cm hs l) : HdX X hs (l.map (Hd.cl X.K cm)) := by
  induction h with
  | rest => exact .rest
  | only hg hdb hm hsu r ih => exact .only hg hdb hm (fun a oe cls d pn _ _ => pss_sem (hsu a oe pn)) ih
  | @as_ x n y i m b₀ suite np pos hs l hg hdb hm hi hln hsu r ih =>
    refine .as_ hg hdb hm hi hln (fun a oe cls d pn hz hv => ⟨fun pins s σ H D I h => ?_⟩) ih
    obtain ⟨dd, rfl, rfl, h⟩ := h
    exact (pss_sem (hsu a dd oe pn hz hv)).run pins s σ H D I h
theorem disp_ok {K : PySem.W.Frag} {isa : Nat → Nat → Option Bool} {C : Ct} {F H : Hp} {env : List Slot} {σ : L2.St} {Z : Ends} {P : Post} {x : Nat} {fs : List (Str × D)} {cls : Value} {dd : Addr} (hisa : isaOk K cm isa) (k : Conn K C Z P) (I : Ok K C F env σ H) (xo : XOk K cm F H x fs cls dd) (hG : C.G dd = none) (un : ∀ i, ¬ Owns env σ i dd) :
    ∀ l : List Hd, disp isa P l x fs env → wMix K Z (l.map (Hd.cl K cm)) cls (some dd) σ H
  | [], h => h.elim
  | .only y m :: r, h => by
    have h' : (match isa x y with | some true => m P env | some false => disp isa P r x fs env | none => False) := h
    cases q : isa x y with
    | none => rw [q] at h'; exact h'.elim
    | some b =>
      rw [q] at h'
      refine ⟨b, by rw [xo.cls]; exact (hisa x y b q : _), fun e a _ => ?_, fun e => ?_⟩
      · subst e
        exact ⟨C, F, env, P, I, h', k⟩
      · subst e
        exact disp_ok hisa k I xo hG un r h'
  | .as_ y i m :: r, h => by
    have h' : (match isa x y with | some true => x = y ∧ Free env i ∧ ∀ a dd, m a dd (gonePost i P) (env.set i (.val (.exc a dd fs))) | some false => disp isa P r x fs env | none => False) := h
    cases q : isa x y with
    | none => rw [q] at h'; exact h'.elim
    | some b =>
      rw [q] at h'
      refine ⟨b, by rw [xo.cls]; exact (hisa x y b q : _), fun e a _ => ?_, fun e => ?_⟩
      · subst e
        obtain ⟨rfl, fr, h2⟩ := h'
        obtain ⟨kvs, e1, e2, e3⟩ := xo.at_
        have I2 := I.hold e1 xo.new hG un
        have x2 := Ex.new (o := HO.xd kvs) xo.new
        have I3 := I2.setVal (v := .ref a) (d := .exc a dd fs) fr (Rep.exc upd_same e2 (e3.mono x2))
        refine ⟨dd, rfl, xo.cls, C, _, _, gonePost i P, I3, h2 a dd, ?_⟩
        exact ⟨fun F env σ H I q => k.nx F _ _ H (I.setNo q.1) q.2, fun F env σ H I q => k.bk F _ _ H (I.setNo q.1) q.2, fun F env σ H I q => k.ct F _ _ H (I.setNo q.1) q.2, k.rt, k.r2⟩
      · subst e
        exact disp_ok hisa k I xo hG un r h'
theorem dsx_try {body : List Stmt} {h₀ : ExceptHandler} {hds : List ExceptHandler} {isa : Nat → Nat → Option Bool} {mb : DStm} {hs : List Hd} (hst : X.stack = X.env :: X.outer) (hf : X.env.frame = some X.env.locals) (hN : X.N.Nodup) (hisa : isaOk X.K cm isa)
    (hb : ∀ (pn : List (Addr × Obj)) (xe : Value → Shared → Prop), PassesOwn (model X.prog X.w) X.A X.env xe → DBx (X.tr pn xe) cm body mb) (hh : HdOk X cm (h₀ :: hds) hs) : DSx X cm (.Try body (h₀ :: hds) [] [] pos) (mTry isa mb hs) := fun W tk => by
  refine ⟨_, ps_tryX hst hf hN (tb := fun W => TSdx X.K cm W mb) (fun W pn xe tk' hp => pss_semX (hb pn xe hp) tk') hh.hdx, ?_⟩
  intro C F env σ H D P I h k kx
  refine ⟨C, F, env, { P with ex := disp isa P hs }, I, h, ⟨k.nx, k.bk, k.ct, k.rt, k.r2⟩, ⟨fun F env σ H x fs cls dd I' xo hG un q => ?_⟩⟩
  exact disp_ok hisa k I' xo hG un hs q
end
@[simp] def mXf (a dd : Addr) (i : Nat) (f : Str) : DM := fun env R => match env[i]? with
  | some (.val (.exc a' dd' [(g, d)])) => a' = a ∧ dd' = dd ∧ g = f ∧ R (.vl d) env
  | _ => False
theorem dxf {X : Cx} {a dd C : Addr} {oe : Obj} {cls : Value} {pn : List (Addr × Obj)} {n f : Str} {p pos : Pos} {i : Nat} (T : XfC X.K C) (hno : PySem.W.findIn X.K (.ref C) f = some none) (hc : cls = .ref C) (hz : Zc cls (some dd) oe) (hf : ∃ vs, oe.data = .fields vs)
    (hN : X.N[i]? = some n) (hv : Vis X.env.scope n) (hd : (n == ("__debug__" : Str)) = false := by decide) (hcd : (n == ("__classdict__" : Str)) = false := by decide) (hb : attributeBase (.Name n p) f X.env (eval (.Name n p) X.env) = eval (.Name n p) X.env := by rfl) :
    DE (X.suite a ((a, oe) :: pn)) (.Attribute (.Name n p) f pos) (mXf a dd i f) := by
  refine ⟨_, pe_xf (X := X) T hno hz hf (pv i hN hv hd hcd) hb, ?_⟩
  intro C' F env σ H R Q I h k
  unfold mXf at h
  split at h
  · rename_i a' dd' g d e
    obtain ⟨rfl, rfl, rfl, hR⟩ := h
    obtain ⟨v, h1, h2⟩ := I.vals i _ e
    cases h2 with
    | @exc _ _ kvs _ e1 e2 e3 =>
      obtain ⟨v', rfl, rv⟩ : ∃ v', kvs = [(g, v')] ∧ Rep X.K F v' d := by
        cases kvs with
        | nil => simp at e2
        | cons q r =>
          cases r with
          | cons _ _ => simp at e2
          | nil =>
            obtain ⟨g', v'⟩ := q
            have : g' = g := by simpa using e2
            subst this
            cases e3 with
            | cons rv _ => exact ⟨v', rfl, rv⟩
      exact ⟨_, h1, rfl, hc, dd', _, v', rfl, I.sub _ _ e1, by simp [List.lookup], k _ env F v' H hR I.aft rv⟩
  · exact h.elim
theorem dsx_raiseE {X : Cx} {cm : Nat → Value} {pos cp px : Pos} {x f : Str} {e : Expr} {m : DM} (i : Nat) (hc : X.calm = true) (c : ∃ Ca, cm i = .ref Ca ∧ XCl X.prog X.w X.K X.mg X.base x f Ca) (hr : Room 2 X.A) (hg : Gl X x) (h : DE X e m) (he : starEach (e :: []) X.env = (false, eval e X.env) :: starEach [] X.env := by rfl) :
    DSx X cm (.Raise (some (.Call (.Name x px) [e] [] cp)) none pos) (mRaise i f m) := by
  obtain ⟨Ca, h1, h2⟩ := c
  exact dsx_raise i hc h2 h1 hr hg h he
theorem dxfE {X : Cx} {cm : Nat → Value} {a dd : Addr} {oe : Obj} {y : Nat} {pn : List (Addr × Obj)} {x n f : Str} {p pos : Pos} {i : Nat} (c : ∃ Ca, cm y = .ref Ca ∧ XCl X.prog X.w X.K X.mg X.base x f Ca) (hz : Zc (cm y) (some dd) oe) (hf : ∃ vs, oe.data = .fields vs)
    (hN : X.N[i]? = some n) (hv : Vis X.env.scope n) (hd : (n == ("__debug__" : Str)) = false := by decide) (hcd : (n == ("__classdict__" : Str)) = false := by decide) (hb : attributeBase (.Name n p) f X.env (eval (.Name n p) X.env) = eval (.Name n p) X.env := by rfl) :
    DE (X.suite a ((a, oe) :: pn)) (.Attribute (.Name n p) f pos) (mXf a dd i f) := by
  obtain ⟨Ca, h1, h2⟩ := c
  exact dxf h2.xf h2.no h1 hz hf hN hv hd hcd hb
end DL

set_option Elab.async false
set_option linter.all false
set_option maxRecDepth 100000
set_option maxHeartbeats 4000000
set_option autoImplicit false
/-! X6: own exception classes over any base whose __new__ is LookupError's (LookupError, KeyError). -/
namespace DL
open PySem PySem.Spec L2 Evl PyProof.Rows

abbrev tailLE : List Value := [.type "LookupError", .type "Exception", .type "BaseException", .type "object"]
abbrev tailKE : List Value := .type "KeyError" :: tailLE
structure XIni (B initId : String) : Prop where
  slot : PySem.Slot B "__init__" initId
  entry : entryFor table initId = some Builtin.«BaseException.__init__»
  split : splitId initId = some (B, "__init__")
  kind : builtinKind initId = some .slot
  row : Manifest.signature? initId = some ⟨.positional, "*", B, .self, [⟨"args", .varPos, false⟩]⟩
  nostar : (B != "*") = true
theorem xini_LE : XIni "LookupError" "LookupError.__init__" :=
  let F := F.excBase_LookupError
  ⟨F.init, F.initEntry, F.initSplit, F.initKind, F.initRow, F.noStar⟩
theorem xini_KE : XIni "KeyError" "KeyError.__init__" where
  slot := PySem.Slot.of (n := "__init__") (owner := "KeyError")
    (by
      rw [typeLookup_type, builtinLookup_eq_fast]
      kernel_rfl)
    (by decide +kernel) (by decide +kernel) (by decide +kernel)
    (by
      first
      | exact Or.inl (by decide +kernel)
      | exact Or.inr (by decide +kernel))
    (by
      rw [isSubtype_type]
      kernel_rfl)
  entry := by
    refine entryFor_alias (id' := "BaseException.__init__") ?_ ?_ ?_ ?_
    · rw [fastTable_eq_tree]
      kernel_rfl
    · first
      | rfl
      | decide +kernel
    · decide +kernel
    · rw [fastTable_eq_tree]
      kernel_rfl
  split := by kernel_rfl
  kind := by kernel_rfl
  row := by kernel_rfl
  nostar := by decide +kernel
structure XMro (B : String) (bm : List Value) : Prop where
  le : bm.contains (.type "LookupError") = true
  b : bm.contains (.type B) = true
  at_ : bm.contains (.type "AttributeError") = false
  nm : bm.contains (.type "NameError") = false
section
variable {nm q : Str} {C N : Addr} {bs bm : List Value} {hdct : Bool} {sn : List Str} {sub : List Value} {ab : Bool} {col : Option Bool} {dd : Option Addr} {k0 k1 k2 k3 k5 : Option Value} {B initId : String}
variable {prog : Program} {w : World} {M : Model} {A : Around} {E : Value → Shared → Prop} {R : Result → Shared → Prop} {h : Heap} {g : Array GenState} {d : Drawn} {t : Nat} {os : OsState}
abbrev leC (nm q : Str) (C N : Addr) (bs bm : List Value) (hdct : Bool) (sn : List Str) (sub : List Value) (ab : Bool) (col : Option Bool) (dd : Option Addr) (k0 k1 k2 k3 k5 : Option Value) : Obj := excClassObj nm q C N bs bm hdct sn sub ab col dd k0 k1 k2 k3 k5 "LookupError.__new__"
theorem cons_has {x : String} : (Value.ref C :: bm).contains (.type x) = bm.contains (.type x) := by
  rw [List.contains_cons]
  rfl
theorem knew_check (m : XMro B bm) (hC : h.get? C = some (leC nm q C N bs bm hdct sn sub ab col dd k0 k1 k2 k3 k5)) {rest : List Value} {Q : Unit → Shared → Prop} (hq : Q () ⟨h, g, d, t, os⟩) :
    wpAny M A (checkBuiltinCall "LookupError.__new__" ⟨.ref C :: rest, []⟩) Q E ⟨h, g, d, t, os⟩ := by
  have c1 : (Value.ref C :: bm).contains (.type "LookupError") = true := cons_has.trans m.le
  have F := F.excBase_LookupError
  have f0 := F.noStar
  simp only [checkBuiltinCall, F.newSplit, F.newKind, F.newRow]
  repeat
    first
    | refine wpAny_loadPart_at hC ?_
    | (refine wpAny_isSubtype_exc hC ?_
       rw [c1])
    | refine wpAny_staticBase_exc hC ?_
    | refine wpAny_madeBy_exc hC ?_
    | simp only [if_false, Bool.false_eq_true, bne_self_eq_false]
    | wp_step
  exact hq
theorem kini_check (b : XIni B initId) (m : XMro B bm) (hC : h.get? C = some (leC nm q C N bs bm hdct sn sub ab col dd k0 k1 k2 k3 k5)) {e : Addr} {oe : Obj} (he : h.get? e = some oe) (hc : oe.cls = .ref C) {rest : List Value} {Q : Unit → Shared → Prop} (hq : Q () ⟨h, g, d, t, os⟩) :
    wpAny M A (checkBuiltinCall initId ⟨.ref e :: rest, []⟩) Q E ⟨h, g, d, t, os⟩ := by
  have c1 : (Value.ref C :: bm).contains (.type B) = true := cons_has.trans m.b
  have f0 := b.nostar
  simp only [checkBuiltinCall, b.split, b.kind, b.row]
  repeat
    first
    | (with_reducible refine wpAny_loadPart_at he ?_
       rw [hc])
    | with_reducible refine wpAny_loadPart_at hC ?_
    | (with_reducible refine wpAny_isSubtype_exc hC ?_
       rw [c1])
    | wp_step
  apply wpAny_onRaise
  have z : ∀ (a b' : String) (n : Nat) (l : List Str), Bind.check ⟨.positional, "*", B, .self, [⟨"args", .varPos, false⟩]⟩ a b' n (List.map (fun x => x.fst) ({ pos := Value.ref e :: rest } : Args).kw) = pure () := fun _ _ _ _ => check_star_args _ _ _ _ _ _
  rw [z _ _ _ []]
  exact wpAny_pure hq
theorem knew_run (m : XMro B bm) (hC : h.get? C = some (leC nm q C N bs bm hdct sn sub ab col dd k0 k1 k2 k3 k5)) {rest : List Value} (hr : rest.length ≤ sizeLine)
    (hq : R (.ok (.ret (.ref (h.objs.size + 1)))) ⟨(h.push (W.kdv_tup rest)).push (HandSPX.excO C h.objs.size), g, d, t, os⟩) :
    codeAny (model prog w) A (.builtin "LookupError.__new__" ⟨.ref C :: rest, []⟩) R ⟨h, g, d, t, os⟩ := by
  have F := F.excBase_LookupError
  have f0 := F.ends
  have c1 : (Value.ref C :: bm).contains (.type "LookupError") = true := cons_has.trans m.le
  have c2 : (Value.ref C :: bm).contains (.type "AttributeError") = false := cons_has.trans m.at_
  have c3 : (Value.ref C :: bm).contains (.type "NameError") = false := cons_has.trans m.nm
  apply codeAny_builtinAt F.entry
  unfold Builtin.«BaseException.__new__»
  apply PySem.wpAt_bind
  show PySem.wpAt _ _ _ (stack >>= _) _ _ _
  apply PySem.wpAt_bind
  apply PySem.wpAt_stack
  intro p below
  apply PySem.wpAt_of_wpAny
  wp_walk
  apply PySem.wpAt_of_wpAny
  rw [F.owner]
  repeat
    first
    | with_reducible refine wpAny_madeHere_exc F.canon hC ?_
    | with_reducible refine wpAny_loadPart_at hC ?_
    | (with_reducible refine wpAny_isSubtype_exc hC ?_
       first
       | rw [c1]
       | rw [c2]
       | rw [c3])
    | wp_step
  show R _ _
  rw [Heap.size_push]
  exact hq
theorem ktype_call (m : XMro B bm) (hC : h.get? C = some (leC nm q C N bs bm hdct sn sub ab col dd k0 k1 k2 k3 k5)) {rest : List Value} {fI : Addr} {Q : Fin → Shared → Prop} (hr : rest.length ≤ sizeLine)
    (hi : W.Looks (model prog w) h (typeLookup (.ref C) "__init__") (some (.ref fI))) (hb : ∀ self, W.Looks (model prog w) h (bindSpecial (.ref fI) self) (.ref fI, [self]))
    (hq : codeAny (model prog w) A (.call (.ref fI) ⟨.ref (h.objs.size + 1) :: rest, []⟩) (fun r s' => match r with
      | .ok (.ret v) => v = .none ∧ Q (.done (.ret (.ref (h.objs.size + 1)))) s'
      | .ok _ => False
      | .error e => E e s') ⟨(h.push (W.kdv_tup rest)).push (HandSPX.excO C h.objs.size), g, d, t, os⟩) :
    wpAny (model prog w) A (Builtin.«type.__call__» ⟨.ref C :: rest, []⟩) Q E ⟨h, g, d, t, os⟩ := by
  repeat
    first
    | with_reducible refine wpAny_loadPart_at hC ?_
    | with_reducible refine wpAny_madeBy_exc hC ?_
    | wp_step
  apply codeAny_call_builtin_code (Code.quiet_builtin _ F.excBase_LookupError.quiet)
  apply knew_check m hC
  apply knew_run m hC hr
  show wpAny _ _ _ _ _ _
  have kp : ∀ b o, h.get? b = some o → ((h.push (W.kdv_tup rest)).push (HandSPX.excO C h.objs.size)).get? b = some o := by
    intro b o e
    apply Heap.get?_push_of_some
    exact Heap.get?_push_of_some _ e
  have gC := kp _ _ hC
  have gE : ((h.push (W.kdv_tup rest)).push (HandSPX.excO C h.objs.size)).get? (h.objs.size + 1) = some (HandSPX.excO C h.objs.size) := by heap_get
  have self : (Value.ref C :: bm).contains (.ref C) = true := by
    rw [List.contains_cons]
    simp
  have li := hi.keeps kp
  have lb := (hb (.ref (h.objs.size + 1))).keeps kp
  unfold isInstance
  repeat
    first
    | with_reducible refine wpAny_loadPart_at gE ?_
    | (with_reducible refine wpAny_isSubtype_exc gC ?_
       rw [self])
    | wp_step
  show wpAny _ _ (typeLookup (.ref C) _) _ _ _
  apply li.at
  apply wpAny_holding
  apply wpAny_bind
  apply lb.at
  apply wpAny_bind
  apply wpAny_call
  apply codeAny_mono hq
  intro r s' z
  match r, z with
  | .error e, z => exact z
  | .ok .next, z => exact z.elim
  | .ok .brk, z => exact z.elim
  | .ok .cont, z => exact z.elim
  | .ok (.ret v), ⟨e, z⟩ =>
    subst e
    first
    | exact wpAny_pure (wpAny_pure z)
    | (wp_walk
       exact z)
theorem kcall (m : XMro B bm) (hC : h.get? C = some (leC nm q C N bs bm hdct sn sub ab col dd k0 k1 k2 k3 k5)) {rest : List Value} {fI : Addr} (hr : rest.length ≤ sizeLine)
    (hi : W.Looks (model prog w) h (typeLookup (.ref C) "__init__") (some (.ref fI))) (hb : ∀ self, W.Looks (model prog w) h (bindSpecial (.ref fI) self) (.ref fI, [self]))
    (hq : codeAny (model prog w) (A.under (.builtin "type.__call__" ⟨.ref C :: rest, []⟩)) (.call (.ref fI) ⟨.ref (h.objs.size + 1) :: rest, []⟩) (W.InitBack (h.objs.size + 1) R) ⟨(h.push (W.kdv_tup rest)).push (HandSPX.excO C h.objs.size), g, d, t, os⟩) :
    codeAny (model prog w) A (.call (.ref C) ⟨rest, []⟩) R ⟨h, g, d, t, os⟩ := by
  have l1 := tc_lookup
  have l2 := tc_bind (.ref C)
  have ty : (⟨h, g, d, t, os⟩ : Shared).TypeIs (.ref C) "type" := ⟨_, hC, rfl⟩
  apply codeAny_of_tree
  show wpAny _ _ (callAny (.ref C) _) _ _ _
  repeat
    any_goals
      first
      | assumption
      | with_reducible refine wpAny_loadPart_at hC ?_
      | wp_step
  refine ⟨rfl, codeAny_call_builtin_at (Code.quiet_builtin _ (by decide +kernel)) entry_typeCall (wpAny_check_type_call_sub hC ?_)⟩
  apply ktype_call m hC hr hi hb
  apply codeAny_mono hq
  intro r s' z
  match r, z with
  | .error e, z => exact z
  | .ok .next, z => exact z
  | .ok .brk, z => exact z
  | .ok .cont, z => exact z
  | .ok (.ret v), z => exact z
theorem kinit_base (b : XIni B initId) (m : XMro B bm) (hC : h.get? C = some (leC nm q C N bs bm hdct sn sub ab col dd k0 k1 k2 k3 k5)) {e t0 : Addr} (he : h.get? e = some (HandSPX.excO C t0)) {rest : List Value}
    (hq : ∀ h' t1, (∀ b o, b ≠ e → h.get? b = some o → h'.get? b = some o) → h'.get? e = some (HandSPX.excO C t1) → R (.ok (.ret .none)) ⟨h', g, d, t, os⟩) (hr : rest.length ≤ sizeLine) :
    codeAny (model prog w) A (.call (.builtin initId) ⟨.ref e :: rest, []⟩) R ⟨h, g, d, t, os⟩ := by
  apply codeAny_call_builtin b.slot.plain b.entry
  apply kini_check b m hC he rfl
  wp_walk
  apply hq _ h.objs.size
  · intro b' o hb ho
    rw [Heap.get?_update_other _ _ (Ne.symm hb)]
    exact Heap.get?_push_of_some _ ho
  · rw [Heap.get?_update_self _ (Heap.get?_push_of_some _ he) rfl]
    rfl
end
end DL

set_option Elab.async false
set_option linter.all false
set_option maxRecDepth 100000
set_option maxHeartbeats 4000000
set_option autoImplicit false
/-! X7: raising such exceptions. -/
namespace DL
open PySem PySem.Spec L2 Evl PyProof.Rows

theorem store_KE : StoreFacts "KeyError" tailKE "object.__setattr__" "object" where
  mro := by kernel_rfl
  slot := PySem.Slot.of (n := "__setattr__") (owner := "object")
    (by
      rw [typeLookup_type, builtinLookup_eq_fast]
      kernel_rfl)
    (by decide +kernel) (by decide +kernel) (by decide +kernel)
    (by
      first
      | exact Or.inl (by decide +kernel)
      | exact Or.inr (by decide +kernel))
    (by
      rw [isSubtype_type]
      kernel_rfl)
  entry := F.entry_object_sa
  kind := by decide +kernel
  split := by decide +kernel
  hasOwner := by decide +kernel
  args := fun a b c => by
    unfold argsOk
    kernel_rfl
  passes := fun self => by kernel_rfl
structure KBase (B initId : String) (t : List Value) : Prop where
  st : StoreFacts B t "object.__setattr__" "object"
  ini : XIni B initId
theorem kb_LE : KBase "LookupError" "LookupError.__init__" tailLE := ⟨F.store_LookupError, xini_LE⟩
theorem kb_KE : KBase "KeyError" "KeyError.__init__" tailKE := ⟨store_KE, xini_KE⟩
def leB (K : PySem.W.Frag) (C : Addr) (B : String) : Bool := match K.lookup C with
  | some ⟨.type "type", _, .cls cd, sl⟩ => (match cd.mro, sl.toList with
    | .ref C' :: bm, [_, _, _, _, some (.builtin n), _] => C' == C && (n == "LookupError.__new__" && (cd.hasDict && (!cd.hasDel && (bm.contains (.type "LookupError") && (bm.contains (.type B) && (!bm.contains (.type "AttributeError") && !bm.contains (.type "NameError")))))))
    | _, _ => false)
  | _ => false
structure KxC (K : PySem.W.Frag) (C : Addr) (B : String) (t : List Value) : Prop where
  look : leB K C B = true
  ov : PySem.W.excOver K C t = true
  sa : PySem.W.findIn K (.ref C) "__setattr__" = some (some (.builtin "object.__setattr__"))
  exC : PySem.W.subIn K (.ref C) (.type "BaseException") = some true
  tyC : PySem.W.typeIn K (.ref C) = some (.type "type")
  kC : PySem.W.keepIn K (.ref C) = true
theorem leB_ok {K : PySem.W.Frag} {C : Addr} {B : String} (h : leB K C B = true) : ∃ nm q N bs bm sn sub ab col dd k0 k1 k2 k3 k5, K.lookup C = some (leC nm q C N bs bm true sn sub ab col dd k0 k1 k2 k3 k5) ∧ XMro B bm := by
  unfold leB at h
  split at h
  · rename_i dd cd sl ho
    split at h
    · rename_i C' bm k0 k1 k2 k3 n k5 hm hs
      simp only [Bool.and_eq_true, beq_iff_eq, Bool.not_eq_true'] at h
      obtain ⟨e1, e2, e3, e4, e5, e6, e7, e8⟩ := h
      cases cd with
      | mk nm bs mro N q hd sn sub ab col del =>
        cases sl with
        | mk l =>
          have hm' : mro = .ref C' :: bm := hm
          have hs' : l = [k0, k1, k2, k3, some (.builtin n), k5] := hs
          have e3' : hd = true := e3
          have e4' : del = false := e4
          subst e1; subst e2; subst hm'; subst hs'; subst e3'; subst e4'
          exact ⟨nm, q, N, bs, bm, sn, sub, ab, col, dd, k0, k1, k2, k3, k5, ho, e5, e6, e7, e8⟩
    · exact absurd h Bool.false_ne_true
  · exact absurd h Bool.false_ne_true
section
variable {X : Cx} {pins : List (Addr × Obj)} {σ : L2.St} {H : Hp} {a C : Addr} {f : Str} {y : V} {u : Value}
theorem exo_dict {hp h' : Heap} {g : Array GenState} {d : Drawn} {tk tk' : Nat} {os : OsState} {t1 dx : Addr} (I : Inv X pins σ H ⟨hp, g, d, tk, os⟩) (e : H a = some (exo a C none)) (k : ∀ b o, b ≠ a → hp.get? b = some o → h'.get? b = some o) (dn : hp.objs.size ≤ dx) (dne : dx ≠ a)
    (hx : h'.get? a = some ({ cls := .ref C, dict := some dx, data := .fields #[.ref t1, .none, .none, .none, .bool false, .none] } : Obj)) (hn : h'.Ns1 dx fun z => if z = f then some u else none) (ry : RelV y u) :
    Inv X pins σ (upd (upd H dx (exd dx [(f, y)])) a (exo a C (some dx))) ⟨h', g, d, tk', os⟩ := by
  have fresh : H dx = none := I.hok.fresh dn
  have apart : ∀ {b : Addr}, H b = none → b ≠ a := by
    rintro b n rfl
    rw [e] at n
    exact nomatch n
  have below : ∀ {b : Addr} {o : Obj}, hp.get? b = some o → b ≠ dx := by
    rintro b o q rfl
    exact absurd (Heap.lt_size q) (Nat.not_lt.mpr dn)
  have same : ∀ (b : Addr) (o : HO), H b = some o → o ≠ exo a C none → upd (upd H dx (exd dx [(f, y)])) a (exo a C (some dx)) b = some o := by
    intro b o q n
    rw [upd_ne, upd_ne (ne_of_none q fresh)]
    · exact q
    · rintro rfl
      rw [e] at q
      exact n (Option.some.inj q).symm
  refine I.un (t' := tk') ?_ ?_
  · constructor
    · intro b o q n _ _
      exact k b o (apart n) q
    · intro b o q n _ _
      exact ⟨o.slots, k b o (apart n) q⟩
    · intro b o q n _
      rw [upd_ne (apart n), upd_ne (below q)]
      exact n
    · intro b o q _
      by_cases hb : b = a
      · exact ⟨_, hb ▸ hx⟩
      · exact ⟨o, k b o hb q⟩
    · intro b xs q
      exact same b _ q fun z => exo_tup z.symm
    · intro b o v q
      exact same b _ q fun z => exo_frz z.symm
    · intro b ps q
      exact ⟨#[], by rw [same b _ q fun z => exo_tbl z.symm]; simp⟩
  · intro b o q
    by_cases hb : b = a
    · subst hb
      rw [upd_same] at q
      cases q
      exact exo_ok hx
    · rw [upd_ne hb] at q
      by_cases hd : b = dx
      · subst hd
        rw [upd_same] at q
        cases q
        exact exd_ok hn (relO_put (fs := []) ry fun _ => trivial)
      · rw [upd_ne hd] at q
        refine (I.hok b o q).stay ?_ ?_ ?_
        · intro c v hc z
          refine k c v ?_ z
          rcases hc with rfl | hc
          · exact hb
          · exact at_ne e hc exo_own
        · intro c hc
          exact same c _ hc fun z => exo_own z.symm
        · intro c xs hc
          exact same c _ hc fun z => exo_tup z.symm
theorem kst_new {s : Shared} {Q : Unit → Shared → Prop} {E : Value → Shared → Prop} {A : Around} {B initId : String} {t : List Value} (b : KBase B initId t) (T : KxC X.K C B t) (I : Inv X pins σ H s) (e : H a = some (exo a C none)) (hno : PySem.W.findIn X.K (.ref C) f = some none) (ry : RelV y u)
    (h : ∀ dx s', H dx = none → dx ≠ a → Inv X pins σ (upd (upd H dx (exd dx [(f, y)])) a (exo a C (some dx))) s' → Q () s') : wpAny (model X.prog X.w) A (setAttr (.ref a) f u) Q E s := by
  obtain ⟨nm, q, N, bs, bm, sn, sub, ab, col, dd, k0, k1, k2, k3, k5, hC, _⟩ := leB_ok T.look
  obtain ⟨t1, ho⟩ := exo_at I.hok e
  obtain ⟨hp, g, d, tk, os⟩ := s
  have J : PySem.W.InstAt hp a { cls := .ref C, dict := none, data := .fields #[.ref t1, .none, .none, .none, .bool false, .none] } C none := ⟨ho, rfl, rfl, trivial⟩
  refine PySem.W.set_plain I.kIn J T.sa ?_
  have ht : PySem.W.takerIn X.K C f = some none := by
    unfold PySem.W.takerIn
    rw [hno]
    rfl
  refine PySem.W.osa_openX b.st I.kIn J T.ov ht fun bb => ?_
  have lc : PySem.W.Looks (model X.prog X.w) hp (classData C) _ := PySem.W.looks_clsIn I.kIn (by unfold PySem.W.clsIn; rw [hC])
  have apart : a ≠ hp.objs.size := Nat.ne_of_lt (Heap.lt_size ho)
  show wpAny _ _ (Builtin.ObjectAttr.storeInOwnDict (.ref a) (.ref C) _ f u bb) _ _ _
  unfold Builtin.ObjectAttr.storeInOwnDict Builtin.ObjectAttr.ownDictForStores
  repeat
    first
    | with_reducible refine HandSPX.store_in_new ?_ ?_
    | with_reducible refine wpAny_loadPart_at ho ?_
    | with_reducible refine lc.at ?_
    | wp_step
  · have new := Heap.get?_push_at (h := hp) (o := { cls := .type "dict", data := .dict #[] }) (a := hp.objs.size) rfl rfl
    refine ⟨_, #[], _, (Heap.get?_update_ne _ _ _ _ apart.symm).trans new, rfl, ?_, fun _ => rfl⟩
    exact fun _ he => absurd he (by simp)
  · intro h' tk' hn' hs
    have old : (hp.push { cls := .type "dict", data := .dict #[] }).get? a = some ({ cls := .ref C, dict := none, data := .fields #[.ref t1, .none, .none, .none, .bool false, .none] } : Obj) := Heap.get?_push_of_some _ ho
    have hx := (hs.2 a apart).trans (Heap.get?_update_self _ old rfl)
    refine h hp.objs.size _ (I.hok.fresh (Nat.le_refl _)) apart.symm (exo_dict (tk := tk) (tk' := tk') I e ?_ (Nat.le_refl _) apart.symm hx hn' ry)
    intro b' o hb ho'
    rw [hs.2 b' (Nat.ne_of_lt (Heap.lt_size ho')), Heap.get?_update_ne _ _ _ _ hb]
    exact Heap.get?_push_of_some _ ho'
theorem kinit_ok {s : Shared} {us : List Value} {Q : Value → Shared → Prop} {E : Value → Shared → Prop} {A : Around} {B initId : String} {t : List Value} (b : KBase B initId t) (T : KxC X.K C B t) (I : Inv X pins σ H s) (e : H a = some (exo a C none)) (hl : us.length ≤ sizeLine) (h : ∀ s', Inv X pins σ H s' → Q .none s') :
    wpAny (model X.prog X.w) A (call (.builtin initId) (.ref a :: us)) Q E s := by
  obtain ⟨nm, q, N, bs, bm, sn, sub, ab, col, dd, k0, k1, k2, k3, k5, hC, hm⟩ := leB_ok T.look
  obtain ⟨t1, ho⟩ := exo_at I.hok e
  obtain ⟨hp, g, d, tk, os⟩ := s
  refine wpAny_call (kinit_base b.ini hm (I.kIn _ _ hC) ho (fun h' t2 k hx => ?_) hl)
  have J := I.write (x := a) (e := a) (o := exo a C none) (t' := tk) (by rw [e]; trivial) (Or.inl rfl) k ⟨_, hx⟩ (exo_ok hx)
  have same : upd H a (exo a C none) = H := funext fun b' => by
    by_cases hb : b' = a
    · subst hb; rw [upd_same, e]
    · rw [upd_ne hb]
  exact h _ (same ▸ J)
end

/-! ### the statements of such an __init__, the call, raise -/
def tKin (K : PySem.W.Frag) (B : String) (t : List Value) (ta : TA) : TE := fun σ H Q => ta σ H fun vs H1 => ∃ (a C : Addr) (ws : List V), vs = .ref a :: ws ∧ ws.length ≤ 1000 ∧ KxC K C B t ∧ H1 a = some (exo a C none) ∧ Q .non H1
def tKst (K : PySem.W.Frag) (B : String) (t : List Value) (f : Str) (to te : TE) : TS := fun D σ H => te σ H fun y H1 => to σ H1 fun x H2 => ∃ a C : Addr, x = .ref a ∧ KxC K C B t ∧ PySem.W.findIn K (.ref C) f = some none ∧
  H2 a = some (exo a C none) ∧ ∀ dx, H2 dx = none → dx ≠ a → D.nx σ (upd (upd H2 dx (exd dx [(f, y)])) a (exo a C (some dx)))
structure KName (K : PySem.W.Frag) (Ba : Addr) (initId : String) : Prop where
  rd : PySem.W.readsIn K Ba (.type "type") = true
  ga : PySem.W.specialIn K (.ref Ba) "__getattribute__" = some (some (.builtin "type.__getattribute__"))
  at_ : PySem.W.findCls K (.ref Ba) (.type "type") "__init__" = some (.val (.builtin initId))
section
variable {X : Cx} {o e : Expr} {es : List Expr} {to te : TE} {ta : TA} {x f : Str} {p1 p2 p' pos : Pos} {Ba : Addr} {B initId : String} {t : List Value}
theorem pe_kinit (b : KBase B initId t) (hh : PySem.W.handedIn (.builtin initId) = true) (hb : KName X.K Ba initId) (hg : Gl X x) (hm : X.mg x = some (.ref Ba)) (ha : PA X (e :: es) ta) (hdb : (x == ("__debug__" : Str)) = false := by decide) {pl : Sem Bool}
    (hc : eval (.Call (.Attribute (.Name x p1) "__init__" p2) (e :: es) [] pos) X.env = (do
      let ov ← eval (.Name x p1) X.env
      standAt p2.atName
      let (f, first) ← holding [ov] (getMethod ov "__init__" pl)
      callWith pos f first (backTo pos (starEach (e :: es) X.env)) (backToKw pos (keywordEach [] X.env))) := by rfl)
    (he : starEach (e :: es) X.env = (false, eval e X.env) :: starEach es X.env := by rfl) (hpl : (backTo pos (starEach es X.env)).any (·.1) = false := by rfl) :
    PE X (.Call (.Attribute (.Name x p1) "__init__" p2) (e :: es) [] pos) (tKin X.K B t ta) := by
  constructor
  intro pins s σ H Q I h
  apply PySem.W.methodCall_KW (ld_glob I hg hm _ hdb) hc
  apply PySem.W.method_cls I.kIn hb.ga
  apply PySem.W.cls_value I.kIn hb.rd hb.at_ hh
  refine PyProof.Rows.callWith_method1 (thn (ha.run pos pins _ σ H _ (I.tok _) h) ?_) he hpl
  rintro us s1 ⟨vs, H1, I1, r1, a, C, ws, ev, hl, T, ea, q⟩
  subst ev
  obtain ⟨u0, ur, rfl, ra, rw'⟩ : ∃ u0 ur, us = u0 :: ur ∧ RelV (.ref a) u0 ∧ Vals ws ur := by
    cases r1 with
    | cons ra rw' => exact ⟨_, _, rfl, ra, rw'⟩
  have eu : u0 = Value.ref a := ra
  subst eu
  have hn : ur.length ≤ sizeLine := by
    have := Paired.length rw'
    have z := sizeLine_eq
    omega
  exact kinit_ok b T I1 ea hn fun s' J => ⟨.non, H1, J, rfl, q⟩
theorem ps_kst (b : KBase B initId t) (ho : PE X o to) (he : PE X e te) (hs : swapsWith e (some (.Attribute o f p')) pos.line X.env = pure false := by rfl) : PS X (.Assign [.Attribute o f p'] e pos) (tKst X.K B t f to te) := by
  constructor
  intro pins s σ H D I h
  apply plainObj_wpAny_Assign_Attribute _ hs
  apply thn (he.run pins s σ H _ I h)
  rintro v s1 ⟨y, H1, I1, r1, q1⟩
  apply thn (ho.run pins s1 σ H1 _ I1 q1)
  rintro u s2 ⟨z, H2, I2, r2, a, C, ez, T, hno, ea, q⟩
  subst ez
  have eu : u = Value.ref a := r2
  subst eu
  exact kst_new b T I2 ea hno r1 fun dx s' n ne J => ⟨σ, _, J, q dx n ne⟩
end
def tMkK (K : PySem.W.Frag) (C : Addr) (sp : Sp) (ta : TA) : L2.St → Hp → XK → Prop := fun σ H Q => ta σ H fun vs H1 => vs.length ≤ 1000 ∧ ∀ a, H1 a = none → sp (.ref a :: vs) (upd H1 a (exo a C none))
  (fun v H2 => v = .non ∧ ∃ (d : Addr) (fs : List (Str × V)), H2 a = some (exo a C (some d)) ∧ H2 d = some (exd d fs) ∧ H1 d = none ∧ Q (.ref C) (some d) (upd (L2.del H2 a) d (.xd fs))) fun _ _ _ => False
theorem pmk_kex {X : Cx} {e : Expr} {ta : TA} {x : Str} {p pos : Pos} {C fI : Addr} {k : Nat} {fd : FuncData} {ps : List Str} {sp : Sp} {B : String} {t : List Value} (T : KxC X.K C B t) (iC : PySem.W.findIn X.K (.ref C) "__init__" = some (some (.ref fI))) (tI : PySem.W.typeIn X.K (.ref fI) = some (.type "function"))
    (F1 : FnOk X.prog X.w X.K X.mg X.base (L2.CX X.prog X.w) k fI fd ps sp) (hr : Room (k + 1) X.A) (hb : Binds X.K fd ps []) (hg : Gl X x) (hm : X.mg x = some (.ref C)) (ha : PA X [e] ta) (hdb : (x == ("__debug__" : Str)) = false)
    (he : starEach (e :: []) X.env = (false, eval e X.env) :: starEach [] X.env) : PMk X (.Call (.Name x p) [e] [] pos) (tMkK X.K C sp ta) := by
  intro pins s σ H Q I h
  obtain ⟨nm, q, N, bs, bm, sn, sub, ab, col, dd, k0, k1, k2, k3, k5, hC, hx⟩ := leB_ok T.look
  apply wpAny_Call_Name_kw
  apply ld_glob I hg hm _ hdb
  apply PySem.W.callWith_K (h₀ := X.base) I.ok.mod.kin T.kC _ he rfl
  apply thn (ha.run pos pins s σ H _ I h)
  rintro us s1 ⟨vs, H1, I1, r1, hz, q1⟩
  refine ⟨I1.kIn, ?_⟩
  show wpAny _ _ (call (.ref C) us) _ _ _
  obtain ⟨hp, g, dr, tk, os⟩ := s1
  have above : hp.objs.size ≤ hp.objs.size + 1 := Nat.le_succ _
  have hq := q1 (hp.objs.size + 1) (I1.hok.fresh above)
  have kp : ∀ b o, hp.get? b = some o → ((hp.push (PySem.W.kdv_tup us)).push (HandSPX.excO C hp.objs.size)).get? b = some o := by
    intro b o e
    apply Heap.get?_push_of_some
    exact Heap.get?_push_of_some _ e
  have gE : ((hp.push (PySem.W.kdv_tup us)).push (HandSPX.excO C hp.objs.size)).get? (hp.objs.size + 1) = some (HandSPX.excO C hp.objs.size) := by heap_get
  have I2 := I1.laid (a := hp.objs.size + 1) (o := exo (hp.objs.size + 1) C none) (t' := tk) kp above (exo_ok gE)
  have r2 : Vals (V.ref (hp.objs.size + 1) :: vs) (Value.ref (hp.objs.size + 1) :: us) := .cons rfl r1
  have hl : (Value.ref (hp.objs.size + 1) :: us).length = ps.length := r2.length.symm.trans (F1.len _ _ _ _ hq)
  have few : us.length ≤ sizeLine := by
    have e1 := Paired.length r1
    have e2 := sizeLine_eq
    omega
  have bind := hb _ (Value.ref (hp.objs.size + 1) :: us) I2.kIn (by simpa using hl)
  rw [List.append_nil] at bind
  refine wpAny_call (kcall hx (I1.kIn _ _ hC) few (PySem.W.looks_findIn I1.kIn iC) (fun self => PySem.W.bind_fn I1.kIn self tI) (codeAny_mono (F1.run _ X.stack _ _ ⟨Value.ref (hp.objs.size + 1) :: us, []⟩ _ _ _ (fun _ _ _ => False) (hr.make C us []) (I2.env0.make C us []) bind r2 hq) ?_))
  intro r s' z
  match r, z with
  | .error er, z => exact passL pins σ _ _ er s' I2 z
  | .ok .next, z => exact False.elim z
  | .ok .brk, z => exact False.elim z
  | .ok .cont, z => exact False.elim z
  | .ok (.ret u), z =>
    obtain ⟨v, H2, os2, bare2, un2, hok2, rv, ev, d, fs, ea, ed, hd1, q2⟩ := z
    subst ev
    obtain ⟨h2, g2, d2, t2, os'⟩ := s'
    exact ⟨rv, mk_end (raises_own T.exC T.tyC) I1 above kp un2 hok2 os2 bare2 ea ed hd1 q2⟩
def spKi (K : PySem.W.Frag) (C : Addr) (B : String) (t : List Value) (f : Str) : Sp := fun vs H Q _ => ∃ (a : Addr) (v : V), vs = [.ref a, v] ∧ KxC K C B t ∧ PySem.W.findIn K (.ref C) f = some none ∧ H a = some (exo a C none) ∧
  ∀ d, H d = none → d ≠ a → Q .non (upd (upd H d (exd d [(f, v)])) a (exo a C (some d)))
section
variable {P : Program} {w : World} {K : PySem.W.Frag} {mg : Str → Option Value} {base : Heap}
theorem kinit_fn {qual p f m : Str} {st : Stmt} {fI C : Addr} {fd : FuncData} {B : String} {t : List Value} (F : Fun K "__init__" qual st fI fd) (S : FnScope ["self", p] ["self", p] (defScope st))
    (hbody : ∀ (cdv : Value) (A : Around) (outer : List PySem.Env) (s : Shared) (H : Hp) (E : XK),
      PSs (cxOf (L2.CX P w) P w K mg base ["self", p] qual (defScope st) fI cdv A outer s H E) (defBody st) (tSeq (tDrop (tKin K B t (tCons (tVar 0) (tCons (tC (.str m)) tNil)))) (tKst K B t f (tVar 0) (tVar 1)))) :
    FnOk P w K mg base (L2.CX P w) 1 fI fd ["self", p] (spKi K C B t f) := by
  refine Fun.okX F S ?_ ?_
  · rintro vs H Q E ⟨a, v, rfl, _⟩; rfl
  · rintro cdv A outer s H vs Q E hr ⟨a, v, rfl, T, hno, ea, h⟩
    refine ⟨_, hbody cdv A outer s H E, .ref a, rfl, a, C, [.str m], rfl, Nat.le_of_ble_eq_true rfl, T, ea, ?_⟩
    exact ⟨v, rfl, .ref a, rfl, a, C, rfl, T, hno, ea, fun d hd ne => h d hd ne⟩
theorem xcl_KE {x f p : Str} {C fI : Addr} {fd : FuncData} {B : String} {t : List Value} (hm : mg x = some (.ref C)) (T : KxC K C B t) (xf : XfC K C) (no : PySem.W.findIn K (.ref C) f = some none) (iC : PySem.W.findIn K (.ref C) "__init__" = some (some (.ref fI)))
    (tI : PySem.W.typeIn K (.ref fI) = some (.type "function")) (F1 : FnOk P w K mg base (L2.CX P w) 1 fI fd ["self", p] (spKi K C B t f)) (hb : Binds K fd ["self", p] []) (hdb : (x == ("__debug__" : Str)) = false) : XCl P w K mg base x f C := by
  refine ⟨hm, xf, no, ?_⟩
  rintro X e m px pos rfl rfl rfl rfl rfl hr hg pe he pins s σ H Q I h
  refine pmk_kex T iC tI F1 hr hb hg hm (pa_cons pe pa_nil he) hdb he pins s σ H Q I ?_
  refine td_mono (fun v H1 q => ?_) h
  refine ⟨by show 1 ≤ 1000; decide, fun a ha => ⟨a, v, rfl, T, no, upd_same, fun dx hd ne => ?_⟩⟩
  have hd1 : H1 dx = none := by rw [upd_ne ne] at hd; exact hd
  refine ⟨rfl, dx, [(f, v)], upd_same, ?_, hd1, ?_⟩
  · rw [upd_ne ne, upd_same]
  · rw [exo_out ha hd1 ne]
    exact q dx hd1
end
end DL

set_option Elab.async false
set_option linter.all false
set_option maxRecDepth 100000
set_option maxHeartbeats 4000000
set_option autoImplicit false
/-! X8: xs.pop(i), xs.index(y). -/
namespace DL
open PySem PySem.Spec L2 Evl PyProof.Rows
section
variable {X : Cx} {K : PySem.W.Frag}
theorem RepL.eraseIdx {F : Hp} : ∀ {vs : List V} {ds : List D} (n : Nat), RepL K F vs ds → RepL K F (vs.eraseIdx n) (ds.eraseIdx n)
  | _, _, _, .nil => by simp; exact .nil
  | _, _, 0, .cons a r => by simpa using r
  | _, _, n + 1, .cons a r => by simpa using .cons a (RepL.eraseIdx n r)
@[simp] def mPop (j : Nat) (a : DM) : DM := fun env R => ownL env j ∧ a env fun x e => x.con e fun kd => match kd, e[j]? with
  | .int k, some (.own b (.lst xs)) => ∃ n y, seqIndex? k xs.length = some n ∧ Fits62 k ∧ xs[n]? = some y ∧ R (.vl y) (e.set j (.own b (.lst (xs.eraseIdx n))))
  | _, _ => False
theorem dpop (i : Nat) {x : Str} {e : Expr} {m : DM} {px apos cpos : Pos} (hN : X.N[i]? = some x) (hv : Vis X.env.scope x) (h : DE X e m)
    (hd : (x == ("__debug__" : Str)) = false := by decide) (hcd : (x == ("__classdict__" : Str)) = false := by decide)
    (h1 : attributeBase (.Name x px) "pop" X.env (eval (.Name x px) X.env) = eval (.Name x px) X.env := by rfl)
    (h2 : ((((backTo cpos (starEach [e] X.env)).all fun x => !x.fst) && (backToKw cpos (keywordEach [] X.env)).all fun x => x.fst.isSome) && decide (([e].length + ([] : List Keyword).length + if ([] : List Keyword).isEmpty = true then 0 else 1) < 30)) = true := by rfl)
    (h3 : (apos.endLine == cpos.line) = true := by rfl) (h4 : starEach [e] X.env = (false, eval e X.env) :: starEach [] X.env := by rfl) (h5 : ((backTo cpos (starEach [] X.env)).any fun x => x.fst) = false := by rfl) :
    DE X (.Call (.Attribute (.Name x px) "pop" apos) [e] [] cpos) (mPop i m) := by
  obtain ⟨t, p, ev⟩ := h
  refine ⟨_, pe_bm PySem.F.plainAttrs_list PySem.F.slot_list_pop PySem.F.type_list_pop mt_popAt (pe_var hN hv hd hcd) (pa_cons p pa_nil h4) h1 h2 h3 h4 h5, ?_⟩
  intro C F env σ H R Q I h k
  obtain ⟨p0, vs0, q0, q1⟩ := ownL_at I h.1
  refine ⟨.ref p0, q0, Or.inl ⟨rfl, _, sq_of q1⟩, ?_⟩
  refine ev C F env σ H _ _ I h.2 ?_
  intro l e1 F1 v H1 h1 A1 r1
  obtain ⟨d, h2, s1⟩ := A1.ok.see r1 h1
  split at h2
  · rename_i kk b xs he
    obtain ⟨n, y, g1, g2, g3, g4⟩ := h2
    obtain ⟨p1, o, z1, z2, z3, z4, z5, z6⟩ := A1.ok.owns i b _ he
    rw [q0] at z1
    cases z1
    obtain ⟨vs, rfl, rl⟩ := lst_of z3
    obtain ⟨w, w1, w2⟩ := rl.get g3
    have ft : -(2 ^ 62) ≤ kk ∧ kk < 2 ^ 62 := by unfold Fits62 at g2; exact g2
    have own : Owns e1 σ i p0 := ⟨b, _, he, q0⟩
    have I2 := A1.ok.change (o := .lst (vs.eraseIdx n)) (d := .lst (xs.eraseIdx n)) he q0 (rl.eraseIdx n)
    refine ⟨p0, vs, kk, n, w, rfl, by rw [s1.int], z2, by omega, by omega, by rw [rl.length]; exact g1, w1, ?_⟩
    refine k (.vl y) _ F1 w _ g4 (A1.trans ?_) w2
    exact {
      ok := I2, ex := Ex.refl _
      fr := fun a u e nn => by
        rw [upd_ne]
        · exact e
        · rintro rfl; exact nn i own
      nw := fun _ _ e _ => e
      al := fun a e => by
        by_cases q : a = p0
        · subst q; rw [upd_same]; exact fun z => nomatch z
        · rw [upd_ne q]; exact e
      le := fun jj bb dd q => by
        by_cases z : i = jj
        · subst z
          have hj : i < e1.length := by
            rcases Nat.lt_or_ge i e1.length with z | z
            · exact z
            · rw [List.getElem?_eq_none z] at he; cases he
          rw [List.getElem?_set_self hj] at q
          cases q
          exact ⟨_, he⟩
        · rw [List.getElem?_set_ne z] at q
          exact ⟨dd, q⟩ }
  · exact h2.elim
theorem seqIx_nat {n k : Nat} (h : k < n) : seqIndex? (k : Int) n = some k := by
  unfold seqIndex?
  have h1 : ¬ ((k : Int) < 0) := by omega
  have h2 : (0 : Int) ≤ (k : Int) := by omega
  have h3 : (k : Int) < (n : Int) := by omega
  simp [h1, h2, h3]
@[simp] def mIndex (a b : DM) : DM := fun env R => a env fun x e1 => x.con e1 fun d => match d with
  | .lst _ => b e1 fun y e2 => x.con e2 fun d2 => y.con e2 fun dy => match d2 with
    | .lst xs => ∃ j : Nat, dy.flat = true ∧ xs.all D.flat = true ∧ (∃ z, xs[j]? = some z ∧ feq z dy = true) ∧ (∀ (m : Nat) (z : D), m < j → xs[m]? = some z → feq z dy = false) ∧ R (.vl (.int (j : Int))) e2
    | _ => False
  | _ => False
theorem dindex {o e : Expr} {m1 m2 : DM} {apos cpos : Pos} (ho : DE X o m1) (h : DE X e m2)
    (h1 : attributeBase o "index" X.env (eval o X.env) = eval o X.env := by rfl)
    (h2 : ((((backTo cpos (starEach [e] X.env)).all fun x => !x.fst) && (backToKw cpos (keywordEach [] X.env)).all fun x => x.fst.isSome) && decide (([e].length + ([] : List Keyword).length + if ([] : List Keyword).isEmpty = true then 0 else 1) < 30)) = true := by rfl)
    (h3 : (apos.endLine == cpos.line) = true := by rfl) (h4 : starEach [e] X.env = (false, eval e X.env) :: starEach [] X.env := by rfl) (h5 : ((backTo cpos (starEach [] X.env)).any fun x => x.fst) = false := by rfl) :
    DE X (.Call (.Attribute o "index" apos) [e] [] cpos) (mIndex m1 m2) := by
  obtain ⟨ta, pa, ea⟩ := ho
  obtain ⟨tb, pb, eb⟩ := h
  refine ⟨_, pe_bm PySem.F.plainAttrs_list PySem.F.slot_list_index PySem.F.type_list_index mt_index pa (pa_cons pb pa_nil h4) h1 h2 h3 h4 h5, ?_⟩
  intro C F env σ H R Q I h k
  refine ea C F env σ H _ _ I h ?_
  intro x e1 F1 v H1 h1 A1 r1
  obtain ⟨d, h2, s1⟩ := A1.ok.see r1 h1
  split at h2
  · rename_i xs0
    obtain ⟨p, vs0, rfl, q1, _⟩ := s1.lst A1.ok.sub
    refine ⟨Or.inl ⟨rfl, _, sq_of q1⟩, ?_⟩
    refine eb C F1 e1 σ H1 _ _ A1.ok h2 ?_
    intro y e2 F2 w H2 h3 A2 r2
    obtain ⟨d2, h4, s2⟩ := A2.ok.see (r1.on A2) h3
    obtain ⟨dy, h5, s3⟩ := A2.ok.see r2 h4
    split at h5
    · rename_i xs
      obtain ⟨j, g1, g2, ⟨z, g3, g4⟩, g5, g6⟩ := h5
      obtain ⟨p', vs, e0, q2, rl⟩ := s2.lst A2.ok.sub
      cases e0
      obtain ⟨u, u1, u2⟩ := rl.get g3
      have A := A1.trans A2
      have fw := s3.flat g1
      have fl : ∀ (n : Nat) (c : D), xs[n]? = some c → c.flat = true := fun n c e => List.all_eq_true.mp g2 c (List.mem_of_getElem? e)
      refine ⟨_, vs, w, j, u, rfl, rfl, sq_of q2, fw.flat g1, rl.flat g2, u1, ?_, ?_, k _ e2 F2 _ H2 g6 A (Rep.int _)⟩
      · rw [u2.eqV fw (fl j z g3) g1, g4]
      · intro m z' hm hz
        obtain ⟨c, c1, c2⟩ := rl.getV hz
        rw [c2.eqV fw (fl m c c1) g1, g5 m c hm c1]
    · exact h5.elim
  · exact h2.elim
end
end DL

set_option Elab.async false
set_option linter.all false
set_option maxRecDepth 100000
set_option maxHeartbeats 4000000
set_option autoImplicit false
/-! DL19: what most laws draw: numbers out of a box, names. -/
namespace DL
open PySem L2

theorem log2_small {n k : Nat} (hk : 0 < k) (h : n < 2 ^ k) : n.log2 < k := by
  by_cases z : n = 0
  · subst z; simpa using hk
  · exact (Nat.log2_lt z).mpr h
theorem cmul_ok {i j : Int} (h1 : i.natAbs < 2 ^ 4000) (h2 : j.natAbs < 2 ^ 4000) : CMulW i j := by
  have a := log2_small (by decide) h1
  have b := log2_small (by decide) h2
  unfold CMulW
  omega
theorem cmul_s {i j : Int} (h1 : i.natAbs < 18446744073709551616) (h2 : j.natAbs < 18446744073709551616) : CMulW i j :=
  cmul_ok (Nat.lt_of_lt_of_le h1 (by decide +kernel)) (Nat.lt_of_lt_of_le h2 (by decide +kernel))
theorem cpow_s {i j : Int} (h0 : 0 ≤ j) (h1 : j ≤ 1000000) (h2 : i.natAbs < 18446744073709551616) : CPow i j := ⟨h0, h1, h2⟩
theorem clog_s {j : Int} (h : j.natAbs < 18446744073709551616) : j.natAbs.log2 < 9000 := Nat.lt_of_lt_of_le (log2_small (k := 64) (by decide) h) (by decide)

theorem app_list (a b : Str) : (a ++ b).cps.toList = a.cps.toList ++ b.cps.toList := by
  show (a.cps ++ b.cps).toList = _
  simp
theorem len_list (a : Str) : a.length = a.cps.toList.length := by simp [Str.length]
theorem str_ext {a b : Str} (h : a.cps.toList = b.cps.toList) : a = b := by
  cases a; cases b
  simp at h
  simpa using h
section
local macro_rules | `(tactic| k_upd) => `(tactic| (first | exact trivial | exact rfl | ((try dsimp only); first | assumption | exact fits62 (by omega) (by omega) | exact cmul_s (by omega) (by omega) | exact cpow_s (by omega) (by omega) (by omega) | exact And.intro (by omega) (clog_s (by omega)) | exact Nat.le_of_ble_eq_true rfl | decide | omega)))
local macro_rules | `(tactic| k_memK) => `(tactic| first | (refine an_i ?_ ?_; focus k_upd) | refine ex_i rfl ?_ | refine ite_t rfl ?_ | refine ite_f Bool.false_ne_true ?_)
local macro_rules | `(tactic| k_allIn) => `(tactic| repeat k_memK)

def Bx (m : Int) (d : D) : Prop := ∃ a b n : Int, d = .lst [.int a, .int b, .int n] ∧ 0 ≤ a ∧ 0 ≤ b ∧ b < 2147483647 ∧ 0 ≤ n ∧ n ≤ m
theorem Bx.mono {m k : Int} {d : D} (h : Bx m d) (l : m ≤ k) : Bx k d := by
  obtain ⟨a, b, n, h1, h2, h3, h4, h5, h6⟩ := h
  exact ⟨a, b, n, h1, h2, h3, h4, h5, by omega⟩
def takeM (c : Int) : DStm :=
  mSeq (mIfS (mB (mOp2 aGt (mOp2 aIx (mVar 0) (mC (.int 0))) (mC (.int 0)))) (mSeq (mSet 2 (mOp2 aMod (mOp2 aIx (mVar 0) (mC (.int 0))) (mVar 1))) (mSeq (mSetIx 0 (mC (.int 0)) (mOp2 aFdiv (mOp2 aIx (mVar 0) (mC (.int 0))) (mVar 1))) (mRet (mVar 2)))) (mSkip)) (mSeq (mSetIx 0 (mC (.int 2)) (mOp2 aAdd (mOp2 aIx (mVar 0) (mC (.int 2))) (mC (.int 1)))) (mSeq (mSet 3 (mOp2 aMod (mOp2 aPow (mOp2 aAdd (mOp2 aAdd (mOp2 aIx (mVar 0) (mC (.int 1))) (mOp2 aMul (mC (.int 7919)) (mOp2 aIx (mVar 0) (mC (.int 2))))) (mC (.int c))) (mC (.int 5))) (mC (.int 2147483647)))) (mSeq (mSet 4 (mOp2 aMod (mOp2 aPow (mOp2 aAdd (mOp2 aAdd (mOp2 aFdiv (mVar 3) (mC (.int 8))) (mOp2 aMul (mOp2 aMul (mC (.int 96581)) (mOp2 aIx (mVar 0) (mC (.int 2)))) (mOp2 aIx (mVar 0) (mC (.int 2))))) (mC (.int 3))) (mC (.int 3))) (mC (.int 2147483629)))) (mRet (mOp2 aMod (mOp2 aAdd (mOp2 aFdiv (mVar 3) (mC (.int 4))) (mOp2 aMul (mC (.int 536870909)) (mOp2 aFdiv (mVar 4) (mC (.int 4))))) (mVar 1))))))
def sdTake : DSpec := fun args R => ∃ (m many : Int) (d : D), args = [.own true d, .val (.int many)] ∧ Bx m d ∧ m < 900000 ∧ 0 < many ∧ many < 1000000 ∧
  ∀ (k : Int) (d' : D), 0 ≤ k → k < many → Bx (m + 1) d' → R (.vl (.int k)) [.own true d', .no]
theorem take_len : ∀ args R, sdTake args R → args.length = 2 := by
  rintro args R ⟨m, many, d, rfl, _⟩; rfl
theorem take_i {args : List Slot} {R : RV → List Slot → Prop} {m many : Int} {d : D} (B : Bx m d) (hm : m < 900000) (h0 : 0 < many) (h1 : many < 1000000) (e : args = [.own true d, .val (.int many)])
    (k : ∀ (k : Int) (d' : D), 0 ≤ k → k < many → Bx (m + 1) d' → R (.vl (.int k)) [.own true d', .no]) : sdTake args R := ⟨m, many, d, e, B, hm, h0, h1, k⟩
theorem take_spec {c : Int} (hc : c.natAbs < 1000000) : ∀ args R, sdTake args R → takeM c { nx := fun e => R (.vl .non) (outs 2 e), rt := fun r e => R r (outs 2 e) } (startE 5 args) := by
  rintro args R ⟨m, many, d, rfl, ⟨a, b, n, rfl, h3, h4, h5, h6, h7⟩, hm, h1, h2, h8⟩
  have q0 : 0 ≤ 96581 * (n + 1) * (n + 1) := Int.mul_nonneg (by omega) (by omega)
  have q1 : 96581 * (n + 1) * (n + 1) ≤ 96581 * 1000000 * 1000000 := Int.mul_le_mul (by omega) (by omega) (by omega) (by omega)
  k_allIn
  refine ite_i (fun cc => ?_) (fun cc => ?_)
  · k_allIn
    exact h8 _ _ (Int.emod_nonneg _ (by omega)) (Int.emod_lt_of_pos _ h1) ⟨_, b, n, rfl, Int.ediv_nonneg h3 (by omega), h4, h5, h6, by omega⟩
  · k_allIn
    exact h8 _ _ (Int.emod_nonneg _ (by omega)) (Int.emod_lt_of_pos _ h1) ⟨a, b, n + 1, rfl, h3, h4, h5, by omega, by omega⟩
end
end DL

set_option Elab.async false
set_option linter.all false
set_option maxRecDepth 100000
set_option maxHeartbeats 4000000
set_option autoImplicit false
/-! DL20: the drawn names. -/
namespace DL
open PySem L2

def LET : Str := "abcdefghijklmnopqrstuvwxyz"
def okName (s : Str) : Prop := 1 ≤ s.length ∧ s.length ≤ 8 ∧ ∀ c ∈ s.cps.toList, c ∈ LET.cps.toList
structure NamesOk (m : Nat) (l : List Str) : Prop where
  len : l.length = m
  ok : ∀ s ∈ l, okName s
  nd : l.Nodup
def namesM (sd_l_take : DSpec) : DStm :=
  mSeq (mSet 2 (mC (.str "abcdefghijklmnopqrstuvwxyz"))) (mSeq (mUn 2 (gsCons (gN 3) (gsCons (gN 4) (gsNil))) (mTup (mCons (mCall sd_l_take [] (mcCons (mVar 0) (mcCons (mC (.int 3)) (mcNil)))) (mCons (mCall sd_l_take [] (mcCons (mVar 0) (mcCons (mC (.int 26)) (mcNil)))) (mNil))))) (mSeq (mUn 2 (gsCons (gN 5) (gsCons (gN 6) (gsNil))) (mTup (mCons (mOp2 aAdd (mC (.int 1)) (mCall sd_l_take [] (mcCons (mVar 0) (mcCons (mC (.int 8)) (mcNil))))) (mCons (mOp2 aIx (mLst (mCons (mC (.int 1)) (mCons (mC (.int 3)) (mCons (mC (.int 5)) (mCons (mC (.int 7)) (mCons (mC (.int 9)) (mCons (mC (.int 11)) (mCons (mC (.int 15)) (mNil))))))))) (mCall sd_l_take [] (mcCons (mVar 0) (mcCons (mC (.int 7)) (mcNil))))) (mNil))))) (mSeq (mSet 7 (mCall sd_l_take [] (mcCons (mVar 0) (mcCons (mVar 5) (mcNil))))) (mSeq (mSet 8 (mM1 aJoin (mC (.str "")) (mLc (mRange1 (mC (.int 7))) (gN 11) (mYes) (mOp2 aIx (mVar 2) (mCall sd_l_take [] (mcCons (mVar 0) (mcCons (mC (.int 26)) (mcNil))))) [11]))) (mSeq (mIfS (mB (mOp2 aEq (mVar 3) (mC (.int 0)))) (mSeq (mSet 9 (mM1 aSplit (mC (.str "here silent gone top back add begin cut leave stop wrong right lie turn takes gives")) (mC (.str " ")))) (mSeq (mSet 6 (mOp2 aIx (mLst (mCons (mC (.int 1)) (mCons (mC (.int 3)) (mCons (mC (.int 5)) (mCons (mC (.int 7)) (mCons (mC (.int 9)) (mCons (mC (.int 11)) (mCons (mC (.int 13)) (mNil))))))))) (mOp2 aMod (mVar 6) (mC (.int 7))))) (mRet (mLc (mRange1 (mVar 1)) (gN 11) (mYes) (mOp2 aIx (mVar 9) (mOp2 aMod (mOp2 aAdd (mVar 4) (mOp2 aMul (mVar 6) (mVar 11))) (mC (.int 16)))) [11])))) (mSkip)) (mSeq (mIfS (mAndT (mB (mOp2 aEq (mVar 3) (mC (.int 1)))) (mB (mOp2 aLe (mVar 1) (mC (.int 8))))) (mSeq (mSet 8 (mOp2 aAdd (mVar 8) (mOp2 aIx (mVar 2) (mVar 4)))) (mRet (mLc (mRange1 (mVar 1)) (gN 11) (mYes) (mSl (mVar 8) (moNo) (moSo (mOp2 aAdd (mC (.int 1)) (mOp2 aMod (mOp2 aAdd (mVar 7) (mVar 11)) (mC (.int 8)))))) [11]))) (mSkip)) (mSeq (mSet 10 (mLc (mRange1 (mVar 1)) (gN 11) (mYes) (mOp2 aIx (mVar 2) (mOp2 aMod (mOp2 aAdd (mVar 4) (mOp2 aMul (mVar 6) (mVar 11))) (mC (.int 26)))) [11])) (mRet (mLc (mIt (mVar 10)) (gN 12) (mYes) (mOp2 aAdd (mOp2 aAdd (mSl (mVar 8) (moNo) (moSo (mVar 7))) (mVar 12)) (mSl (mVar 8) (moSo (mVar 7)) (moSo (mOp2 aSub (mVar 5) (mC (.int 1)))))) [12])))))))))
def sdNames : DSpec := fun args R => ∃ (m : Int) (many : Nat) (d : D), args = [.own true d, .val (.int many)] ∧ Bx m d ∧ 0 ≤ m ∧ m < 800000 ∧ 1 ≤ many ∧ many ≤ 12 ∧
  ∀ (l : List Str) (d' : D), NamesOk many l → Bx (m + 13) d' → R (.tm (.lst (l.map .str))) [.own true d', .no]
theorem names_len : ∀ args R, sdNames args R → args.length = 2 := by
  rintro args R ⟨m, many, d, rfl, _⟩; rfl
theorem LET_list : LET.cps.toList = (List.range 26).map (· + 97) := by decide +kernel
theorem ixN_nat {n k : Nat} (h : k < n) : ixN n (k : Int) = some k := by
  unfold ixN
  rw [if_pos (by omega)]
  simp [h]
theorem atI_nat {α : Type} {l : List α} {k : Nat} {x : α} (h : l[k]? = some x) : atI l (k : Int) = some x := by
  have hk : k < l.length := by
    rcases Nat.lt_or_ge k l.length with z | z
    · exact z
    · rw [List.getElem?_eq_none z] at h; cases h
  unfold atI
  rw [ixN_nat hk]
  exact h
theorem let_at {k : Nat} (h : k < 26) : atI LET.cps.toList (k : Int) = some (k + 97) := by
  refine atI_nat ?_
  rw [LET_list, List.getElem?_map, List.getElem?_range h]
  rfl
theorem let_mem {k : Nat} (h : k < 26) : k + 97 ∈ LET.cps.toList := by
  rw [LET_list]
  exact List.mem_map.mpr ⟨k, List.mem_range.mpr h, rfl⟩
theorem join_nil_list (l : List Str) : (Txt.join "" l).cps.toList = (l.map fun s => s.cps.toList).flatten := by
  show (Builtin.Str.glued (Str.ofString "") l).cps.toList = _
  rw [StrLaws.glued_eq_join]
  have e : (Str.ofString "").cps.toList = [] := by decide
  induction l with
  | nil => rfl
  | cons a r ih =>
    cases r with
    | nil => simp [Str.join]
    | cons b r =>
      rw [show Str.join (Str.ofString "") (a :: b :: r) = a ++ Str.ofString "" ++ Str.join (Str.ofString "") (b :: r) from rfl, app_list, app_list, ih, e]
      simp
abbrev sg (c : Nat) : Str := ⟨#[c]⟩
def WORDS : List Str := ["here", "silent", "gone", "top", "back", "add", "begin", "cut", "leave", "stop", "wrong", "right", "lie", "turn", "takes", "gives"]
theorem words_split : Txt.split "here silent gone top back add begin cut leave stop wrong right lie turn takes gives" " " = WORDS := by decide +kernel
theorem words_ok : ∀ s ∈ WORDS, okName s := by
  have h : WORDS.all (fun s => decide (1 ≤ s.length) && decide (s.length ≤ 8) && s.cps.toList.all fun c => decide (c ∈ LET.cps.toList)) = true := by decide +kernel
  intro s m
  have := List.all_eq_true.mp h s m
  simp only [Bool.and_eq_true, decide_eq_true_eq, List.all_eq_true] at this
  exact ⟨this.1.1, this.1.2, this.2⟩
theorem words_nd : ∀ i j : Fin 16, WORDS.getD i.val "" = WORDS.getD j.val "" → i = j := by decide +kernel
theorem step_at {st : Int} (h0 : 0 ≤ st) (h1 : st < 7) : ∃ s : Int, atI [D.int 1, .int 3, .int 5, .int 7, .int 9, .int 11, .int 15] st = some (.int s) ∧ (s = 1 ∨ s = 3 ∨ s = 5 ∨ s = 7 ∨ s = 9 ∨ s = 11 ∨ s = 15) := by
  have : st = 0 ∨ st = 1 ∨ st = 2 ∨ st = 3 ∨ st = 4 ∨ st = 5 ∨ st = 6 := by omega
  rcases this with rfl | rfl | rfl | rfl | rfl | rfl | rfl <;> exact ⟨_, rfl, by decide⟩
theorem step_at2 {st : Int} (h0 : 0 ≤ st) (h1 : st < 7) : ∃ s : Int, atI [D.int 1, .int 3, .int 5, .int 7, .int 9, .int 11, .int 13] st = some (.int s) ∧ (s = 1 ∨ s = 3 ∨ s = 5 ∨ s = 7 ∨ s = 9 ∨ s = 11 ∨ s = 13) := by
  have : st = 0 ∨ st = 1 ∨ st = 2 ∨ st = 3 ∨ st = 4 ∨ st = 5 ∨ st = 6 := by omega
  rcases this with rfl | rfl | rfl | rfl | rfl | rfl | rfl <;> exact ⟨_, rfl, by decide⟩
theorem names_range (n : Nat) (nm : Nat → Str) : ((List.range n).filterMap fun k => some (D.str (nm k))) = ((List.range n).map nm).map D.str := by
  rw [List.map_map, ← List.filterMap_eq_map]; rfl
theorem cast_ix (a b k n : Nat) : ((a : Int) + (b : Int) * (k : Int)) % (n : Int) = (((a + b * k) % n : Nat) : Int) := by
  rw [Int.natCast_emod, Int.natCast_add, Int.natCast_mul]
theorem way0_ok {fn sp many : Nat} (hs : sp = 1 ∨ sp = 3 ∨ sp = 5 ∨ sp = 7 ∨ sp = 9 ∨ sp = 11 ∨ sp = 13) (hm : many ≤ 12) : NamesOk many ((List.range many).map fun k => WORDS.getD ((fn + sp * k) % 16) "") := by
  have hl : WORDS.length = 16 := by decide
  have ix : ∀ k, (fn + sp * k) % 16 < WORDS.length := fun k => by rw [hl]; omega
  have gd : ∀ k, WORDS.getD ((fn + sp * k) % 16) "" = WORDS[(fn + sp * k) % 16]'(ix k) := fun k => by rw [List.getD_eq_getElem?_getD, List.getElem?_eq_getElem (ix k)]; rfl
  refine ⟨by simp, fun s m => ?_, nodup_range_map fun i j hi hj e => ?_⟩
  · obtain ⟨k, _, rfl⟩ := List.mem_map.mp m
    rw [gd]
    exact words_ok _ (List.getElem_mem _)
  · have := congrArg Fin.val (words_nd ⟨(fn + sp * i) % 16, by omega⟩ ⟨(fn + sp * j) % 16, by omega⟩ e)
    simp only [] at this
    rcases hs with rfl | rfl | rfl | rfl | rfl | rfl | rfl <;> omega
theorem way1_ok {L : List Nat} {at_ many : Nat} (hL : L.length = 8) (hm : ∀ c ∈ L, c ∈ LET.cps.toList) (h8 : many ≤ 8) : NamesOk many ((List.range many).map fun k => ⟨(L.take (1 + (at_ + k) % 8)).toArray⟩) := by
  refine ⟨by simp, fun s m => ?_, nodup_range_map fun i j hi hj e => ?_⟩
  · obtain ⟨k, _, rfl⟩ := List.mem_map.mp m
    have h : (L.take (1 + (at_ + k) % 8)).length = 1 + (at_ + k) % 8 := by rw [List.length_take, hL]; omega
    refine ⟨?_, ?_, fun c hc => hm c (List.mem_of_mem_take (by simpa using hc))⟩
    · rw [len_list]; simp only []; rw [h]; omega
    · rw [len_list]; simp only []; rw [h]; omega
  · have h := congrArg (fun s : Str => s.cps.toList.length) e
    simp only [List.length_take, hL] at h
    omega
theorem way2_ok {L : List Nat} {at_ z fn sp many : Nat} (hL : L.length = 7) (hm : ∀ c ∈ L, c ∈ LET.cps.toList) (hz : z < 8) (ha : at_ ≤ z) (hs : sp = 1 ∨ sp = 3 ∨ sp = 5 ∨ sp = 7 ∨ sp = 9 ∨ sp = 11 ∨ sp = 15) (hmany : many ≤ 12) :
    NamesOk many ((List.range many).map fun k => ⟨(L.take at_ ++ [(fn + sp * k) % 26 + 97] ++ (L.drop at_).take (z - at_)).toArray⟩) := by
  refine ⟨by simp, fun s m => ?_, nodup_range_map fun i j hi hj e => ?_⟩
  · obtain ⟨k, _, rfl⟩ := List.mem_map.mp m
    have h : (L.take at_ ++ [(fn + sp * k) % 26 + 97] ++ (L.drop at_).take (z - at_)).length = z + 1 := by
      simp only [List.length_append, List.length_take, List.length_drop, List.length_cons, List.length_nil, hL]; omega
    refine ⟨?_, ?_, fun c hc => ?_⟩
    · rw [len_list]; simp only []; rw [h]; omega
    · rw [len_list]; simp only []; rw [h]; omega
    · have hc' : c ∈ L.take at_ ++ [(fn + sp * k) % 26 + 97] ++ (L.drop at_).take (z - at_) := hc
      rcases List.mem_append.mp hc' with q | q
      · rcases List.mem_append.mp q with q | q
        · exact hm c (List.mem_of_mem_take q)
        · rw [List.mem_singleton.mp q]; exact let_mem (Nat.mod_lt _ (by decide))
      · exact hm c (List.mem_of_mem_drop (List.mem_of_mem_take q))
  · have h := congrArg (fun s : Str => s.cps.toList[at_]?) e
    have la : (L.take at_).length = at_ := by rw [List.length_take, hL]; omega
    have g : ∀ c : Nat, (L.take at_ ++ [c] ++ (L.drop at_).take (z - at_))[at_]? = some c := fun c => by
      rw [List.append_assoc, List.getElem?_append_right (by omega), la]; simp
    simp only [g, Option.some.injEq] at h
    rcases hs with rfl | rfl | rfl | rfl | rfl | rfl | rfl <;> omega
section
local macro_rules | `(tactic| k_upd) => `(tactic| (first | exact trivial | exact rfl | ((try dsimp only); first | assumption | exact fits62 (by omega) (by omega) | exact cmul_s (by omega) (by omega) | exact cpow_s (by omega) (by omega) (by omega) | exact And.intro (by omega) (clog_s (by omega)) | exact Nat.le_of_ble_eq_true rfl | decide | omega)))
local macro_rules | `(tactic| k_memK) => `(tactic| first | (refine an_i ?_ ?_; focus k_upd) | refine ex_i rfl ?_ | refine ite_t rfl ?_ | refine ite_f Bool.false_ne_true ?_)
local macro_rules | `(tactic| k_allIn) => `(tactic| repeat k_memK)

set_option pp.deepTerms false
set_option pp.maxSteps 1500
theorem le_line {n : Nat} (h : n ≤ 16000000) : n ≤ sizeLine := Nat.le_trans h (Nat.le_of_ble_eq_true rfl)
theorem cut_list (s : Str) (lo hi : Option Int) : (cutS s lo hi).cps.toList = (s.cps.toList.drop (HT.sIx s.length 0 lo)).take (HT.sIx s.length s.length hi - HT.sIx s.length 0 lo) := by
  unfold cutS; simp
def lastM : DStm :=
  mSeq (mSet 10 (mLc (mRange1 (mVar 1)) (gN 11) mYes (mOp2 aIx (mVar 2) (mOp2 aMod (mOp2 aAdd (mVar 4) (mOp2 aMul (mVar 6) (mVar 11))) (mC (.int 26)))) [11]))
    (mRet (mLc (mIt (mVar 10)) (gN 12) mYes (mOp2 aAdd (mOp2 aAdd (mSl (mVar 8) moNo (moSo (mVar 7))) (mVar 12)) (mSl (mVar 8) (moSo (mVar 7)) (moSo (mOp2 aSub (mVar 5) (mC (.int 1)))))) [12]))
theorem last_ok {R : RV → List Slot → Prop} {many fn sp at_ z : Nat} {d6 : D} {way : Int} {S : Str} (h3 : many ≤ 12) (hf : fn < 26) (hs : sp = 1 ∨ sp = 3 ∨ sp = 5 ∨ sp = 7 ∨ sp = 9 ∨ sp = 11 ∨ sp = 15) (hz : z < 8) (ha : at_ ≤ z) (hS : S.cps.toList.length = 7) (hm : ∀ c ∈ S.cps.toList, c ∈ LET.cps.toList)
    (fin : ∀ l : List Str, NamesOk many l → R (.tm (.lst (l.map .str))) [.own true d6, .no]) :
    lastM { nx := fun e => R (.vl .non) (outs 2 e), rt := fun r e => R r (outs 2 e) } [.own true d6, .val (.int (many : Int)), .val (.str LET), .val (.int way), .val (.int (fn : Int)), .val (.int (1 + (z : Int))), .val (.int (sp : Int)), .val (.int (at_ : Int)), .val (.str S), .no, .no, .no, .no] := by
  have lS : S.length ≤ sizeLine := by rw [len_list, hS]; exact Nat.le_of_ble_eq_true rfl
  k_allIn
  refine compI_range (n := many) (fun k => some (.str (sg ((fn + sp * k) % 26 + 97)))) trivial (by omega) (fun k hk K hK => ?_) ?_
  · k_allIn
    have e : atI LET.cps.toList (((fn : Int) + (sp : Int) * (k : Int)) % 26) = some ((fn + sp * k) % 26 + 97) := by
      rw [show (26 : Int) = ((26 : Nat) : Int) from rfl, cast_ix]
      exact let_at (Nat.mod_lt _ (by decide))
    refine ex_i e ?_
    exact hK
  · rw [names_range]
    k_allIn
    refine compI_list (fun d => match d with
      | .str q => some (.str (cutS S none (some (at_ : Int)) ++ q ++ cutS S (some (at_ : Int)) (some (1 + (z : Int) - 1))))
      | _ => none) trivial (by simp; omega) (fun x hx K hK => ?_) ?_
    · obtain ⟨q, hq, rfl⟩ := List.mem_map.mp hx
      obtain ⟨kk, _, rfl⟩ := List.mem_map.mp hq
      k_allIn
      refine an_i (le_line (by rw [len_list, cut_list, List.length_take, List.length_drop]; show _ + 1 ≤ _; omega)) ?_
      k_allIn
      refine an_i (le_line (by rw [len_list, len_list, app_list, cut_list, cut_list, List.length_append, List.length_take, List.length_drop, List.length_take, List.length_drop]; show _ + 1 + _ ≤ _; omega)) ?_
      exact hK
    · have e : ((((List.range many).map fun k => sg ((fn + sp * k) % 26 + 97)).map D.str).filterMap fun d => match d with
          | .str q => some (.str (cutS S none (some (at_ : Int)) ++ q ++ cutS S (some (at_ : Int)) (some (1 + (z : Int) - 1))))
          | _ => none) = (((List.range many).map fun k => (⟨(S.cps.toList.take at_ ++ [(fn + sp * k) % 26 + 97] ++ (S.cps.toList.drop at_).take (z - at_)).toArray⟩ : Str)).map D.str) := by
        rw [List.map_map, List.filterMap_map, List.map_map, ← List.filterMap_eq_map]
        refine congrFun (congrArg _ (funext fun k => ?_)) _
        show some (D.str _) = some (D.str _)
        refine congrArg some (congrArg D.str (str_ext ?_))
        rw [app_list, app_list, cut_list, cut_list, show (1 + (z : Int) - 1) = ((z : Nat) : Int) by omega]
        simp only [HT.sIx_nat, HT.sIx_none, List.drop_zero, Nat.sub_zero]
        rw [len_list, hS]
        simp only [show min at_ 7 = at_ by omega, show min z 7 = z by omega]
      show R (.tm (.lst (List.filterMap _ _))) _
      refine (congrArg (fun l => R (.tm (.lst l)) [.own true d6, .no]) e).mpr ?_
      exact fin _ (way2_ok hS hm hz ha hs h3)
theorem names_spec : ∀ args R, sdNames args R → namesM sdTake { nx := fun e => R (.vl .non) (outs 2 e), rt := fun r e => R r (outs 2 e) } (startE 13 args) := by
  rintro args R ⟨m, many, d, rfl, B0, h0, h1, h2, h3, fin⟩
  k_allIn
  refine take_i B0 (by omega) (by decide) (by decide) rfl fun way d1 w0 w1 B1 => ?_
  k_allIn
  refine take_i B1 (by omega) (by decide) (by decide) rfl fun first d2 f0 f1 B2 => ?_
  k_allIn
  refine take_i B2 (by omega) (by decide) (by decide) rfl fun size d3 z0 z1 B3 => ?_
  k_allIn
  refine take_i B3 (by omega) (by decide) (by decide) rfl fun st d4 s0 s1 B4 => ?_
  k_allIn
  obtain ⟨step, hs, hstep⟩ := step_at s0 s1
  refine ex_i hs ?_
  k_allIn
  refine take_i B4 (by omega) (by omega) (by omega) rfl fun at_ d5 a0 a1 B5 => ?_
  k_allIn
  refine compI_inv (fun j acc env => j ≤ 7 ∧ ∃ d6, Bx (m + 5 + j) d6 ∧ (∃ L : List Nat, L.length = j ∧ (∀ c ∈ L, c ∈ LET.cps.toList) ∧ acc = L.map fun c => .str (sg c)) ∧
    env = [.own true d6, .val (.int many), .val (.str LET), .val (.int way), .val (.int first), .val (.int (1 + size)), .val (.int step), .val (.int at_), .no, .no, .no, .no, .no]) ?_ ?_ ?_ ?_
  · exact ⟨by omega, d5, B5.mono (by omega), ⟨[], rfl, by simp, rfl⟩, rfl⟩
  · rintro j acc env ⟨hj, d6, B6, ⟨L, hL, hm, rfl⟩, rfl⟩
    exact ⟨trivial, by rw [List.length_map]; omega⟩
  · rintro j x acc env hx ⟨hj, d6, B6, ⟨L, hL, hm, rfl⟩, rfl⟩ K hK
    have hj7 : j < 7 := by
      rcases Nat.lt_or_ge j 7 with z | z
      · exact z
      · rw [List.getElem?_eq_none (by simpa [rangeD] using z)] at hx; cases hx
    k_allIn
    refine take_i B6 (by omega) (by omega) (by omega) rfl fun c d7 c0 c1 B7 => ?_
    k_allIn
    obtain ⟨cn, rfl⟩ : ∃ cn : Nat, c = (cn : Int) := ⟨c.toNat, by omega⟩
    refine ex_i (let_at (show cn < 26 by omega)) ?_
    refine hK _ _ ⟨by omega, d7, B7.mono (by omega), ⟨L ++ [cn + 97], by simp [hL], ?_, ?_⟩, rfl⟩
    · intro z hz
      rcases List.mem_append.mp hz with hz | hz
      · exact hm z hz
      · rw [List.mem_singleton.mp hz]; exact let_mem (by omega)
    · simp
  rintro acc env ⟨_, d6, B6, ⟨L, hL, hm, rfl⟩, rfl⟩
  have hL7 : L.length = 7 := by simpa [rangeD] using hL
  have eL : asStrs (L.map fun c => .str (sg c)) = some (L.map sg) := by
    rw [show (L.map fun c => D.str (sg c)) = (L.map sg).map D.str by rw [List.map_map]; rfl]
    exact asStrs_map _
  have eS : (Txt.join "" (L.map sg)).cps.toList = L := by
    rw [join_nil_list, List.map_map]
    show (L.map fun c => [c]).flatten = L
    clear eL hL7 hL hm
    induction L with
    | nil => rfl
    | cons a r ih => simp [ih]
  refine ex_i eL ?_
  refine an_i (by
    have : ((L.map sg).map (·.length)).sum = L.length := by
      clear eL hL7 hL hm eS
      induction L with
      | nil => rfl
      | cons a r ih => rw [List.map_cons, List.map_cons, List.sum_cons, ih, List.length_cons]; show 1 + _ = _; omega
    rw [this, List.length_map, hL7]
    exact Nat.le_of_ble_eq_true rfl) ?_
  revert eS
  generalize Txt.join "" (L.map sg) = S
  intro eS
  have lS : S.length = 7 := by rw [len_list, eS]; exact hL7
  k_allIn
  obtain ⟨fn, rfl⟩ : ∃ fn : Nat, first = (fn : Int) := ⟨first.toNat, by omega⟩
  refine ite_i (fun cw => ?_) (fun cw => ?_)
  · k_allIn
    refine an_i (by rw [words_split]; decide +kernel) ?_
    have eW : (Txt.split "here silent gone top back add begin cut leave stop wrong right lie turn takes gives" " ").map D.str = WORDS.map D.str := by rw [words_split]
    revert eW
    generalize (Txt.split "here silent gone top back add begin cut leave stop wrong right lie turn takes gives" " ").map D.str = W
    intro eW
    obtain ⟨st2, hs2, hstep2⟩ := step_at2 (st := step % 7) (by omega) (by omega)
    k_allIn
    refine ex_i hs2 ?_
    k_allIn
    obtain ⟨sp, rfl⟩ : ∃ sp : Nat, st2 = (sp : Int) := ⟨st2.toNat, by omega⟩
    refine compI_range (n := many) (fun k => some (.str (WORDS.getD ((fn + sp * k) % 16) ""))) trivial (by omega) (fun k hk K hK => ?_) ?_
    · k_allIn
      have e : atI W (((fn : Int) + (sp : Int) * (k : Int)) % 16) = some (D.str (WORDS.getD ((fn + sp * k) % 16) "")) := by
        rw [eW, show (16 : Int) = ((16 : Nat) : Int) from rfl, cast_ix]
        refine atI_nat ?_
        have hl : (fn + sp * k) % 16 < WORDS.length := by rw [show WORDS.length = 16 by decide]; omega
        rw [List.getElem?_map, List.getElem?_eq_getElem hl, List.getD_eq_getElem?_getD, List.getElem?_eq_getElem hl]
        rfl
      refine ex_i e ?_
      exact hK
    · rw [names_range]
      exact fin _ d6 (way0_ok (by omega) h3) (B6.mono (by simp [rangeD]; omega))
  · obtain ⟨sp, rfl⟩ : ∃ sp : Nat, step = (sp : Int) := ⟨step.toNat, by omega⟩
    obtain ⟨z, rfl⟩ : ∃ z : Nat, size = (z : Int) := ⟨size.toNat, by omega⟩
    obtain ⟨an, rfl⟩ : ∃ an : Nat, at_ = (an : Int) := ⟨at_.toNat, by omega⟩
    have last := last_ok (R := R) (many := many) (fn := fn) (sp := sp) (at_ := an) (z := z) (d6 := d6) (way := way) (S := S) h3 (by omega) (by omega) (by omega) (by omega) (by rw [eS]; exact hL7) (by rw [eS]; exact hm) (fun l hl => fin l d6 hl (B6.mono (by simp [rangeD]; omega)))
    k_allIn
    refine ite_i (fun c1 => ?_) (fun c1 => ?_)
    · k_allIn
      refine ite_i (fun c2 => ?_) (fun c2 => ?_)
      · have hm8 : many ≤ 8 := by
          have := of_decide_eq_true c2
          omega
        have lS1 : (S ++ sg (fn + 97)).length ≤ sizeLine := le_line (by rw [len_list, app_list, List.length_append, eS, hL7]; exact Nat.le_of_ble_eq_true rfl)
        k_allIn
        refine ex_i (let_at (show fn < 26 by omega)) ?_
        k_allIn
        refine an_i (le_line (by rw [lS]; exact Nat.le_of_ble_eq_true rfl)) ?_
        k_allIn
        refine compI_range (n := many) (fun k => some (.str (cutS (S ++ sg (fn + 97)) none (some (1 + ((an : Int) + (k : Int)) % 8))))) trivial (by omega) (fun k hk K hK => ?_) ?_
        · k_allIn
          exact hK
        · rw [names_range]
          have e : ((List.range many).map fun (k : Nat) => cutS (S ++ sg (fn + 97)) none (some (1 + ((an : Int) + (k : Int)) % 8))) = (List.range many).map fun k => (⟨((L ++ [fn + 97]).take (1 + (an + k) % 8)).toArray⟩ : Str) := by
            refine congrFun (congrArg _ (funext fun k => str_ext ?_)) _
            rw [cut_list, show (1 + ((an : Int) + (k : Int)) % 8) = ((1 + (an + k) % 8 : Nat) : Int) by omega, HT.sIx_nat, HT.sIx_none, len_list, app_list, eS]
            simp only [List.drop_zero, Nat.sub_zero]
            rw [show (L ++ (sg (fn + 97)).cps.toList) = L ++ [fn + 97] from rfl, show min (1 + (an + k) % 8) (L ++ [fn + 97]).length = 1 + (an + k) % 8 by rw [List.length_append, hL7]; simp; omega]
          rw [e]
          refine fin _ d6 (way1_ok (by rw [List.length_append, hL7]; rfl) (fun c hc => ?_) hm8) (B6.mono (by simp [rangeD]; omega))
          rcases List.mem_append.mp hc with q | q
          · exact hm c q
          · rw [List.mem_singleton.mp q]; exact let_mem (by omega)
      · exact last
    · exact last
end
end DL

set_option Elab.async false
set_option linter.all false
set_option maxRecDepth 100000
set_option maxHeartbeats 4000000
set_option autoImplicit false
namespace Law
open PySem L2 DL

abbrev cx_PeerError : Nat := 0
abbrev cx_Absent : Nat := 1
abbrev cx_Barred : Nat := 2
abbrev cx_NoName : Nat := 3
abbrev cx_NoNumber : Nat := 4
abbrev cx_Twice : Nat := 5
abbrev cx_NoJobs : Nat := 6
abbrev cx_NoDoer : Nat := 7
def isaTab : List (List (Option Bool)) := [[none, none, none, none, none, none, none, none],
  [none, none, none, none, none, none, none, none],
  [none, none, none, none, none, none, none, none],
  [none, none, none, none, none, none, none, some false],
  [none, none, none, none, none, none, none, some false],
  [none, none, none, none, none, none, none, some false],
  [none, none, none, none, none, none, none, some false],
  [none, none, none, none, none, none, none, some true]]
def isaT (x y : Nat) : Option Bool := (isaTab.getD x []).getD y none

def m_is_whole  : DStm :=
  mRet (mAndV (mIsi (mVar 0) "int") (mAndV (mNotV (mIsi (mVar 0) "bool")) (mChain aLe aLe (mVar 1) (mVar 0) (mVar 2))))

def m_is_name  : DStm :=
  mRet (mAndV (mIsi (mVar 0) "str") (mAndV (mChain aLe aLe (mC (.int 1)) (mFn aLen (maCons (mVar 0) (maNil))) (mC (.int 8))) (mFn aAll (maCons (mLc (mIt (mVar 0)) (gN 1) (mYes) (mOp2 aIn (mVar 1) (mC (.str "abcdefghijklmnopqrstuvwxyz"))) [1]) (maNil)))))

def m_need_name (sd_is_name : DSpec) : DStm :=
  mIfS (mNotT (mTru (mCall sd_is_name [] (mcCons (mVar 0) (mcNil))))) (mRaise cx_NoName "found" (mVar 0)) (mSkip)

def m_need_row (sd_need_name : DSpecX) : DStm :=
  mSeq (mIfS (mOrT (mNotT (mTru (mIsi2 (mVar 0) "list" "tuple"))) (mB (mOp2 aGt (mFn aLen (maCons (mVar 0) (maNil))) (mC (.int 8))))) (mRaise cx_NoJobs "found" (mVar 0)) (mSkip)) (mFor (mEnumA (mVar 0)) (gT 2 (gsCons (gN 1) (gsCons (gN 2) (gsNil)))) (mSeq (wX mDrop (mCallX sd_need_name (mcCons (mVar 2) (mcNil)))) (mIfS (mB (mOp2 aIn (mVar 2) (mSl (mVar 0) (moNo) (moSo (mVar 1))))) (mRaise cx_Twice "found" (mVar 2)) (mSkip))))

def m_need_jobs (sd_need_row : DSpecX) : DStm :=
  mSeq (mIfS (mOrT (mNotT (mTru (mIsi2 (mVar 0) "list" "tuple"))) (mB (mOp2 aGt (mFn aLen (maCons (mVar 0) (maNil))) (mC (.int 128))))) (mRaise cx_NoJobs "found" (mVar 0)) (mSkip)) (mFor (mIt (mVar 0)) (gN 1) (wX mDrop (mCallX sd_need_row (mcCons (mVar 1) (mcNil)))))

def m_need_most (sd_is_whole : DSpec) : DStm :=
  mIfS (mNotT (mTru (mCall sd_is_whole [] (mcCons (mVar 0) (mcCons (mC (.int 1)) (mcCons (mC (.int 128)) (mcNil))))))) (mRaise cx_NoNumber "found" (mVar 0)) (mSkip)

def m_dealt_to  : DStm :=
  mRet (mLc (mEnumA (mVar 0)) (gT 2 (gsCons (gN 2) (gsCons (gN 3) (gsNil)))) (mB (mOp2 aEq (mVar 3) (mVar 1))) (mVar 2) [2, 3])

def m_pass_on  : DStm :=
  mWhile (mB (mOp2 aIsN (mVar 2) (mC .non))) (mSeq (mSet 3 (mOp2 aDIx (mVar 1) (mVar 2))) (mSeq (mSet 4 (mOp2 aIx (mVar 0) (mVar 3))) (mSeq (mSetIx 0 (mVar 3) (mVar 2)) (mSet 2 (mVar 4)))))

def m_add_job (sd_dealt_to : DSpec) (sd_pass_on : DSpec) : DStm :=
  mSeq (mSetO 4 (mLst (mCons (mVar 3) (mNil)))) (mSeq (mSetO 5 (mDNew)) (mSeq (mSet 6 (mC (.int 0))) (mSeq (mWhile (mB (mOp2 aLt (mVar 6) (mFn aLen (maCons (mVar 4) (maNil))))) (mSeq (mSet 7 (mOp2 aIx (mVar 4) (mVar 6))) (mSeq (aAug bAdd 6 (mC (.int 1))) (mFor (mIt (mOp2 aIx (mVar 0) (mVar 7))) (gN 8) (mSeq (mIfS (mB (mOp2 (aDIn false) (mVar 8) (mVar 5))) (mCont) (mSkip)) (mSeq (mDPut 5 (mVar 8) (mVar 7)) (mSeq (mSet 9 (mCall sd_dealt_to [] (mcCons (mVar 2) (mcCons (mVar 8) (mcNil))))) (mSeq (mIfS (mB (mOp2 aLt (mFn aLen (maCons (mVar 9) (maNil))) (mVar 1))) (mSeq (mDrop (mCall sd_pass_on [] (mcCons (mVar 2) (mcCons (mVar 5) (mcCons (mVar 8) (mcNil)))))) (mRet (mC .non))) (mSkip)) (mExt 4 (mVar 9)))))))))) (mRet (mFn aSorted (maCons (mVar 4) (maNil)))))))

def m_deal_or_gap (sd_add_job : DSpec) : DStm :=
  mSeq (mSetO 2 (mOp2 aMul (mLst (mCons (mC .non) (mNil))) (mFn aLen (maCons (mVar 0) (maNil))))) (mSeq (mFor (mRange1 (mFn aLen (maCons (mVar 0) (maNil)))) (gN 3) (mSeq (mSetX 4 (mCall sd_add_job [] (mcCons (mVar 0) (mcCons (mVar 1) (mcCons (mVar 2) (mcCons (mVar 3) (mcNil))))))) (mIfS (mB (mOp2 aIsN (mVar 4) (mC .non))) (mRet2 (mC .non) (mVar 4)) (mSkip)))) (mRet2 (mVar 2) (mC .non)))

def m_deal_of (sd_need_jobs : DSpecX) (sd_need_most : DSpecX) (sd_deal_or_gap : DSpec2) : DStm :=
  mSeq (wX mDrop (mCallX sd_need_jobs (mcCons (mVar 0) (mcNil)))) (mSeq (wX mDrop (mCallX sd_need_most (mcCons (mVar 1) (mcNil)))) (mSeq (mUn2 2 3 sd_deal_or_gap (mcCons (mVar 0) (mcCons (mVar 1) (mcNil)))) (mRet (mVar 2))))

def m_gap_of (sd_need_jobs : DSpecX) (sd_need_most : DSpecX) (sd_deal_or_gap : DSpec2) : DStm :=
  mSeq (wX mDrop (mCallX sd_need_jobs (mcCons (mVar 0) (mcNil)))) (mSeq (wX mDrop (mCallX sd_need_most (mcCons (mVar 1) (mcNil)))) (mSeq (mUn2 2 3 sd_deal_or_gap (mcCons (mVar 0) (mcCons (mVar 1) (mcNil)))) (mRet (mVar 3))))

def m_least_most (sd_need_jobs : DSpecX) (sd_add_job : DSpec) : DStm :=
  mSeq (wX mDrop (mCallX sd_need_jobs (mcCons (mVar 0) (mcNil)))) (mSeq (mFor (mEnumA (mVar 0)) (gT 2 (gsCons (gN 1) (gsCons (gN 2) (gsNil)))) (mIfS (mB (mOp2 aEq (mFn aLen (maCons (mVar 2) (maNil))) (mC (.int 0)))) (mRaise cx_NoDoer "at" (mVar 1)) (mSkip))) (mSeq (mSet 3 (mFn aMin (maCons (mC (.int 1)) (maCons (mFn aLen (maCons (mVar 0) (maNil))) (maNil))))) (mSeq (mSetO 4 (mOp2 aMul (mLst (mCons (mC .non) (mNil))) (mFn aLen (maCons (mVar 0) (maNil))))) (mSeq (mFor (mRange1 (mFn aLen (maCons (mVar 0) (maNil)))) (gN 1) (mWhile (mB (mOp2 aIsN (mCall sd_add_job [] (mcCons (mVar 0) (mcCons (mVar 3) (mcCons (mVar 4) (mcCons (mVar 1) (mcNil)))))) (mC .non))) (aAug bAdd 3 (mC (.int 1))))) (mRet (mVar 3))))))

def m_l_cell  : DStm :=
  mSeq (mIfS (mB (mOp2 aLt (mVar 1) (mFn aLen (maCons (mVar 0) (maNil))))) (mRet (mOp2 aIx (mVar 0) (mVar 1))) (mSkip)) (mRet (mOp2 aAdd (mOp2 aMul (mC (.int 8039)) (mVar 1)) (mC (.int 60))))

def m_l_box  : DStm :=
  mRet (mLst (mCons (mFn aMax (maCons (mC (.int 0)) (maCons (mOp2 aSub (mVar 0) (mOp2 aPow (mC (.int 10)) (mC (.int 18)))) (maNil)))) (mCons (mOp2 aMod (mVar 0) (mC (.int 2147483629))) (mCons (mC (.int 0)) (mNil)))))

def m_l_take  : DStm :=
  mSeq (mIfS (mB (mOp2 aGt (mOp2 aIx (mVar 0) (mC (.int 0))) (mC (.int 0)))) (mSeq (mSet 2 (mOp2 aMod (mOp2 aIx (mVar 0) (mC (.int 0))) (mVar 1))) (mSeq (mSetIx 0 (mC (.int 0)) (mOp2 aFdiv (mOp2 aIx (mVar 0) (mC (.int 0))) (mVar 1))) (mRet (mVar 2)))) (mSkip)) (mSeq (mSetIx 0 (mC (.int 2)) (mOp2 aAdd (mOp2 aIx (mVar 0) (mC (.int 2))) (mC (.int 1)))) (mSeq (mSet 3 (mOp2 aMod (mOp2 aPow (mOp2 aAdd (mOp2 aAdd (mOp2 aIx (mVar 0) (mC (.int 1))) (mOp2 aMul (mC (.int 7919)) (mOp2 aIx (mVar 0) (mC (.int 2))))) (mC (.int 133))) (mC (.int 5))) (mC (.int 2147483647)))) (mSeq (mSet 4 (mOp2 aMod (mOp2 aPow (mOp2 aAdd (mOp2 aAdd (mOp2 aFdiv (mVar 3) (mC (.int 8))) (mOp2 aMul (mOp2 aMul (mC (.int 96581)) (mOp2 aIx (mVar 0) (mC (.int 2)))) (mOp2 aIx (mVar 0) (mC (.int 2))))) (mC (.int 3))) (mC (.int 3))) (mC (.int 2147483629)))) (mRet (mOp2 aMod (mOp2 aAdd (mOp2 aFdiv (mVar 3) (mC (.int 4))) (mOp2 aMul (mC (.int 536870909)) (mOp2 aFdiv (mVar 4) (mC (.int 4))))) (mVar 1))))))

def m_l_names (sd_l_take : DSpec) : DStm :=
  mSeq (mSet 2 (mC (.str "abcdefghijklmnopqrstuvwxyz"))) (mSeq (mUn 2 (gsCons (gN 3) (gsCons (gN 4) (gsNil))) (mTup (mCons (mCall sd_l_take [] (mcCons (mVar 0) (mcCons (mC (.int 3)) (mcNil)))) (mCons (mCall sd_l_take [] (mcCons (mVar 0) (mcCons (mC (.int 26)) (mcNil)))) (mNil))))) (mSeq (mUn 2 (gsCons (gN 5) (gsCons (gN 6) (gsNil))) (mTup (mCons (mOp2 aAdd (mC (.int 1)) (mCall sd_l_take [] (mcCons (mVar 0) (mcCons (mC (.int 8)) (mcNil))))) (mCons (mOp2 aIx (mLst (mCons (mC (.int 1)) (mCons (mC (.int 3)) (mCons (mC (.int 5)) (mCons (mC (.int 7)) (mCons (mC (.int 9)) (mCons (mC (.int 11)) (mCons (mC (.int 15)) (mNil))))))))) (mCall sd_l_take [] (mcCons (mVar 0) (mcCons (mC (.int 7)) (mcNil))))) (mNil))))) (mSeq (mSet 7 (mCall sd_l_take [] (mcCons (mVar 0) (mcCons (mVar 5) (mcNil))))) (mSeq (mSet 8 (mM1 aJoin (mC (.str "")) (mLc (mRange1 (mC (.int 7))) (gN 11) (mYes) (mOp2 aIx (mVar 2) (mCall sd_l_take [] (mcCons (mVar 0) (mcCons (mC (.int 26)) (mcNil))))) [11]))) (mSeq (mIfS (mB (mOp2 aEq (mVar 3) (mC (.int 0)))) (mSeq (mSet 9 (mM1 aSplit (mC (.str "here silent gone top back add begin cut leave stop wrong right lie turn takes gives")) (mC (.str " ")))) (mSeq (mSet 6 (mOp2 aIx (mLst (mCons (mC (.int 1)) (mCons (mC (.int 3)) (mCons (mC (.int 5)) (mCons (mC (.int 7)) (mCons (mC (.int 9)) (mCons (mC (.int 11)) (mCons (mC (.int 13)) (mNil))))))))) (mOp2 aMod (mVar 6) (mC (.int 7))))) (mRet (mLc (mRange1 (mVar 1)) (gN 11) (mYes) (mOp2 aIx (mVar 9) (mOp2 aMod (mOp2 aAdd (mVar 4) (mOp2 aMul (mVar 6) (mVar 11))) (mC (.int 16)))) [11])))) (mSkip)) (mSeq (mIfS (mAndT (mB (mOp2 aEq (mVar 3) (mC (.int 1)))) (mB (mOp2 aLe (mVar 1) (mC (.int 8))))) (mSeq (mSet 8 (mOp2 aAdd (mVar 8) (mOp2 aIx (mVar 2) (mVar 4)))) (mRet (mLc (mRange1 (mVar 1)) (gN 11) (mYes) (mSl (mVar 8) (moNo) (moSo (mOp2 aAdd (mC (.int 1)) (mOp2 aMod (mOp2 aAdd (mVar 7) (mVar 11)) (mC (.int 8)))))) [11]))) (mSkip)) (mSeq (mSet 10 (mLc (mRange1 (mVar 1)) (gN 11) (mYes) (mOp2 aIx (mVar 2) (mOp2 aMod (mOp2 aAdd (mVar 4) (mOp2 aMul (mVar 6) (mVar 11))) (mC (.int 26)))) [11])) (mRet (mLc (mIt (mVar 10)) (gN 12) (mYes) (mOp2 aAdd (mOp2 aAdd (mSl (mVar 8) (moNo) (moSo (mVar 7))) (mVar 12)) (mSl (mVar 8) (moSo (mVar 7)) (moSo (mOp2 aSub (mVar 5) (mC (.int 1)))))) [12])))))))))

def m_l_rows (sd_l_take : DSpec) : DStm :=
  mSeq (mPar2 3 4 (mCons (mCall sd_l_take [] (mcCons (mVar 0) (mcCons (mC (.int 4)) (mcNil)))) (mCons (mOp2 aAdd (mC (.int 1)) (mCall sd_l_take [] (mcCons (mVar 0) (mcCons (mFn aLen (maCons (mVar 1) (maNil))) (mcNil))))) (mNil)))) (mSeq (mSetO 5 (mLst (mNil))) (mSeq (mFor (mRange1 (mVar 2)) (gN 6) (mSeq (mIfS (mB (mOp2 aEq (mVar 3) (mC (.int 0)))) (mSet 7 (mLc (mIt (mVar 1)) (gN 9) (mB (mOp2 aEq (mCall sd_l_take [] (mcCons (mVar 0) (mcCons (mC (.int 2)) (mcNil)))) (mC (.int 0)))) (mVar 9) [9])) (mIfS (mB (mOp2 aEq (mVar 3) (mC (.int 1)))) (mSet 7 (mOp2 aAdd (mLst (mCons (mOp2 aIx (mVar 1) (mCall sd_l_take [] (mcCons (mVar 0) (mcCons (mVar 4) (mcNil))))) (mNil))) (mLc (mIt (mSl (mVar 1) (moSo (mVar 4)) (moNo))) (gN 9) (mB (mOp2 aEq (mCall sd_l_take [] (mcCons (mVar 0) (mcCons (mC (.int 5)) (mcNil)))) (mC (.int 0)))) (mVar 9) [9]))) (mIfS (mB (mOp2 aEq (mVar 3) (mC (.int 2)))) (mSeq (mSet 8 (mCall sd_l_take [] (mcCons (mVar 0) (mcCons (mFn aLen (maCons (mVar 1) (maNil))) (mcNil))))) (mSet 7 (mSl (mOp2 aAdd (mSl (mVar 1) (moSo (mVar 8)) (moNo)) (mSl (mVar 1) (moNo) (moSo (mVar 8)))) (moNo) (moSo (mOp2 aAdd (mC (.int 1)) (mCall sd_l_take [] (mcCons (mVar 0) (mcCons (mC (.int 2)) (mcNil))))))))) (mSet 7 (mIf (mB (mOp2 aGt (mCall sd_l_take [] (mcCons (mVar 0) (mcCons (mC (.int 3)) (mcNil)))) (mC (.int 0)))) (mSl (mVar 1) (moNo) (moSo (mVar 4))) (mLst (mCons (mOp2 aIx (mVar 1) (mCall sd_l_take [] (mcCons (mVar 0) (mcCons (mFn aLen (maCons (mVar 1) (maNil))) (mcNil))))) (mNil)))))))) (mApp 5 (mIf (mOrT (mB (mOp2 aNe (mVar 7) (mLst (mNil)))) (mB (mOp2 aEq (mCall sd_l_take [] (mcCons (mVar 0) (mcCons (mC (.int 9)) (mcNil)))) (mC (.int 0))))) (mVar 7) (mLst (mCons (mOp2 aIx (mVar 1) (mC (.int 0))) (mNil))))))) (mRet (mVar 5))))

def m_l_masks  : DStm :=
  mRet (mLc (mIt (mVar 0)) (gN 2) (mYes) (mFn aSum (maCons (mLc (mEnumA (mVar 1)) (gT 2 (gsCons (gN 3) (gsCons (gN 4) (gsNil)))) (mB (mOp2 aIn (mVar 4) (mVar 2))) (mOp2 aShl (mC (.int 1)) (mVar 3)) [3, 4]) (maNil))) [2])

def m_l_least (sd_l_masks : DSpec) : DStm :=
  mSeq (mSet 2 (mCall sd_l_masks [] (mcCons (mVar 0) (mcCons (mVar 1) (mcNil))))) (mSeq (mIfS (mB (mOp2 aIn (mC (.int 0)) (mVar 2))) (mRet (mC .non)) (mSkip)) (mSeq (mSet 3 (mLc (mRange1 (mOp2 aShl (mC (.int 1)) (mFn aLen (maCons (mVar 1) (maNil))))) (gN 8) (mYes) (mFn aLen (maCons (mLc (mIt (mVar 2)) (gN 9) (mB (mOp2 aEq (mVar 9) (mVar 8))) (mC (.int 1)) [9]) (maNil))) [8])) (mSeq (mSet 4 (mC (.int 0))) (mSeq (mFor (mRange2 (mC (.int 1)) (mOp2 aShl (mC (.int 1)) (mFn aLen (maCons (mVar 1) (maNil))))) (gN 5) (mSeq (mSet 6 (mFn aSum (maCons (mLc (mRange1 (mOp2 aAdd (mVar 5) (mC (.int 1)))) (gN 8) (mB (mOp2 aEq (mOp2 aAnd (mVar 8) (mVar 5)) (mVar 8))) (mOp2 aIx (mVar 3) (mVar 8)) [8]) (maNil)))) (mSeq (mSet 7 (mFn aLen (maCons (mLc (mRange1 (mFn aLen (maCons (mVar 1) (maNil)))) (gN 10) (mB (mOp2 aEq (mOp2 aAnd (mOp2 aShr (mVar 5) (mVar 10)) (mC (.int 1))) (mC (.int 1)))) (mC (.int 1)) [10]) (maNil)))) (mSet 4 (mFn aMax (maCons (mVar 4) (maCons (mOp2 aFdiv (mOp2 aSub (mOp2 aAdd (mVar 6) (mVar 7)) (mC (.int 1))) (mVar 7)) (maNil)))))))) (mRet (mVar 4))))))

def m_l_mixed (sd_l_take : DSpec) : DStm :=
  mSeq (mPar2X 2 3 (mFn aList (maCons (mVar 1) (maNil))) (mLst (mNil))) (mSeq (mWhile (mB (mOp2 aNe (mVar 2) (mLst (mNil)))) (mApp 3 (mPop 2 (mCall sd_l_take [] (mcCons (mVar 0) (mcCons (mFn aLen (maCons (mVar 2) (maNil))) (mcNil))))))) (mRet (mVar 3)))

def m_l_told (sd_least_most : DSpecX) : DStm :=
  mTry isaT (wX mRet (mTupX (mC (.str "told")) (mCallX sd_least_most (mcCons (mVar 0) (mcNil))))) [.as_ cx_NoDoer 1 fun a dd => mRet (mTup (mCons (mC (.str "nobody")) (mCons (mXf a dd 1 "at") (mNil))))]

def m_l_right (sd_deal_of : DSpecX) (sd_gap_of : DSpecX) (sd_l_least : DSpec) (sd_l_told : DSpecX) : DStm :=
  mSeq (mSet 2 (mCall sd_l_least [] (mcCons (mVar 0) (mcCons (mVar 1) (mcNil))))) (mSeq (mSet 3 (mIf (mB (mOp2 aIsN (mVar 2) (mC .non))) (mTup (mCons (mC (.str "told")) (mCons (mVar 2) (mNil)))) (mTup (mCons (mC (.str "nobody")) (mCons (mIndex (mLc (mIt (mVar 0)) (gN 6) (mYes) (mFn aLen (maCons (mVar 6) (maNil))) [6]) (mC (.int 0))) (mNil)))))) (mSeq (mSet 4 (mLc (mIt (mVar 0)) (gN 6) (mYes) (mFn aList (maCons (mVar 6) (maNil))) [6])) (mSeq (mSet 5 (mCall (noX sd_l_told) [] (mcCons (mVar 4) (mcNil)))) (mSeq (mIfS (mOrT (mB (mOp2 aNe (mVar 5) (mVar 3))) (mOrT (mNotT (mTru (mIsi (mOp2 aIx (mVar 5) (mC (.int 1))) "int"))) (mOrT (mTru (mIsi (mOp2 aIx (mVar 5) (mC (.int 1))) "bool")) (mB (mOp2 aNe (mVar 4) (mVar 0)))))) (mRet (mC (.bl false))) (mSkip)) (mSeq (mIfS (mOrT (mB (mOp2 aIs (mVar 2) (mC .non))) (mB (mOp2 aEq (mVar 2) (mC (.int 0))))) (mRet (mC (.bl true))) (mSkip)) (mSeq (mIfS (mOrT (mB (mOp2 aIs (mCall (noX sd_deal_of) [] (mcCons (mVar 0) (mcCons (mVar 2) (mcNil)))) (mC .non))) (mB (mOp2 aIsN (mCall (noX sd_gap_of) [] (mcCons (mVar 0) (mcCons (mVar 2) (mcNil)))) (mC .non)))) (mRet (mC (.bl false))) (mSkip)) (mRet (mOrV (mOp2 aEq (mVar 2) (mC (.int 1))) (mAndV (mOp2 aIs (mCall (noX sd_deal_of) [] (mcCons (mVar 0) (mcCons (mOp2 aSub (mVar 2) (mC (.int 1))) (mcNil)))) (mC .non)) (mOp2 aIsN (mCall (noX sd_gap_of) [] (mcCons (mVar 0) (mcCons (mOp2 aSub (mVar 2) (mC (.int 1))) (mcNil)))) (mC .non)))))))))))

def m_law (sd_l_cell : DSpec) (sd_l_box : DSpec) (sd_l_take : DSpec) (sd_l_names : DSpec) (sd_l_rows : DSpec) (sd_l_least : DSpec) (sd_l_mixed : DSpec) (sd_l_told : DSpecX) (sd_l_right : DSpec) : DStm :=
  mSeq (mFor (mRange1 (mFn aMax (maCons (mC (.int 2)) (maCons (mFn aMin (maCons (mC (.int 8)) (maCons (mFn aLen (maCons (mVar 0) (maNil))) (maNil)))) (maNil))))) (gN 1) (mSeq (mSetO 2 (mCall sd_l_box [] (mcCons (mCall sd_l_cell [] (mcCons (mVar 0) (mcCons (mVar 1) (mcNil)))) (mcNil)))) (mSeq (mSet 3 (mCall sd_l_names [] (mcCons (mVar 2) (mcCons (mOp2 aAdd (mC (.int 1)) (mCall sd_l_take [] (mcCons (mVar 2) (mcCons (mC (.int 6)) (mcNil))))) (mcNil))))) (mSeq (mSet 4 (mOp2 aIx (mLst (mCons (mCall sd_l_take [] (mcCons (mVar 2) (mcCons (mC (.int 15)) (mcNil)))) (mCons (mOp2 aSub (mC (.int 128)) (mCall sd_l_take [] (mcCons (mVar 2) (mcCons (mC (.int 40)) (mcNil))))) (mNil)))) (mOp2 aFdiv (mCall sd_l_take [] (mcCons (mVar 2) (mcCons (mC (.int 8)) (mcNil)))) (mC (.int 7))))) (mSeq (mSet 5 (mCall sd_l_rows [] (mcCons (mVar 2) (mcCons (mVar 3) (mcCons (mVar 4) (mcNil)))))) (mSeq (mIfS (mNotT (mTru (mCall sd_l_right [] (mcCons (mVar 5) (mcCons (mVar 3) (mcNil)))))) (mRet (mC (.bl false))) (mSkip)) (mSeq (mSet 6 (mLc (mIt (mCall sd_l_mixed [] (mcCons (mVar 2) (mcCons (mVar 5) (mcNil))))) (gN 8) (mYes) (mRev (mVar 8)) [8])) (mSeq (mSet 7 (mCall sd_l_least [] (mcCons (mVar 5) (mcCons (mVar 3) (mcNil))))) (mSeq (mIfS (mAndT (mB (mOp2 aIsN (mVar 7) (mC .non))) (mOrT (mB (mOp2 aNe (mCall (noX sd_l_told) [] (mcCons (mFn aTuple (maCons (mVar 6) (maNil))) (mcNil))) (mTup (mCons (mC (.str "told")) (mCons (mVar 7) (mNil)))))) (mB (mOp2 aNe (mCall (noX sd_l_told) [] (mcCons (mVar 5) (mcNil))) (mTup (mCons (mC (.str "told")) (mCons (mVar 7) (mNil)))))))) (mRet (mC (.bl false))) (mSkip)) (mIfS (mOrT (mNotT (mTru (mCall sd_l_right [] (mcCons (mSl (mVar 6) (moNo) (moSo (mNeg (mC (.int 1))))) (mcCons (mVar 3) (mcNil)))))) (mNotT (mTru (mCall sd_l_right [] (mcCons (mOp2 aAdd (mSl (mVar 6) (moNo) (moSo (mC (.int 127)))) (mLst (mCons (mSl (mVar 3) (moNo) (moSo (mC (.int 2)))) (mNil)))) (mcCons (mVar 3) (mcNil))))))) (mRet (mC (.bl false))) (mSkip))))))))))) (mRet (mAndV (mOp2 aEq (mCall (noX sd_l_told) [] (mcCons (mLst (mNil)) (mcNil))) (mTup (mCons (mC (.str "told")) (mCons (mC (.int 0)) (mNil))))) (mOp2 aEq (mCall (noX sd_l_told) [] (mcCons (mLst (mCons (mLst (mCons (mC (.str "a")) (mNil))) (mCons (mLst (mNil)) (mCons (mLst (mCons (mC (.str "b")) (mNil))) (mCons (mLst (mNil)) (mNil)))))) (mcNil))) (mTup (mCons (mC (.str "nobody")) (mCons (mC (.int 1)) (mNil)))))))
end Law

set_option Elab.async false
set_option linter.all false
set_option maxRecDepth 100000
set_option maxHeartbeats 4000000
set_option autoImplicit false
namespace Law
open PySem L2 DL

def top (i : Nat) : Stmt := PySem.Challenge.pw_peershold_k60_whole_least_number_for_all.main.body.getD i (.Pass ⟨0, 0, 0, 0⟩)
structure Txt (K : PySem.W.Frag) (mg : Str → Option Value) (cm : Nat → Value) : Prop where
  b_all : mg "all" = none
  b_bool : mg "bool" = none
  b_enumerate : mg "enumerate" = none
  b_int : mg "int" = none
  b_isinstance : mg "isinstance" = none
  b_len : mg "len" = none
  b_list : mg "list" = none
  b_max : mg "max" = none
  b_min : mg "min" = none
  b_range : mg "range" = none
  b_sorted : mg "sorted" = none
  b_str : mg "str" = none
  b_sum : mg "sum" = none
  b_tuple : mg "tuple" = none
  c_LETTERS : ∃ u, mg "LETTERS" = some u ∧ RelV (.str "abcdefghijklmnopqrstuvwxyz") u
  c_MOST_JOBS : ∃ u, mg "MOST_JOBS" = some u ∧ RelV (.int 128) u
  c_MOST_PEERS : ∃ u, mg "MOST_PEERS" = some u ∧ RelV (.int 8) u
  m_PeerError : mg "PeerError" = some (cm cx_PeerError)
  m_Absent : mg "Absent" = some (cm cx_Absent)
  m_NoName : mg "NoName" = some (cm cx_NoName)
  m_NoNumber : mg "NoNumber" = some (cm cx_NoNumber)
  m_Twice : mg "Twice" = some (cm cx_Twice)
  m_NoJobs : mg "NoJobs" = some (cm cx_NoJobs)
  m_NoDoer : mg "NoDoer" = some (cm cx_NoDoer)
structure XTxt (P : Program) (w : World) (K : PySem.W.Frag) (mg : Str → Option Value) (cm : Nat → Value) (base : Heap) : Prop where
  isa : isaOk K cm isaT
  x_NoName : ∃ Ca, cm cx_NoName = .ref Ca ∧ XCl P w K mg base "NoName" "found" Ca
  x_NoJobs : ∃ Ca, cm cx_NoJobs = .ref Ca ∧ XCl P w K mg base "NoJobs" "found" Ca
  x_Twice : ∃ Ca, cm cx_Twice = .ref Ca ∧ XCl P w K mg base "Twice" "found" Ca
  x_NoNumber : ∃ Ca, cm cx_NoNumber = .ref Ca ∧ XCl P w K mg base "NoNumber" "found" Ca
  x_NoDoer : ∃ Ca, cm cx_NoDoer = .ref Ca ∧ XCl P w K mg base "NoDoer" "at" Ca
section
variable {P : Program} {w : World} {K : PySem.W.Frag} {mg : Str → Option Value} {cm : Nat → Value} {base : Heap}

abbrev si_NoName : Stmt := inClass (top 4) 0
theorem sci_NoName : FnScope ["self", "found"] ["self", "found"] (defScope si_NoName) := ⟨rfl, rfl, rfl, by decide +kernel, rfl, by decide +kernel, by decide +kernel⟩
theorem xi_NoName {Ba fI C : Addr} {fd : FuncData} (hb : XBase K Ba) (hm : mg "PeerError" = some (.ref Ba)) (F : Fun K "__init__" "NoName.__init__" si_NoName fI fd) : FnOk P w K mg base (L2.CX P w) 1 fI fd ["self", "found"] (spXi K C "found") :=
  xinit_fn F sci_NoName (m := "no name") fun cdv A outer s H E => pss_cons (ps_expr (pe_xinit hb (by exact rfl) hm (pa_cons (pv 0) (pa_cons pe_str pa_nil)))) (pss_one (ps_ost (pv 0) (pv 1)))

abbrev si_NoJobs : Stmt := inClass (top 8) 0
theorem sci_NoJobs : FnScope ["self", "found"] ["self", "found"] (defScope si_NoJobs) := ⟨rfl, rfl, rfl, by decide +kernel, rfl, by decide +kernel, by decide +kernel⟩
theorem xi_NoJobs {Ba fI C : Addr} {fd : FuncData} (hb : XBase K Ba) (hm : mg "PeerError" = some (.ref Ba)) (F : Fun K "__init__" "NoJobs.__init__" si_NoJobs fI fd) : FnOk P w K mg base (L2.CX P w) 1 fI fd ["self", "found"] (spXi K C "found") :=
  xinit_fn F sci_NoJobs (m := "no list of jobs") fun cdv A outer s H E => pss_cons (ps_expr (pe_xinit hb (by exact rfl) hm (pa_cons (pv 0) (pa_cons pe_str pa_nil)))) (pss_one (ps_ost (pv 0) (pv 1)))

abbrev si_Twice : Stmt := inClass (top 6) 0
theorem sci_Twice : FnScope ["self", "found"] ["self", "found"] (defScope si_Twice) := ⟨rfl, rfl, rfl, by decide +kernel, rfl, by decide +kernel, by decide +kernel⟩
theorem xi_Twice {Ba fI C : Addr} {fd : FuncData} (hb : XBase K Ba) (hm : mg "PeerError" = some (.ref Ba)) (F : Fun K "__init__" "Twice.__init__" si_Twice fI fd) : FnOk P w K mg base (L2.CX P w) 1 fI fd ["self", "found"] (spXi K C "found") :=
  xinit_fn F sci_Twice (m := "there already") fun cdv A outer s H E => pss_cons (ps_expr (pe_xinit hb (by exact rfl) hm (pa_cons (pv 0) (pa_cons pe_str pa_nil)))) (pss_one (ps_ost (pv 0) (pv 1)))

abbrev si_NoNumber : Stmt := inClass (top 5) 0
theorem sci_NoNumber : FnScope ["self", "found"] ["self", "found"] (defScope si_NoNumber) := ⟨rfl, rfl, rfl, by decide +kernel, rfl, by decide +kernel, by decide +kernel⟩
theorem xi_NoNumber {Ba fI C : Addr} {fd : FuncData} (hb : XBase K Ba) (hm : mg "PeerError" = some (.ref Ba)) (F : Fun K "__init__" "NoNumber.__init__" si_NoNumber fI fd) : FnOk P w K mg base (L2.CX P w) 1 fI fd ["self", "found"] (spXi K C "found") :=
  xinit_fn F sci_NoNumber (m := "no such number") fun cdv A outer s H E => pss_cons (ps_expr (pe_xinit hb (by exact rfl) hm (pa_cons (pv 0) (pa_cons pe_str pa_nil)))) (pss_one (ps_ost (pv 0) (pv 1)))

abbrev si_NoDoer : Stmt := inClass (top 9) 0
theorem sci_NoDoer : FnScope ["self", "at"] ["self", "at"] (defScope si_NoDoer) := ⟨rfl, rfl, rfl, by decide +kernel, rfl, by decide +kernel, by decide +kernel⟩
theorem xi_NoDoer {Ba fI C : Addr} {fd : FuncData} (hb : KName K Ba "KeyError.__init__") (hm : mg "Absent" = some (.ref Ba)) (F : Fun K "__init__" "NoDoer.__init__" si_NoDoer fI fd) : FnOk P w K mg base (L2.CX P w) 1 fI fd ["self", "at"] (spKi K C "KeyError" tailKE "at") :=
  kinit_fn F sci_NoDoer (m := "nobody can do the job") fun cdv A outer s H E => pss_cons (ps_expr (pe_kinit kb_KE (by decide +kernel) hb (by exact rfl) hm (pa_cons (pv 0) (pa_cons pe_str pa_nil)))) (pss_one (ps_kst kb_KE (pv 0) (pv 1)))

abbrev s_is_whole : Stmt := top 13
theorem sc_is_whole : FnScope ["thing", "low", "high"] ["thing", "low", "high"] (defScope s_is_whole) := ⟨rfl, rfl, rfl, by decide +kernel, rfl, by decide +kernel, by decide +kernel⟩
theorem d_is_whole (T : Txt K mg cm)  {f : Addr} {cdv : Value} {A : Around} {outer : List PySem.Env} {s : Shared} {H : Hp} {E : XK} (hgd : A.guards = some []) (hr : Room 0 (A.deeper (PyProof.Rows.envOfC "is_whole" (defScope s_is_whole) s.heap.objs.size f cdv))) :
    DB (cxOf CX0 P w K mg base ["thing", "low", "high"] "is_whole" (defScope s_is_whole) f cdv A outer s H E).nox (defBody s_is_whole) (m_is_whole ) := by
  unfold m_is_whole
  exact db_one (ds_ret (dand (disi (T := "int") (dvar 0) rfl T.b_isinstance rfl T.b_int (by decide +kernel) kt_int) (dand (dnot (disi (T := "bool") (dvar 0) rfl T.b_isinstance rfl T.b_bool (by decide +kernel) kt_bool)) (done1 (dchain op_leD o2_ord op_leD o2_ord (dvar 1) (dvar 0) (dvar 2))))))

theorem k_is_whole (T : Txt K mg cm)  {f : Addr} {fd : FuncData} (F : Fun K "is_whole" "is_whole" s_is_whole f fd) (hm : mg "is_whole" = some (.ref f)) {sd : DSpec} (len : ∀ args R, sd args R → args.length = 3)
    (sp : ∀ args R, sd args R → m_is_whole  { nx := fun e => R (.vl .non) (outs 3 e), rt := fun r e => R r (outs 3 e) } (startE 3 args)) : Cal P w K mg base "is_whole" s_is_whole 1 ["thing", "low", "high"] sd :=
  ⟨f, fd, F, FunG.ok (FunG.of F) sc_is_whole len (fun cdv A outer s H E hgd hr => d_is_whole T  hgd hr) sp, hm, F.binds (ps := ["thing", "low", "high"]) fun _ _ _ _ _ _ us hl => match us, hl with | [_, _, _], _ => rfl⟩

abbrev s_is_name : Stmt := top 14
theorem sc_is_name : FnScope ["thing", "sign"] ["thing"] (defScope s_is_name) := ⟨rfl, rfl, rfl, by decide +kernel, rfl, by decide +kernel, by decide +kernel⟩
theorem d_is_name (T : Txt K mg cm)  {f : Addr} {cdv : Value} {A : Around} {outer : List PySem.Env} {s : Shared} {H : Hp} {E : XK} (hgd : A.guards = some []) (hr : Room 0 (A.deeper (PyProof.Rows.envOfC "is_name" (defScope s_is_name) s.heap.objs.size f cdv))) :
    DB (cxOf CX0 P w K mg base ["thing", "sign"] "is_name" (defScope s_is_name) f cdv A outer s H E).nox (defBody s_is_name) (m_is_name ) := by
  unfold m_is_name
  exact db_one (ds_ret (dand (disi (T := "str") (dvar 0) rfl T.b_isinstance rfl T.b_str (by decide +kernel) kt_str) (dand (dchain op_leD o2_ord op_leD o2_ord (dint) (dfnB call_lenX on_len rfl T.b_len (by decide +kernel) (da_cons (dvar 0) (da_nil))) (dint)) (done1 (dfnB (cr_all rfl) on_all rfl T.b_all (by decide +kernel) (da_cons (dlc (js := [1]) [("sign", 1)] rfl sc_is_name.nd (blkOk_by (by kernel_rfl)) (di_any (dvar 0)) (fun _ _ _ _ _ => dg_name 1 sc_is_name.nd rfl (Or.inl rfl)) (fun _ _ _ _ _ => dts_nil) (fun _ _ _ _ _ => dcmp op_inB o2_inB (dvar 1) (dgstrE rfl T.c_LETTERS))) (da_nil)))))))

theorem k_is_name (T : Txt K mg cm)  {f : Addr} {fd : FuncData} (F : Fun K "is_name" "is_name" s_is_name f fd) (hm : mg "is_name" = some (.ref f)) {sd : DSpec} (len : ∀ args R, sd args R → args.length = 1)
    (sp : ∀ args R, sd args R → m_is_name  { nx := fun e => R (.vl .non) (outs 1 e), rt := fun r e => R r (outs 1 e) } (startE 2 args)) : Cal P w K mg base "is_name" s_is_name 1 ["thing"] sd :=
  ⟨f, fd, F, FunG.ok (FunG.of F) sc_is_name len (fun cdv A outer s H E hgd hr => d_is_name T  hgd hr) sp, hm, F.binds (ps := ["thing"]) fun _ _ _ _ _ _ us hl => match us, hl with | [_], _ => rfl⟩

abbrev s_need_name : Stmt := top 15
theorem sc_need_name : FnScope ["thing"] ["thing"] (defScope s_need_name) := ⟨rfl, rfl, rfl, by decide +kernel, rfl, by decide +kernel, by decide +kernel⟩
theorem d_need_name (T : Txt K mg cm) (XT : XTxt P w K mg cm base) {sd_is_name : DSpec} (c_is_name : Cal P w K mg base "is_name" s_is_name 1 ["thing"] sd_is_name) {f : Addr} {cdv : Value} {A : Around} {outer : List PySem.Env} {s : Shared} {H : Hp} {E : XK} (hgd : A.guards = some []) (hr : Room 2 (A.deeper (PyProof.Rows.envOfC "need_name" (defScope s_need_name) s.heap.objs.size f cdv))) :
    DBx (cxOf (L2.CX P w) P w K mg base ["thing"] "need_name" (defScope s_need_name) f cdv A outer s H E) cm (defBody s_need_name) (m_need_name sd_is_name) := by
  unfold m_need_name
  have hpo : PassesOwn (model P w) (cxOf (L2.CX P w) P w K mg base ["thing"] "need_name" (defScope s_need_name) f cdv A outer s H E).A (cxOf (L2.CX P w) P w K mg base ["thing"] "need_name" (defScope s_need_name) f cdv A outer s H E).env (cxOf (L2.CX P w) P w K mg base ["thing"] "need_name" (defScope s_need_name) f cdv A outer s H E).xe := passes_of rfl
  exact dbx_one (dsx_if (dtnot (dtru (dcallC c_is_name hgd (hr.mono (by decide)) (by exact rfl) (dc_cons (dvar 0) (dc_nil))))) (dbx_one (dsx_raiseE cx_NoName rfl XT.x_NoName (hr.mono (by decide)) (by exact rfl) (dvar 0))) (dbx_of (db_nil)))

theorem k_need_name (T : Txt K mg cm) (XT : XTxt P w K mg cm base) {sd_is_name : DSpec} (c_is_name : Cal P w K mg base "is_name" s_is_name 1 ["thing"] sd_is_name) {f : Addr} {fd : FuncData} (F : Fun K "need_name" "need_name" s_need_name f fd) (hm : mg "need_name" = some (.ref f)) {sd : DSpecX} (len : ∀ args R E, sd args R E → args.length = 1)
    (sp : ∀ args R E, sd args R E → m_need_name sd_is_name { nx := fun e => R (.vl .non) (outs 1 e), rt := fun r e => R r (outs 1 e), ex := fun x fs e => E x fs (outs 1 e) } (startE 1 args)) : CalX P w K mg cm base "need_name" s_need_name 3 ["thing"] sd :=
  ⟨f, fd, F, FunG.okX (FunG.of F) sc_need_name len (fun cdv A outer s H E hgd hr => d_need_name T XT c_is_name hgd hr) sp, hm, F.binds (ps := ["thing"]) fun _ _ _ _ _ _ us hl => match us, hl with | [_], _ => rfl⟩

abbrev s_need_row : Stmt := top 18
theorem sc_need_row : FnScope ["row", "at", "name"] ["row"] (defScope s_need_row) := ⟨rfl, rfl, rfl, by decide +kernel, rfl, by decide +kernel, by decide +kernel⟩
theorem d_need_row (T : Txt K mg cm) (XT : XTxt P w K mg cm base) {sd_need_name : DSpecX} (c_need_name : CalX P w K mg cm base "need_name" s_need_name 3 ["thing"] sd_need_name) {f : Addr} {cdv : Value} {A : Around} {outer : List PySem.Env} {s : Shared} {H : Hp} {E : XK} (hgd : A.guards = some []) (hr : Room 3 (A.deeper (PyProof.Rows.envOfC "need_row" (defScope s_need_row) s.heap.objs.size f cdv))) :
    DBx (cxOf (L2.CX P w) P w K mg base ["row", "at", "name"] "need_row" (defScope s_need_row) f cdv A outer s H E) cm (defBody s_need_row) (m_need_row sd_need_name) := by
  unfold m_need_row
  have hpo : PassesOwn (model P w) (cxOf (L2.CX P w) P w K mg base ["row", "at", "name"] "need_row" (defScope s_need_row) f cdv A outer s H E).A (cxOf (L2.CX P w) P w K mg base ["row", "at", "name"] "need_row" (defScope s_need_row) f cdv A outer s H E).env (cxOf (L2.CX P w) P w K mg base ["row", "at", "name"] "need_row" (defScope s_need_row) f cdv A outer s H E).xe := passes_of rfl
  exact dbx_cons (dsx_if (dtw (dw_or (dtnot (dtru (disi2 (T := "list") (U := "tuple") (dvar 0) rfl T.b_isinstance rfl T.b_list (by decide +kernel) rfl T.b_tuple (by decide +kernel) (kt2 kt_list kt_tuple)))) (dw_or1 (dtcmp op_gtD o2_ord (dfnB call_lenX on_len rfl T.b_len (by decide +kernel) (da_cons (dvar 0) (da_nil))) (dgintE rfl T.c_MOST_PEERS))))) (dbx_one (dsx_raiseE cx_NoJobs rfl XT.x_NoJobs (hr.mono (by decide)) (by exact rfl) (dvar 0))) (dbx_of (db_nil))) (dbx_one (dsx_for (js := [1, 2]) hpo rfl (di_enumA rfl T.b_enumerate (dvar 0)) (dg_tup rfl (dgs_cons (dg_name 1 sc_need_row.nd rfl (Or.inl rfl)) (dgs_cons (dg_name 2 sc_need_row.nd rfl (Or.inl rfl)) (dgs_nil)))) (dbx_cons (dsx_expr (dex_call c_need_name hgd (hr.mono (by decide)) (by exact rfl) (dc_cons (dvar 2) (dc_nil)))) (dbx_one (dsx_if (dtcmp op_inB o2_inB (dvar 2) (dslice (dvar 0) (do_none) (do_some (dvar 1)))) (dbx_one (dsx_raiseE cx_Twice rfl XT.x_Twice (hr.mono (by decide)) (by exact rfl) (dvar 2))) (dbx_of (db_nil)))))))

theorem k_need_row (T : Txt K mg cm) (XT : XTxt P w K mg cm base) {sd_need_name : DSpecX} (c_need_name : CalX P w K mg cm base "need_name" s_need_name 3 ["thing"] sd_need_name) {f : Addr} {fd : FuncData} (F : Fun K "need_row" "need_row" s_need_row f fd) (hm : mg "need_row" = some (.ref f)) {sd : DSpecX} (len : ∀ args R E, sd args R E → args.length = 1)
    (sp : ∀ args R E, sd args R E → m_need_row sd_need_name { nx := fun e => R (.vl .non) (outs 1 e), rt := fun r e => R r (outs 1 e), ex := fun x fs e => E x fs (outs 1 e) } (startE 3 args)) : CalX P w K mg cm base "need_row" s_need_row 4 ["row"] sd :=
  ⟨f, fd, F, FunG.okX (FunG.of F) sc_need_row len (fun cdv A outer s H E hgd hr => d_need_row T XT c_need_name hgd hr) sp, hm, F.binds (ps := ["row"]) fun _ _ _ _ _ _ us hl => match us, hl with | [_], _ => rfl⟩

abbrev s_need_jobs : Stmt := top 19
theorem sc_need_jobs : FnScope ["jobs", "row"] ["jobs"] (defScope s_need_jobs) := ⟨rfl, rfl, rfl, by decide +kernel, rfl, by decide +kernel, by decide +kernel⟩
theorem d_need_jobs (T : Txt K mg cm) (XT : XTxt P w K mg cm base) {sd_need_row : DSpecX} (c_need_row : CalX P w K mg cm base "need_row" s_need_row 4 ["row"] sd_need_row) {f : Addr} {cdv : Value} {A : Around} {outer : List PySem.Env} {s : Shared} {H : Hp} {E : XK} (hgd : A.guards = some []) (hr : Room 4 (A.deeper (PyProof.Rows.envOfC "need_jobs" (defScope s_need_jobs) s.heap.objs.size f cdv))) :
    DBx (cxOf (L2.CX P w) P w K mg base ["jobs", "row"] "need_jobs" (defScope s_need_jobs) f cdv A outer s H E) cm (defBody s_need_jobs) (m_need_jobs sd_need_row) := by
  unfold m_need_jobs
  have hpo : PassesOwn (model P w) (cxOf (L2.CX P w) P w K mg base ["jobs", "row"] "need_jobs" (defScope s_need_jobs) f cdv A outer s H E).A (cxOf (L2.CX P w) P w K mg base ["jobs", "row"] "need_jobs" (defScope s_need_jobs) f cdv A outer s H E).env (cxOf (L2.CX P w) P w K mg base ["jobs", "row"] "need_jobs" (defScope s_need_jobs) f cdv A outer s H E).xe := passes_of rfl
  exact dbx_cons (dsx_if (dtw (dw_or (dtnot (dtru (disi2 (T := "list") (U := "tuple") (dvar 0) rfl T.b_isinstance rfl T.b_list (by decide +kernel) rfl T.b_tuple (by decide +kernel) (kt2 kt_list kt_tuple)))) (dw_or1 (dtcmp op_gtD o2_ord (dfnB call_lenX on_len rfl T.b_len (by decide +kernel) (da_cons (dvar 0) (da_nil))) (dgintE rfl T.c_MOST_JOBS))))) (dbx_one (dsx_raiseE cx_NoJobs rfl XT.x_NoJobs (hr.mono (by decide)) (by exact rfl) (dvar 0))) (dbx_of (db_nil))) (dbx_one (dsx_for (js := [1]) hpo rfl (di_any (dvar 0)) (dg_name 1 sc_need_jobs.nd rfl (Or.inl rfl)) (dbx_one (dsx_expr (dex_call c_need_row hgd (hr.mono (by decide)) (by exact rfl) (dc_cons (dvar 1) (dc_nil)))))))

theorem k_need_jobs (T : Txt K mg cm) (XT : XTxt P w K mg cm base) {sd_need_row : DSpecX} (c_need_row : CalX P w K mg cm base "need_row" s_need_row 4 ["row"] sd_need_row) {f : Addr} {fd : FuncData} (F : Fun K "need_jobs" "need_jobs" s_need_jobs f fd) (hm : mg "need_jobs" = some (.ref f)) {sd : DSpecX} (len : ∀ args R E, sd args R E → args.length = 1)
    (sp : ∀ args R E, sd args R E → m_need_jobs sd_need_row { nx := fun e => R (.vl .non) (outs 1 e), rt := fun r e => R r (outs 1 e), ex := fun x fs e => E x fs (outs 1 e) } (startE 2 args)) : CalX P w K mg cm base "need_jobs" s_need_jobs 5 ["jobs"] sd :=
  ⟨f, fd, F, FunG.okX (FunG.of F) sc_need_jobs len (fun cdv A outer s H E hgd hr => d_need_jobs T XT c_need_row hgd hr) sp, hm, F.binds (ps := ["jobs"]) fun _ _ _ _ _ _ us hl => match us, hl with | [_], _ => rfl⟩

abbrev s_need_most : Stmt := top 20
theorem sc_need_most : FnScope ["most"] ["most"] (defScope s_need_most) := ⟨rfl, rfl, rfl, by decide +kernel, rfl, by decide +kernel, by decide +kernel⟩
theorem d_need_most (T : Txt K mg cm) (XT : XTxt P w K mg cm base) {sd_is_whole : DSpec} (c_is_whole : Cal P w K mg base "is_whole" s_is_whole 1 ["thing", "low", "high"] sd_is_whole) {f : Addr} {cdv : Value} {A : Around} {outer : List PySem.Env} {s : Shared} {H : Hp} {E : XK} (hgd : A.guards = some []) (hr : Room 2 (A.deeper (PyProof.Rows.envOfC "need_most" (defScope s_need_most) s.heap.objs.size f cdv))) :
    DBx (cxOf (L2.CX P w) P w K mg base ["most"] "need_most" (defScope s_need_most) f cdv A outer s H E) cm (defBody s_need_most) (m_need_most sd_is_whole) := by
  unfold m_need_most
  have hpo : PassesOwn (model P w) (cxOf (L2.CX P w) P w K mg base ["most"] "need_most" (defScope s_need_most) f cdv A outer s H E).A (cxOf (L2.CX P w) P w K mg base ["most"] "need_most" (defScope s_need_most) f cdv A outer s H E).env (cxOf (L2.CX P w) P w K mg base ["most"] "need_most" (defScope s_need_most) f cdv A outer s H E).xe := passes_of rfl
  exact dbx_one (dsx_if (dtnot (dtru (dcallC c_is_whole hgd (hr.mono (by decide)) (by exact rfl) (dc_cons (dvar 0) (dc_cons (dint) (dc_cons (dgintE rfl T.c_MOST_JOBS) (dc_nil))))))) (dbx_one (dsx_raiseE cx_NoNumber rfl XT.x_NoNumber (hr.mono (by decide)) (by exact rfl) (dvar 0))) (dbx_of (db_nil)))

theorem k_need_most (T : Txt K mg cm) (XT : XTxt P w K mg cm base) {sd_is_whole : DSpec} (c_is_whole : Cal P w K mg base "is_whole" s_is_whole 1 ["thing", "low", "high"] sd_is_whole) {f : Addr} {fd : FuncData} (F : Fun K "need_most" "need_most" s_need_most f fd) (hm : mg "need_most" = some (.ref f)) {sd : DSpecX} (len : ∀ args R E, sd args R E → args.length = 1)
    (sp : ∀ args R E, sd args R E → m_need_most sd_is_whole { nx := fun e => R (.vl .non) (outs 1 e), rt := fun r e => R r (outs 1 e), ex := fun x fs e => E x fs (outs 1 e) } (startE 1 args)) : CalX P w K mg cm base "need_most" s_need_most 3 ["most"] sd :=
  ⟨f, fd, F, FunG.okX (FunG.of F) sc_need_most len (fun cdv A outer s H E hgd hr => d_need_most T XT c_is_whole hgd hr) sp, hm, F.binds (ps := ["most"]) fun _ _ _ _ _ _ us hl => match us, hl with | [_], _ => rfl⟩

abbrev s_dealt_to : Stmt := top 21
theorem sc_dealt_to : FnScope ["dealt", "name", "job", "doer"] ["dealt", "name"] (defScope s_dealt_to) := ⟨rfl, rfl, rfl, by decide +kernel, rfl, by decide +kernel, by decide +kernel⟩
theorem d_dealt_to (T : Txt K mg cm)  {f : Addr} {cdv : Value} {A : Around} {outer : List PySem.Env} {s : Shared} {H : Hp} {E : XK} (hgd : A.guards = some []) (hr : Room 0 (A.deeper (PyProof.Rows.envOfC "dealt_to" (defScope s_dealt_to) s.heap.objs.size f cdv))) :
    DB (cxOf CX0 P w K mg base ["dealt", "name", "job", "doer"] "dealt_to" (defScope s_dealt_to) f cdv A outer s H E).nox (defBody s_dealt_to) (m_dealt_to ) := by
  unfold m_dealt_to
  exact db_one (ds_ret (dlc (js := [2, 3]) [("job", 2), ("doer", 3)] rfl sc_dealt_to.nd (blkOk_by (by kernel_rfl)) (di_enumA rfl T.b_enumerate (dvar 0)) (fun _ _ _ _ _ => dg_tup rfl (dgs_cons (dg_name 2 sc_dealt_to.nd rfl (Or.inl rfl)) (dgs_cons (dg_name 3 sc_dealt_to.nd rfl (Or.inl rfl)) (dgs_nil)))) (fun _ _ _ _ _ => dts_one (dtcmp (op_eqD hr.units) o2_eq (dvar 3) (dvar 1))) (fun _ _ _ _ _ => dvar 2)))

theorem k_dealt_to (T : Txt K mg cm)  {f : Addr} {fd : FuncData} (F : Fun K "dealt_to" "dealt_to" s_dealt_to f fd) (hm : mg "dealt_to" = some (.ref f)) {sd : DSpec} (len : ∀ args R, sd args R → args.length = 2)
    (sp : ∀ args R, sd args R → m_dealt_to  { nx := fun e => R (.vl .non) (outs 2 e), rt := fun r e => R r (outs 2 e) } (startE 4 args)) : Cal P w K mg base "dealt_to" s_dealt_to 1 ["dealt", "name"] sd :=
  ⟨f, fd, F, FunG.ok (FunG.of F) sc_dealt_to len (fun cdv A outer s H E hgd hr => d_dealt_to T  hgd hr) sp, hm, F.binds (ps := ["dealt", "name"]) fun _ _ _ _ _ _ us hl => match us, hl with | [_, _], _ => rfl⟩

abbrev s_pass_on : Stmt := top 22
theorem sc_pass_on : FnScope ["dealt", "came", "name", "job", "before"] ["dealt", "came", "name"] (defScope s_pass_on) := ⟨rfl, rfl, rfl, by decide +kernel, rfl, by decide +kernel, by decide +kernel⟩
theorem d_pass_on (T : Txt K mg cm)  {f : Addr} {cdv : Value} {A : Around} {outer : List PySem.Env} {s : Shared} {H : Hp} {E : XK} (hgd : A.guards = some []) (hr : Room 0 (A.deeper (PyProof.Rows.envOfC "pass_on" (defScope s_pass_on) s.heap.objs.size f cdv))) :
    DB (cxOf CX0 P w K mg base ["dealt", "came", "name", "job", "before"] "pass_on" (defScope s_pass_on) f cdv A outer s H E).nox (defBody s_pass_on) (m_pass_on ) := by
  unfold m_pass_on
  exact db_one (ds_while PassesOwn.never (dtcmp op_isND o2_isN (dvar 2) (dnon)) (db_cons (ds_set (j := 3) sc_pass_on.nd rfl (Or.inl rfl) (ddix (hu_of hr) (dvar 1) (dvar 2))) (db_cons (ds_set (j := 4) sc_pass_on.nd rfl (Or.inl rfl) (dix (dvar 0) (dvar 3))) (db_cons (ds_setIx 0 rfl (Or.inl rfl) (dvar 3) (dvar 2)) (db_one (ds_set (j := 2) sc_pass_on.nd rfl (Or.inl rfl) (dvar 4)))))))

theorem k_pass_on (T : Txt K mg cm)  {f : Addr} {fd : FuncData} (F : Fun K "pass_on" "pass_on" s_pass_on f fd) (hm : mg "pass_on" = some (.ref f)) {sd : DSpec} (len : ∀ args R, sd args R → args.length = 3)
    (sp : ∀ args R, sd args R → m_pass_on  { nx := fun e => R (.vl .non) (outs 3 e), rt := fun r e => R r (outs 3 e) } (startE 5 args)) : Cal P w K mg base "pass_on" s_pass_on 1 ["dealt", "came", "name"] sd :=
  ⟨f, fd, F, FunG.ok (FunG.of F) sc_pass_on len (fun cdv A outer s H E hgd hr => d_pass_on T  hgd hr) sp, hm, F.binds (ps := ["dealt", "came", "name"]) fun _ _ _ _ _ _ us hl => match us, hl with | [_, _, _], _ => rfl⟩

abbrev s_add_job : Stmt := top 23
theorem sc_add_job : FnScope ["jobs", "most", "dealt", "first", "reached", "came", "at", "job", "name", "own"] ["jobs", "most", "dealt", "first"] (defScope s_add_job) := ⟨rfl, rfl, rfl, by decide +kernel, rfl, by decide +kernel, by decide +kernel⟩
theorem d_add_job (T : Txt K mg cm) {sd_dealt_to : DSpec} (c_dealt_to : Cal P w K mg base "dealt_to" s_dealt_to 1 ["dealt", "name"] sd_dealt_to) {sd_pass_on : DSpec} (c_pass_on : Cal P w K mg base "pass_on" s_pass_on 1 ["dealt", "came", "name"] sd_pass_on) {f : Addr} {cdv : Value} {A : Around} {outer : List PySem.Env} {s : Shared} {H : Hp} {E : XK} (hgd : A.guards = some []) (hr : Room 1 (A.deeper (PyProof.Rows.envOfC "add_job" (defScope s_add_job) s.heap.objs.size f cdv))) :
    DB (cxOf CX0 P w K mg base ["jobs", "most", "dealt", "first", "reached", "came", "at", "job", "name", "own"] "add_job" (defScope s_add_job) f cdv A outer s H E).nox (defBody s_add_job) (m_add_job sd_dealt_to sd_pass_on) := by
  unfold m_add_job
  exact db_cons (ds_setO (j := 4) sc_add_job.nd rfl (Or.inl rfl) (dlst (dl_cons (dvar 3) (dl_nil)))) (db_cons (ds_setO (j := 5) sc_add_job.nd rfl (Or.inl rfl) (ddnew)) (db_cons (ds_set (j := 6) sc_add_job.nd rfl (Or.inl rfl) (dint)) (db_cons (ds_while PassesOwn.never (dtcmp op_ltD o2_ord (dvar 6) (dfnB call_lenX on_len rfl T.b_len (by decide +kernel) (da_cons (dvar 4) (da_nil)))) (db_cons (ds_set (j := 7) sc_add_job.nd rfl (Or.inl rfl) (dix (dvar 4) (dvar 6))) (db_cons (ds_aug 6 sc_add_job.nd rfl (Or.inl rfl) ip_addD i2_add (dint)) (db_one (ds_for (js := [8]) PassesOwn.never rfl (di_any (dix (dvar 0) (dvar 7))) (dg_name 8 sc_add_job.nd rfl (Or.inl rfl)) (db_cons (ds_if (dtdin (hu_of hr) (dvar 8) (dvar 5)) (db_one (ds_cont)) (db_nil)) (db_cons (ds_dput 5 (hu_of hr) rfl (Or.inl rfl) (dvar 8) (dvar 7)) (db_cons (ds_set (j := 9) sc_add_job.nd rfl (Or.inl rfl) (dcallC c_dealt_to hgd (hr.mono (by decide)) (by exact rfl) (dc_cons (dvar 2) (dc_cons (dvar 8) (dc_nil))))) (db_cons (ds_if (dtcmp op_ltD o2_ord (dfnB call_lenX on_len rfl T.b_len (by decide +kernel) (da_cons (dvar 9) (da_nil))) (dvar 1)) (db_cons (ds_expr (dcallC c_pass_on hgd (hr.mono (by decide)) (by exact rfl) (dc_cons (dvar 2) (dc_cons (dvar 5) (dc_cons (dvar 8) (dc_nil)))))) (db_one (ds_ret (dnon)))) (db_nil)) (db_one (ds_ext 4 rfl (Or.inl rfl) (dvar 9)))))))))))) (db_one (ds_ret (dfnB cr_sortedI on_sorted rfl T.b_sorted (by decide +kernel) (da_cons (dvar 4) (da_nil))))))))

theorem k_add_job (T : Txt K mg cm) {sd_dealt_to : DSpec} (c_dealt_to : Cal P w K mg base "dealt_to" s_dealt_to 1 ["dealt", "name"] sd_dealt_to) {sd_pass_on : DSpec} (c_pass_on : Cal P w K mg base "pass_on" s_pass_on 1 ["dealt", "came", "name"] sd_pass_on) {f : Addr} {fd : FuncData} (F : Fun K "add_job" "add_job" s_add_job f fd) (hm : mg "add_job" = some (.ref f)) {sd : DSpec} (len : ∀ args R, sd args R → args.length = 4)
    (sp : ∀ args R, sd args R → m_add_job sd_dealt_to sd_pass_on { nx := fun e => R (.vl .non) (outs 4 e), rt := fun r e => R r (outs 4 e) } (startE 10 args)) : Cal P w K mg base "add_job" s_add_job 2 ["jobs", "most", "dealt", "first"] sd :=
  ⟨f, fd, F, FunG.ok (FunG.of F) sc_add_job len (fun cdv A outer s H E hgd hr => d_add_job T c_dealt_to c_pass_on hgd hr) sp, hm, F.binds (ps := ["jobs", "most", "dealt", "first"]) fun _ _ _ _ _ _ us hl => match us, hl with | [_, _, _, _], _ => rfl⟩

abbrev s_deal_or_gap : Stmt := top 24
theorem sc_deal_or_gap : FnScope ["jobs", "most", "dealt", "job", "gap"] ["jobs", "most"] (defScope s_deal_or_gap) := ⟨rfl, rfl, rfl, by decide +kernel, rfl, by decide +kernel, by decide +kernel⟩
theorem d_deal_or_gap (T : Txt K mg cm) {sd_add_job : DSpec} (c_add_job : Cal P w K mg base "add_job" s_add_job 2 ["jobs", "most", "dealt", "first"] sd_add_job) {f : Addr} {cdv : Value} {A : Around} {outer : List PySem.Env} {s : Shared} {H : Hp} {E : XK} (hgd : A.guards = some []) (hr : Room 2 (A.deeper (PyProof.Rows.envOfC "deal_or_gap" (defScope s_deal_or_gap) s.heap.objs.size f cdv))) :
    DB (cxOf CX0 P w K mg base ["jobs", "most", "dealt", "job", "gap"] "deal_or_gap" (defScope s_deal_or_gap) f cdv A outer s H E).nox (defBody s_deal_or_gap) (m_deal_or_gap sd_add_job) := by
  unfold m_deal_or_gap
  exact db_cons (ds_setO (j := 2) sc_deal_or_gap.nd rfl (Or.inl rfl) (dop op_mulD o2_mul (dlst (dl_cons (dnon) (dl_nil))) (dfnB call_lenX on_len rfl T.b_len (by decide +kernel) (da_cons (dvar 0) (da_nil))))) (db_cons (ds_for (js := [3]) PassesOwn.never rfl (di_range1 rfl T.b_range (dfnB call_lenX on_len rfl T.b_len (by decide +kernel) (da_cons (dvar 0) (da_nil)))) (dg_name 3 sc_deal_or_gap.nd rfl (Or.inl rfl)) (db_cons (ds_setX (j := 4) sc_deal_or_gap.nd rfl (Or.inl rfl) (dcallC c_add_job hgd (hr.mono (by decide)) (by exact rfl) (dc_cons (dvar 0) (dc_cons (dvar 1) (dc_cons (dvar 2) (dc_cons (dvar 3) (dc_nil))))))) (db_one (ds_if (dtcmp op_isND o2_isN (dvar 4) (dnon)) (db_one (ds_ret2 (dnon) (dvar 4))) (db_nil))))) (db_one (ds_ret2 (dvar 2) (dnon))))

theorem k_deal_or_gap (T : Txt K mg cm) {sd_add_job : DSpec} (c_add_job : Cal P w K mg base "add_job" s_add_job 2 ["jobs", "most", "dealt", "first"] sd_add_job) {f : Addr} {fd : FuncData} (F : Fun K "deal_or_gap" "deal_or_gap" s_deal_or_gap f fd) (hm : mg "deal_or_gap" = some (.ref f)) {sd : DSpec2} (len : ∀ args R, sd args R → args.length = 2)
    (sp : ∀ args R, sd args R → m_deal_or_gap sd_add_job { nx := fun _ => False, rt := fun _ _ => False, r2 := fun x y e => R x y (outs 2 e) } (startE 5 args)) : Cal2 P w K mg base "deal_or_gap" s_deal_or_gap 3 ["jobs", "most"] sd :=
  ⟨f, fd, F, FunG.ok2 (FunG.of F) sc_deal_or_gap len (fun cdv A outer s H E hgd hr => d_deal_or_gap T c_add_job hgd hr) sp, hm, F.binds (ps := ["jobs", "most"]) fun _ _ _ _ _ _ us hl => match us, hl with | [_, _], _ => rfl⟩

abbrev s_deal_of : Stmt := top 25
theorem sc_deal_of : FnScope ["jobs", "most", "dealt", "gap"] ["jobs", "most"] (defScope s_deal_of) := ⟨rfl, rfl, rfl, by decide +kernel, rfl, by decide +kernel, by decide +kernel⟩
theorem d_deal_of (T : Txt K mg cm) (XT : XTxt P w K mg cm base) {sd_need_jobs : DSpecX} (c_need_jobs : CalX P w K mg cm base "need_jobs" s_need_jobs 5 ["jobs"] sd_need_jobs) {sd_need_most : DSpecX} (c_need_most : CalX P w K mg cm base "need_most" s_need_most 3 ["most"] sd_need_most) {sd_deal_or_gap : DSpec2} (c_deal_or_gap : Cal2 P w K mg base "deal_or_gap" s_deal_or_gap 3 ["jobs", "most"] sd_deal_or_gap) {f : Addr} {cdv : Value} {A : Around} {outer : List PySem.Env} {s : Shared} {H : Hp} {E : XK} (hgd : A.guards = some []) (hr : Room 5 (A.deeper (PyProof.Rows.envOfC "deal_of" (defScope s_deal_of) s.heap.objs.size f cdv))) :
    DBx (cxOf (L2.CX P w) P w K mg base ["jobs", "most", "dealt", "gap"] "deal_of" (defScope s_deal_of) f cdv A outer s H E) cm (defBody s_deal_of) (m_deal_of sd_need_jobs sd_need_most sd_deal_or_gap) := by
  unfold m_deal_of
  have hpo : PassesOwn (model P w) (cxOf (L2.CX P w) P w K mg base ["jobs", "most", "dealt", "gap"] "deal_of" (defScope s_deal_of) f cdv A outer s H E).A (cxOf (L2.CX P w) P w K mg base ["jobs", "most", "dealt", "gap"] "deal_of" (defScope s_deal_of) f cdv A outer s H E).env (cxOf (L2.CX P w) P w K mg base ["jobs", "most", "dealt", "gap"] "deal_of" (defScope s_deal_of) f cdv A outer s H E).xe := passes_of rfl
  exact dbx_cons (dsx_expr (dex_call c_need_jobs hgd (hr.mono (by decide)) (by exact rfl) (dc_cons (dvar 0) (dc_nil)))) (dbx_cons (dsx_expr (dex_call c_need_most hgd (hr.mono (by decide)) (by exact rfl) (dc_cons (dvar 1) (dc_nil)))) (dbx_cons (dsx_of (ds_un2 (i := 2) (j := 3) rfl c_deal_or_gap hgd (hr.mono (by decide)) (by exact rfl) sc_deal_of.nd rfl rfl (Or.inl rfl) (Or.inl rfl) (dc_cons (dvar 0) (dc_cons (dvar 1) (dc_nil))))) (dbx_one (dsx_of (ds_ret (dvar 2))))))

theorem k_deal_of (T : Txt K mg cm) (XT : XTxt P w K mg cm base) {sd_need_jobs : DSpecX} (c_need_jobs : CalX P w K mg cm base "need_jobs" s_need_jobs 5 ["jobs"] sd_need_jobs) {sd_need_most : DSpecX} (c_need_most : CalX P w K mg cm base "need_most" s_need_most 3 ["most"] sd_need_most) {sd_deal_or_gap : DSpec2} (c_deal_or_gap : Cal2 P w K mg base "deal_or_gap" s_deal_or_gap 3 ["jobs", "most"] sd_deal_or_gap) {f : Addr} {fd : FuncData} (F : Fun K "deal_of" "deal_of" s_deal_of f fd) (hm : mg "deal_of" = some (.ref f)) {sd : DSpecX} (len : ∀ args R E, sd args R E → args.length = 2)
    (sp : ∀ args R E, sd args R E → m_deal_of sd_need_jobs sd_need_most sd_deal_or_gap { nx := fun e => R (.vl .non) (outs 2 e), rt := fun r e => R r (outs 2 e), ex := fun x fs e => E x fs (outs 2 e) } (startE 4 args)) : CalX P w K mg cm base "deal_of" s_deal_of 6 ["jobs", "most"] sd :=
  ⟨f, fd, F, FunG.okX (FunG.of F) sc_deal_of len (fun cdv A outer s H E hgd hr => d_deal_of T XT c_need_jobs c_need_most c_deal_or_gap hgd hr) sp, hm, F.binds (ps := ["jobs", "most"]) fun _ _ _ _ _ _ us hl => match us, hl with | [_, _], _ => rfl⟩

abbrev s_gap_of : Stmt := top 26
theorem sc_gap_of : FnScope ["jobs", "most", "dealt", "gap"] ["jobs", "most"] (defScope s_gap_of) := ⟨rfl, rfl, rfl, by decide +kernel, rfl, by decide +kernel, by decide +kernel⟩
theorem d_gap_of (T : Txt K mg cm) (XT : XTxt P w K mg cm base) {sd_need_jobs : DSpecX} (c_need_jobs : CalX P w K mg cm base "need_jobs" s_need_jobs 5 ["jobs"] sd_need_jobs) {sd_need_most : DSpecX} (c_need_most : CalX P w K mg cm base "need_most" s_need_most 3 ["most"] sd_need_most) {sd_deal_or_gap : DSpec2} (c_deal_or_gap : Cal2 P w K mg base "deal_or_gap" s_deal_or_gap 3 ["jobs", "most"] sd_deal_or_gap) {f : Addr} {cdv : Value} {A : Around} {outer : List PySem.Env} {s : Shared} {H : Hp} {E : XK} (hgd : A.guards = some []) (hr : Room 5 (A.deeper (PyProof.Rows.envOfC "gap_of" (defScope s_gap_of) s.heap.objs.size f cdv))) :
    DBx (cxOf (L2.CX P w) P w K mg base ["jobs", "most", "dealt", "gap"] "gap_of" (defScope s_gap_of) f cdv A outer s H E) cm (defBody s_gap_of) (m_gap_of sd_need_jobs sd_need_most sd_deal_or_gap) := by
  unfold m_gap_of
  have hpo : PassesOwn (model P w) (cxOf (L2.CX P w) P w K mg base ["jobs", "most", "dealt", "gap"] "gap_of" (defScope s_gap_of) f cdv A outer s H E).A (cxOf (L2.CX P w) P w K mg base ["jobs", "most", "dealt", "gap"] "gap_of" (defScope s_gap_of) f cdv A outer s H E).env (cxOf (L2.CX P w) P w K mg base ["jobs", "most", "dealt", "gap"] "gap_of" (defScope s_gap_of) f cdv A outer s H E).xe := passes_of rfl
  exact dbx_cons (dsx_expr (dex_call c_need_jobs hgd (hr.mono (by decide)) (by exact rfl) (dc_cons (dvar 0) (dc_nil)))) (dbx_cons (dsx_expr (dex_call c_need_most hgd (hr.mono (by decide)) (by exact rfl) (dc_cons (dvar 1) (dc_nil)))) (dbx_cons (dsx_of (ds_un2 (i := 2) (j := 3) rfl c_deal_or_gap hgd (hr.mono (by decide)) (by exact rfl) sc_gap_of.nd rfl rfl (Or.inl rfl) (Or.inl rfl) (dc_cons (dvar 0) (dc_cons (dvar 1) (dc_nil))))) (dbx_one (dsx_of (ds_ret (dvar 3))))))

theorem k_gap_of (T : Txt K mg cm) (XT : XTxt P w K mg cm base) {sd_need_jobs : DSpecX} (c_need_jobs : CalX P w K mg cm base "need_jobs" s_need_jobs 5 ["jobs"] sd_need_jobs) {sd_need_most : DSpecX} (c_need_most : CalX P w K mg cm base "need_most" s_need_most 3 ["most"] sd_need_most) {sd_deal_or_gap : DSpec2} (c_deal_or_gap : Cal2 P w K mg base "deal_or_gap" s_deal_or_gap 3 ["jobs", "most"] sd_deal_or_gap) {f : Addr} {fd : FuncData} (F : Fun K "gap_of" "gap_of" s_gap_of f fd) (hm : mg "gap_of" = some (.ref f)) {sd : DSpecX} (len : ∀ args R E, sd args R E → args.length = 2)
    (sp : ∀ args R E, sd args R E → m_gap_of sd_need_jobs sd_need_most sd_deal_or_gap { nx := fun e => R (.vl .non) (outs 2 e), rt := fun r e => R r (outs 2 e), ex := fun x fs e => E x fs (outs 2 e) } (startE 4 args)) : CalX P w K mg cm base "gap_of" s_gap_of 6 ["jobs", "most"] sd :=
  ⟨f, fd, F, FunG.okX (FunG.of F) sc_gap_of len (fun cdv A outer s H E hgd hr => d_gap_of T XT c_need_jobs c_need_most c_deal_or_gap hgd hr) sp, hm, F.binds (ps := ["jobs", "most"]) fun _ _ _ _ _ _ us hl => match us, hl with | [_, _], _ => rfl⟩

abbrev s_least_most : Stmt := top 27
theorem sc_least_most : FnScope ["jobs", "job", "row", "most", "dealt"] ["jobs"] (defScope s_least_most) := ⟨rfl, rfl, rfl, by decide +kernel, rfl, by decide +kernel, by decide +kernel⟩
theorem d_least_most (T : Txt K mg cm) (XT : XTxt P w K mg cm base) {sd_need_jobs : DSpecX} (c_need_jobs : CalX P w K mg cm base "need_jobs" s_need_jobs 5 ["jobs"] sd_need_jobs) {sd_add_job : DSpec} (c_add_job : Cal P w K mg base "add_job" s_add_job 2 ["jobs", "most", "dealt", "first"] sd_add_job) {f : Addr} {cdv : Value} {A : Around} {outer : List PySem.Env} {s : Shared} {H : Hp} {E : XK} (hgd : A.guards = some []) (hr : Room 5 (A.deeper (PyProof.Rows.envOfC "least_most" (defScope s_least_most) s.heap.objs.size f cdv))) :
    DBx (cxOf (L2.CX P w) P w K mg base ["jobs", "job", "row", "most", "dealt"] "least_most" (defScope s_least_most) f cdv A outer s H E) cm (defBody s_least_most) (m_least_most sd_need_jobs sd_add_job) := by
  unfold m_least_most
  have hpo : PassesOwn (model P w) (cxOf (L2.CX P w) P w K mg base ["jobs", "job", "row", "most", "dealt"] "least_most" (defScope s_least_most) f cdv A outer s H E).A (cxOf (L2.CX P w) P w K mg base ["jobs", "job", "row", "most", "dealt"] "least_most" (defScope s_least_most) f cdv A outer s H E).env (cxOf (L2.CX P w) P w K mg base ["jobs", "job", "row", "most", "dealt"] "least_most" (defScope s_least_most) f cdv A outer s H E).xe := passes_of rfl
  exact dbx_cons (dsx_expr (dex_call c_need_jobs hgd (hr.mono (by decide)) (by exact rfl) (dc_cons (dvar 0) (dc_nil)))) (dbx_cons (dsx_for (js := [1, 2]) hpo rfl (di_enumA rfl T.b_enumerate (dvar 0)) (dg_tup rfl (dgs_cons (dg_name 1 sc_least_most.nd rfl (Or.inl rfl)) (dgs_cons (dg_name 2 sc_least_most.nd rfl (Or.inl rfl)) (dgs_nil)))) (dbx_one (dsx_if (dtcmp (op_eqD hr.units) o2_eq (dfnB call_lenX on_len rfl T.b_len (by decide +kernel) (da_cons (dvar 2) (da_nil))) (dint)) (dbx_one (dsx_raiseE cx_NoDoer rfl XT.x_NoDoer (hr.mono (by decide)) (by exact rfl) (dvar 1))) (dbx_of (db_nil))))) (dbx_cons (dsx_of (ds_set (j := 3) sc_least_most.nd rfl (Or.inl rfl) (dfnB (call_minX rfl) on_min rfl T.b_min (by decide +kernel) (da_cons (dint) (da_cons (dfnB call_lenX on_len rfl T.b_len (by decide +kernel) (da_cons (dvar 0) (da_nil))) (da_nil)))))) (dbx_cons (dsx_of (ds_setO (j := 4) sc_least_most.nd rfl (Or.inl rfl) (dop op_mulD o2_mul (dlst (dl_cons (dnon) (dl_nil))) (dfnB call_lenX on_len rfl T.b_len (by decide +kernel) (da_cons (dvar 0) (da_nil)))))) (dbx_cons (dsx_of (ds_for (js := [1]) hpo rfl (di_range1 rfl T.b_range (dfnB call_lenX on_len rfl T.b_len (by decide +kernel) (da_cons (dvar 0) (da_nil)))) (dg_name 1 sc_least_most.nd rfl (Or.inl rfl)) (db_one (ds_while hpo (dtcmp op_isND o2_isN (dcallC c_add_job hgd (hr.mono (by decide)) (by exact rfl) (dc_cons (dvar 0) (dc_cons (dvar 3) (dc_cons (dvar 4) (dc_cons (dvar 1) (dc_nil)))))) (dnon)) (db_one (ds_aug 3 sc_least_most.nd rfl (Or.inl rfl) ip_addD i2_add (dint))))))) (dbx_one (dsx_of (ds_ret (dvar 3))))))))

theorem k_least_most (T : Txt K mg cm) (XT : XTxt P w K mg cm base) {sd_need_jobs : DSpecX} (c_need_jobs : CalX P w K mg cm base "need_jobs" s_need_jobs 5 ["jobs"] sd_need_jobs) {sd_add_job : DSpec} (c_add_job : Cal P w K mg base "add_job" s_add_job 2 ["jobs", "most", "dealt", "first"] sd_add_job) {f : Addr} {fd : FuncData} (F : Fun K "least_most" "least_most" s_least_most f fd) (hm : mg "least_most" = some (.ref f)) {sd : DSpecX} (len : ∀ args R E, sd args R E → args.length = 1)
    (sp : ∀ args R E, sd args R E → m_least_most sd_need_jobs sd_add_job { nx := fun e => R (.vl .non) (outs 1 e), rt := fun r e => R r (outs 1 e), ex := fun x fs e => E x fs (outs 1 e) } (startE 5 args)) : CalX P w K mg cm base "least_most" s_least_most 6 ["jobs"] sd :=
  ⟨f, fd, F, FunG.okX (FunG.of F) sc_least_most len (fun cdv A outer s H E hgd hr => d_least_most T XT c_need_jobs c_add_job hgd hr) sp, hm, F.binds (ps := ["jobs"]) fun _ _ _ _ _ _ us hl => match us, hl with | [_], _ => rfl⟩

abbrev s_l_cell : Stmt := top 29
theorem sc_l_cell : FnScope ["script", "k"] ["script", "k"] (defScope s_l_cell) := ⟨rfl, rfl, rfl, by decide +kernel, rfl, by decide +kernel, by decide +kernel⟩
theorem d_l_cell (T : Txt K mg cm)  {f : Addr} {cdv : Value} {A : Around} {outer : List PySem.Env} {s : Shared} {H : Hp} {E : XK} (hgd : A.guards = some []) (hr : Room 0 (A.deeper (PyProof.Rows.envOfC "_law_cell" (defScope s_l_cell) s.heap.objs.size f cdv))) :
    DB (cxOf CX0 P w K mg base ["script", "k"] "_law_cell" (defScope s_l_cell) f cdv A outer s H E).nox (defBody s_l_cell) (m_l_cell ) := by
  unfold m_l_cell
  exact db_cons (ds_if (dtcmp op_ltD o2_ord (dvar 1) (dfnB call_lenX on_len rfl T.b_len (by decide +kernel) (da_cons (dvar 0) (da_nil)))) (db_one (ds_ret (dix (dvar 0) (dvar 1)))) (db_nil)) (db_one (ds_ret (dop op_addD o2_add (dop op_mulD o2_mul (dint) (dvar 1)) (dint))))

theorem k_l_cell (T : Txt K mg cm)  {f : Addr} {fd : FuncData} (F : Fun K "_law_cell" "_law_cell" s_l_cell f fd) (hm : mg "_law_cell" = some (.ref f)) {sd : DSpec} (len : ∀ args R, sd args R → args.length = 2)
    (sp : ∀ args R, sd args R → m_l_cell  { nx := fun e => R (.vl .non) (outs 2 e), rt := fun r e => R r (outs 2 e) } (startE 2 args)) : Cal P w K mg base "_law_cell" s_l_cell 1 ["script", "k"] sd :=
  ⟨f, fd, F, FunG.ok (FunG.of F) sc_l_cell len (fun cdv A outer s H E hgd hr => d_l_cell T  hgd hr) sp, hm, F.binds (ps := ["script", "k"]) fun _ _ _ _ _ _ us hl => match us, hl with | [_, _], _ => rfl⟩

abbrev s_l_box : Stmt := top 30
theorem sc_l_box : FnScope ["cell"] ["cell"] (defScope s_l_box) := ⟨rfl, rfl, rfl, by decide +kernel, rfl, by decide +kernel, by decide +kernel⟩
theorem d_l_box (T : Txt K mg cm)  {f : Addr} {cdv : Value} {A : Around} {outer : List PySem.Env} {s : Shared} {H : Hp} {E : XK} (hgd : A.guards = some []) (hr : Room 0 (A.deeper (PyProof.Rows.envOfC "_law_box" (defScope s_l_box) s.heap.objs.size f cdv))) :
    DB (cxOf CX0 P w K mg base ["cell"] "_law_box" (defScope s_l_box) f cdv A outer s H E).nox (defBody s_l_box) (m_l_box ) := by
  unfold m_l_box
  exact db_one (ds_ret (dlst (dl_cons (dfnB (call_maxX rfl) on_max rfl T.b_max (by decide +kernel) (da_cons (dint) (da_cons (dop op_sub o2_sub (dvar 0) (dop op_pow o2_pow (dint) (dint))) (da_nil)))) (dl_cons (dop op_mod o2_mod (dvar 0) (dint)) (dl_cons (dint) (dl_nil))))))

theorem k_l_box (T : Txt K mg cm)  {f : Addr} {fd : FuncData} (F : Fun K "_law_box" "_law_box" s_l_box f fd) (hm : mg "_law_box" = some (.ref f)) {sd : DSpec} (len : ∀ args R, sd args R → args.length = 1)
    (sp : ∀ args R, sd args R → m_l_box  { nx := fun e => R (.vl .non) (outs 1 e), rt := fun r e => R r (outs 1 e) } (startE 1 args)) : Cal P w K mg base "_law_box" s_l_box 1 ["cell"] sd :=
  ⟨f, fd, F, FunG.ok (FunG.of F) sc_l_box len (fun cdv A outer s H E hgd hr => d_l_box T  hgd hr) sp, hm, F.binds (ps := ["cell"]) fun _ _ _ _ _ _ us hl => match us, hl with | [_], _ => rfl⟩

abbrev s_l_take : Stmt := top 31
theorem sc_l_take : FnScope ["box", "many", "digit", "one", "other"] ["box", "many"] (defScope s_l_take) := ⟨rfl, rfl, rfl, by decide +kernel, rfl, by decide +kernel, by decide +kernel⟩
theorem d_l_take (T : Txt K mg cm)  {f : Addr} {cdv : Value} {A : Around} {outer : List PySem.Env} {s : Shared} {H : Hp} {E : XK} (hgd : A.guards = some []) (hr : Room 0 (A.deeper (PyProof.Rows.envOfC "_law_take" (defScope s_l_take) s.heap.objs.size f cdv))) :
    DB (cxOf CX0 P w K mg base ["box", "many", "digit", "one", "other"] "_law_take" (defScope s_l_take) f cdv A outer s H E).nox (defBody s_l_take) (m_l_take ) := by
  unfold m_l_take
  exact db_cons (ds_if (dtcmp op_gtD o2_ord (dix (dvar 0) (dint)) (dint)) (db_cons (ds_set (j := 2) sc_l_take.nd rfl (Or.inl rfl) (dop op_mod o2_mod (dix (dvar 0) (dint)) (dvar 1))) (db_cons (ds_setIx 0 rfl (Or.inl rfl) (dint) (dop op_fdivW o2_fdiv (dix (dvar 0) (dint)) (dvar 1))) (db_one (ds_ret (dvar 2))))) (db_nil)) (db_cons (ds_setIx 0 rfl (Or.inl rfl) (dint) (dop op_addD o2_add (dix (dvar 0) (dint)) (dint))) (db_cons (ds_set (j := 3) sc_l_take.nd rfl (Or.inl rfl) (dop op_mod o2_mod (dop op_pow o2_pow (dop op_addD o2_add (dop op_addD o2_add (dix (dvar 0) (dint)) (dop op_mulD o2_mul (dint) (dix (dvar 0) (dint)))) (dint)) (dint)) (dint))) (db_cons (ds_set (j := 4) sc_l_take.nd rfl (Or.inl rfl) (dop op_mod o2_mod (dop op_pow o2_pow (dop op_addD o2_add (dop op_addD o2_add (dop op_fdivW o2_fdiv (dvar 3) (dint)) (dop op_mulD o2_mul (dop op_mulD o2_mul (dint) (dix (dvar 0) (dint))) (dix (dvar 0) (dint)))) (dint)) (dint)) (dint))) (db_one (ds_ret (dop op_mod o2_mod (dop op_addD o2_add (dop op_fdivW o2_fdiv (dvar 3) (dint)) (dop op_mulD o2_mul (dint) (dop op_fdivW o2_fdiv (dvar 4) (dint)))) (dvar 1)))))))

theorem k_l_take (T : Txt K mg cm)  {f : Addr} {fd : FuncData} (F : Fun K "_law_take" "_law_take" s_l_take f fd) (hm : mg "_law_take" = some (.ref f)) {sd : DSpec} (len : ∀ args R, sd args R → args.length = 2)
    (sp : ∀ args R, sd args R → m_l_take  { nx := fun e => R (.vl .non) (outs 2 e), rt := fun r e => R r (outs 2 e) } (startE 5 args)) : Cal P w K mg base "_law_take" s_l_take 1 ["box", "many"] sd :=
  ⟨f, fd, F, FunG.ok (FunG.of F) sc_l_take len (fun cdv A outer s H E hgd hr => d_l_take T  hgd hr) sp, hm, F.binds (ps := ["box", "many"]) fun _ _ _ _ _ _ us hl => match us, hl with | [_, _], _ => rfl⟩

abbrev s_l_names : Stmt := top 32
theorem sc_l_names : FnScope ["box", "many", "letters", "way", "first", "size", "step", "at", "stem", "words", "signs", "k", "sign"] ["box", "many"] (defScope s_l_names) := ⟨rfl, rfl, rfl, by decide +kernel, rfl, by decide +kernel, by decide +kernel⟩
theorem d_l_names (T : Txt K mg cm) {sd_l_take : DSpec} (c_l_take : Cal P w K mg base "_law_take" s_l_take 1 ["box", "many"] sd_l_take) {f : Addr} {cdv : Value} {A : Around} {outer : List PySem.Env} {s : Shared} {H : Hp} {E : XK} (hgd : A.guards = some []) (hr : Room 1 (A.deeper (PyProof.Rows.envOfC "_law_names" (defScope s_l_names) s.heap.objs.size f cdv))) :
    DB (cxOf CX0 P w K mg base ["box", "many", "letters", "way", "first", "size", "step", "at", "stem", "words", "signs", "k", "sign"] "_law_names" (defScope s_l_names) f cdv A outer s H E).nox (defBody s_l_names) (m_l_names sd_l_take) := by
  unfold m_l_names
  exact db_cons (ds_set (j := 2) sc_l_names.nd rfl (Or.inr rfl) (dstr)) (db_cons (ds_un (js := [3, 4]) rfl (dgs_cons (dg_name 3 sc_l_names.nd rfl (Or.inl rfl)) (dgs_cons (dg_name 4 sc_l_names.nd rfl (Or.inr rfl)) (dgs_nil))) (dtup (dl_cons (dcallC c_l_take hgd (hr.mono (by decide)) (by exact rfl) (dc_cons (dvar 0) (dc_cons (dint) (dc_nil)))) (dl_cons (dcallC c_l_take hgd (hr.mono (by decide)) (by exact rfl) (dc_cons (dvar 0) (dc_cons (dint) (dc_nil)))) (dl_nil))))) (db_cons (ds_un (js := [5, 6]) rfl (dgs_cons (dg_name 5 sc_l_names.nd rfl (Or.inr rfl)) (dgs_cons (dg_name 6 sc_l_names.nd rfl (Or.inr rfl)) (dgs_nil))) (dtup (dl_cons (dop op_addD o2_add (dint) (dcallC c_l_take hgd (hr.mono (by decide)) (by exact rfl) (dc_cons (dvar 0) (dc_cons (dint) (dc_nil))))) (dl_cons (dix (dlst (dl_cons (dint) (dl_cons (dint) (dl_cons (dint) (dl_cons (dint) (dl_cons (dint) (dl_cons (dint) (dl_cons (dint) (dl_nil))))))))) (dcallC c_l_take hgd (hr.mono (by decide)) (by exact rfl) (dc_cons (dvar 0) (dc_cons (dint) (dc_nil))))) (dl_nil))))) (db_cons (ds_set (j := 7) sc_l_names.nd rfl (Or.inr rfl) (dcallC c_l_take hgd (hr.mono (by decide)) (by exact rfl) (dc_cons (dvar 0) (dc_cons (dvar 5) (dc_nil))))) (db_cons (ds_set (j := 8) sc_l_names.nd rfl (Or.inr rfl) (djoin (dstr) (dlc (js := [11]) [("k", 11)] rfl sc_l_names.nd (blkOk_by (by kernel_rfl)) (di_range1 rfl T.b_range (dint)) (fun _ _ _ _ _ => dg_name 11 sc_l_names.nd rfl (Or.inl rfl)) (fun _ _ _ _ _ => dts_nil) (fun _ _ _ _ _ => dix (dvar 2) (dcallC c_l_take hgd (hr.mono (by decide)) (by exact rfl) (dc_cons (dvar 0) (dc_cons (dint) (dc_nil)))))))) (db_cons (ds_if (dtcmp (op_eqD hr.units) o2_eq (dvar 3) (dint)) (db_cons (ds_set (j := 9) sc_l_names.nd rfl (Or.inr rfl) (dsplit (dstr) (dstr))) (db_cons (ds_set (j := 6) sc_l_names.nd rfl (Or.inr rfl) (dix (dlst (dl_cons (dint) (dl_cons (dint) (dl_cons (dint) (dl_cons (dint) (dl_cons (dint) (dl_cons (dint) (dl_cons (dint) (dl_nil))))))))) (dop op_mod o2_mod (dvar 6) (dint)))) (db_one (ds_ret (dlc (js := [11]) [("k", 11)] rfl sc_l_names.nd (blkOk_by (by kernel_rfl)) (di_range1 rfl T.b_range (dvar 1)) (fun _ _ _ _ _ => dg_name 11 sc_l_names.nd rfl (Or.inl rfl)) (fun _ _ _ _ _ => dts_nil) (fun _ _ _ _ _ => dix (dvar 9) (dop op_mod o2_mod (dop op_addD o2_add (dvar 4) (dop op_mulD o2_mul (dvar 6) (dvar 11))) (dint)))))))) (db_nil)) (db_cons (ds_if (dtw (dw_and (dtcmp (op_eqD hr.units) o2_eq (dvar 3) (dint)) (dw_and1 (dtcmp op_leD o2_ord (dvar 1) (dint))))) (db_cons (ds_set (j := 8) sc_l_names.nd rfl (Or.inr rfl) (dop op_addD o2_add (dvar 8) (dix (dvar 2) (dvar 4)))) (db_one (ds_ret (dlc (js := [11]) [("k", 11)] rfl sc_l_names.nd (blkOk_by (by kernel_rfl)) (di_range1 rfl T.b_range (dvar 1)) (fun _ _ _ _ _ => dg_name 11 sc_l_names.nd rfl (Or.inl rfl)) (fun _ _ _ _ _ => dts_nil) (fun _ _ _ _ _ => dslice (dvar 8) (do_none) (do_some (dop op_addD o2_add (dint) (dop op_mod o2_mod (dop op_addD o2_add (dvar 7) (dvar 11)) (dint))))))))) (db_nil)) (db_cons (ds_setLc (i := 10) (js := [11]) [("k", 11)] rfl sc_l_names.nd rfl rfl (sw_true rfl rfl rfl (by first | rfl | decide +kernel)) (blkOk_by (by kernel_rfl)) (di_range1 rfl T.b_range (dvar 1)) (fun _ _ _ _ _ => dg_name 11 sc_l_names.nd rfl (Or.inl rfl)) (fun _ _ _ _ _ => dts_nil) (fun _ _ _ _ _ => dix (dvar 2) (dop op_mod o2_mod (dop op_addD o2_add (dvar 4) (dop op_mulD o2_mul (dvar 6) (dvar 11))) (dint)))) (db_one (ds_ret (dlc (js := [12]) [("sign", 12)] rfl sc_l_names.nd (blkOk_by (by kernel_rfl)) (di_any (dvar 10)) (fun _ _ _ _ _ => dg_name 12 sc_l_names.nd rfl (Or.inl rfl)) (fun _ _ _ _ _ => dts_nil) (fun _ _ _ _ _ => dop op_addD o2_add (dop op_addD o2_add (dslice (dvar 8) (do_none) (do_some (dvar 7))) (dvar 12)) (dslice (dvar 8) (do_some (dvar 7)) (do_some (dop op_sub o2_sub (dvar 5) (dint)))))))))))))))

theorem k_l_names (T : Txt K mg cm) {sd_l_take : DSpec} (c_l_take : Cal P w K mg base "_law_take" s_l_take 1 ["box", "many"] sd_l_take) {f : Addr} {fd : FuncData} (F : Fun K "_law_names" "_law_names" s_l_names f fd) (hm : mg "_law_names" = some (.ref f)) {sd : DSpec} (len : ∀ args R, sd args R → args.length = 2)
    (sp : ∀ args R, sd args R → m_l_names sd_l_take { nx := fun e => R (.vl .non) (outs 2 e), rt := fun r e => R r (outs 2 e) } (startE 13 args)) : Cal P w K mg base "_law_names" s_l_names 2 ["box", "many"] sd :=
  ⟨f, fd, F, FunG.ok (FunG.of F) sc_l_names len (fun cdv A outer s H E hgd hr => d_l_names T c_l_take hgd hr) sp, hm, F.binds (ps := ["box", "many"]) fun _ _ _ _ _ _ us hl => match us, hl with | [_, _], _ => rfl⟩

abbrev s_l_rows : Stmt := top 33
theorem sc_l_rows : FnScope ["box", "names", "many", "way", "few", "found", "k", "row", "at", "name"] ["box", "names", "many"] (defScope s_l_rows) := ⟨rfl, rfl, rfl, by decide +kernel, rfl, by decide +kernel, by decide +kernel⟩
theorem d_l_rows (T : Txt K mg cm) {sd_l_take : DSpec} (c_l_take : Cal P w K mg base "_law_take" s_l_take 1 ["box", "many"] sd_l_take) {f : Addr} {cdv : Value} {A : Around} {outer : List PySem.Env} {s : Shared} {H : Hp} {E : XK} (hgd : A.guards = some []) (hr : Room 1 (A.deeper (PyProof.Rows.envOfC "_law_rows" (defScope s_l_rows) s.heap.objs.size f cdv))) :
    DB (cxOf CX0 P w K mg base ["box", "names", "many", "way", "few", "found", "k", "row", "at", "name"] "_law_rows" (defScope s_l_rows) f cdv A outer s H E).nox (defBody s_l_rows) (m_l_rows sd_l_take) := by
  unfold m_l_rows
  exact db_cons (ds_par2 (i := 3) (j := 4) rfl sc_l_rows.nd rfl rfl (by decide) rfl rfl (dl_cons (dcallC c_l_take hgd (hr.mono (by decide)) (by exact rfl) (dc_cons (dvar 0) (dc_cons (dint) (dc_nil)))) (dl_cons (dop op_addD o2_add (dint) (dcallC c_l_take hgd (hr.mono (by decide)) (by exact rfl) (dc_cons (dvar 0) (dc_cons (dfnB call_lenX on_len rfl T.b_len (by decide +kernel) (da_cons (dvar 1) (da_nil))) (dc_nil))))) (dl_nil))) (by first | rfl | kernel_rfl)) (db_cons (ds_setO (j := 5) sc_l_rows.nd rfl (Or.inl rfl) (dlst (dl_nil))) (db_cons (ds_for (js := [6]) PassesOwn.never rfl (di_range1 rfl T.b_range (dvar 2)) (dg_name 6 sc_l_rows.nd rfl (Or.inl rfl)) (db_cons (ds_if (dtcmp (op_eqD hr.units) o2_eq (dvar 3) (dint)) (db_one (ds_setLc (i := 7) (js := [9]) [("name", 9)] rfl sc_l_rows.nd rfl rfl (sw_true rfl rfl rfl (by first | rfl | decide +kernel)) (blkOk_by (by kernel_rfl)) (di_any (dvar 1)) (fun _ _ _ _ _ => dg_name 9 sc_l_rows.nd rfl (Or.inl rfl)) (fun _ _ _ _ _ => dts_one (dtcmp (op_eqD hr.units) o2_eq (dcallC c_l_take hgd (hr.mono (by decide)) (by exact rfl) (dc_cons (dvar 0) (dc_cons (dint) (dc_nil)))) (dint))) (fun _ _ _ _ _ => dvar 9))) (db_one (ds_if (dtcmp (op_eqD hr.units) o2_eq (dvar 3) (dint)) (db_one (ds_set (j := 7) sc_l_rows.nd rfl (Or.inl rfl) (dop op_addD o2_add (dlst (dl_cons (dix (dvar 1) (dcallC c_l_take hgd (hr.mono (by decide)) (by exact rfl) (dc_cons (dvar 0) (dc_cons (dvar 4) (dc_nil))))) (dl_nil))) (dlc (js := [9]) [("name", 9)] rfl sc_l_rows.nd (blkOk_by (by kernel_rfl)) (di_any (dslice (dvar 1) (do_some (dvar 4)) (do_none))) (fun _ _ _ _ _ => dg_name 9 sc_l_rows.nd rfl (Or.inl rfl)) (fun _ _ _ _ _ => dts_one (dtcmp (op_eqD hr.units) o2_eq (dcallC c_l_take hgd (hr.mono (by decide)) (by exact rfl) (dc_cons (dvar 0) (dc_cons (dint) (dc_nil)))) (dint))) (fun _ _ _ _ _ => dvar 9))))) (db_one (ds_if (dtcmp (op_eqD hr.units) o2_eq (dvar 3) (dint)) (db_cons (ds_set (j := 8) sc_l_rows.nd rfl (Or.inl rfl) (dcallC c_l_take hgd (hr.mono (by decide)) (by exact rfl) (dc_cons (dvar 0) (dc_cons (dfnB call_lenX on_len rfl T.b_len (by decide +kernel) (da_cons (dvar 1) (da_nil))) (dc_nil))))) (db_one (ds_set (j := 7) sc_l_rows.nd rfl (Or.inl rfl) (dslice (dop op_addD o2_add (dslice (dvar 1) (do_some (dvar 8)) (do_none)) (dslice (dvar 1) (do_none) (do_some (dvar 8)))) (do_none) (do_some (dop op_addD o2_add (dint) (dcallC c_l_take hgd (hr.mono (by decide)) (by exact rfl) (dc_cons (dvar 0) (dc_cons (dint) (dc_nil)))))))))) (db_one (ds_set (j := 7) sc_l_rows.nd rfl (Or.inl rfl) (dif (dtcmp op_gtD o2_ord (dcallC c_l_take hgd (hr.mono (by decide)) (by exact rfl) (dc_cons (dvar 0) (dc_cons (dint) (dc_nil)))) (dint)) (dslice (dvar 1) (do_none) (do_some (dvar 4))) (dlst (dl_cons (dix (dvar 1) (dcallC c_l_take hgd (hr.mono (by decide)) (by exact rfl) (dc_cons (dvar 0) (dc_cons (dfnB call_lenX on_len rfl T.b_len (by decide +kernel) (da_cons (dvar 1) (da_nil))) (dc_nil))))) (dl_nil))))))))))) (db_one (ds_app 5 rfl (Or.inl rfl) (dif (dtw (dw_or (dtcmp (op_neD hr.units) o2_ne (dvar 7) (dlst (dl_nil))) (dw_or1 (dtcmp (op_eqD hr.units) o2_eq (dcallC c_l_take hgd (hr.mono (by decide)) (by exact rfl) (dc_cons (dvar 0) (dc_cons (dint) (dc_nil)))) (dint))))) (dvar 7) (dlst (dl_cons (dix (dvar 1) (dint)) (dl_nil)))))))) (db_one (ds_ret (dvar 5)))))

theorem k_l_rows (T : Txt K mg cm) {sd_l_take : DSpec} (c_l_take : Cal P w K mg base "_law_take" s_l_take 1 ["box", "many"] sd_l_take) {f : Addr} {fd : FuncData} (F : Fun K "_law_rows" "_law_rows" s_l_rows f fd) (hm : mg "_law_rows" = some (.ref f)) {sd : DSpec} (len : ∀ args R, sd args R → args.length = 3)
    (sp : ∀ args R, sd args R → m_l_rows sd_l_take { nx := fun e => R (.vl .non) (outs 3 e), rt := fun r e => R r (outs 3 e) } (startE 10 args)) : Cal P w K mg base "_law_rows" s_l_rows 2 ["box", "names", "many"] sd :=
  ⟨f, fd, F, FunG.ok (FunG.of F) sc_l_rows len (fun cdv A outer s H E hgd hr => d_l_rows T c_l_take hgd hr) sp, hm, F.binds (ps := ["box", "names", "many"]) fun _ _ _ _ _ _ us hl => match us, hl with | [_, _, _], _ => rfl⟩

abbrev s_l_masks : Stmt := top 34
theorem sc_l_masks : FnScope ["rows", "names", "row", "at", "name"] ["rows", "names"] (defScope s_l_masks) := ⟨rfl, rfl, rfl, by decide +kernel, rfl, by decide +kernel, by decide +kernel⟩
theorem d_l_masks (T : Txt K mg cm)  {f : Addr} {cdv : Value} {A : Around} {outer : List PySem.Env} {s : Shared} {H : Hp} {E : XK} (hgd : A.guards = some []) (hr : Room 0 (A.deeper (PyProof.Rows.envOfC "_law_masks" (defScope s_l_masks) s.heap.objs.size f cdv))) :
    DB (cxOf CX0 P w K mg base ["rows", "names", "row", "at", "name"] "_law_masks" (defScope s_l_masks) f cdv A outer s H E).nox (defBody s_l_masks) (m_l_masks ) := by
  unfold m_l_masks
  exact db_one (ds_ret (dlc (js := [2]) [("row", 2)] rfl sc_l_masks.nd (blkOk_by (by kernel_rfl)) (di_any (dvar 0)) (fun _ _ _ _ _ => dg_name 2 sc_l_masks.nd rfl (Or.inr rfl)) (fun _ _ _ _ _ => dts_nil) (fun _ _ _ _ _ => dfnB (cr_sum rfl) on_sum rfl T.b_sum (by decide +kernel) (da_cons (dlc (js := [3, 4]) [("at", 3), ("name", 4)] rfl sc_l_masks.nd (blkOk_by (by kernel_rfl)) (di_enumA rfl T.b_enumerate (dvar 1)) (fun _ _ _ _ _ => dg_tup rfl (dgs_cons (dg_name 3 sc_l_masks.nd rfl (Or.inl rfl)) (dgs_cons (dg_name 4 sc_l_masks.nd rfl (Or.inl rfl)) (dgs_nil)))) (fun _ _ _ _ _ => dts_one (dtcmp op_inB o2_inB (dvar 4) (dvar 2))) (fun _ _ _ _ _ => dop op_shl o2_shl (dint) (dvar 3))) (da_nil)))))

theorem k_l_masks (T : Txt K mg cm)  {f : Addr} {fd : FuncData} (F : Fun K "_law_masks" "_law_masks" s_l_masks f fd) (hm : mg "_law_masks" = some (.ref f)) {sd : DSpec} (len : ∀ args R, sd args R → args.length = 2)
    (sp : ∀ args R, sd args R → m_l_masks  { nx := fun e => R (.vl .non) (outs 2 e), rt := fun r e => R r (outs 2 e) } (startE 5 args)) : Cal P w K mg base "_law_masks" s_l_masks 1 ["rows", "names"] sd :=
  ⟨f, fd, F, FunG.ok (FunG.of F) sc_l_masks len (fun cdv A outer s H E hgd hr => d_l_masks T  hgd hr) sp, hm, F.binds (ps := ["rows", "names"]) fun _ _ _ _ _ _ us hl => match us, hl with | [_, _], _ => rfl⟩

abbrev s_l_least : Stmt := top 35
theorem sc_l_least : FnScope ["rows", "names", "masks", "counts", "least", "some", "within", "size", "own", "mask", "at"] ["rows", "names"] (defScope s_l_least) := ⟨rfl, rfl, rfl, by decide +kernel, rfl, by decide +kernel, by decide +kernel⟩
theorem d_l_least (T : Txt K mg cm) {sd_l_masks : DSpec} (c_l_masks : Cal P w K mg base "_law_masks" s_l_masks 1 ["rows", "names"] sd_l_masks) {f : Addr} {cdv : Value} {A : Around} {outer : List PySem.Env} {s : Shared} {H : Hp} {E : XK} (hgd : A.guards = some []) (hr : Room 1 (A.deeper (PyProof.Rows.envOfC "_law_least" (defScope s_l_least) s.heap.objs.size f cdv))) :
    DB (cxOf CX0 P w K mg base ["rows", "names", "masks", "counts", "least", "some", "within", "size", "own", "mask", "at"] "_law_least" (defScope s_l_least) f cdv A outer s H E).nox (defBody s_l_least) (m_l_least sd_l_masks) := by
  unfold m_l_least
  exact db_cons (ds_set (j := 2) sc_l_least.nd rfl (Or.inr rfl) (dcallC c_l_masks hgd (hr.mono (by decide)) (by exact rfl) (dc_cons (dvar 0) (dc_cons (dvar 1) (dc_nil))))) (db_cons (ds_if (dtcmp op_inB o2_inB (dint) (dvar 2)) (db_one (ds_ret (dnon))) (db_nil)) (db_cons (ds_set (j := 3) sc_l_least.nd rfl (Or.inr rfl) (dlc (js := [8]) [("own", 8)] rfl sc_l_least.nd (blkOk_by (by kernel_rfl)) (di_range1 rfl T.b_range (dop op_shl o2_shl (dint) (dfnB call_lenX on_len rfl T.b_len (by decide +kernel) (da_cons (dvar 1) (da_nil))))) (fun _ _ _ _ _ => dg_name 8 sc_l_least.nd rfl (Or.inr rfl)) (fun _ _ _ _ _ => dts_nil) (fun _ _ _ _ _ => dfnB call_lenX on_len rfl T.b_len (by decide +kernel) (da_cons (dlc (js := [9]) [("mask", 9)] rfl sc_l_least.nd (blkOk_by (by kernel_rfl)) (di_any (dvar 2)) (fun _ _ _ _ _ => dg_name 9 sc_l_least.nd rfl (Or.inl rfl)) (fun _ _ _ _ _ => dts_one (dtcmp (op_eqD hr.units) o2_eq (dvar 9) (dvar 8))) (fun _ _ _ _ _ => dint)) (da_nil))))) (db_cons (ds_set (j := 4) sc_l_least.nd rfl (Or.inl rfl) (dint)) (db_cons (ds_for (js := [5]) PassesOwn.never rfl (di_range2 rfl T.b_range (dint) (dop op_shl o2_shl (dint) (dfnB call_lenX on_len rfl T.b_len (by decide +kernel) (da_cons (dvar 1) (da_nil))))) (dg_name 5 sc_l_least.nd rfl (Or.inr rfl)) (db_cons (ds_set (j := 6) sc_l_least.nd rfl (Or.inl rfl) (dfnB (cr_sum rfl) on_sum rfl T.b_sum (by decide +kernel) (da_cons (dlc (js := [8]) [("own", 8)] rfl sc_l_least.nd (blkOk_by (by kernel_rfl)) (di_range1 rfl T.b_range (dop op_addD o2_add (dvar 5) (dint))) (fun _ _ _ _ _ => dg_name 8 sc_l_least.nd rfl (Or.inl rfl)) (fun _ _ _ _ _ => dts_one (dtcmp (op_eqD hr.units) o2_eq (dop op_and o2_and (dvar 8) (dvar 5)) (dvar 8))) (fun _ _ _ _ _ => dix (dvar 3) (dvar 8))) (da_nil)))) (db_cons (ds_set (j := 7) sc_l_least.nd rfl (Or.inl rfl) (dfnB call_lenX on_len rfl T.b_len (by decide +kernel) (da_cons (dlc (js := [10]) [("at", 10)] rfl sc_l_least.nd (blkOk_by (by kernel_rfl)) (di_range1 rfl T.b_range (dfnB call_lenX on_len rfl T.b_len (by decide +kernel) (da_cons (dvar 1) (da_nil)))) (fun _ _ _ _ _ => dg_name 10 sc_l_least.nd rfl (Or.inl rfl)) (fun _ _ _ _ _ => dts_one (dtcmp (op_eqD hr.units) o2_eq (dop op_and o2_and (dop op_shr o2_shr (dvar 5) (dvar 10)) (dint)) (dint))) (fun _ _ _ _ _ => dint)) (da_nil)))) (db_one (ds_set (j := 4) sc_l_least.nd rfl (Or.inl rfl) (dfnB (call_maxX rfl) on_max rfl T.b_max (by decide +kernel) (da_cons (dvar 4) (da_cons (dop op_fdivW o2_fdiv (dop op_sub o2_sub (dop op_addD o2_add (dvar 6) (dvar 7)) (dint)) (dvar 7)) (da_nil))))))))) (db_one (ds_ret (dvar 4)))))))

theorem k_l_least (T : Txt K mg cm) {sd_l_masks : DSpec} (c_l_masks : Cal P w K mg base "_law_masks" s_l_masks 1 ["rows", "names"] sd_l_masks) {f : Addr} {fd : FuncData} (F : Fun K "_law_least" "_law_least" s_l_least f fd) (hm : mg "_law_least" = some (.ref f)) {sd : DSpec} (len : ∀ args R, sd args R → args.length = 2)
    (sp : ∀ args R, sd args R → m_l_least sd_l_masks { nx := fun e => R (.vl .non) (outs 2 e), rt := fun r e => R r (outs 2 e) } (startE 11 args)) : Cal P w K mg base "_law_least" s_l_least 2 ["rows", "names"] sd :=
  ⟨f, fd, F, FunG.ok (FunG.of F) sc_l_least len (fun cdv A outer s H E hgd hr => d_l_least T c_l_masks hgd hr) sp, hm, F.binds (ps := ["rows", "names"]) fun _ _ _ _ _ _ us hl => match us, hl with | [_, _], _ => rfl⟩

abbrev s_l_mixed : Stmt := top 36
theorem sc_l_mixed : FnScope ["box", "row", "left", "found"] ["box", "row"] (defScope s_l_mixed) := ⟨rfl, rfl, rfl, by decide +kernel, rfl, by decide +kernel, by decide +kernel⟩
theorem d_l_mixed (T : Txt K mg cm) {sd_l_take : DSpec} (c_l_take : Cal P w K mg base "_law_take" s_l_take 1 ["box", "many"] sd_l_take) {f : Addr} {cdv : Value} {A : Around} {outer : List PySem.Env} {s : Shared} {H : Hp} {E : XK} (hgd : A.guards = some []) (hr : Room 1 (A.deeper (PyProof.Rows.envOfC "_law_mixed" (defScope s_l_mixed) s.heap.objs.size f cdv))) :
    DB (cxOf CX0 P w K mg base ["box", "row", "left", "found"] "_law_mixed" (defScope s_l_mixed) f cdv A outer s H E).nox (defBody s_l_mixed) (m_l_mixed sd_l_take) := by
  unfold m_l_mixed
  exact db_cons (ds_par2X (i := 2) (j := 3) rfl sc_l_mixed.nd rfl rfl (by decide) rfl rfl (dfnT call_list_of on_list rfl T.b_list (by decide +kernel) (da_cons (dvar 1) (da_nil))) (dlst (dl_nil)) (by first | rfl | kernel_rfl)) (db_cons (ds_while PassesOwn.never (dtcmp (op_neD hr.units) o2_ne (dvar 2) (dlst (dl_nil))) (db_one (ds_app 3 rfl (Or.inl rfl) (dpop 2 rfl (Or.inl rfl) (dcallC c_l_take hgd (hr.mono (by decide)) (by exact rfl) (dc_cons (dvar 0) (dc_cons (dfnB call_lenX on_len rfl T.b_len (by decide +kernel) (da_cons (dvar 2) (da_nil))) (dc_nil)))))))) (db_one (ds_ret (dvar 3))))

theorem k_l_mixed (T : Txt K mg cm) {sd_l_take : DSpec} (c_l_take : Cal P w K mg base "_law_take" s_l_take 1 ["box", "many"] sd_l_take) {f : Addr} {fd : FuncData} (F : Fun K "_law_mixed" "_law_mixed" s_l_mixed f fd) (hm : mg "_law_mixed" = some (.ref f)) {sd : DSpec} (len : ∀ args R, sd args R → args.length = 2)
    (sp : ∀ args R, sd args R → m_l_mixed sd_l_take { nx := fun e => R (.vl .non) (outs 2 e), rt := fun r e => R r (outs 2 e) } (startE 4 args)) : Cal P w K mg base "_law_mixed" s_l_mixed 2 ["box", "row"] sd :=
  ⟨f, fd, F, FunG.ok (FunG.of F) sc_l_mixed len (fun cdv A outer s H E hgd hr => d_l_mixed T c_l_take hgd hr) sp, hm, F.binds (ps := ["box", "row"]) fun _ _ _ _ _ _ us hl => match us, hl with | [_, _], _ => rfl⟩

abbrev s_l_told : Stmt := top 37
theorem sc_l_told : FnScope ["rows", "e"] ["rows"] (defScope s_l_told) := ⟨rfl, rfl, rfl, by decide +kernel, rfl, by decide +kernel, by decide +kernel⟩
theorem d_l_told (T : Txt K mg cm) (XT : XTxt P w K mg cm base) {sd_least_most : DSpecX} (c_least_most : CalX P w K mg cm base "least_most" s_least_most 6 ["jobs"] sd_least_most) {f : Addr} {cdv : Value} {A : Around} {outer : List PySem.Env} {s : Shared} {H : Hp} {E : XK} (hgd : A.guards = some []) (hr : Room 6 (A.deeper (PyProof.Rows.envOfC "_law_told" (defScope s_l_told) s.heap.objs.size f cdv))) :
    DBx (cxOf (L2.CX P w) P w K mg base ["rows", "e"] "_law_told" (defScope s_l_told) f cdv A outer s H E) cm (defBody s_l_told) (m_l_told sd_least_most) := by
  unfold m_l_told
  have hpo : PassesOwn (model P w) (cxOf (L2.CX P w) P w K mg base ["rows", "e"] "_law_told" (defScope s_l_told) f cdv A outer s H E).A (cxOf (L2.CX P w) P w K mg base ["rows", "e"] "_law_told" (defScope s_l_told) f cdv A outer s H E).env (cxOf (L2.CX P w) P w K mg base ["rows", "e"] "_law_told" (defScope s_l_told) f cdv A outer s H E).xe := passes_of rfl
  exact dbx_one (dsx_try rfl rfl sc_l_told.nd XT.isa (fun pn xe hpo => dbx_one (dsx_ret (dex_tup2 (dstr) (dex_call c_least_most hgd (hr.mono (by decide)) (by exact rfl) (dc_cons (dvar 0) (dc_nil)))))) (.as_ (by exact rfl) (by decide) T.m_NoDoer rfl rfl (fun a dd oe pn hz hv => db_one (ds_ret (dtup (dl_cons (dstr) (dl_cons (dxfE XT.x_NoDoer hz hv rfl (Or.inl rfl)) (dl_nil)))))) (.rest)))

theorem k_l_told (T : Txt K mg cm) (XT : XTxt P w K mg cm base) {sd_least_most : DSpecX} (c_least_most : CalX P w K mg cm base "least_most" s_least_most 6 ["jobs"] sd_least_most) {f : Addr} {fd : FuncData} (F : Fun K "_law_told" "_law_told" s_l_told f fd) (hm : mg "_law_told" = some (.ref f)) {sd : DSpecX} (len : ∀ args R E, sd args R E → args.length = 1)
    (sp : ∀ args R E, sd args R E → m_l_told sd_least_most { nx := fun e => R (.vl .non) (outs 1 e), rt := fun r e => R r (outs 1 e), ex := fun x fs e => E x fs (outs 1 e) } (startE 2 args)) : CalX P w K mg cm base "_law_told" s_l_told 7 ["rows"] sd :=
  ⟨f, fd, F, FunG.okX (FunG.of F) sc_l_told len (fun cdv A outer s H E hgd hr => d_l_told T XT c_least_most hgd hr) sp, hm, F.binds (ps := ["rows"]) fun _ _ _ _ _ _ us hl => match us, hl with | [_], _ => rfl⟩

abbrev s_l_right : Stmt := top 38
theorem sc_l_right : FnScope ["rows", "names", "least", "due", "handed", "told", "row"] ["rows", "names"] (defScope s_l_right) := ⟨rfl, rfl, rfl, by decide +kernel, rfl, by decide +kernel, by decide +kernel⟩
theorem d_l_right (T : Txt K mg cm) {sd_deal_of : DSpecX} (c_deal_of : CalX P w K mg cm base "deal_of" s_deal_of 6 ["jobs", "most"] sd_deal_of) {sd_gap_of : DSpecX} (c_gap_of : CalX P w K mg cm base "gap_of" s_gap_of 6 ["jobs", "most"] sd_gap_of) {sd_l_least : DSpec} (c_l_least : Cal P w K mg base "_law_least" s_l_least 2 ["rows", "names"] sd_l_least) {sd_l_told : DSpecX} (c_l_told : CalX P w K mg cm base "_law_told" s_l_told 7 ["rows"] sd_l_told) {f : Addr} {cdv : Value} {A : Around} {outer : List PySem.Env} {s : Shared} {H : Hp} {E : XK} (hgd : A.guards = some []) (hr : Room 7 (A.deeper (PyProof.Rows.envOfC "_law_right" (defScope s_l_right) s.heap.objs.size f cdv))) :
    DB (cxOf CX0 P w K mg base ["rows", "names", "least", "due", "handed", "told", "row"] "_law_right" (defScope s_l_right) f cdv A outer s H E).nox (defBody s_l_right) (m_l_right sd_deal_of sd_gap_of sd_l_least sd_l_told) := by
  unfold m_l_right
  exact db_cons (ds_set (j := 2) sc_l_right.nd rfl (Or.inl rfl) (dcallC c_l_least hgd (hr.mono (by decide)) (by exact rfl) (dc_cons (dvar 0) (dc_cons (dvar 1) (dc_nil))))) (db_cons (ds_set (j := 3) sc_l_right.nd rfl (Or.inl rfl) (dif (dtcmp op_isND o2_isN (dvar 2) (dnon)) (dtup (dl_cons (dstr) (dl_cons (dvar 2) (dl_nil)))) (dtup (dl_cons (dstr) (dl_cons (dindex (dlc (js := [6]) [("row", 6)] rfl sc_l_right.nd (blkOk_by (by kernel_rfl)) (di_any (dvar 0)) (fun _ _ _ _ _ => dg_name 6 sc_l_right.nd rfl (Or.inl rfl)) (fun _ _ _ _ _ => dts_nil) (fun _ _ _ _ _ => dfnB call_lenX on_len rfl T.b_len (by decide +kernel) (da_cons (dvar 6) (da_nil)))) (dint)) (dl_nil)))))) (db_cons (ds_setLc (i := 4) (js := [6]) [("row", 6)] rfl sc_l_right.nd rfl rfl (sw_true rfl rfl rfl (by first | rfl | decide +kernel)) (blkOk_by (by kernel_rfl)) (di_any (dvar 0)) (fun _ _ _ _ _ => dg_name 6 sc_l_right.nd rfl (Or.inl rfl)) (fun _ _ _ _ _ => dts_nil) (fun _ _ _ _ _ => dfnT call_list_of on_list rfl T.b_list (by decide +kernel) (da_cons (dvar 6) (da_nil)))) (db_cons (ds_set (j := 5) sc_l_right.nd rfl (Or.inl rfl) (dcallC c_l_told.cal hgd (hr.mono (by decide)) (by exact rfl) (dc_cons (dvar 4) (dc_nil)))) (db_cons (ds_if (dtw (dw_or (dtcmp (op_neD hr.units) o2_ne (dvar 5) (dvar 3)) (dw_or (dtnot (dtru (disi (T := "int") (dix (dvar 5) (dint)) rfl T.b_isinstance rfl T.b_int (by decide +kernel) kt_int))) (dw_or (dtru (disi (T := "bool") (dix (dvar 5) (dint)) rfl T.b_isinstance rfl T.b_bool (by decide +kernel) kt_bool)) (dw_or1 (dtcmp (op_neD hr.units) o2_ne (dvar 4) (dvar 0))))))) (db_one (ds_ret (dbl))) (db_nil)) (db_cons (ds_if (dtw (dw_or (dtcmp op_isD o2_is (dvar 2) (dnon)) (dw_or1 (dtcmp (op_eqD hr.units) o2_eq (dvar 2) (dint))))) (db_one (ds_ret (dbl))) (db_nil)) (db_cons (ds_if (dtw (dw_or (dtcmp op_isD o2_is (dcallC c_deal_of.cal hgd (hr.mono (by decide)) (by exact rfl) (dc_cons (dvar 0) (dc_cons (dvar 2) (dc_nil)))) (dnon)) (dw_or1 (dtcmp op_isND o2_isN (dcallC c_gap_of.cal hgd (hr.mono (by decide)) (by exact rfl) (dc_cons (dvar 0) (dc_cons (dvar 2) (dc_nil)))) (dnon))))) (db_one (ds_ret (dbl))) (db_nil)) (db_one (ds_ret (dor (dcmp (op_eqD hr.units) o2_eq (dvar 2) (dint)) (done1 (dand (dcmp op_isD o2_is (dcallC c_deal_of.cal hgd (hr.mono (by decide)) (by exact rfl) (dc_cons (dvar 0) (dc_cons (dop op_sub o2_sub (dvar 2) (dint)) (dc_nil)))) (dnon)) (done1 (dcmp op_isND o2_isN (dcallC c_gap_of.cal hgd (hr.mono (by decide)) (by exact rfl) (dc_cons (dvar 0) (dc_cons (dop op_sub o2_sub (dvar 2) (dint)) (dc_nil)))) (dnon))))))))))))))

theorem k_l_right (T : Txt K mg cm) {sd_deal_of : DSpecX} (c_deal_of : CalX P w K mg cm base "deal_of" s_deal_of 6 ["jobs", "most"] sd_deal_of) {sd_gap_of : DSpecX} (c_gap_of : CalX P w K mg cm base "gap_of" s_gap_of 6 ["jobs", "most"] sd_gap_of) {sd_l_least : DSpec} (c_l_least : Cal P w K mg base "_law_least" s_l_least 2 ["rows", "names"] sd_l_least) {sd_l_told : DSpecX} (c_l_told : CalX P w K mg cm base "_law_told" s_l_told 7 ["rows"] sd_l_told) {f : Addr} {fd : FuncData} (F : Fun K "_law_right" "_law_right" s_l_right f fd) (hm : mg "_law_right" = some (.ref f)) {sd : DSpec} (len : ∀ args R, sd args R → args.length = 2)
    (sp : ∀ args R, sd args R → m_l_right sd_deal_of sd_gap_of sd_l_least sd_l_told { nx := fun e => R (.vl .non) (outs 2 e), rt := fun r e => R r (outs 2 e) } (startE 7 args)) : Cal P w K mg base "_law_right" s_l_right 8 ["rows", "names"] sd :=
  ⟨f, fd, F, FunG.ok (FunG.of F) sc_l_right len (fun cdv A outer s H E hgd hr => d_l_right T c_deal_of c_gap_of c_l_least c_l_told hgd hr) sp, hm, F.binds (ps := ["rows", "names"]) fun _ _ _ _ _ _ us hl => match us, hl with | [_, _], _ => rfl⟩

abbrev s_law : Stmt := top 39
theorem sc_law : FnScope ["script", "k", "box", "names", "many", "rows", "other", "least", "row"] ["script"] (defScope s_law) := ⟨rfl, rfl, rfl, by decide +kernel, rfl, by decide +kernel, by decide +kernel⟩
theorem d_law (T : Txt K mg cm) {sd_l_cell : DSpec} (c_l_cell : Cal P w K mg base "_law_cell" s_l_cell 1 ["script", "k"] sd_l_cell) {sd_l_box : DSpec} (c_l_box : Cal P w K mg base "_law_box" s_l_box 1 ["cell"] sd_l_box) {sd_l_take : DSpec} (c_l_take : Cal P w K mg base "_law_take" s_l_take 1 ["box", "many"] sd_l_take) {sd_l_names : DSpec} (c_l_names : Cal P w K mg base "_law_names" s_l_names 2 ["box", "many"] sd_l_names) {sd_l_rows : DSpec} (c_l_rows : Cal P w K mg base "_law_rows" s_l_rows 2 ["box", "names", "many"] sd_l_rows) {sd_l_least : DSpec} (c_l_least : Cal P w K mg base "_law_least" s_l_least 2 ["rows", "names"] sd_l_least) {sd_l_mixed : DSpec} (c_l_mixed : Cal P w K mg base "_law_mixed" s_l_mixed 2 ["box", "row"] sd_l_mixed) {sd_l_told : DSpecX} (c_l_told : CalX P w K mg cm base "_law_told" s_l_told 7 ["rows"] sd_l_told) {sd_l_right : DSpec} (c_l_right : Cal P w K mg base "_law_right" s_l_right 8 ["rows", "names"] sd_l_right) {f : Addr} {cdv : Value} {A : Around} {outer : List PySem.Env} {s : Shared} {H : Hp} {E : XK} (hgd : A.guards = some []) (hr : Room 8 (A.deeper (PyProof.Rows.envOfC "law" (defScope s_law) s.heap.objs.size f cdv))) :
    DB (cxOf CX0 P w K mg base ["script", "k", "box", "names", "many", "rows", "other", "least", "row"] "law" (defScope s_law) f cdv A outer s H E).nox (defBody s_law) (m_law sd_l_cell sd_l_box sd_l_take sd_l_names sd_l_rows sd_l_least sd_l_mixed sd_l_told sd_l_right) := by
  unfold m_law
  exact db_cons (ds_for (js := [1]) PassesOwn.never rfl (di_range1 rfl T.b_range (dfnB (call_maxX rfl) on_max rfl T.b_max (by decide +kernel) (da_cons (dint) (da_cons (dfnB (call_minX rfl) on_min rfl T.b_min (by decide +kernel) (da_cons (dint) (da_cons (dfnB call_lenX on_len rfl T.b_len (by decide +kernel) (da_cons (dvar 0) (da_nil))) (da_nil)))) (da_nil))))) (dg_name 1 sc_law.nd rfl (Or.inl rfl)) (db_cons (ds_setO (j := 2) sc_law.nd rfl (Or.inl rfl) (dcallC c_l_box hgd (hr.mono (by decide)) (by exact rfl) (dc_cons (dcallC c_l_cell hgd (hr.mono (by decide)) (by exact rfl) (dc_cons (dvar 0) (dc_cons (dvar 1) (dc_nil)))) (dc_nil)))) (db_cons (ds_set (j := 3) sc_law.nd rfl (Or.inl rfl) (dcallC c_l_names hgd (hr.mono (by decide)) (by exact rfl) (dc_cons (dvar 2) (dc_cons (dop op_addD o2_add (dint) (dcallC c_l_take hgd (hr.mono (by decide)) (by exact rfl) (dc_cons (dvar 2) (dc_cons (dint) (dc_nil))))) (dc_nil))))) (db_cons (ds_set (j := 4) sc_law.nd rfl (Or.inl rfl) (dix (dlst (dl_cons (dcallC c_l_take hgd (hr.mono (by decide)) (by exact rfl) (dc_cons (dvar 2) (dc_cons (dint) (dc_nil)))) (dl_cons (dop op_sub o2_sub (dint) (dcallC c_l_take hgd (hr.mono (by decide)) (by exact rfl) (dc_cons (dvar 2) (dc_cons (dint) (dc_nil))))) (dl_nil)))) (dop op_fdivW o2_fdiv (dcallC c_l_take hgd (hr.mono (by decide)) (by exact rfl) (dc_cons (dvar 2) (dc_cons (dint) (dc_nil)))) (dint)))) (db_cons (ds_set (j := 5) sc_law.nd rfl (Or.inl rfl) (dcallC c_l_rows hgd (hr.mono (by decide)) (by exact rfl) (dc_cons (dvar 2) (dc_cons (dvar 3) (dc_cons (dvar 4) (dc_nil)))))) (db_cons (ds_if (dtnot (dtru (dcallC c_l_right hgd (hr.mono (by decide)) (by exact rfl) (dc_cons (dvar 5) (dc_cons (dvar 3) (dc_nil)))))) (db_one (ds_ret (dbl))) (db_nil)) (db_cons (ds_setLc (i := 6) (js := [8]) [("row", 8)] rfl sc_law.nd rfl rfl (sw_true rfl rfl rfl (by first | rfl | decide +kernel)) (blkOk_by (by kernel_rfl)) (di_any (dcallC c_l_mixed hgd (hr.mono (by decide)) (by exact rfl) (dc_cons (dvar 2) (dc_cons (dvar 5) (dc_nil))))) (fun _ _ _ _ _ => dg_name 8 sc_law.nd rfl (Or.inl rfl)) (fun _ _ _ _ _ => dts_nil) (fun _ _ _ _ _ => drev (dvar 8))) (db_cons (ds_set (j := 7) sc_law.nd rfl (Or.inl rfl) (dcallC c_l_least hgd (hr.mono (by decide)) (by exact rfl) (dc_cons (dvar 5) (dc_cons (dvar 3) (dc_nil))))) (db_cons (ds_if (dtw (dw_and (dtcmp op_isND o2_isN (dvar 7) (dnon)) (dw_and1 (dtw (dw_or (dtcmp (op_neD hr.units) o2_ne (dcallC c_l_told.cal hgd (hr.mono (by decide)) (by exact rfl) (dc_cons (dfnT call_tuple_of on_tuple rfl T.b_tuple (by decide +kernel) (da_cons (dvar 6) (da_nil))) (dc_nil))) (dtup (dl_cons (dstr) (dl_cons (dvar 7) (dl_nil))))) (dw_or1 (dtcmp (op_neD hr.units) o2_ne (dcallC c_l_told.cal hgd (hr.mono (by decide)) (by exact rfl) (dc_cons (dvar 5) (dc_nil))) (dtup (dl_cons (dstr) (dl_cons (dvar 7) (dl_nil))))))))))) (db_one (ds_ret (dbl))) (db_nil)) (db_one (ds_if (dtw (dw_or (dtnot (dtru (dcallC c_l_right hgd (hr.mono (by decide)) (by exact rfl) (dc_cons (dslice (dvar 6) (do_none) (do_some (dneg (dint)))) (dc_cons (dvar 3) (dc_nil)))))) (dw_or1 (dtnot (dtru (dcallC c_l_right hgd (hr.mono (by decide)) (by exact rfl) (dc_cons (dop op_addD o2_add (dslice (dvar 6) (do_none) (do_some (dint))) (dlst (dl_cons (dslice (dvar 3) (do_none) (do_some (dint))) (dl_nil)))) (dc_cons (dvar 3) (dc_nil))))))))) (db_one (ds_ret (dbl))) (db_nil)))))))))))) (db_one (ds_ret (dand (dcmp (op_eqD hr.units) o2_eq (dcallC c_l_told.cal hgd (hr.mono (by decide)) (by exact rfl) (dc_cons (dlst (dl_nil)) (dc_nil))) (dtup (dl_cons (dstr) (dl_cons (dint) (dl_nil))))) (done1 (dcmp (op_eqD hr.units) o2_eq (dcallC c_l_told.cal hgd (hr.mono (by decide)) (by exact rfl) (dc_cons (dlst (dl_cons (dlst (dl_cons (dstr) (dl_nil))) (dl_cons (dlst (dl_nil)) (dl_cons (dlst (dl_cons (dstr) (dl_nil))) (dl_cons (dlst (dl_nil)) (dl_nil)))))) (dc_nil))) (dtup (dl_cons (dstr) (dl_cons (dint) (dl_nil)))))))))

theorem k_law (T : Txt K mg cm) {sd_l_cell : DSpec} (c_l_cell : Cal P w K mg base "_law_cell" s_l_cell 1 ["script", "k"] sd_l_cell) {sd_l_box : DSpec} (c_l_box : Cal P w K mg base "_law_box" s_l_box 1 ["cell"] sd_l_box) {sd_l_take : DSpec} (c_l_take : Cal P w K mg base "_law_take" s_l_take 1 ["box", "many"] sd_l_take) {sd_l_names : DSpec} (c_l_names : Cal P w K mg base "_law_names" s_l_names 2 ["box", "many"] sd_l_names) {sd_l_rows : DSpec} (c_l_rows : Cal P w K mg base "_law_rows" s_l_rows 2 ["box", "names", "many"] sd_l_rows) {sd_l_least : DSpec} (c_l_least : Cal P w K mg base "_law_least" s_l_least 2 ["rows", "names"] sd_l_least) {sd_l_mixed : DSpec} (c_l_mixed : Cal P w K mg base "_law_mixed" s_l_mixed 2 ["box", "row"] sd_l_mixed) {sd_l_told : DSpecX} (c_l_told : CalX P w K mg cm base "_law_told" s_l_told 7 ["rows"] sd_l_told) {sd_l_right : DSpec} (c_l_right : Cal P w K mg base "_law_right" s_l_right 8 ["rows", "names"] sd_l_right) {f : Addr} {fd : FuncData} (F : Fun K "law" "law" s_law f fd) (hm : mg "law" = some (.ref f)) {sd : DSpec} (len : ∀ args R, sd args R → args.length = 1)
    (sp : ∀ args R, sd args R → m_law sd_l_cell sd_l_box sd_l_take sd_l_names sd_l_rows sd_l_least sd_l_mixed sd_l_told sd_l_right { nx := fun e => R (.vl .non) (outs 1 e), rt := fun r e => R r (outs 1 e) } (startE 9 args)) : Cal P w K mg base "law" s_law 9 ["script"] sd :=
  ⟨f, fd, F, FunG.ok (FunG.of F) sc_law len (fun cdv A outer s H E hgd hr => d_law T c_l_cell c_l_box c_l_take c_l_names c_l_rows c_l_least c_l_mixed c_l_told c_l_right hgd hr) sp, hm, F.binds (ps := ["script"]) fun _ _ _ _ _ _ us hl => match us, hl with | [_], _ => rfl⟩

end
end Law

set_option Elab.async false
set_option linter.all false
set_option maxRecDepth 100000
set_option maxHeartbeats 4000000
set_option autoImplicit false
namespace Law
open PySem L2 DL
section
local macro_rules | `(tactic| k_upd) => `(tactic| (first | exact trivial | exact rfl | ((try dsimp only); first | assumption | exact fits62 (by omega) (by omega) | exact cmul_s (by omega) (by omega) | exact cpow_s (by omega) (by omega) (by omega) | exact And.intro (by omega) (clog_s (by omega)) | exact Nat.le_of_ble_eq_true rfl | decide | omega)))
local macro_rules | `(tactic| k_memK) => `(tactic| first | (refine an_i ?_ ?_; focus k_upd) | refine ex_i rfl ?_ | refine ite_t rfl ?_ | refine ite_f Bool.false_ne_true ?_)
local macro_rules | `(tactic| k_allIn) => `(tactic| repeat k_memK)

set_option pp.deepTerms false
set_option pp.maxSteps 1500

def rowD (t : Bool) (r : List Str) : D := if t then .tup (r.map .str) else .lst (r.map .str)
def jobsD (t u : Bool) (rs : List (List Str)) : D := if t then .tup (rs.map (rowD u)) else .lst (rs.map (rowD u))
structure RowOk (r : List Str) : Prop where
  le : r.length ≤ 8
  ok : ∀ s ∈ r, okName s
  nd : r.Nodup

theorem asBls_const {α : Type} (l : List α) : asBls (l.filterMap fun _ => some (D.bl true)) = some (l.map fun _ => true) := by
  induction l with
  | nil => rfl
  | cons a r ih => rw [List.filterMap_cons]; simp only [asBls, ih]; rfl
/-! is_whole, is_name, need_.. -/
def sd_is_whole : DSpec := fun args R => ∃ t lo hi : Int, args = [.val (.int t), .val (.int lo), .val (.int hi)] ∧ lo ≤ t ∧ t ≤ hi ∧ R (.vl (.bl true)) [.no, .no, .no]
theorem len_is_whole : ∀ args R, sd_is_whole args R → args.length = 3 := by rintro args R ⟨t, lo, hi, rfl, _⟩; rfl
theorem sp_is_whole : ∀ args R, sd_is_whole args R → m_is_whole { nx := fun e => R (.vl .non) (outs 3 e), rt := fun r e => R r (outs 3 e) } (startE 3 args) := by
  rintro args R ⟨t, lo, hi, rfl, h1, h2, h⟩
  k_allIn
  refine ite_t (decide_eq_true h1) ?_
  k_allIn
  show R (.vl (.bl (decide (t ≤ hi)))) _
  rw [decide_eq_true h2]
  exact h
def sd_is_name : DSpec := fun args R => ∃ s : Str, args = [.val (.str s)] ∧ okName s ∧ R (.vl (.bl true)) [.no]
theorem len_is_name : ∀ args R, sd_is_name args R → args.length = 1 := by rintro args R ⟨s, rfl, _⟩; rfl
theorem sp_is_name : ∀ args R, sd_is_name args R → m_is_name { nx := fun e => R (.vl .non) (outs 1 e), rt := fun r e => R r (outs 1 e) } (startE 2 args) := by
  rintro args R ⟨s, rfl, ⟨o1, o2, o3⟩, h⟩
  k_allIn
  refine an_i (le_line (by omega)) ?_
  refine ite_t (decide_eq_true (by omega)) ?_
  k_allIn
  refine ite_t (decide_eq_true (by omega)) ?_
  k_allIn
  refine compI_list (fun _ => some (.bl true)) trivial (by simp [signsD]; rw [len_list] at o2; simp at o2; omega) (fun x hx K hK => ?_) ?_
  · obtain ⟨c, hc, rfl⟩ := List.mem_map.mp hx
    k_allIn
    have e : inStr (sg c) LET = true := by
      show decide (c ∈ LET.cps.toList) = true
      exact decide_eq_true (o3 c hc)
    show K (some (.bl (false ^^ inStr (sg c) LET))) _
    rw [e]
    exact hK
  · have e : asBls ((signsD s).filterMap fun _ => some (D.bl true)) = some ((signsD s).map fun _ => true) := asBls_const _
    refine ex_i e ?_
    show R (.vl (.bl (((signsD s).map fun _ => true).all id))) _
    rw [show (((signsD s).map fun _ => true).all id) = true by rw [List.all_map]; simp]
    exact h
def sd_need_name : DSpecX := fun args R E => ∃ s : Str, args = [.val (.str s)] ∧ okName s ∧ R (.vl .non) [.no]
theorem len_need_name : ∀ args R E, sd_need_name args R E → args.length = 1 := by rintro args R E ⟨s, rfl, _⟩; rfl
theorem sp_need_name : ∀ args R E, sd_need_name args R E → m_need_name sd_is_name { nx := fun e => R (.vl .non) (outs 1 e), rt := fun r e => R r (outs 1 e), ex := fun x fs e => E x fs (outs 1 e) } (startE 1 args) := by
  rintro args R E ⟨s, rfl, o, h⟩
  k_allIn
  refine ⟨s, rfl, o, ?_⟩
  k_allIn
  exact h
def sd_need_row : DSpecX := fun args R E => ∃ (t : Bool) (r : List Str), args = [.val (rowD t r)] ∧ RowOk r ∧ R (.vl .non) [.no]
theorem len_need_row : ∀ args R E, sd_need_row args R E → args.length = 1 := by rintro args R E ⟨t, r, rfl, _⟩; rfl
theorem sp_need_row : ∀ args R E, sd_need_row args R E → m_need_row sd_need_name { nx := fun e => R (.vl .non) (outs 1 e), rt := fun r e => R r (outs 1 e), ex := fun x fs e => E x fs (outs 1 e) } (startE 3 args) := by
  rintro args R E ⟨t, r, rfl, o, h⟩
  have walk : ∀ (rd : D), rd = rowD t r → forI [] (gT 2 (gsCons (gN 1) (gsCons (gN 2) gsNil))) (mSeq (wX mDrop (mCallX sd_need_name (mcCons (mVar 2) mcNil))) (mIfS (mB (mOp2 aIn (mVar 2) (mSl (mVar 0) moNo (moSo (mVar 1))))) (mRaise cx_Twice "found" (mVar 2)) mSkip))
      { nx := fun e => R (.vl .non) (outs 1 e), rt := fun r e => R r (outs 1 e), ex := fun x fs e => E x fs (outs 1 e) } (enumD 0 (r.map .str)) [.val rd, .no, .no] := by
    intro rd hrd
    refine forI_inv (fun j env => ∃ a b, env = [.val rd, a, b] ∧ Pl a ∧ Pl b) ⟨.no, .no, rfl, trivial, trivial⟩ (fun _ _ _ => trivial) ?_ ?_
    · rintro j x env hx ⟨a, b, rfl, na, nb⟩ N hN
      rw [enumD_get] at hx
      obtain ⟨y, hy, rfl⟩ := Option.map_eq_some_iff.mp hx
      rw [List.getElem?_map] at hy
      obtain ⟨s, hs, rfl⟩ := Option.map_eq_some_iff.mp hy
      have hj : j < r.length := by
        rcases Nat.lt_or_ge j r.length with z | z
        · exact z
        · rw [List.getElem?_eq_none z] at hs; cases hs
      k_allIn
      refine ⟨s, rfl, o.ok s (List.mem_of_getElem? hs), ?_⟩
      k_allIn
      have nin : inD (.str s) ((r.take j).map .str) = false := by
        unfold inD
        rw [List.any_map, List.any_eq_false]
        intro x hx q
        obtain ⟨i, hi, e⟩ := List.mem_iff_getElem.mp hx
        have hi' : i < j := by rw [List.length_take] at hi; omega
        have e1 : feq (.str x) (.str s) = true := q
        have e2 : x = s := by simpa [feq] using e1
        rw [List.getElem_take] at e
        have := (List.getElem?_eq_some_iff.mp hs).2
        have nd := List.pairwise_iff_getElem.mp o.nd i j (by omega) hj hi'
        exact nd (by rw [e, this, e2])
      have ecut : cutD (r.map .str) none (some (((0 + j : Nat)) : Int)) = (r.take j).map .str := by
        unfold cutD
        rw [HT.sIx_nat, HT.sIx_none, List.length_map, List.drop_zero, Nat.sub_zero, Nat.zero_add, show min j r.length = j by omega, List.map_take]
      have fl : (cutD (r.map .str) none (some (((0 + j : Nat)) : Int))).all D.flat = true := by
        rw [ecut, List.all_map]; simp
      have nin' : ¬ (false ^^ inD (.str s) (cutD (r.map .str) none (some (((0 + j : Nat)) : Int)))) = true := by rw [ecut, nin]; decide
      cases t with
      | true =>
        subst hrd
        refine an_i (fun q => ?_) ?_
        · have := q.2
          rw [HT.sIx_nat, List.length_map] at this
          omega
        k_allIn
        refine ite_f nin' ?_
        exact hN _ ⟨_, _, rfl, trivial, trivial⟩
      | false =>
        subst hrd
        k_allIn
        refine ite_f nin' ?_
        exact hN _ ⟨_, _, rfl, trivial, trivial⟩
    · rintro env ⟨a, b, rfl, _, _⟩
      exact h
  have hl : ¬ decide ((8 : Int) < ((r.map D.str).length : Int)) = true := by
    rw [List.length_map]
    have := o.le
    exact fun q => by have := of_decide_eq_true q; omega
  cases t with
  | true =>
    k_allIn
    refine ite_f hl ?_
    k_allIn
    exact walk _ rfl
  | false =>
    k_allIn
    refine ite_f hl ?_
    k_allIn
    exact walk _ rfl

structure JobsOk (rs : List (List Str)) : Prop where
  le : rs.length ≤ 128
  ok : ∀ r ∈ rs, RowOk r
def sd_need_jobs : DSpecX := fun args R E => ∃ (t u : Bool) (rs : List (List Str)), args = [.val (jobsD t u rs)] ∧ JobsOk rs ∧ R (.vl .non) [.no]
theorem len_need_jobs : ∀ args R E, sd_need_jobs args R E → args.length = 1 := by rintro args R E ⟨t, u, r, rfl, _⟩; rfl
theorem sp_need_jobs : ∀ args R E, sd_need_jobs args R E → m_need_jobs sd_need_row { nx := fun e => R (.vl .non) (outs 1 e), rt := fun r e => R r (outs 1 e), ex := fun x fs e => E x fs (outs 1 e) } (startE 2 args) := by
  rintro args R E ⟨t, u, rs, rfl, o, h⟩
  have walk : ∀ (jd : D), forI [] (gN 1) (wX mDrop (mCallX sd_need_row (mcCons (mVar 1) mcNil)))
      { nx := fun e => R (.vl .non) (outs 1 e), rt := fun r e => R r (outs 1 e), ex := fun x fs e => E x fs (outs 1 e) } (rs.map (rowD u)) [.val jd, .no] := by
    intro jd
    refine forI_inv (fun j env => ∃ a, env = [.val jd, a] ∧ Pl a) ⟨.no, rfl, trivial⟩ (fun _ _ _ => trivial) ?_ ?_
    · rintro j x env hx ⟨a, rfl, na⟩ N hN
      rw [List.getElem?_map] at hx
      obtain ⟨r, hr, rfl⟩ := Option.map_eq_some_iff.mp hx
      k_allIn
      refine ⟨u, r, rfl, o.ok r (List.mem_of_getElem? hr), ?_⟩
      exact hN _ ⟨_, rfl, trivial⟩
    · rintro env ⟨a, rfl, _⟩
      exact h
  have hl : ¬ decide ((128 : Int) < ((rs.map (rowD u)).length : Int)) = true := by
    rw [List.length_map]
    have := o.le
    exact fun q => by have := of_decide_eq_true q; omega
  cases t with
  | true =>
    k_allIn
    refine ite_f hl ?_
    k_allIn
    exact walk _
  | false =>
    k_allIn
    refine ite_f hl ?_
    k_allIn
    exact walk _
def sd_need_most : DSpecX := fun args R E => ∃ m : Nat, args = [.val (.int (m : Int))] ∧ 1 ≤ m ∧ m ≤ 128 ∧ R (.vl .non) [.no]
theorem len_need_most : ∀ args R E, sd_need_most args R E → args.length = 1 := by rintro args R E ⟨t, rfl, _⟩; rfl
theorem sp_need_most : ∀ args R E, sd_need_most args R E → m_need_most sd_is_whole { nx := fun e => R (.vl .non) (outs 1 e), rt := fun r e => R r (outs 1 e), ex := fun x fs e => E x fs (outs 1 e) } (startE 1 args) := by
  rintro args R E ⟨m, rfl, h1, h2, h⟩
  k_allIn
  refine ⟨m, 1, 128, rfl, by omega, by omega, ?_⟩
  k_allIn
  exact h

/-! cells, boxes -/
def sd_l_cell : DSpec := fun args R => ∃ (ns : List Int) (k : Nat), args = [.val (.scr ns), .val (.int (k : Int))] ∧ k < 1000000 ∧ ∀ c : Int, R (.vl (.int c)) [.no, .no]
theorem len_l_cell : ∀ args R, sd_l_cell args R → args.length = 2 := by rintro args R ⟨t, k, rfl, _⟩; rfl
theorem sp_l_cell : ∀ args R, sd_l_cell args R → m_l_cell { nx := fun e => R (.vl .non) (outs 2 e), rt := fun r e => R r (outs 2 e) } (startE 2 args) := by
  rintro args R ⟨ns, k, rfl, hk, h⟩
  k_allIn
  refine ite_i (fun c => ?_) (fun c => ?_)
  · have hlt : k < ns.length := by
      have := of_decide_eq_true c
      omega
    k_allIn
    refine ex_i (DL.atI_nat (List.getElem?_eq_getElem hlt)) ?_
    exact h _
  · k_allIn
    exact h _
def sd_l_box : DSpec := fun args R => ∃ c : Int, args = [.val (.int c)] ∧ ∀ d : D, Bx 0 d → R (.tm d) [.no]
theorem len_l_box : ∀ args R, sd_l_box args R → args.length = 1 := by rintro args R ⟨t, rfl, _⟩; rfl
theorem sp_l_box : ∀ args R, sd_l_box args R → m_l_box { nx := fun e => R (.vl .non) (outs 1 e), rt := fun r e => R r (outs 1 e) } (startE 1 args) := by
  rintro args R ⟨c, rfl, h⟩
  k_allIn
  refine h _ ⟨_, _, _, rfl, ?_, ?_, ?_, by decide, by decide⟩
  · show 0 ≤ if _ > 0 then _ else _
    split <;> omega
  · exact Int.emod_nonneg _ (by decide)
  · have := Int.emod_lt_of_pos c (show (0 : Int) < 2147483629 by decide)
    show c % 2147483629 < _
    omega
def sd_l_take := sdTake
theorem len_l_take : ∀ args R, sd_l_take args R → args.length = 2 := take_len
theorem sp_l_take : ∀ args R, sd_l_take args R → m_l_take { nx := fun e => R (.vl .non) (outs 2 e), rt := fun r e => R r (outs 2 e) } (startE 5 args) := take_spec (c := 133) (by decide)
def sd_l_names := sdNames
theorem len_l_names : ∀ args R, sd_l_names args R → args.length = 2 := names_len
theorem sp_l_names : ∀ args R, sd_l_names args R → m_l_names sd_l_take { nx := fun e => R (.vl .non) (outs 2 e), rt := fun r e => R r (outs 2 e) } (startE 13 args) := names_spec

/-! dealt_to -/
def oD : Option Str → D
  | none => .non
  | some s => .str s
def dlD (ds : List (Option Str)) : D := .lst (ds.map oD)
def ownF (ds : List (Option Str)) (n : Str) : List Nat := (List.range ds.length).filter fun j => decide (ds[j]? = some (some n))
theorem own_enum (n : Str) : ∀ (ds : List (Option Str)) (k : Nat), ((enumD k (ds.map oD)).filterMap fun d => match d with
    | .tup [.int i, x] => if deq x (.str n) = true then some (.int i) else none
    | _ => none) = ((List.range ds.length).filter fun j => decide (ds[j]? = some (some n))).map fun (j : Nat) => D.int ((k + j : Nat) : Int)
  | [], k => rfl
  | o :: ds, k => by
    have ih := own_enum n ds (k + 1)
    rw [List.map_cons, enumD, List.filterMap_cons, ih, List.length_cons, List.range_succ_eq_map, List.filter_cons, List.filter_map]
    have e2 : ((List.range ds.length).filter ((fun j => decide ((o :: ds)[j]? = some (some n))) ∘ Nat.succ)) = (List.range ds.length).filter fun j => decide (ds[j]? = some (some n)) := by
      refine congrFun (congrArg _ (funext fun j => ?_)) _
      simp
    have e3 : ∀ l : List Nat, l.map (fun (j : Nat) => D.int ((k + 1 + j : Nat) : Int)) = (l.map Nat.succ).map fun (j : Nat) => D.int ((k + j : Nat) : Int) := fun l => by
      rw [List.map_map]
      refine congrFun (congrArg _ (funext fun j => ?_)) _
      show D.int _ = D.int _
      congr 1
      simp only [Nat.succ_eq_add_one]
      omega
    rw [e2, e3]
    cases o with
    | none => simp [oD]
    | some s =>
      by_cases q : s = n
      · simp [oD, q]
      · simp [oD, q]
def sd_dealt_to : DSpec := fun args R => ∃ (ds : List (Option Str)) (n : Str), args = [.own true (dlD ds), .val (.str n)] ∧ ds.length ≤ 128 ∧ R (.tm (.lst ((ownF ds n).map fun (j : Nat) => .int (j : Int)))) [.own true (dlD ds), .no]
theorem len_dealt_to : ∀ args R, sd_dealt_to args R → args.length = 2 := by rintro args R ⟨t, k, rfl, _⟩; rfl
theorem sp_dealt_to : ∀ args R, sd_dealt_to args R → m_dealt_to { nx := fun e => R (.vl .non) (outs 2 e), rt := fun r e => R r (outs 2 e) } (startE 4 args) := by
  rintro args R ⟨ds, n, rfl, hl, h⟩
  k_allIn
  refine compI_list (fun d => match d with
    | .tup [.int i, x] => if deq x (.str n) = true then some (.int i) else none
    | _ => none) ⟨rfl, trivial⟩ (by rw [enumD_length, List.length_map]; omega) (fun x hx K hK => ?_) ?_
  · obtain ⟨j, hj⟩ := List.mem_iff_getElem?.mp hx
    rw [enumD_get] at hj
    obtain ⟨y, hy, rfl⟩ := Option.map_eq_some_iff.mp hj
    rw [List.getElem?_map] at hy
    obtain ⟨o, ho, rfl⟩ := Option.map_eq_some_iff.mp hy
    k_allIn
    refine an_i (by cases o <;> rfl) ?_
    k_allIn
    refine ite_i (fun c => ?_) (fun c => ?_)
    · have c' : deq (oD o) (.str n) = true := c
      k_allIn
      simp only [c', if_true] at hK
      exact hK
    · have c' : ¬ deq (oD o) (.str n) = true := c
      simp only [c'] at hK
      exact hK
  · have e := own_enum n ds 0
    simp only [Nat.zero_add] at e
    k_allIn
    show R (.tm (.lst _)) _
    rw [show ((ownF ds n).map fun (j : Nat) => D.int (j : Int)) = _ from e.symm] at h
    exact h
end
end Law

set_option Elab.async false
set_option linter.all false
set_option maxRecDepth 100000
set_option maxHeartbeats 4000000
set_option autoImplicit false
namespace Law
open PySem L2 DL
section
local macro_rules | `(tactic| k_upd) => `(tactic| (first | exact trivial | exact rfl | ((try dsimp only); first | assumption | exact fits62 (by omega) (by omega) | exact cmul_s (by omega) (by omega) | exact cpow_s (by omega) (by omega) (by omega) | exact And.intro (by omega) (clog_s (by omega)) | exact Nat.le_of_ble_eq_true rfl | decide | omega)))
local macro_rules | `(tactic| k_memK) => `(tactic| first | (refine an_i ?_ ?_; focus k_upd) | refine ex_i rfl ?_ | refine ite_t rfl ?_ | refine ite_f Bool.false_ne_true ?_)
local macro_rules | `(tactic| k_allIn) => `(tactic| repeat k_memK)

set_option pp.deepTerms false
set_option pp.maxSteps 1500

theorem lvl_strs (r : List Str) (n : Nat) : (r.map D.str).all (D.lvl n) = true := by
  rw [List.all_map, List.all_eq_true]
  intro s _
  cases n <;> rfl
theorem lvl_row (r : List Str) (n : Nat) : D.lvl (n + 1) (rowD false r) = true := by
  show D.lvl (n + 1) (.lst (r.map .str)) = true
  simpa [D.lvl] using lvl_strs r n
theorem cut_to (l : List Str) (k : Nat) : cutD (l.map D.str) none (some (k : Int)) = (l.take k).map D.str := by
  unfold cutD
  rw [HT.sIx_nat, HT.sIx_none, List.length_map, List.drop_zero, Nat.sub_zero, List.map_take]
  rcases Nat.le_total k l.length with z | z
  · rw [Nat.min_eq_left z]
  · rw [Nat.min_eq_right z, List.take_of_length_le (l := l.map D.str) (by simp), List.take_of_length_le (l := l.map D.str) (by simpa using z)]
theorem cut_from (l : List Str) (k : Nat) : cutD (l.map D.str) (some (k : Int)) none = (l.drop k).map D.str := by
  unfold cutD
  rw [HT.sIx_nat, HT.sIx_none, List.length_map, List.map_drop]
  rcases Nat.le_total k l.length with z | z
  · rw [Nat.min_eq_left z, List.take_of_length_le (by simp)]
  · rw [Nat.min_eq_right z, List.drop_of_length_le (l := l.map D.str) (by simp), List.drop_of_length_le (l := l.map D.str) (by simpa using z)]
    simp
structure RowIn (names r : List Str) : Prop where
  nd : r.Nodup
  sub : ∀ s ∈ r, s ∈ names
theorem RowIn.le {names r : List Str} (h : RowIn names r) : r.length ≤ names.length := List.Nodup.length_le_of_subset h.nd h.sub
theorem RowIn.of_sublist {names r : List Str} (n : names.Nodup) (h : r.Sublist names) : RowIn names r := ⟨h.nodup n, fun s m => h.subset m⟩
theorem drawn_comp {R : List D → List Slot → Prop} {l : List Str} {q : Int} {m : Int} {d : D} {e1 e2 e3 e4 e5 e6 e7 e8 : Slot} (B : Bx m d) (hm : m + 8 < 900000) (q0 : 0 < q) (q1 : q < 1000) (hl : l.length ≤ 8) {items : List D} (he : items = l.map .str)
    (fin : ∀ (l' : List Str) (d' : D), l'.Sublist l → Bx (m + 8) d' → R (l'.map .str) [.own true d', e1, e2, e3, e4, e5, e6, e7, e8, .no]) :
    compI [] (gN 9) (mB (mOp2 aEq (mCall sd_l_take [] (mcCons (mVar 0) (mcCons (mC (.int q)) mcNil))) (mC (.int 0)))) (mVar 9) [9] items [] [.own true d, e1, e2, e3, e4, e5, e6, e7, e8, .no] R := by
  subst he
  refine compI_inv (fun j acc env => j ≤ 8 ∧ ∃ (d' : D) (l' : List Str), Bx (m + j) d' ∧ l'.Sublist (l.take j) ∧ acc = l'.map .str ∧ env = [.own true d', e1, e2, e3, e4, e5, e6, e7, e8, .no]) ?_ ?_ ?_ ?_
  · exact ⟨by omega, d, [], B.mono (by omega), List.nil_sublist _, rfl, rfl⟩
  · rintro j acc env ⟨hj, d', l', B', sl, rfl, rfl⟩
    refine ⟨trivial, ?_⟩
    have := sl.length_le
    rw [List.length_take] at this
    rw [List.length_map]; omega
  · rintro j x acc env hx ⟨hj, d', l', B', sl, rfl, rfl⟩ K hK
    rw [List.getElem?_map] at hx
    obtain ⟨s, hs, rfl⟩ := Option.map_eq_some_iff.mp hx
    have hjl : j < l.length := by
      rcases Nat.lt_or_ge j l.length with z | z
      · exact z
      · rw [List.getElem?_eq_none z] at hs; cases hs
    have tk : l.take (j + 1) = l.take j ++ [s] := by rw [List.take_succ, hs]; rfl
    k_allIn
    refine take_i B' (by omega) q0 (by omega) rfl fun t d2 t0 t1 B2 => ?_
    k_allIn
    refine ite_i (fun c => ?_) (fun c => ?_)
    · k_allIn
      refine hK _ _ ⟨by omega, d2, l' ++ [s], B2.mono (by omega), ?_, by rw [List.map_append]; rfl, rfl⟩
      rw [tk]
      exact sl.append (List.Sublist.refl _)
    · refine hK _ _ ⟨by omega, d2, l', B2.mono (by omega), ?_, by simp, rfl⟩
      rw [tk]
      exact sl.trans (List.sublist_append_left ..)
  · rintro acc env ⟨hj, d', l', B', sl, rfl, rfl⟩
    refine fin l' d' ?_ (B'.mono (by rw [List.length_map]; omega))
    rw [List.length_map, List.take_length] at sl
    exact sl
def sd_l_rows : DSpec := fun args R => ∃ (m : Int) (names : List Str) (many : Nat) (d : D), args = [.own true d, .val (.lst (names.map .str)), .val (.int (many : Int))] ∧ Bx m d ∧ 0 ≤ m ∧ m < 10000 ∧ many ≤ 128 ∧ names.Nodup ∧ 1 ≤ names.length ∧ names.length ≤ 8 ∧
  ∀ (rows : List (List Str)) (d' : D), rows.length = many → (∀ r ∈ rows, RowIn names r) → Bx (m + 2000) d' → R (.tm (.lst (rows.map (rowD false)))) [.own true d', .no, .no]
theorem len_l_rows : ∀ args R, sd_l_rows args R → args.length = 3 := by rintro args R ⟨m, names, many, d, rfl, _⟩; rfl
theorem sp_l_rows : ∀ args R, sd_l_rows args R → m_l_rows sd_l_take { nx := fun e => R (.vl .non) (outs 3 e), rt := fun r e => R r (outs 3 e) } (startE 10 args) := by
  rintro args R ⟨m, names, many, d, rfl, B0, h0, h1, h2, hnd, hn1, hn8, fin⟩
  have nl : (names.map D.str).length = names.length := List.length_map ..
  k_allIn
  refine take_i B0 (by omega) (by omega) (by omega) rfl fun way d1 w0 w1 B1 => ?_
  k_allIn
  refine take_i (many := ((names.map D.str).length : Int)) B1 (by omega) (by omega) (by omega) rfl fun few d2 f0 f1 B2 => ?_
  k_allIn
  obtain ⟨fw, rfl⟩ : ∃ fw : Nat, few = (fw : Int) := ⟨few.toNat, by omega⟩
  refine forI_inv (fun j env => ∃ (d' : D) (rows : List (List Str)) (a b c : Slot), Bx (m + 2 + 12 * j) d' ∧ j ≤ 128 ∧ rows.length = j ∧ (∀ r ∈ rows, RowIn names r) ∧ Pl a ∧ Pl b ∧ Pl c ∧
    env = [.own true d', .val (.lst (names.map .str)), .val (.int (many : Int)), .val (.int way), .val (.int (1 + (fw : Int))), .own false (.lst (rows.map (rowD false))), a, b, c, .no]) ?_ (fun _ _ _ => trivial) ?_ ?_
  · exact ⟨d2, [], .no, .no, .no, B2.mono (by omega), by omega, rfl, by simp, trivial, trivial, trivial, rfl⟩
  · rintro j x env hx ⟨d3, rows, a, b, c, B3, hj, hrl, hr, pa, pb, pc, rfl⟩ N hN
    have hjm : j < many := by
      rcases Nat.lt_or_ge j many with z | z
      · exact z
      · rw [List.getElem?_eq_none (by simpa [rangeD] using z)] at hx; cases hx
    let P : Post := { nx := N, rt := fun r e => R r (outs 3 e), bk := fun e => mRet (mVar 5) { nx := fun e => R (.vl .non) (outs 3 e), rt := fun r e => R r (outs 3 e) } e, ct := N }
    have tail : ∀ (r : List Str) (d4 : D) (s8 : Slot), RowIn names r → Bx (m + 2 + 12 * j + 10) d4 → Pl s8 →
        mApp 5 (mIf (mOrT (mB (mOp2 aNe (mVar 7) (mLst mNil))) (mB (mOp2 aEq (mCall sd_l_take [] (mcCons (mVar 0) (mcCons (mC (.int 9)) mcNil))) (mC (.int 0))))) (mVar 7) (mLst (mCons (mOp2 aIx (mVar 1) (mC (.int 0))) mNil))) P
        [.own true d4, .val (.lst (names.map .str)), .val (.int (many : Int)), .val (.int way), .val (.int (1 + (fw : Int))), .own false (.lst (rows.map (rowD false))), .val x, .val (rowD false r), s8, .no] := by
      intro r d4 s8 hrin B4 p8
      have fit : (rows.map (rowD false)).length < 100000 := by rw [List.length_map]; omega
      have put : ∀ (r2 : List Str) (d5 : D), RowIn names r2 → Bx (m + 2 + 12 * j + 12) d5 → P.nx [.own true d5, .val (.lst (names.map .str)), .val (.int (many : Int)), .val (.int way), .val (.int (1 + (fw : Int))), .own false (.lst (rows.map (rowD false) ++ [rowD false r2])), .val x, .val (rowD false r), s8, .no] := by
        intro r2 d5 hr2 B5
        refine hN _ ⟨d5, rows ++ [r2], .val x, .val (rowD false r), s8, B5.mono (by omega), by omega, by rw [List.length_append, hrl]; rfl, fun q hq => ?_, trivial, trivial, p8, by rw [List.map_append]; rfl⟩
        rcases List.mem_append.mp hq with hq | hq
        · exact hr q hq
        · rw [List.mem_singleton.mp hq]; exact hr2
      k_allIn
      refine an_i (lvl_row r 59) ?_
      k_allIn
      refine ite_i (fun c => ?_) (fun c => ?_)
      · k_allIn
        exact put r d4 hrin (B4.mono (by omega))
      · k_allIn
        refine take_i B4 (by omega) (by omega) (by omega) rfl fun t9 d5 t0 t1 B5 => ?_
        k_allIn
        refine ite_i (fun c2 => ?_) (fun c2 => ?_)
        · k_allIn
          exact put r d5 hrin (B5.mono (by omega))
        · obtain ⟨s0, hs0⟩ : ∃ s0, names[0]? = some s0 := ⟨names[0], List.getElem?_eq_getElem (by omega)⟩
          have e0 : atI (names.map D.str) ((0 : Nat) : Int) = some (.str s0) := DL.atI_nat (by rw [List.getElem?_map, hs0]; rfl)
          k_allIn
          refine ex_i e0 ?_
          k_allIn
          exact put [s0] d5 ⟨by simp, fun q hq => by rw [List.mem_singleton.mp hq]; exact List.mem_of_getElem? hs0⟩ (B5.mono (by omega))
    k_allIn
    refine ite_i (fun c0 => ?_) (fun c0 => ?_)
    · -- a row by one draw a name
      k_allIn
      refine drawn_comp B3 (by omega) (by decide) (by decide) hn8 rfl fun l' d' sl B' => ?_
      refine an_i pb ?_
      exact tail l' d' _ (RowIn.of_sublist hnd sl) (B'.mono (by omega)) pc
    · k_allIn
      refine ite_i (fun c2 => ?_) (fun c2 => ?_)
      · k_allIn
        refine take_i B3 (by omega) (by omega) (by omega) rfl fun t d4 t0 t1 B4 => ?_
        obtain ⟨tn, rfl⟩ : ∃ tn : Nat, t = (tn : Int) := ⟨t.toNat, by omega⟩
        obtain ⟨s0, hs0⟩ : ∃ s0, names[tn]? = some s0 := ⟨names[tn]'(by omega), List.getElem?_eq_getElem (by omega)⟩
        have e0 : atI (names.map D.str) (tn : Int) = some (.str s0) := DL.atI_nat (by rw [List.getElem?_map, hs0]; rfl)
        refine ex_i e0 ?_
        have ec : cutD (names.map D.str) (some (1 + (fw : Int))) none = (names.drop (1 + fw)).map D.str := by
          rw [show (1 + (fw : Int)) = ((1 + fw : Nat) : Int) by omega, cut_from]
        k_allIn
        refine drawn_comp (l := names.drop (1 + fw)) B4 (by omega) (by decide) (by decide) (by rw [List.length_drop]; omega) ec fun l' d' sl B' => ?_
        have hll := sl.length_le
        rw [List.length_drop] at hll
        refine an_i (by rw [List.length_map]; show 1 + _ ≤ _; omega) ?_
        refine an_i pb ?_
        refine tail (s0 :: l') d' _ ⟨?_, fun q hq => ?_⟩ (B'.mono (by omega)) pc
        · refine List.nodup_cons.mpr ⟨fun hm => ?_, (sl.trans (List.drop_sublist ..)).nodup hnd⟩
          obtain ⟨i, hi, e⟩ := List.mem_iff_getElem.mp (sl.subset hm)
          rw [List.getElem_drop] at e
          rw [List.length_drop] at hi
          obtain ⟨ht, e2⟩ := List.getElem?_eq_some_iff.mp hs0
          exact (List.pairwise_iff_getElem.mp hnd) tn (1 + fw + i) ht (by omega) (by omega) (by rw [e2, e])
        · rcases List.mem_cons.mp hq with rfl | hq
          · exact List.mem_of_getElem? hs0
          · exact List.mem_of_mem_drop (sl.subset hq)
      · k_allIn
        refine ite_i (fun c3 => ?_) (fun c3 => ?_)
        · k_allIn
          refine take_i (many := ((names.map D.str).length : Int)) B3 (by omega) (by omega) (by omega) rfl fun t d4 t0 t1 B4 => ?_
          obtain ⟨tn, rfl⟩ : ∃ tn : Nat, t = (tn : Int) := ⟨t.toNat, by omega⟩
          have e1 := cut_from names tn
          have e2 := cut_to names tn
          k_allIn
          refine an_i (by rw [e1, e2, List.length_map, List.length_map, List.length_drop, List.length_take]; omega) ?_
          k_allIn
          refine take_i B4 (by omega) (by omega) (by omega) rfl fun t2 d5 t20 t21 B5 => ?_
          obtain ⟨cn, rfl⟩ : ∃ cn : Nat, t2 = (cn : Int) := ⟨t2.toNat, by omega⟩
          have e3 : cutD (cutD (names.map D.str) (some (tn : Int)) none ++ cutD (names.map D.str) none (some (tn : Int))) none (some (1 + (cn : Int))) = ((names.drop tn ++ names.take tn).take (1 + cn)).map D.str := by
            rw [e1, e2, ← List.map_append, show (1 + (cn : Int)) = ((1 + cn : Nat) : Int) by omega, cut_to]
          have hp : (names.drop tn ++ names.take tn).Perm names := (List.perm_append_comm).trans (by rw [List.take_append_drop])
          have go := tail ((names.drop tn ++ names.take tn).take (1 + cn)) d5 (.val (.int (tn : Int))) ⟨(List.take_sublist ..).nodup (hp.nodup_iff.mpr hnd), fun q hq => hp.subset (List.mem_of_mem_take hq)⟩ (B5.mono (by omega)) trivial
          rw [show rowD false ((names.drop tn ++ names.take tn).take (1 + cn)) = .lst _ from congrArg D.lst e3.symm] at go
          exact an_i pb go
        · k_allIn
          refine take_i B3 (by omega) (by omega) (by omega) rfl fun t d4 t0 t1 B4 => ?_
          k_allIn
          refine ite_i (fun c4 => ?_) (fun c4 => ?_)
          · have e2 := cut_to names (1 + fw)
            rw [show (((1 + fw : Nat)) : Int) = 1 + (fw : Int) by omega] at e2
            have go := tail (names.take (1 + fw)) d4 c ⟨(List.take_sublist ..).nodup hnd, fun q hq => List.mem_of_mem_take hq⟩ (B4.mono (by omega)) pc
            rw [show rowD false (names.take (1 + fw)) = .lst _ from congrArg D.lst e2.symm] at go
            k_memK
            k_memK
            exact an_i pb go
          · k_allIn
            refine take_i (many := ((names.map D.str).length : Int)) B4 (by omega) (by omega) (by omega) rfl fun t2 d5 t20 t21 B5 => ?_
            obtain ⟨tn, rfl⟩ : ∃ tn : Nat, t2 = (tn : Int) := ⟨t2.toNat, by omega⟩
            obtain ⟨s0, hs0⟩ : ∃ s0, names[tn]? = some s0 := ⟨names[tn]'(by omega), List.getElem?_eq_getElem (by omega)⟩
            have e0 : atI (names.map D.str) (tn : Int) = some (.str s0) := DL.atI_nat (by rw [List.getElem?_map, hs0]; rfl)
            refine ex_i e0 ?_
            k_memK
            refine an_i pb ?_
            exact tail [s0] d5 c ⟨by simp, fun q hq => by rw [List.mem_singleton.mp hq]; exact List.mem_of_getElem? hs0⟩ (B5.mono (by omega)) pc
  · rintro env ⟨d3, rows, a, b, c, B3, hj, hrl, hr, pa, pb, pc, rfl⟩
    have hl : (rangeD 0 ((many : Int).toNat)).length = many := by simp [rangeD]
    k_allIn
    exact fin rows d3 (hrl.trans hl) hr (B3.mono (by omega))
end
end Law

set_option Elab.async false
set_option linter.all false
set_option maxRecDepth 100000
set_option maxHeartbeats 4000000
set_option autoImplicit false
namespace Law
open PySem L2 DL
section
local macro_rules | `(tactic| k_upd) => `(tactic| (first | exact trivial | exact rfl | ((try dsimp only); first | assumption | exact fits62 (by omega) (by omega) | exact cmul_s (by omega) (by omega) | exact cpow_s (by omega) (by omega) (by omega) | exact And.intro (by omega) (clog_s (by omega)) | exact Nat.le_of_ble_eq_true rfl | decide | omega)))
local macro_rules | `(tactic| k_memK) => `(tactic| first | (refine an_i ?_ ?_; focus k_upd) | refine ex_i rfl ?_ | refine ite_t rfl ?_ | refine ite_f Bool.false_ne_true ?_)
local macro_rules | `(tactic| k_allIn) => `(tactic| repeat k_memK)

set_option pp.deepTerms false
set_option pp.maxSteps 1500

theorem enum_fm {α : Type} (g : α → D) (f : D → Option D) (h : Nat → α → Option D) (hf : ∀ (i : Nat) a, f (.tup [.int (i : Int), g a]) = h i a) : ∀ (l : List α) (k : Nat), (enumD k (l.map g)).filterMap f = (l.zipIdx k).filterMap fun p => h p.2 p.1
  | [], k => rfl
  | a :: l, k => by
    rw [List.map_cons, enumD, List.filterMap_cons, hf, enum_fm g f h hf l (k + 1), List.zipIdx_cons, List.filterMap_cons]
theorem enum_mem {α : Type} {g : α → D} {l : List α} {x : D} (h : x ∈ enumD 0 (l.map g)) : ∃ (j : Nat) (a : α), l[j]? = some a ∧ x = .tup [.int (j : Int), g a] := by
  obtain ⟨j, hj⟩ := List.mem_iff_getElem?.mp h
  rw [enumD_get] at hj
  obtain ⟨y, hy, rfl⟩ := Option.map_eq_some_iff.mp hj
  rw [List.getElem?_map] at hy
  obtain ⟨a, ha, rfl⟩ := Option.map_eq_some_iff.mp hy
  exact ⟨j, a, ha, by rw [Nat.zero_add]⟩
def maskB (names r : List Str) : List Nat := (names.zipIdx).filterMap fun p => if decide (p.1 ∈ r) = true then some (2 ^ p.2) else none
def maskN (names r : List Str) : Nat := (maskB names r).sum
theorem inD_strs (s : Str) (r : List Str) : inD (.str s) (r.map .str) = decide (s ∈ r) := by
  unfold inD
  rw [List.any_map]
  induction r with
  | nil => simp
  | cons a r ih =>
    rw [List.any_cons, ih]
    show (feq (.str a) (.str s) || _) = _
    by_cases q : s = a
    · subst q; simp [feq]
    · simp [feq, q, Ne.symm q]
theorem flat_strs (r : List Str) : (r.map D.str).all D.flat = true := by
  rw [List.all_map, List.all_eq_true]
  intro s _; rfl
theorem asInts_nat (l : List Nat) : asInts (l.map fun (n : Nat) => D.int (n : Int)) = some (l.map fun (n : Nat) => (n : Int)) := by
  rw [show (l.map fun (n : Nat) => D.int (n : Int)) = (l.map fun (n : Nat) => (n : Int)).map D.int by rw [List.map_map]; rfl]
  exact asInts_map _
theorem sum_cast : ∀ l : List Nat, (l.map fun (n : Nat) => (n : Int)).sum = ((l.sum : Nat) : Int)
  | [] => rfl
  | a :: l => by simp [sum_cast l]
def sd_l_masks : DSpec := fun args R => ∃ (rows : List (List Str)) (names : List Str), args = [.val (.lst (rows.map (rowD false))), .val (.lst (names.map .str))] ∧ rows.length ≤ 128 ∧ names.length ≤ 8 ∧
  R (.tm (.lst (rows.map fun r => .int ((maskN names r : Nat) : Int)))) [.no, .no]
theorem len_l_masks : ∀ args R, sd_l_masks args R → args.length = 2 := by rintro args R ⟨rows, names, rfl, _⟩; rfl
theorem sp_l_masks : ∀ args R, sd_l_masks args R → m_l_masks { nx := fun e => R (.vl .non) (outs 2 e), rt := fun r e => R r (outs 2 e) } (startE 5 args) := by
  rintro args R ⟨rows, names, rfl, h1, h2, h⟩
  k_allIn
  refine compI_list (fun d => match d with
    | .lst r => match asStrs r with
      | some q => some (.int ((maskN names q : Nat) : Int))
      | none => none
    | _ => none) trivial (by rw [List.length_map]; omega) (fun x hx K hK => ?_) ?_
  · obtain ⟨r, hr, rfl⟩ := List.mem_map.mp hx
    have hK' : K (some (.int ((maskN names r : Nat) : Int))) [.val (.lst (rows.map (rowD false))), .val (.lst (names.map .str)), .no, .no, .no] := by
      have e : asStrs (r.map .str) = some r := asStrs_map r
      have hK2 : K (match asStrs (r.map .str) with
        | some q => some (.int ((maskN names q : Nat) : Int))
        | none => none) [.val (.lst (rows.map (rowD false))), .val (.lst (names.map .str)), .no, .no, .no] := hK
      rw [e] at hK2
      exact hK2
    k_allIn
    refine compI_list (fun d => match d with
      | .tup [.int i, .str s] => if decide (s ∈ r) = true then some (.int ((2 ^ i.toNat : Nat) : Int)) else none
      | _ => none) trivial (by rw [enumD_length, List.length_map]; omega) (fun x hx K hK => ?_) ?_
    · obtain ⟨j, s, hs, rfl⟩ := enum_mem hx
      have hj : j < names.length := by
        rcases Nat.lt_or_ge j names.length with z | z
        · exact z
        · rw [List.getElem?_eq_none z] at hs; cases hs
      k_allIn
      refine an_i (flat_strs r) ?_
      refine ite_i (fun c => ?_) (fun c => ?_)
      · have c' : decide (s ∈ r) = true := by
          have : inD (.str s) (r.map .str) = true := by simpa using c
          rwa [inD_strs] at this
        k_allIn
        simp only [c', if_true] at hK
        have e : (1 : Int) * 2 ^ ((j : Int)).toNat = ((2 ^ j : Nat) : Int) := by simp
        show K (some (.int ((1 : Int) * 2 ^ ((j : Int)).toNat))) _
        rw [e]
        exact hK
      · have c' : ¬ decide (s ∈ r) = true := by
          intro z
          apply c
          have : inD (.str s) (r.map .str) = true := by rw [inD_strs]; exact z
          simpa using this
        simp only [c'] at hK
        exact hK
    · have e := enum_fm (α := Str) D.str (fun d => match d with
        | .tup [.int i, .str s] => if decide (s ∈ r) = true then some (.int ((2 ^ i.toNat : Nat) : Int)) else none
        | _ => none) (fun i s => if decide (s ∈ r) = true then some (.int ((2 ^ i : Nat) : Int)) else none) (fun i a => rfl) names 0
      have e2 : ((names.zipIdx 0).filterMap fun p => if decide (p.1 ∈ r) = true then some (D.int ((2 ^ p.2 : Nat) : Int)) else none) = (maskB names r).map fun (n : Nat) => D.int (n : Int) := by
        unfold maskB
        rw [List.map_filterMap]
        refine congrFun (congrArg _ (funext fun p => ?_)) _
        split <;> rfl
      refine ex_i (show asInts _ = some ((maskB names r).map fun (n : Nat) => (n : Int)) by rw [e, e2, asInts_nat]) ?_
      k_allIn
      show K (some (.int (((maskB names r).map fun (n : Nat) => (n : Int)).sum))) _
      rw [sum_cast]
      exact hK'
  · k_allIn
    have e : ((rows.map (rowD false)).filterMap fun d => match d with
      | .lst r => match asStrs r with
        | some q => some (D.int ((maskN names q : Nat) : Int))
        | none => none
      | _ => none) = rows.map fun r => .int ((maskN names r : Nat) : Int) := by
      rw [List.filterMap_map, ← List.filterMap_eq_map]
      refine congrFun (congrArg _ (funext fun r => ?_)) _
      show (match asStrs (r.map .str) with | some q => some (D.int ((maskN names q : Nat) : Int)) | none => none) = _
      rw [asStrs_map]; rfl
    show R (.tm (.lst (List.filterMap _ _))) _
    exact (congrArg (fun l => R (.tm (.lst l)) [.no, .no]) e).mpr h

/-! the least number -/
def masksD (ms : List Nat) : D := .lst (ms.map fun (n : Nat) => .int (n : Int))
def countN (ms : List Nat) (own : Nat) : Nat := (ms.filter fun m => decide (m = own)).length
def withinN (ms : List Nat) (some_ : Nat) : Nat := (((List.range (some_ + 1)).filter fun own => decide (own &&& some_ = own)).map (countN ms)).sum
def sizeN (n some_ : Nat) : Nat := ((List.range n).filter fun at_ => decide ((some_ / 2 ^ at_) &&& 1 = 1)).length
def ceilN (ms : List Nat) (n some_ : Nat) : Nat := (withinN ms some_ + sizeN n some_ - 1) / sizeN n some_
def leastN (ms : List Nat) (n : Nat) : Nat := ((List.range (2 ^ n - 1)).map fun k => ceilN ms n (k + 1)).foldl max 0
theorem bitAnd_nat (a b : Nat) : Builtin.bitAnd (a : Int) (b : Int) = ((a &&& b : Nat) : Int) := by
  unfold Builtin.bitAnd
  simp
theorem shr_nat (a b : Nat) : (a : Int) / 2 ^ ((b : Int)).toNat = ((a / 2 ^ b : Nat) : Int) := by
  simp
theorem bit_and1 (a : Nat) : (a &&& 1 = 1) ↔ a % 2 = 1 := by
  rw [Nat.and_one_is_mod]
theorem size_pos {n s : Nat} (h0 : 1 ≤ s) (h1 : s < 2 ^ n) : 1 ≤ sizeN n s := by
  unfold sizeN
  have key : ∀ (n s : Nat), 1 ≤ s → s < 2 ^ n → ∃ i, i < n ∧ (s / 2 ^ i) % 2 = 1 := by
    intro n
    induction n with
    | zero => intro s h0 h1; simp at h1; omega
    | succ n ih =>
      intro s h0 h1
      by_cases q : s % 2 = 1
      · exact ⟨0, by omega, by simpa using q⟩
      · have hp : 2 ^ (n + 1) = 2 * 2 ^ n := by rw [Nat.pow_succ, Nat.mul_comm]
        obtain ⟨i, hi, e⟩ := ih (s / 2) (by omega) (by omega)
        refine ⟨i + 1, by omega, ?_⟩
        rw [Nat.pow_succ, Nat.mul_comm, ← Nat.div_div_eq_div_mul]
        exact e
  obtain ⟨i, hi, e⟩ := key n s h0 h1
  have : i ∈ (List.range n).filter fun at_ => decide ((s / 2 ^ at_) &&& 1 = 1) := by
    rw [List.mem_filter]
    exact ⟨List.mem_range.mpr hi, decide_eq_true ((bit_and1 _).mpr e)⟩
  exact List.length_pos_of_mem this
theorem range_filter_fm (n : Nat) (p : Nat → Bool) (g : Nat → D) : ((List.range n).filterMap fun k => if p k = true then some (g k) else none) = ((List.range n).filter p).map g := by
  rw [← List.filterMap_eq_map, ← List.filterMap_eq_filter, List.filterMap_filterMap]
  refine congrFun (congrArg _ (funext fun k => ?_)) _
  by_cases q : p k = true <;> simp [q, Option.guard]
theorem sum_le {c : Nat} : ∀ {l : List Nat}, (∀ x ∈ l, x ≤ c) → l.sum ≤ l.length * c
  | [], _ => by simp
  | a :: l, h => by
    have h1 := h a (by simp)
    have h2 := sum_le (l := l) fun x m => h x (List.mem_cons_of_mem _ m)
    rw [List.sum_cons, List.length_cons, Nat.add_mul]
    omega
def sd_l_least : DSpec := fun args R => ∃ (rows : List (List Str)) (names : List Str), args = [.val (.lst (rows.map (rowD false))), .val (.lst (names.map .str))] ∧ rows.length ≤ 128 ∧ 1 ≤ names.length ∧ names.length ≤ 8 ∧
  R (.vl (if 0 ∈ rows.map (maskN names) then .non else .int ((leastN (rows.map (maskN names)) names.length : Nat) : Int))) [.no, .no]
theorem len_l_least : ∀ args R, sd_l_least args R → args.length = 2 := by rintro args R ⟨rows, names, rfl, _⟩; rfl
theorem inD_nats (s : Nat) (r : List Nat) : inD (.int (s : Int)) (r.map fun (n : Nat) => .int (n : Int)) = decide (s ∈ r) := by
  unfold inD
  rw [List.any_map]
  induction r with
  | nil => simp
  | cons a r ih =>
    rw [List.any_cons, ih]
    show (feq (.int (a : Int)) (.int (s : Int)) || _) = _
    by_cases q : s = a
    · subst q; simp [feq]
    · have : ((a : Int) == (s : Int)) = false := by simp; omega
      simp [feq, q, this]
theorem sp_l_least : ∀ args R, sd_l_least args R → m_l_least sd_l_masks { nx := fun e => R (.vl .non) (outs 2 e), rt := fun r e => R r (outs 2 e) } (startE 11 args) := by
  rintro args R ⟨rows, names, rfl, h1, h2, h3, h⟩
  k_allIn
  refine ⟨rows, names, rfl, h1, h3, ?_⟩
  have eM : (rows.map fun r => D.int ((maskN names r : Nat) : Int)) = (rows.map (maskN names)).map fun (n : Nat) => .int (n : Int) := by rw [List.map_map]; rfl
  rw [eM]
  generalize hms : rows.map (maskN names) = ms at h
  have hlen : ms.length ≤ 128 := by rw [← hms, List.length_map]; exact h1
  have nl : (names.map D.str).length = names.length := List.length_map ..
  have ml : (ms.map fun (n : Nat) => D.int (n : Int)).length = ms.length := List.length_map ..
  have e2n : (1 : Int) * 2 ^ (((names.map D.str).length : Int)).toNat = ((2 ^ names.length : Nat) : Int) := by rw [nl]; simp
  have p256 : 2 ^ names.length ≤ 256 := Nat.le_trans (Nat.pow_le_pow_right (by decide) h3) (by decide)
  k_allIn
  refine an_i (show (ms.map fun (n : Nat) => D.int (n : Int)).all D.flat = true by rw [List.all_map, List.all_eq_true]; intro _ _; rfl) ?_
  refine ite_i (fun c => ?_) (fun c => ?_)
  · have c' : 0 ∈ ms := by
      have : inD (.int ((0 : Nat) : Int)) (ms.map fun (n : Nat) => D.int (n : Int)) = true := by simpa using c
      rw [inD_nats] at this
      exact of_decide_eq_true this
    k_allIn
    rw [if_pos c'] at h
    exact h
  · have c' : ¬ 0 ∈ ms := by
      intro z
      apply c
      have : inD (.int ((0 : Nat) : Int)) (ms.map fun (n : Nat) => D.int (n : Int)) = true := by rw [inD_nats]; exact decide_eq_true z
      simpa using this
    rw [if_neg c'] at h
    obtain ⟨P, hP⟩ : ∃ P, 2 ^ names.length = P := ⟨_, rfl⟩
    rw [hP] at e2n p256
    k_allIn
    refine compI_rangeE (n := P) (fun own => some (.int ((countN ms own : Nat) : Int))) (congrArg (fun z : Int => rangeD 0 z.toNat) e2n) trivial (by omega) (fun own hown K hK => ?_) ?_
    · k_allIn
      refine compI_list (fun d => match d with
        | .int m => if decide (m = (own : Int)) = true then some (.int 1) else none
        | _ => none) trivial (by omega) (fun x hx K' hK' => ?_) ?_
      · obtain ⟨mm, hm, rfl⟩ := List.mem_map.mp hx
        k_allIn
        refine ite_i (fun c2 => ?_) (fun c2 => ?_)
        · k_allIn
          have c3 : (mm : Int) = (own : Int) := by simpa using c2
          simp only [c3, decide_true, if_true] at hK'
          exact hK'
        · have c3 : ¬ (mm : Int) = (own : Int) := fun z => c2 (by simpa using z)
          simp only [c3, decide_false] at hK'
          exact hK'
      · have e : ((ms.map fun (n : Nat) => D.int (n : Int)).filterMap fun d => match d with
          | .int m => if decide (m = (own : Int)) = true then some (D.int 1) else none
          | _ => none).length = countN ms own := by
          unfold countN
          rw [List.filterMap_map]
          clear hms hlen ml c c' h hK hown
          induction ms with
          | nil => rfl
          | cons a r ih =>
            rw [List.filterMap_cons, List.filter_cons]
            by_cases q : a = own
            · subst q
              simp only [Function.comp, decide_true, if_true, List.length_cons]
              rw [← ih]
            · have q' : ¬ (a : Int) = (own : Int) := by omega
              simp only [Function.comp, q, q', decide_false]
              exact ih
        rw [← e] at hK
        exact hK
    have eC : ((List.range P).filterMap fun own => some (D.int ((countN ms own : Nat) : Int))) = (List.range P).map fun own => D.int ((countN ms own : Nat) : Int) := by
      rw [← List.filterMap_eq_map]; rfl
    rw [eC]
    k_allIn
    have eI : rangeD 1 ((1 : Int) * 2 ^ (((names.map D.str).length : Int)).toNat - 1).toNat = rangeD 1 (P - 1) := by
      rw [e2n]
      congr 1
      omega
    have hPn : names.length ≤ 8 := h3
    refine forI_invE (items' := rangeD 1 (P - 1)) eI (fun j env => ∃ a b c : Slot, Pl a ∧ Pl b ∧ Pl c ∧ env = [.val (.lst (rows.map (rowD false))), .val (.lst (names.map .str)), .val (masksD ms), .val (.lst ((List.range P).map fun own => D.int ((countN ms own : Nat) : Int))),
      .val (.int (((((List.range j).map fun k => ceilN ms names.length (k + 1)).foldl max 0 : Nat)) : Int)), a, b, c, .no, .no, .no]) ⟨.no, .no, .no, trivial, trivial, trivial, rfl⟩ (fun _ _ _ => trivial) ?_ ?_
    · rintro j x env hx ⟨a, b, cc, pa, pb, pc, rfl⟩ N hN
      obtain ⟨hj, rfl⟩ := rangeD_get hx
      have e1 : (1 : Int) + (j : Int) = ((j + 1 : Nat) : Int) := by omega
      rw [e1]
      generalize hs : j + 1 = sm
      have sm1 : 1 ≤ sm := by omega
      have smP : sm < P := by omega
      k_allIn
      refine compI_rangeE (n := sm + 1) (fun own => if decide (own &&& sm = own) = true then some (.int ((countN ms own : Nat) : Int)) else none) (by rw [show ((sm : Int) + 1).toNat = sm + 1 by omega]) trivial (by omega) (fun own hown K hK => ?_) ?_
      · have eb : Builtin.bitAnd (own : Int) (sm : Int) = ((own &&& sm : Nat) : Int) := bitAnd_nat own sm
        k_allIn
        refine ite_i (fun c2 => ?_) (fun c2 => ?_)
        · have c3 : own &&& sm = own := by
            have : (Builtin.bitAnd (own : Int) (sm : Int) == (own : Int)) = true := by simpa using c2
            rw [eb] at this
            have := eq_of_beq this
            omega
          have ea : atI ((List.range P).map fun own => D.int ((countN ms own : Nat) : Int)) (own : Int) = some (.int ((countN ms own : Nat) : Int)) :=
            DL.atI_nat (by rw [List.getElem?_map, List.getElem?_range (by omega)]; rfl)
          k_allIn
          refine ex_i ea ?_
          rw [if_pos (decide_eq_true c3)] at hK
          exact hK
        · have c3 : ¬ own &&& sm = own := by
            intro z
            apply c2
            have : (Builtin.bitAnd (own : Int) (sm : Int) == (own : Int)) = true := by rw [eb, z]; simp
            simpa using this
          rw [if_neg (by rw [decide_eq_true_eq]; exact c3)] at hK
          exact hK
      · have eW : ((List.range (sm + 1)).filterMap fun own => if decide (own &&& sm = own) = true then some (D.int ((countN ms own : Nat) : Int)) else none) = (((List.range (sm + 1)).filter fun own => decide (own &&& sm = own)).map (countN ms)).map fun (n : Nat) => D.int (n : Int) := by
          rw [range_filter_fm, List.map_map]; rfl
        refine ex_i (show asInts _ = some ((((List.range (sm + 1)).filter fun own => decide (own &&& sm = own)).map (countN ms)).map fun (n : Nat) => (n : Int)) by rw [eW, asInts_nat]) ?_
        rw [sum_cast]
        have hw : ((((List.range (sm + 1)).filter fun own => decide (own &&& sm = own)).map (countN ms)).sum) = withinN ms sm := rfl
        rw [hw]
        have hwl : withinN ms sm < 100000000 := by
          have h1 := sum_le (l := ((List.range (sm + 1)).filter fun own => decide (own &&& sm = own)).map (countN ms)) (c := 128) fun x hx => by
            obtain ⟨o, _, rfl⟩ := List.mem_map.mp hx
            exact Nat.le_trans (List.length_filter_le ..) hlen
          have h2 : (((List.range (sm + 1)).filter fun own => decide (own &&& sm = own)).map (countN ms)).length ≤ 300 := by
            rw [List.length_map]
            refine Nat.le_trans (List.length_filter_le ..) ?_
            rw [List.length_range]; omega
          have h3 := Nat.mul_le_mul_right 128 h2
          unfold withinN
          omega
        have hz1 := size_pos (n := names.length) sm1 (by omega)
        have hz8 : sizeN names.length sm ≤ 8 := by
          have : sizeN names.length sm ≤ (List.range names.length).length := List.length_filter_le ..
          rw [List.length_range] at this
          omega
        k_allIn
        refine compI_rangeE (n := names.length) (fun at_ => if decide ((sm / 2 ^ at_) &&& 1 = 1) = true then some (.int 1) else none) (by rw [nl]; rfl) trivial (by omega) (fun at_ hat K hK => ?_) ?_
        · have eb : Builtin.bitAnd ((sm : Int) / 2 ^ ((at_ : Int)).toNat) 1 = (((sm / 2 ^ at_) &&& 1 : Nat) : Int) := by
            rw [shr_nat, show (1 : Int) = ((1 : Nat) : Int) from rfl]
            exact bitAnd_nat _ _
          k_allIn
          refine ite_i (fun c2 => ?_) (fun c2 => ?_)
          · have c3 : (sm / 2 ^ at_) &&& 1 = 1 := by
              have : (Builtin.bitAnd ((sm : Int) / 2 ^ ((at_ : Int)).toNat) 1 == (1 : Int)) = true := by rw [← deq_int]; exact c2
              rw [eb] at this
              have := eq_of_beq this
              omega
            k_allIn
            rw [if_pos (decide_eq_true c3)] at hK
            exact hK
          · have c3 : ¬ (sm / 2 ^ at_) &&& 1 = 1 := by
              intro z
              apply c2
              show deq (.int (Builtin.bitAnd ((sm : Int) / 2 ^ ((at_ : Int)).toNat) 1)) (.int 1) = true
              rw [eb, z]; simp
            rw [if_neg (by rw [decide_eq_true_eq]; exact c3)] at hK
            exact hK
        · have eZ : ((List.range names.length).filterMap fun at_ => if decide ((sm / 2 ^ at_) &&& 1 = 1) = true then some (D.int 1) else none).length = sizeN names.length sm := by
            rw [range_filter_fm _ _ (fun _ => D.int 1), List.length_map]; rfl
          revert eZ
          generalize ((List.range names.length).filterMap fun at_ => if decide ((sm / 2 ^ at_) &&& 1 = 1) = true then some (D.int 1) else none) = zs
          intro eZ
          have eF : ((withinN ms sm : Nat) : Int) + (zs.length : Int) - 1 = ((withinN ms sm + sizeN names.length sm - 1 : Nat) : Int) := by rw [eZ]; omega
          k_allIn
          generalize hb : ((List.range j).map fun k => ceilN ms names.length (k + 1)).foldl max 0 = best at *
          have e5 : ((List.range (j + 1)).map fun k => ceilN ms names.length (k + 1)).foldl max 0 = max best (ceilN ms names.length sm) := by
            rw [List.range_succ, List.map_append, List.foldl_append, hb, ← hs]; rfl
          have e4 : (if (((withinN ms sm : Nat) : Int) + (zs.length : Int) - 1) / (zs.length : Int) > (best : Int) then (((withinN ms sm : Nat) : Int) + (zs.length : Int) - 1) / (zs.length : Int) else (best : Int)) = ((((List.range (j + 1)).map fun k => ceilN ms names.length (k + 1)).foldl max 0 : Nat) : Int) := by
            rw [e5, eF, eZ, show ((withinN ms sm + sizeN names.length sm - 1 : Nat) : Int) / ((sizeN names.length sm : Nat) : Int) = ((ceilN ms names.length sm : Nat) : Int) from (Int.natCast_ediv _ _).symm]
            split <;> omega
          refine hN _ ⟨.val (.int (sm : Int)), .val (.int ((withinN ms sm : Nat) : Int)), .val (.int (zs.length : Int)), trivial, trivial, trivial, ?_⟩
          rw [← e4]
          rfl
    · rintro env ⟨a, b, cc, pa, pb, pc, rfl⟩
      rw [rangeD_len]
      k_allIn
      have : leastN ms names.length = ((List.range (P - 1)).map fun k => ceilN ms names.length (k + 1)).foldl max 0 := by unfold leastN; rw [hP]
      rw [this] at h
      exact h
end
end Law

set_option Elab.async false
set_option linter.all false
set_option maxRecDepth 100000
set_option maxHeartbeats 4000000
set_option autoImplicit false
namespace Law
open PySem L2 DL
section
local macro_rules | `(tactic| k_upd) => `(tactic| (first | exact trivial | exact rfl | ((try dsimp only); first | assumption | exact fits62 (by omega) (by omega) | exact cmul_s (by omega) (by omega) | exact cpow_s (by omega) (by omega) (by omega) | exact And.intro (by omega) (clog_s (by omega)) | exact Nat.le_of_ble_eq_true rfl | decide | omega)))
local macro_rules | `(tactic| k_memK) => `(tactic| first | (refine an_i ?_ ?_; focus k_upd) | refine ex_i rfl ?_ | refine ite_t rfl ?_ | refine ite_f Bool.false_ne_true ?_)
local macro_rules | `(tactic| k_allIn) => `(tactic| repeat k_memK)

set_option pp.deepTerms false
set_option pp.maxSteps 1500

/-! pass_on -/
def hasN (c : List (Str × Nat)) (n : Str) : Bool := c.any fun p => decide (p.1 = n)
def lookN (c : List (Str × Nat)) (n : Str) : Nat := match c.find? fun p => decide (p.1 = n) with
  | some p => p.2
  | none => 0
def cameD (c : List (Str × Nat)) : D := .dic (c.map fun p => (.inr p.1, .int (p.2 : Int)))
def passF : Nat → List (Option Str) → List (Str × Nat) → Option Str → List (Option Str)
  | _, ds, _, none => ds
  | 0, ds, _, some _ => ds
  | k + 1, ds, c, some n => passF k (ds.set (lookN c n) (some n)) c (ds.getD (lookN c n) none)
def passOk : Nat → List (Option Str) → List (Str × Nat) → Option Str → Prop
  | _, _, _, none => True
  | 0, _, _, some _ => False
  | k + 1, ds, c, some n => hasN c n = true ∧ lookN c n < ds.length ∧ passOk k (ds.set (lookN c n) (some n)) c (ds.getD (lookN c n) none)
theorem dGet_came {c : List (Str × Nat)} {n : Str} (h : hasN c n = true) : dGet (c.map fun p => ((.inr p.1 : Key), D.int (p.2 : Int))) (.inr n) = some (.int (lookN c n : Int)) := by
  unfold lookN hasN at *
  induction c with
  | nil => simp at h
  | cons p c ih =>
    by_cases q : p.1 = n
    · simp [dGet, q]
    · have h' : (c.any fun p => decide (p.1 = n)) = true := by simpa [q] using h
      have := ih h'
      simp only [dGet, List.map_cons, List.find?_cons, Sum.inr.injEq, q, decide_false] at this ⊢
      exact this
def sd_pass_on : DSpec := fun args R => ∃ (ds : List (Option Str)) (c : List (Str × Nat)) (n : Str) (k : Nat), args = [.own true (dlD ds), .own true (cameD c), .val (.str n)] ∧ passOk k ds c (some n) ∧
  R (.vl .non) [.own true (dlD (passF k ds c (some n))), .own true (cameD c), .no]
theorem len_pass_on : ∀ args R, sd_pass_on args R → args.length = 3 := by rintro args R ⟨ds, c, n, k, rfl, _⟩; rfl
theorem set_map_oD (ds : List (Option Str)) (j : Nat) (o : Option Str) : (ds.map oD).set j (oD o) = (ds.set j o).map oD := by rw [List.map_set]
theorem pass_walk {R : RV → List Slot → Prop} {c : List (Str × Nat)} : ∀ (k : Nat) (ds : List (Option Str)) (o : Option Str) (a b : Slot), Pl a → Pl b → passOk k ds c o → R (.vl .non) [.own true (dlD (passF k ds c o)), .own true (cameD c), .no] →
    whN (mB (mOp2 aIsN (mVar 2) (mC .non))) (mSeq (mSet 3 (mOp2 aDIx (mVar 1) (mVar 2))) (mSeq (mSet 4 (mOp2 aIx (mVar 0) (mVar 3))) (mSeq (mSetIx 0 (mVar 3) (mVar 2)) (mSet 2 (mVar 4))))) (k + 1)
      { nx := fun e => R (.vl .non) (outs 3 e), rt := fun r e => R r (outs 3 e) } [.own true (dlD ds), .own true (cameD c), .val (oD o), a, b]
  | k, ds, none, a, b, pa, pb, ok, fin => by
    k_allIn
    cases k <;> exact fin
  | 0, ds, some n, a, b, pa, pb, ok, fin => ok.elim
  | k + 1, ds, some n, a, b, pa, pb, ok, fin => by
    obtain ⟨h1, h2, h3⟩ := ok
    have e1 := dGet_came h1
    have e2 : atI (ds.map oD) ((lookN c n : Nat) : Int) = some (oD (ds.getD (lookN c n) none)) := DL.atI_nat (by rw [List.getElem?_map, List.getD_eq_getElem?_getD, List.getElem?_eq_getElem h2]; rfl)
    have e3 : ixN (ds.map oD).length ((lookN c n : Nat) : Int) = some (lookN c n) := DL.ixN_nat (by rw [List.length_map]; exact h2)
    have ih := pass_walk k (ds.set (lookN c n) (some n)) (ds.getD (lookN c n) none) (.val (.int (lookN c n : Int))) (.val (oD (ds.getD (lookN c n) none))) trivial (by cases ds.getD (lookN c n) none <;> trivial) h3 fin
    k_allIn
    refine ex_i e1 ?_
    k_allIn
    refine ex_i e2 ?_
    k_allIn
    refine ex_i e3 ?_
    k_memK
    k_memK
    unfold dlD at ih
    rw [← set_map_oD] at ih
    exact ih
theorem sp_pass_on : ∀ args R, sd_pass_on args R → m_pass_on { nx := fun e => R (.vl .non) (outs 3 e), rt := fun r e => R r (outs 3 e) } (startE 5 args) := by
  rintro args R ⟨ds, c, n, k, rfl, ok, h⟩
  exact while_i (k + 1) (pass_walk k ds (some n) .no .no trivial trivial ok h)

/-! add_job -/
def visitN (most : Nat) (ds : List (Option Str)) (job : Nat) : List Str → List Nat → List (Str × Nat) → List Nat × List (Str × Nat) × Option Str
  | [], r, c => (r, c, none)
  | n :: ns, r, c => if hasN c n = true then visitN most ds job ns r c else
    if (ownF ds n).length < most then (r, c ++ [(n, job)], some n) else visitN most ds job ns (r ++ ownF ds n) (c ++ [(n, job)])
def visitOk (most : Nat) (ds : List (Option Str)) (job : Nat) : List Str → List Nat → List (Str × Nat) → Prop
  | [], _, _ => True
  | n :: ns, r, c => if hasN c n = true then visitOk most ds job ns r c else c.length < 1000 ∧ r.length + (ownF ds n).length ≤ 1000 ∧
    if (ownF ds n).length < most then passOk (c ++ [(n, job)]).length ds (c ++ [(n, job)]) (some n) else visitOk most ds job ns (r ++ ownF ds n) (c ++ [(n, job)])
def bfsN (rows : List (List Str)) (most : Nat) (ds : List (Option Str)) : Nat → Nat → List Nat → List (Str × Nat) → List Nat × List (Str × Nat) × Option Str
  | 0, _, r, c => (r, c, none)
  | k + 1, at_, r, c => if at_ < r.length then
      match visitN most ds (r.getD at_ 0) (rows.getD (r.getD at_ 0) []) r c with
      | (r', c', some n) => (r', c', some n)
      | (r', c', none) => bfsN rows most ds k (at_ + 1) r' c'
    else (r, c, none)
def bfsOk (rows : List (List Str)) (most : Nat) (ds : List (Option Str)) : Nat → Nat → List Nat → List (Str × Nat) → Prop
  | 0, at_, r, _ => ¬ at_ < r.length
  | k + 1, at_, r, c => at_ < r.length → r.getD at_ 0 < rows.length ∧ visitOk most ds (r.getD at_ 0) (rows.getD (r.getD at_ 0) []) r c ∧
      match visitN most ds (r.getD at_ 0) (rows.getD (r.getD at_ 0) []) r c with
      | (_, _, some _) => True
      | (r', c', none) => bfsOk rows most ds k (at_ + 1) r' c'
theorem has_get {c : List (Str × Nat)} {n : Str} : (dGet (c.map fun p => ((.inr p.1 : Key), D.int (p.2 : Int))) (.inr n)).isSome = hasN c n := by
  unfold hasN
  induction c with
  | nil => rfl
  | cons p c ih =>
    by_cases q : p.1 = n
    · simp [dGet, q]
    · simp only [dGet, List.map_cons, List.find?_cons, Sum.inr.injEq, q, decide_false, List.any_cons, Bool.false_or] at ih ⊢
      exact ih
theorem put_came {c : List (Str × Nat)} {n : Str} {j : Nat} (h : ¬ hasN c n = true) : (D.dic (dPut (c.map fun p => ((.inr p.1 : Key), D.int (p.2 : Int))) (.inr n) (.int (j : Int)))) = cameD (c ++ [(n, j)]) := by
  unfold cameD dPut
  have : ((c.map fun p => ((.inr p.1 : Key), D.int (p.2 : Int))).any fun p => decide (p.1 = .inr n)) = hasN c n := by
    unfold hasN
    rw [List.any_map]
    congr 1
    funext p
    simp
  rw [this, if_neg h, List.map_append]
  rfl
def bodyA : DStm := (mSeq (mIfS (mB (mOp2 (aDIn false) (mVar 8) (mVar 5))) (mCont) (mSkip)) (mSeq (mDPut 5 (mVar 8) (mVar 7)) (mSeq (mSet 9 (mCall sd_dealt_to [] (mcCons (mVar 2) (mcCons (mVar 8) (mcNil))))) (mSeq (mIfS (mB (mOp2 aLt (mFn aLen (maCons (mVar 9) (maNil))) (mVar 1))) (mSeq (mDrop (mCall sd_pass_on [] (mcCons (mVar 2) (mcCons (mVar 5) (mcCons (mVar 8) (mcNil)))))) (mRet (mC .non))) (mSkip)) (mExt 4 (mVar 9))))))
abbrev envA (J : D) (most : Nat) (ds : List (Option Str)) (first : Nat) (r : List Nat) (c : List (Str × Nat)) (at_ : Int) (s7 s8 s9 : Slot) : List Slot :=
  [.val J, .val (.int (most : Int)), .own true (dlD ds), .val (.int (first : Int)), .own false (masksD r), .own false (cameD c), .val (.int at_), s7, s8, s9]
theorem visit_walk {J : D} {most first job : Nat} {ds : List (Option Str)} {at_ : Int} {P : Post} (hds : ds.length ≤ 128) : ∀ (names : List Str) (r : List Nat) (c : List (Str × Nat)) (s8 s9 : Slot), Pl s8 → Pl s9 → visitOk most ds job names r c →
    (∀ r' c' s8 s9, Pl s8 → Pl s9 → visitN most ds job names r c = (r', c', none) → P.nx (envA J most ds first r' c' at_ (.val (.int (job : Int))) s8 s9)) →
    (∀ r' c' n s8 s9, visitN most ds job names r c = (r', c', some n) → P.rt (.vl .non) (envA J most (passF c'.length ds c' (some n)) first r' c' at_ (.val (.int (job : Int))) s8 s9)) →
    forW [] (gN 8) bodyA P (names.map .str) (envA J most ds first r c at_ (.val (.int (job : Int))) s8 s9)
  | [], r, c, s8, s9, p8, p9, ok, hn, hr => ⟨trivial, hn r c s8 s9 p8 p9 rfl⟩
  | n :: ns, r, c, s8, s9, p8, p9, ok, hn, hr => by
    refine ⟨trivial, ?_⟩
    unfold visitOk at ok
    unfold visitN at hn hr
    k_allIn
    refine ite_i (fun cc => ?_) (fun cc => ?_)
    · have h1 : hasN c n = true := by
        have : (false ^^ (dGet (c.map fun p => ((.inr p.1 : Key), D.int (p.2 : Int))) (.inr n)).isSome) = true := cc
        rw [has_get] at this
        simpa using this
      rw [if_pos h1] at ok
      simp only [h1, if_true] at hn hr
      exact visit_walk hds ns r c (.val (.str n)) s9 trivial p9 ok hn hr
    · have h1 : ¬ hasN c n = true := by
        intro z
        apply cc
        show (false ^^ (dGet (c.map fun p => ((.inr p.1 : Key), D.int (p.2 : Int))) (.inr n)).isSome) = true
        rw [has_get, z]; rfl
      rw [if_neg h1] at ok
      simp only [h1] at hn hr
      obtain ⟨o1, o2, o3⟩ := ok
      k_allIn
      refine an_i (by rw [List.length_map]; omega) ?_
      rw [put_came h1]
      generalize hc : c ++ [(n, job)] = c1 at *
      k_allIn
      refine ⟨ds, n, rfl, hds, ?_⟩
      have ol : ((ownF ds n).map fun (j : Nat) => D.int (j : Int)).length = (ownF ds n).length := List.length_map ..
      have rl : (r.map fun (n : Nat) => D.int (n : Int)).length = r.length := List.length_map ..
      k_allIn
      refine ite_i (fun c2 => ?_) (fun c2 => ?_)
      · have c3 : (ownF ds n).length < most := by
          have := of_decide_eq_true c2
          rw [ol] at this
          omega
        rw [if_pos c3] at o3
        simp only [c3, if_true] at hr
        k_allIn
        refine ⟨ds, c1, n, c1.length, rfl, o3, ?_⟩
        k_allIn
        exact hr r c1 n _ _ rfl
      · have c3 : ¬ (ownF ds n).length < most := by
          intro z
          apply c2
          show decide _ = true
          rw [decide_eq_true_eq, ol]
          omega
        rw [if_neg c3] at o3
        simp only [c3] at hn hr
        k_memK
        k_memK
        k_memK
        have ih := visit_walk (J := J) (first := first) (at_ := at_) (P := P) hds ns (r ++ ownF ds n) c1 (.val (.str n)) (.val (.lst ((ownF ds n).map fun (j : Nat) => .int (j : Int)))) trivial trivial o3 hn hr
        unfold envA masksD at ih
        rw [List.map_append] at ih
        exact ih

def sortN (r : List Nat) : List Nat := r.mergeSort
theorem sort_uniq {r : List Nat} {ns : List Int} (p : ns.Perm (r.map fun (n : Nat) => (n : Int))) (s : ns.Pairwise (· ≤ ·)) : ns = (sortN r).map fun (n : Nat) => (n : Int) := by
  have p2 : (sortN r).Perm r := List.mergeSort_perm r _
  have s2 : ((sortN r).map fun (n : Nat) => (n : Int)).Pairwise (· ≤ ·) := by
    rw [List.pairwise_map]
    have := List.pairwise_mergeSort (le := fun a b : Nat => decide (a ≤ b)) (fun a b c h1 h2 => by simp at *; omega) (fun a b => by simp; omega) r
    exact this.imp fun h => by simpa using h
  exact List.Perm.eq_of_pairwise (le := (· ≤ ·)) (fun a b _ _ h1 h2 => Int.le_antisymm h1 h2) s s2 (p.trans (p2.map _).symm)
theorem sorted_i {r : List Nat} {R : RV → Prop} (h : R (.tm (masksD (sortN r)))) : aSorted [masksD r] R := by
  show (match asInts (r.map fun (n : Nat) => D.int (n : Int)) with
    | some ns => ∀ ns' : List Int, ns'.Perm ns → ns'.Pairwise (· ≤ ·) → R (.tm (.lst (ns'.map .int)))
    | none => False)
  rw [asInts_nat]
  intro ns p s
  rw [sort_uniq p s, List.map_map]
  exact h
def addF (rows : List (List Str)) (most : Nat) (ds : List (Option Str)) (first : Nat) : List (Option Str) × Option (List Nat) :=
  match bfsN rows most ds (rows.length + 1) 0 [first] [] with
  | (_, c, some n) => (passF c.length ds c (some n), none)
  | (r, _, none) => (ds, some (sortN r))
def sd_add_job : DSpec := fun args R => ∃ (t u : Bool) (rows : List (List Str)) (most : Nat) (ds : List (Option Str)) (first : Nat), args = [.val (jobsD t u rows), .val (.int (most : Int)), .own true (dlD ds), .val (.int (first : Int))] ∧ ds.length ≤ 128 ∧ bfsOk rows most ds (rows.length + 1) 0 [first] [] ∧
  R (match (addF rows most ds first).2 with | none => .vl .non | some g => .tm (masksD g)) [.no, .no, .own true (dlD (addF rows most ds first).1), .no]
theorem len_add_job : ∀ args R, sd_add_job args R → args.length = 4 := by rintro args R ⟨t, u, rows, m, ds, f, rfl, _⟩; rfl
theorem bfs_walk {J : D} {rows : List (List Str)} {t u : Bool} {most first : Nat} {ds : List (Option Str)} {P : Post} (hJ : J = jobsD t u rows) (hds : ds.length ≤ 128) : ∀ (k at_ : Nat) (r : List Nat) (c : List (Str × Nat)) (s7 s8 s9 : Slot), Pl s7 → Pl s8 → Pl s9 → bfsOk rows most ds k at_ r c →
    (∀ r' c' at' s7 s8 s9, bfsN rows most ds k at_ r c = (r', c', none) → P.nx (envA J most ds first r' c' at' s7 s8 s9)) →
    (∀ r' c' n at' s7 s8 s9, bfsN rows most ds k at_ r c = (r', c', some n) → P.rt (.vl .non) (envA J most (passF c'.length ds c' (some n)) first r' c' at' s7 s8 s9)) →
    whN (mB (mOp2 aLt (mVar 6) (mFn aLen (maCons (mVar 4) (maNil))))) (mSeq (mSet 7 (mOp2 aIx (mVar 4) (mVar 6))) (mSeq (aAug bAdd 6 (mC (.int 1))) (mFor (mIt (mOp2 aIx (mVar 0) (mVar 7))) (gN 8) bodyA))) (k + 1) P (envA J most ds first r c (at_ : Int) s7 s8 s9)
  | k, at_, r, c, s7, s8, s9, p7, p8, p9, ok, hn, hr => by
    have rl : (r.map fun (n : Nat) => D.int (n : Int)).length = r.length := List.length_map ..
    k_allIn
    refine ite_i (fun cc => ?_) (fun cc => ?_)
    · have hlt : at_ < r.length := by
        have := of_decide_eq_true cc
        rw [rl] at this
        omega
      cases k with
      | zero => exact absurd hlt ok
      | succ k =>
        obtain ⟨o1, o2, o3⟩ := ok hlt
        simp only [bfsN, hlt, if_true] at hn hr
        have e0 : atI (r.map fun (n : Nat) => D.int (n : Int)) (at_ : Int) = some (.int ((r.getD at_ 0 : Nat) : Int)) := DL.atI_nat (by rw [List.getElem?_map, List.getD_eq_getElem?_getD, List.getElem?_eq_getElem hlt]; rfl)
        have e1 : atI (rows.map (rowD u)) ((r.getD at_ 0 : Nat) : Int) = some (rowD u (rows.getD (r.getD at_ 0) [])) := DL.atI_nat (by
          have hg : ∀ j, j < rows.length → rows[j]? = some (rows.getD j []) := fun j hj => by rw [List.getD_eq_getElem?_getD, List.getElem?_eq_getElem hj]; rfl
          rw [List.getElem?_map, hg _ o1]; rfl)
        have go : ∀ P' : Post, P'.rt = P.rt → (P'.nx = fun e => whN (mB (mOp2 aLt (mVar 6) (mFn aLen (maCons (mVar 4) (maNil))))) (mSeq (mSet 7 (mOp2 aIx (mVar 4) (mVar 6))) (mSeq (aAug bAdd 6 (mC (.int 1))) (mFor (mIt (mOp2 aIx (mVar 0) (mVar 7))) (gN 8) bodyA))) (k + 1) P e) →
            forI [] (gN 8) bodyA P' ((rows.getD (r.getD at_ 0) []).map .str) (envA J most ds first r c ((at_ : Int) + 1) (.val (.int ((r.getD at_ 0 : Nat) : Int))) s8 s9) := by
          intro P' hrt hnx
          rw [forI_iff]
          refine visit_walk hds _ r c s8 s9 p8 p9 o2 (fun r' c' s8 s9 p8 p9 ev => ?_) (fun r' c' n s8 s9 ev => ?_)
          · rw [hnx]
            rw [ev] at o3
            simp only [ev] at hn hr
            have ih := bfs_walk (P := P) hJ hds k (at_ + 1) r' c' (.val (.int ((r.getD at_ 0 : Nat) : Int))) s8 s9 trivial p8 p9 o3 hn hr
            rw [show ((at_ + 1 : Nat) : Int) = (at_ : Int) + 1 by omega] at ih
            exact ih
          · rw [hrt]
            simp only [ev] at hr
            exact hr r' c' n _ _ _ _ rfl
        cases t <;> cases u <;>
        · subst hJ
          k_allIn
          refine ex_i e0 ?_
          k_allIn
          refine ex_i e1 ?_
          exact go _ rfl rfl
    · have hlt : ¬ at_ < r.length := by
        intro z
        apply cc
        show decide _ = true
        rw [decide_eq_true_eq, rl]
        omega
      have e : bfsN rows most ds k at_ r c = (r, c, none) := by
        cases k with
        | zero => rfl
        | succ k => simp only [bfsN, hlt]; rfl
      exact hn r c at_ s7 s8 s9 e

theorem sp_add_job : ∀ args R, sd_add_job args R → m_add_job sd_dealt_to sd_pass_on { nx := fun e => R (.vl .non) (outs 4 e), rt := fun r e => R r (outs 4 e) } (startE 10 args) := by
  rintro args R ⟨t, u, rows, most, ds, first, rfl, hds, ok, h⟩
  k_allIn
  refine while_i (rows.length + 1 + 1) (bfs_walk (J := jobsD t u rows) (rows := rows) (t := t) (u := u) (most := most) (first := first) (ds := ds) rfl hds (rows.length + 1) 0 [first] [] .no .no .no trivial trivial trivial ok ?_ ?_)
  · intro r' c' at' s7 s8 s9 e
    unfold addF at h
    rw [e] at h
    k_allIn
    have go := sorted_i (r := r') (R := fun l => match l with
      | .vl d => R (.vl d) [.no, .no, .own true (dlD ds), .no]
      | .tm d => R (.tm d) [.no, .no, .own true (dlD ds), .no]
      | .sl _ => False) h
    exact go
  · intro r' c' n at' s7 s8 s9 e
    unfold addF at h
    rw [e] at h
    exact h
end
end Law

set_option Elab.async false
set_option linter.all false
set_option maxRecDepth 100000
set_option maxHeartbeats 4000000
set_option autoImplicit false
namespace Law
open PySem L2 DL
section
local macro_rules | `(tactic| k_upd) => `(tactic| (first | exact trivial | exact rfl | ((try dsimp only); first | assumption | exact fits62 (by omega) (by omega) | exact cmul_s (by omega) (by omega) | exact cpow_s (by omega) (by omega) (by omega) | exact And.intro (by omega) (clog_s (by omega)) | exact Nat.le_of_ble_eq_true rfl | decide | omega)))
local macro_rules | `(tactic| k_memK) => `(tactic| first | (refine an_i ?_ ?_; focus k_upd) | refine ex_i rfl ?_ | refine ite_t rfl ?_ | refine ite_f Bool.false_ne_true ?_)
local macro_rules | `(tactic| k_allIn) => `(tactic| repeat k_memK)

set_option pp.deepTerms false
set_option pp.maxSteps 1500

/-! deal_or_gap -/
def runF (rows : List (List Str)) (most : Nat) : Nat → List (Option Str) × Option (List Nat)
  | 0 => (List.replicate rows.length none, none)
  | j + 1 => match runF rows most j with
    | (ds, some g) => (ds, some g)
    | (ds, none) => addF rows most ds j
def RunOk (rows : List (List Str)) (most : Nat) : Prop := ∀ j, j < rows.length → (runF rows most j).2 = none → bfsOk rows most (runF rows most j).1 (rows.length + 1) 0 [j] [] ∧ (runF rows most j).1.length ≤ 128
theorem runF_some {rows : List (List Str)} {most : Nat} {j : Nat} {g : List Nat} (h : (runF rows most j).2 = some g) : ∀ k, runF rows most (j + k) = runF rows most j
  | 0 => rfl
  | k + 1 => by
    have ih := runF_some h k
    show (match runF rows most (j + k) with | (ds, some g) => (ds, some g) | (ds, none) => addF rows most ds (j + k)) = runF rows most j
    have : runF rows most j = ((runF rows most j).1, some g) := by rw [← h]
    rw [ih, this]
def resF (rows : List (List Str)) (most : Nat) : List (Option Str) × Option (List Nat) := runF rows most rows.length
def res2 (x : List (Option Str) × Option (List Nat)) : RV × RV := match x with
  | (ds, none) => (.tm (dlD ds), .vl .non)
  | (_, some g) => (.vl .non, .tm (masksD g))
def sd_deal_or_gap : DSpec2 := fun args R => ∃ (t u : Bool) (rows : List (List Str)) (most : Nat), args = [.val (jobsD t u rows), .val (.int (most : Int))] ∧ rows.length ≤ 128 ∧ RunOk rows most ∧ R (res2 (resF rows most)).1 (res2 (resF rows most)).2 [.no, .no]
theorem len_deal_or_gap : ∀ args R, sd_deal_or_gap args R → args.length = 2 := by rintro args R ⟨t, u, rows, m, rfl, _⟩; rfl
theorem rep_none (n : Nat) : List.flatten (List.replicate n [D.non]) = (List.replicate n (none : Option Str)).map oD := by
  induction n with
  | zero => rfl
  | succ n ih => rw [List.replicate_succ, List.flatten_cons, ih, List.replicate_succ, List.map_cons]; rfl
theorem deal_loop {t u : Bool} {rows : List (List Str)} {most : Nat} {R : RV → RV → List Slot → Prop} {s3 s4 : Slot} (p3 : Pl s3) (p4 : Pl s4) (hl : rows.length ≤ 128) (ok : RunOk rows most) (h : R (res2 (resF rows most)).1 (res2 (resF rows most)).2 [.no, .no]) :
    forI [] (gN 3) (mSeq (mSetX 4 (mCall sd_add_job [] (mcCons (mVar 0) (mcCons (mVar 1) (mcCons (mVar 2) (mcCons (mVar 3) (mcNil))))))) (mIfS (mB (mOp2 aIsN (mVar 4) (mC .non))) (mRet2 (mC .non) (mVar 4)) (mSkip)))
      { nx := mRet2 (mVar 2) (mC .non) { nx := fun _ => False, rt := fun _ _ => False, r2 := fun x y e => R x y (outs 2 e) }, rt := fun _ _ => False, r2 := fun x y e => R x y (outs 2 e) } (rangeD 0 rows.length)
      [.val (jobsD t u rows), .val (.int (most : Int)), .own false (dlD (List.replicate rows.length none)), s3, s4] := by
  refine forI_inv (fun j env => ∃ s3 s4, Pl s3 ∧ Pl s4 ∧ (runF rows most j).2 = none ∧ env = [.val (jobsD t u rows), .val (.int (most : Int)), .own false (dlD (runF rows most j).1), s3, s4]) ⟨s3, s4, p3, p4, rfl, rfl⟩ (fun _ _ _ => trivial) ?_ ?_
  · rintro j x env hx ⟨s3, s4, p3, p4, hnone, rfl⟩ N hN
    obtain ⟨hj, rfl⟩ := rangeD_get hx
    obtain ⟨o1, o2⟩ := ok j hj hnone
    rw [Int.zero_add]
    have run1 : runF rows most (j + 1) = addF rows most (runF rows most j).1 j := by
      show (match runF rows most j with | (ds, some g) => (ds, some g) | (ds, none) => addF rows most ds j) = _
      have : runF rows most j = ((runF rows most j).1, none) := by rw [← hnone]
      rw [this]
    k_allIn
    refine ⟨t, u, rows, most, (runF rows most j).1, j, rfl, o2, o1, ?_⟩
    cases ha : (addF rows most (runF rows most j).1 j).2 with
    | none =>
      k_allIn
      refine hN _ ⟨.val (.int (j : Int)), .val .non, trivial, trivial, by rw [run1]; exact ha, ?_⟩
      rw [run1]
      rfl
    | some g =>
      have e2 : resF rows most = ((addF rows most (runF rows most j).1 j).1, some g) := by
        unfold resF
        have := runF_some (rows := rows) (most := most) (j := j + 1) (g := g) (by rw [run1]; exact ha) (rows.length - (j + 1))
        rw [show j + 1 + (rows.length - (j + 1)) = rows.length by omega] at this
        rw [this, run1, ← ha]
      rw [e2] at h
      k_allIn
      refine an_i (fun z => nomatch z) ?_
      exact h
  · rintro env ⟨s3, s4, p3, p4, hnone, rfl⟩
    rw [rangeD_len] at *
    have e2 : resF rows most = ((runF rows most rows.length).1, none) := by unfold resF; rw [← hnone]
    rw [e2] at h
    k_allIn
    refine an_i (fun z => nomatch z) ?_
    exact h
theorem sp_deal_or_gap : ∀ args R, sd_deal_or_gap args R → m_deal_or_gap sd_add_job { nx := fun _ => False, rt := fun _ _ => False, r2 := fun x y e => R x y (outs 2 e) } (startE 5 args) := by
  rintro args R ⟨t, u, rows, most, rfl, hl, ok, h⟩
  have rl : (rows.map (rowD u)).length = rows.length := List.length_map ..
  have er : List.flatten (List.replicate (((rows.map (rowD u)).length : Int)).toNat [D.non]) = (List.replicate rows.length (none : Option Str)).map oD := by rw [rl]; exact rep_none _
  have go := deal_loop (t := t) (u := u) (rows := rows) (most := most) (R := R) (s3 := .no) (s4 := .no) trivial trivial hl ok h
  unfold dlD at go
  rw [← er] at go
  cases t with
  | true =>
    k_allIn
    refine an_i (by rw [rl]; show 1 * _ ≤ _; omega) ?_
    k_allIn
    rw [← rl] at go
    exact go
  | false =>
    k_allIn
    refine an_i (by rw [rl]; show 1 * _ ≤ _; omega) ?_
    k_allIn
    rw [← rl] at go
    exact go

/-! deal_of, gap_of -/
structure CallOk (rows : List (List Str)) (most : Nat) : Prop where
  jobs : JobsOk rows
  m1 : 1 ≤ most
  m2 : most ≤ 128
  run : RunOk rows most
def sd_deal_of : DSpecX := fun args R E => ∃ (t u : Bool) (rows : List (List Str)) (most : Nat), args = [.val (jobsD t u rows), .val (.int (most : Int))] ∧ CallOk rows most ∧ R (res2 (resF rows most)).1 [.no, .no]
theorem len_deal_of : ∀ args R E, sd_deal_of args R E → args.length = 2 := by rintro args R E ⟨t, u, rows, m, rfl, _⟩; rfl
theorem res_cases (rows : List (List Str)) (most : Nat) : (∃ ds, res2 (resF rows most) = (.tm (dlD ds), .vl .non)) ∨ ∃ g, res2 (resF rows most) = (.vl .non, .tm (masksD g)) := by
  unfold res2
  split
  · exact Or.inl ⟨_, rfl⟩
  · exact Or.inr ⟨_, rfl⟩
theorem sp_deal_of : ∀ args R E, sd_deal_of args R E → m_deal_of sd_need_jobs sd_need_most sd_deal_or_gap { nx := fun e => R (.vl .non) (outs 2 e), rt := fun r e => R r (outs 2 e), ex := fun x fs e => E x fs (outs 2 e) } (startE 4 args) := by
  rintro args R E ⟨t, u, rows, most, rfl, ok, h⟩
  k_allIn
  refine ⟨t, u, rows, rfl, ok.jobs, ?_⟩
  k_allIn
  refine ⟨most, rfl, ok.m1, ok.m2, ?_⟩
  k_allIn
  refine ⟨t, u, rows, most, rfl, ok.jobs.le, ok.run, ?_⟩
  rcases res_cases rows most with ⟨ds, e⟩ | ⟨g, e⟩
  · rw [e] at h ⊢
    refine an_i (fun k z => nomatch z) ?_
    k_allIn
    exact h
  · rw [e] at h ⊢
    refine an_i (fun k z => nomatch z) ?_
    k_allIn
    exact h
def sd_gap_of : DSpecX := fun args R E => ∃ (t u : Bool) (rows : List (List Str)) (most : Nat), args = [.val (jobsD t u rows), .val (.int (most : Int))] ∧ CallOk rows most ∧ R (res2 (resF rows most)).2 [.no, .no]
theorem len_gap_of : ∀ args R E, sd_gap_of args R E → args.length = 2 := by rintro args R E ⟨t, u, rows, m, rfl, _⟩; rfl
theorem sp_gap_of : ∀ args R E, sd_gap_of args R E → m_gap_of sd_need_jobs sd_need_most sd_deal_or_gap { nx := fun e => R (.vl .non) (outs 2 e), rt := fun r e => R r (outs 2 e), ex := fun x fs e => E x fs (outs 2 e) } (startE 4 args) := by
  rintro args R E ⟨t, u, rows, most, rfl, ok, h⟩
  k_allIn
  refine ⟨t, u, rows, rfl, ok.jobs, ?_⟩
  k_allIn
  refine ⟨most, rfl, ok.m1, ok.m2, ?_⟩
  k_allIn
  refine ⟨t, u, rows, most, rfl, ok.jobs.le, ok.run, ?_⟩
  rcases res_cases rows most with ⟨ds, e⟩ | ⟨g, e⟩
  · rw [e] at h ⊢
    refine an_i (fun k z => nomatch z) ?_
    k_allIn
    exact h
  · rw [e] at h ⊢
    refine an_i (fun k z => nomatch z) ?_
    k_allIn
    exact h
end
end Law

set_option Elab.async false
set_option linter.all false
set_option maxRecDepth 100000
set_option maxHeartbeats 4000000
set_option autoImplicit false
namespace Law
open PySem L2 DL
section
local macro_rules | `(tactic| k_upd) => `(tactic| (first | exact trivial | exact rfl | ((try dsimp only); first | assumption | exact fits62 (by omega) (by omega) | exact cmul_s (by omega) (by omega) | exact cpow_s (by omega) (by omega) (by omega) | exact And.intro (by omega) (clog_s (by omega)) | exact Nat.le_of_ble_eq_true rfl | decide | omega)))
local macro_rules | `(tactic| k_memK) => `(tactic| first | (refine an_i ?_ ?_; focus k_upd) | refine ex_i rfl ?_ | refine ite_t rfl ?_ | refine ite_f Bool.false_ne_true ?_)
local macro_rules | `(tactic| k_allIn) => `(tactic| repeat k_memK)

set_option pp.deepTerms false
set_option pp.maxSteps 1500

/-! least_most -/
def growF (rows : List (List Str)) : Nat → Nat → List (Option Str) → Nat → Nat × List (Option Str)
  | 0, m, ds, _ => (m, ds)
  | k + 1, m, ds, j => match addF rows m ds j with
    | (d', none) => (m, d')
    | (d', some _) => growF rows k (m + 1) d' j
def growOk (rows : List (List Str)) : Nat → Nat → List (Option Str) → Nat → Prop
  | 0, _, _, _ => False
  | k + 1, m, ds, j => m < 1000 ∧ ds.length ≤ 128 ∧ bfsOk rows m ds (rows.length + 1) 0 [j] [] ∧ match addF rows m ds j with
    | (_, none) => True
    | (d', some _) => growOk rows k (m + 1) d' j
def lmF (rows : List (List Str)) : Nat → Nat × List (Option Str)
  | 0 => (min 1 rows.length, List.replicate rows.length none)
  | j + 1 => growF rows 200 (lmF rows j).1 (lmF rows j).2 j
def LmOk (rows : List (List Str)) : Prop := ∀ j, j < rows.length → growOk rows 200 (lmF rows j).1 (lmF rows j).2 j
def emptyAt (rows : List (List Str)) : Option Nat := rows.findIdx? fun r => r.isEmpty
def sd_least_most : DSpecX := fun args R E => ∃ (t u : Bool) (rows : List (List Str)), args = [.val (jobsD t u rows)] ∧ JobsOk rows ∧ match emptyAt rows with
  | some j => E cx_NoDoer [("at", .int (j : Int))] [.no]
  | none => LmOk rows ∧ R (.vl (.int (((lmF rows rows.length).1 : Nat) : Int))) [.no]
theorem len_least_most : ∀ args R E, sd_least_most args R E → args.length = 1 := by rintro args R E ⟨t, u, rows, rfl, _⟩; rfl
abbrev envL (J : D) (s1 s2 : Slot) (m : Nat) (ds : List (Option Str)) : List Slot := [.val J, s1, s2, .val (.int (m : Int)), .own false (dlD ds)]
def bodyL : DStm := mWhile (mB (mOp2 aIsN (mCall sd_add_job [] (mcCons (mVar 0) (mcCons (mVar 3) (mcCons (mVar 4) (mcCons (mVar 1) (mcNil)))))) (mC .non))) (aAug bAdd 3 (mC (.int 1)))
theorem grow_walk {J : D} {t u : Bool} {rows : List (List Str)} {s2 : Slot} {j : Nat} {P : Post} (hJ : J = jobsD t u rows) : ∀ (k m : Nat) (ds : List (Option Str)), growOk rows k m ds j →
    (P.nx (envL J (.val (.int (j : Int))) s2 (growF rows k m ds j).1 (growF rows k m ds j).2)) →
    whN (mB (mOp2 aIsN (mCall sd_add_job [] (mcCons (mVar 0) (mcCons (mVar 3) (mcCons (mVar 4) (mcCons (mVar 1) (mcNil)))))) (mC .non))) (aAug bAdd 3 (mC (.int 1))) k P (envL J (.val (.int (j : Int))) s2 m ds)
  | 0, m, ds, ok, fin => ok.elim
  | k + 1, m, ds, ok, fin => by
    obtain ⟨o0, o1, o2, o3⟩ := ok
    k_allIn
    refine ⟨t, u, rows, m, ds, j, by rw [hJ]; rfl, o1, o2, ?_⟩
    unfold growF at fin
    rcases ha : addF rows m ds j with ⟨d', o⟩
    rw [ha] at fin o3
    cases o with
    | none =>
      k_allIn
      exact fin
    | some g =>
      k_allIn
      have ih := grow_walk (s2 := s2) (P := P) hJ k (m + 1) d' o3 fin
      unfold envL at ih
      rw [show ((m + 1 : Nat) : Int) = (m : Int) + 1 by omega] at ih
      exact ih
theorem empty_some {rows : List (List Str)} {j : Nat} {r : List Str} (h : rows[j]? = some r) (e : r = []) (l : ∀ i, i < j → ∀ r, rows[i]? = some r → r ≠ []) : emptyAt rows = some j := by
  unfold emptyAt
  rw [List.findIdx?_eq_some_iff_getElem]
  obtain ⟨hl, e1⟩ := List.getElem?_eq_some_iff.mp h
  refine ⟨hl, by rw [e1, e]; rfl, fun i hi => ?_⟩
  have := l i hi _ (List.getElem?_eq_getElem (by omega))
  simpa using this
theorem empty_none {rows : List (List Str)} (l : ∀ i, i < rows.length → ∀ r, rows[i]? = some r → r ≠ []) : emptyAt rows = none := by
  unfold emptyAt
  rw [List.findIdx?_eq_none_iff]
  intro r hr
  obtain ⟨i, hi⟩ := List.mem_iff_getElem?.mp hr
  have := l i (List.getElem?_eq_some_iff.mp hi).1 r hi
  simpa using this
def L2b : DStm := (mSeq (mSet 3 (mFn aMin (maCons (mC (.int 1)) (maCons (mFn aLen (maCons (mVar 0) (maNil))) (maNil))))) (mSeq (mSetO 4 (mOp2 aMul (mLst (mCons (mC .non) (mNil))) (mFn aLen (maCons (mVar 0) (maNil))))) (mSeq (mFor (mRange1 (mFn aLen (maCons (mVar 0) (maNil)))) (gN 1) bodyL) (mRet (mVar 3)))))
theorem least_b {t u : Bool} {rows : List (List Str)} {s1 s2 : Slot} {R : RV → List Slot → Prop} {E : XP} (p1 : Pl s1) (p2 : Pl s2) (hl : rows.length ≤ 128) (ok : LmOk rows) (h : R (.vl (.int (((lmF rows rows.length).1 : Nat) : Int))) [.no]) :
    L2b { nx := fun e => R (.vl .non) (outs 1 e), rt := fun r e => R r (outs 1 e), ex := fun x fs e => E x fs (outs 1 e) } [.val (jobsD t u rows), s1, s2, .no, .no] := by
  have rl : (rows.map (rowD u)).length = rows.length := List.length_map ..
  have er : List.flatten (List.replicate (((rows.map (rowD u)).length : Int)).toNat [D.non]) = (List.replicate rows.length (none : Option Str)).map oD := by rw [rl]; exact rep_none _
  have em : (if ((((rows.map (rowD u)).length : Nat)) : Int) < 1 then ((((rows.map (rowD u)).length : Nat)) : Int) else 1) = ((min 1 rows.length : Nat) : Int) := by rw [rl]; split <;> omega
  have go : forI [] (gN 1) bodyL { nx := fun e => mRet (mVar 3) { nx := fun e => R (.vl .non) (outs 1 e), rt := fun r e => R r (outs 1 e), ex := fun x fs e => E x fs (outs 1 e) } e, rt := fun r e => R r (outs 1 e), ex := fun x fs e => E x fs (outs 1 e) } (rangeD 0 rows.length) (envL (jobsD t u rows) s1 s2 (lmF rows 0).1 (lmF rows 0).2) := by
    refine forI_inv (fun j env => ∃ s1, Pl s1 ∧ env = envL (jobsD t u rows) s1 s2 (lmF rows j).1 (lmF rows j).2) ⟨s1, p1, rfl⟩ (fun _ _ _ => trivial) ?_ ?_
    · rintro j x env hx ⟨s1, p1, rfl⟩ N hN
      obtain ⟨hj, rfl⟩ := rangeD_get hx
      rw [Int.zero_add]
      k_memK
      refine while_i 200 ?_
      exact grow_walk rfl 200 _ _ (ok j hj) (hN _ ⟨.val (.int (j : Int)), trivial, rfl⟩)
    · rintro env ⟨s1, p1, rfl⟩
      rw [rangeD_len] at *
      unfold envL
      k_allIn
      exact h
  unfold envL dlD lmF at go
  simp only at go
  rw [← er, ← em] at go
  cases t with
  | true =>
    k_allIn
    refine an_i (by rw [rl]; show 1 * _ ≤ _; omega) ?_
    k_allIn
    rw [← rl] at go
    exact go
  | false =>
    k_allIn
    refine an_i (by rw [rl]; show 1 * _ ≤ _; omega) ?_
    k_allIn
    rw [← rl] at go
    exact go
theorem sp_least_most : ∀ args R E, sd_least_most args R E → m_least_most sd_need_jobs sd_add_job { nx := fun e => R (.vl .non) (outs 1 e), rt := fun r e => R r (outs 1 e), ex := fun x fs e => E x fs (outs 1 e) } (startE 5 args) := by
  rintro args R E ⟨t, u, rows, rfl, ok, h⟩
  have walk : forI [] (gT 2 (gsCons (gN 1) (gsCons (gN 2) gsNil))) (mIfS (mB (mOp2 aEq (mFn aLen (maCons (mVar 2) maNil)) (mC (.int 0)))) (mRaise cx_NoDoer "at" (mVar 1)) mSkip)
      { nx := L2b { nx := fun e => R (.vl .non) (outs 1 e), rt := fun r e => R r (outs 1 e), ex := fun x fs e => E x fs (outs 1 e) }, rt := fun r e => R r (outs 1 e), ex := fun x fs e => E x fs (outs 1 e) } (enumD 0 (rows.map (rowD u))) [.val (jobsD t u rows), .no, .no, .no, .no] := by
    refine forI_inv (fun j env => (∀ i, i < j → ∀ r, rows[i]? = some r → r ≠ []) ∧ ∃ a b, env = [.val (jobsD t u rows), a, b, .no, .no] ∧ Pl a ∧ Pl b) ⟨fun i hi => absurd hi (Nat.not_lt_zero i), .no, .no, rfl, trivial, trivial⟩ (fun _ _ _ => trivial) ?_ ?_
    · rintro j x env hx ⟨hlow, a, b, rfl, na, nb⟩ N hN
      rw [enumD_get] at hx
      obtain ⟨y, hy, rfl⟩ := Option.map_eq_some_iff.mp hx
      rw [List.getElem?_map] at hy
      obtain ⟨r, hr, rfl⟩ := Option.map_eq_some_iff.mp hy
      rw [Nat.zero_add]
      have next : r ≠ [] → ∀ i, i < j + 1 → ∀ r, rows[i]? = some r → r ≠ [] := fun hne i hi r' hr' => by
        rcases Nat.lt_or_ge i j with z | z
        · exact hlow i z r' hr'
        · have : i = j := by omega
          subst this
          rw [hr] at hr'; cases hr'; exact hne
      have tell : r = [] → E cx_NoDoer [("at", .int (j : Int))] [.no] := fun e => by
        rw [empty_some hr e hlow] at h
        exact h
      cases u with
      | true =>
        k_allIn
        refine ite_i (fun c => ?_) (fun c => ?_)
        · k_allIn
          exact tell (by simpa using c)
        · exact hN _ ⟨next (by rintro rfl; exact c rfl), _, _, rfl, trivial, trivial⟩
      | false =>
        k_allIn
        refine ite_i (fun c => ?_) (fun c => ?_)
        · k_allIn
          exact tell (by simpa using c)
        · exact hN _ ⟨next (by rintro rfl; exact c rfl), _, _, rfl, trivial, trivial⟩
    · rintro env ⟨hlow, a, b, rfl, na, nb⟩
      rw [enumD_length, List.length_map] at hlow
      rw [empty_none hlow] at h
      exact least_b na nb ok.le h.1 h.2
  cases t with
  | true =>
    k_allIn
    refine ⟨true, u, rows, rfl, ok, ?_⟩
    k_allIn
    exact walk
  | false =>
    k_allIn
    refine ⟨false, u, rows, rfl, ok, ?_⟩
    k_allIn
    exact walk
end
end Law

set_option Elab.async false
set_option linter.all false
set_option maxRecDepth 100000
set_option maxHeartbeats 4000000
set_option autoImplicit false
namespace Law
open PySem L2 DL
section
local macro_rules | `(tactic| k_upd) => `(tactic| (first | exact trivial | exact rfl | ((try dsimp only); first | assumption | exact fits62 (by omega) (by omega) | exact cmul_s (by omega) (by omega) | exact cpow_s (by omega) (by omega) (by omega) | exact And.intro (by omega) (clog_s (by omega)) | exact Nat.le_of_ble_eq_true rfl | decide | omega)))
local macro_rules | `(tactic| k_memK) => `(tactic| first | (refine an_i ?_ ?_; focus k_upd) | refine ex_i rfl ?_ | refine ite_t rfl ?_ | refine ite_f Bool.false_ne_true ?_)
local macro_rules | `(tactic| k_allIn) => `(tactic| repeat k_memK)

set_option pp.deepTerms false
set_option pp.maxSteps 1500

/-! _law_mixed -/
def sd_l_mixed : DSpec := fun args R => ∃ (m : Int) (d : D) (xs : List D), args = [.own true d, .val (.lst xs)] ∧ Bx m d ∧ 0 ≤ m ∧ m < 5000 ∧ xs.length ≤ 200 ∧ (∀ x ∈ xs, D.lvl 59 x = true) ∧
  ∀ ys d', ys.Perm xs → Bx (m + xs.length) d' → R (.tm (.lst ys)) [.own true d', .no]
theorem len_l_mixed : ∀ args R, sd_l_mixed args R → args.length = 2 := by rintro args R ⟨m, d, xs, rfl, _⟩; rfl
theorem perm_erase {α : Type} : ∀ {l : List α} {n : Nat} {y : α}, l[n]? = some y → (y :: l.eraseIdx n).Perm l
  | x :: l, 0, y, h => by simp at h; subst h; simp
  | x :: l, n + 1, y, h => by
    have := perm_erase (l := l) (n := n) (by simpa using h)
    rw [List.eraseIdx_cons_succ]
    exact (List.Perm.swap x y _).trans (this.cons x)
theorem sp_l_mixed : ∀ args R, sd_l_mixed args R → m_l_mixed sd_l_take { nx := fun e => R (.vl .non) (outs 2 e), rt := fun r e => R r (outs 2 e) } (startE 4 args) := by
  rintro args R ⟨m, d, xs, rfl, B, h0, h1, hl, hx, fin⟩
  k_allIn
  refine an_i (fun k z => nomatch z) ?_
  k_allIn
  refine while_i (xs.length + 1) ?_
  refine while_inv (fun n env => ∃ left found d', left.length = n ∧ n ≤ xs.length ∧ (found ++ left).Perm xs ∧ Bx (m + xs.length - n) d' ∧ env = [.own true d', .val (.lst xs), .own false (.lst left), .own false (.lst found)]) ?_ _ _ ⟨xs, [], d, rfl, Nat.le_refl _, List.Perm.refl _, B.mono (by omega), rfl⟩
  rintro n env ⟨left, found, d', rfl, hn, pm, Bd, rfl⟩ N hN
  have fl : found.length + left.length = xs.length := by have := pm.length_eq; simpa using this
  have lv : D.lvl 60 (.lst left) = true := by
    show left.all (D.lvl 59) = true
    rw [List.all_eq_true]
    exact fun x q => hx x (pm.subset (by simp [q]))
  cases left with
  | nil =>
    k_allIn
    exact fin _ _ (by simpa using pm) (Bd.mono (by simp))
  | cons a left =>
    k_allIn
    refine take_i Bd (by omega) (by simp) (by simp at hn ⊢; omega) rfl fun k d3 k0 k1 B3 => ?_
    k_allIn
    obtain ⟨k, rfl⟩ : ∃ n : Nat, k = (n : Int) := ⟨k.toNat, by omega⟩
    have hk : k < (a :: left).length := by omega
    have g := List.getElem?_eq_getElem hk
    refine ⟨k, _, seqIx_nat hk, fits62 (by omega) (by simp at hn hk; omega), g, ?_⟩
    k_allIn
    have ll : ((a :: left).eraseIdx k).length = left.length := by rw [List.length_eraseIdx_of_lt hk]; rfl
    refine hN left.length _ (by simp) ⟨_, _, d3, ll, by simp at hn; omega, ?_, B3.mono (by simp; omega), rfl⟩
    rw [List.append_assoc]
    exact ((perm_erase g).append_left found).trans pm

/-! _law_told -/
def toldD (rows : List (List Str)) : D := match emptyAt rows with
  | some j => .tup [.str "nobody", .int (j : Int)]
  | none => .tup [.str "told", .int (((lmF rows rows.length).1 : Nat) : Int)]
def ToldOk (rows : List (List Str)) : Prop := JobsOk rows ∧ (emptyAt rows = none → LmOk rows)
def sd_l_told : DSpecX := fun args R E => ∃ (t u : Bool) (rows : List (List Str)), args = [.val (jobsD t u rows)] ∧ ToldOk rows ∧ R (.vl (toldD rows)) [.no]
theorem len_l_told : ∀ args R E, sd_l_told args R E → args.length = 1 := by rintro args R E ⟨t, u, rows, rfl, _⟩; rfl
theorem sp_l_told : ∀ args R E, sd_l_told args R E → m_l_told sd_least_most { nx := fun e => R (.vl .non) (outs 1 e), rt := fun r e => R r (outs 1 e), ex := fun x fs e => E x fs (outs 1 e) } (startE 2 args) := by
  rintro args R E ⟨t, u, rows, rfl, ok, h⟩
  unfold toldD at h
  k_allIn
  refine ⟨t, u, rows, rfl, ok.1, ?_⟩
  cases he : emptyAt rows with
  | some j =>
    rw [he] at h
    k_allIn
    intro a dd
    k_allIn
    exact h
  | none =>
    rw [he] at h
    refine ⟨ok.2 he, ?_⟩
    k_allIn
    exact h
end
end Law

set_option Elab.async false
set_option linter.all false
set_option maxRecDepth 100000
set_option maxHeartbeats 4000000
set_option autoImplicit false
namespace Law
open PySem L2 DL
section
local macro_rules | `(tactic| k_upd) => `(tactic| (first | exact trivial | exact rfl | ((try dsimp only); first | assumption | exact fits62 (by omega) (by omega) | exact cmul_s (by omega) (by omega) | exact cpow_s (by omega) (by omega) (by omega) | exact And.intro (by omega) (clog_s (by omega)) | exact Nat.le_of_ble_eq_true rfl | decide | omega)))
local macro_rules | `(tactic| k_memK) => `(tactic| first | (refine an_i ?_ ?_; focus k_upd) | refine ex_i rfl ?_ | refine ite_t rfl ?_ | refine ite_f Bool.false_ne_true ?_)
local macro_rules | `(tactic| k_allIn) => `(tactic| repeat k_memK)

local macro_rules | `(tactic| row_arm1w $t) => `(tactic| first | refine $t | (k_memK; row_arm1w $t))
set_option pp.deepTerms false
set_option pp.maxSteps 1500

/-! _law_right -/
theorem deq_strs : ∀ r : List Str, deq (.lst (r.map .str)) (.lst (r.map .str)) = true
  | [] => deq_nil
  | s :: r => by rw [List.map_cons, deq_cons, deq_strs r]; simp
theorem deq_rows : ∀ rows : List (List Str), deq (.lst (rows.map (rowD false))) (.lst (rows.map (rowD false))) = true
  | [] => deq_nil
  | r :: rows => by
    rw [List.map_cons, deq_cons, deq_rows rows, Bool.and_true]
    exact deq_strs r
theorem lvl_rows (rows : List (List Str)) (n : Nat) : D.lvl (n + 2) (.lst (rows.map (rowD false))) = true := by
  show (rows.map (rowD false)).all (D.lvl (n + 1)) = true
  rw [List.all_map, List.all_eq_true]
  intro r _
  exact lvl_row r n
structure RightOk (names : List Str) (rows : List (List Str)) : Prop where
  told : ToldOk rows
  n1 : 1 ≤ names.length
  n6 : names.length ≤ 6
  none : emptyAt rows = Option.none ↔ ¬ 0 ∈ rows.map (maskN names)
  least : emptyAt rows = Option.none → (lmF rows rows.length).1 = leastN (rows.map (maskN names)) names.length
  deal : emptyAt rows = Option.none → leastN (rows.map (maskN names)) names.length ≠ 0 → CallOk rows (leastN (rows.map (maskN names)) names.length) ∧ (resF rows (leastN (rows.map (maskN names)) names.length)).2 = Option.none
  gap : emptyAt rows = Option.none → ∀ m, leastN (rows.map (maskN names)) names.length = m + 1 → m ≠ 0 → CallOk rows m ∧ ∃ g, (resF rows m).2 = some g
def sd_l_right : DSpec := fun args R => ∃ (rows : List (List Str)) (names : List Str), args = [.val (.lst (rows.map (rowD false))), .val (.lst (names.map .str))] ∧ RightOk names rows ∧ R (.vl (.bl true)) [.no, .no]
theorem len_l_right : ∀ args R, sd_l_right args R → args.length = 2 := by rintro args R ⟨rows, names, rfl, _⟩; rfl
theorem empty_index {rows : List (List Str)} {j : Nat} (h : emptyAt rows = some j) : (∃ z, (rows.map fun r => D.int ((r.length : Nat) : Int))[j]? = some z ∧ feq z (.int 0) = true) ∧
    ∀ (m : Nat) (z : D), m < j → (rows.map fun r => D.int ((r.length : Nat) : Int))[m]? = some z → feq z (.int 0) = false := by
  unfold emptyAt at h
  rw [List.findIdx?_eq_some_iff_getElem] at h
  obtain ⟨hl, h1, h2⟩ := h
  refine ⟨⟨_, by rw [List.getElem?_map, List.getElem?_eq_getElem hl]; rfl, ?_⟩, fun m z hm hz => ?_⟩
  · have : rows[j] = [] := by simpa using h1
    rw [this]; rfl
  · have hm2 : m < rows.length := by omega
    rw [List.getElem?_map, List.getElem?_eq_getElem hm2] at hz
    simp only [Option.map_some, Option.some.injEq] at hz
    subst hz
    have := h2 m hm
    have : rows[m] ≠ [] := by simpa using this
    simp [this]
def R4 : DStm := (mSeq (mSet 4 (mLc (mIt (mVar 0)) (gN 6) (mYes) (mFn aList (maCons (mVar 6) (maNil))) [6])) (mSeq (mSet 5 (mCall (noX sd_l_told) [] (mcCons (mVar 4) (mcNil)))) (mSeq (mIfS (mOrT (mB (mOp2 aNe (mVar 5) (mVar 3))) (mOrT (mNotT (mTru (mIsi (mOp2 aIx (mVar 5) (mC (.int 1))) "int"))) (mOrT (mTru (mIsi (mOp2 aIx (mVar 5) (mC (.int 1))) "bool")) (mB (mOp2 aNe (mVar 4) (mVar 0)))))) (mRet (mC (.bl false))) (mSkip)) (mSeq (mIfS (mOrT (mB (mOp2 aIs (mVar 2) (mC .non))) (mB (mOp2 aEq (mVar 2) (mC (.int 0))))) (mRet (mC (.bl true))) (mSkip)) (mSeq (mIfS (mOrT (mB (mOp2 aIs (mCall (noX sd_deal_of) [] (mcCons (mVar 0) (mcCons (mVar 2) (mcNil)))) (mC .non))) (mB (mOp2 aIsN (mCall (noX sd_gap_of) [] (mcCons (mVar 0) (mcCons (mVar 2) (mcNil)))) (mC .non)))) (mRet (mC (.bl false))) (mSkip)) (mRet (mOrV (mOp2 aEq (mVar 2) (mC (.int 1))) (mAndV (mOp2 aIs (mCall (noX sd_deal_of) [] (mcCons (mVar 0) (mcCons (mOp2 aSub (mVar 2) (mC (.int 1))) (mcNil)))) (mC .non)) (mOp2 aIsN (mCall (noX sd_gap_of) [] (mcCons (mVar 0) (mcCons (mOp2 aSub (mVar 2) (mC (.int 1))) (mcNil)))) (mC .non))))))))))
def R6 : DStm := (mSeq (mIfS (mOrT (mB (mOp2 aNe (mVar 5) (mVar 3))) (mOrT (mNotT (mTru (mIsi (mOp2 aIx (mVar 5) (mC (.int 1))) "int"))) (mOrT (mTru (mIsi (mOp2 aIx (mVar 5) (mC (.int 1))) "bool")) (mB (mOp2 aNe (mVar 4) (mVar 0)))))) (mRet (mC (.bl false))) (mSkip)) (mSeq (mIfS (mOrT (mB (mOp2 aIs (mVar 2) (mC .non))) (mB (mOp2 aEq (mVar 2) (mC (.int 0))))) (mRet (mC (.bl true))) (mSkip)) (mSeq (mIfS (mOrT (mB (mOp2 aIs (mCall (noX sd_deal_of) [] (mcCons (mVar 0) (mcCons (mVar 2) (mcNil)))) (mC .non))) (mB (mOp2 aIsN (mCall (noX sd_gap_of) [] (mcCons (mVar 0) (mcCons (mVar 2) (mcNil)))) (mC .non)))) (mRet (mC (.bl false))) (mSkip)) (mRet (mOrV (mOp2 aEq (mVar 2) (mC (.int 1))) (mAndV (mOp2 aIs (mCall (noX sd_deal_of) [] (mcCons (mVar 0) (mcCons (mOp2 aSub (mVar 2) (mC (.int 1))) (mcNil)))) (mC .non)) (mOp2 aIsN (mCall (noX sd_gap_of) [] (mcCons (mVar 0) (mcCons (mOp2 aSub (mVar 2) (mC (.int 1))) (mcNil)))) (mC .non))))))))
abbrev PostR (R : RV → List Slot → Prop) : Post := { nx := fun e => R (.vl .non) (outs 2 e), rt := fun r e => R r (outs 2 e) }
theorem right6_none {R : RV → List Slot → Prop} {rows : List (List Str)} {N : D} {j : Nat} (h : R (.vl (.bl true)) [.no, .no]) :
    R6 (PostR R) [.val (.lst (rows.map (rowD false))), .val N, .val .non, .val (.tup [.str "nobody", .int (j : Int)]), .val (.lst (rows.map (rowD false))), .val (.tup [.str "nobody", .int (j : Int)]), .no] := by
  k_allIn
  refine ite_f (by rw [deq_tcons, deq_tcons, deq_tnil, deq_str, deq_int]; simp) ?_
  k_allIn
  refine an_i (lvl_rows rows 58) ?_
  refine an_i (lvl_rows rows 58) ?_
  k_allIn
  refine ite_f (by rw [deq_rows]; simp) ?_
  k_allIn
  exact h
theorem right6_some {R : RV → List Slot → Prop} {rows : List (List Str)} {N : D} {L : Nat} (hd : L ≠ 0 → CallOk rows L ∧ (resF rows L).2 = none) (hg : ∀ m, L = m + 1 → m ≠ 0 → CallOk rows m ∧ ∃ g, (resF rows m).2 = some g) (h : R (.vl (.bl true)) [.no, .no]) :
    R6 (PostR R) [.val (.lst (rows.map (rowD false))), .val N, .val (.int (L : Int)), .val (.tup [.str "told", .int (L : Int)]), .val (.lst (rows.map (rowD false))), .val (.tup [.str "told", .int (L : Int)]), .no] := by
  k_allIn
  refine ite_f (by rw [deq_tcons, deq_tcons, deq_tnil, deq_str, deq_int]; simp) ?_
  k_allIn
  refine an_i (lvl_rows rows 58) ?_
  refine an_i (lvl_rows rows 58) ?_
  k_allIn
  refine ite_f (by rw [deq_rows]; simp) ?_
  k_allIn
  refine ite_i (fun c => ?_) (fun c => ?_)
  · k_allIn
    exact h
  · have l0 : L ≠ 0 := by
      rintro rfl
      exact c (by rw [deq_int]; rfl)
    obtain ⟨c1, c2⟩ := hd l0
    have e1 : resF rows L = ((resF rows L).1, none) := by rw [← c2]
    k_allIn
    refine ⟨false, false, rows, L, rfl, c1, ?_⟩
    rw [e1]
    simp only [res2]
    k_allIn
    refine ⟨false, false, rows, L, rfl, c1, ?_⟩
    rw [e1]
    simp only [res2]
    k_allIn
    refine ite_i (fun c => ?_) (fun c => ?_)
    · k_allIn
      exact h
    · have l1 : L ≠ 1 := by
        rintro rfl
        exact c (by rw [deq_int]; rfl)
      obtain ⟨m, rfl⟩ : ∃ m, L = m + 1 := ⟨L - 1, by omega⟩
      obtain ⟨c3, g, c4⟩ := hg m rfl (by omega)
      have e2 : resF rows m = ((resF rows m).1, some g) := by rw [← c4]
      have em : ((m + 1 : Nat) : Int) - 1 = (m : Int) := by omega
      k_allIn
      refine ⟨false, false, rows, m, by rw [← em]; rfl, c3, ?_⟩
      rw [e2]
      simp only [res2]
      k_allIn
      refine ⟨false, false, rows, m, by rw [← em]; rfl, c3, ?_⟩
      rw [e2]
      simp only [res2]
      k_allIn
      exact h
theorem right4 {R : RV → List Slot → Prop} {rows : List (List Str)} {N L D2 : D} (ok : ToldOk rows) (hl : rows.length ≤ 128)
    (h : R6 (PostR R) [.val (.lst (rows.map (rowD false))), .val N, .val L, .val D2, .val (.lst (rows.map (rowD false))), .val (toldD rows), .no]) :
    R4 (PostR R) [.val (.lst (rows.map (rowD false))), .val N, .val L, .val D2, .no, .no, .no] := by
  k_allIn
  refine compI_list (fun d => match d with
    | .lst r => some (.lst r)
    | _ => none) (by exact trivial) (by rw [List.length_map]; omega) (fun x hx K hK => ?_) ?_
  · obtain ⟨r, hr, rfl⟩ := List.mem_map.mp hx
    k_allIn
    exact hK
  have eT : ((rows.map (rowD false)).filterMap fun d => match d with
    | .lst r => some (D.lst r)
    | _ => none) = rows.map (rowD false) := by
    rw [List.filterMap_map, ← List.filterMap_eq_map]; rfl
  rw [eT]
  row_arm1w ⟨false, false, rows, rfl, ok, ?_⟩
  row_arm1w h
theorem sp_l_right : ∀ args R, sd_l_right args R → m_l_right sd_deal_of sd_gap_of sd_l_least sd_l_told { nx := fun e => R (.vl .non) (outs 2 e), rt := fun r e => R r (outs 2 e) } (startE 7 args) := by
  rintro args R ⟨rows, names, rfl, ok, h⟩
  have hl := ok.told.1.le
  have h1 := ok.n1
  have h6 := ok.n6
  k_allIn
  refine ⟨rows, names, rfl, hl, h1, by omega, ?_⟩
  cases he : emptyAt rows with
  | some j =>
    have z : 0 ∈ rows.map (maskN names) := Classical.byContradiction fun q => by
      have := ok.none.mpr q
      rw [he] at this; cases this
    have e : toldD rows = .tup [.str "nobody", .int (j : Int)] := by unfold toldD; rw [he]
    rw [if_pos z]
    k_allIn
    refine compI_list (fun d => match d with
      | .lst r => some (.int ((r.length : Nat) : Int))
      | _ => none) (by exact trivial) (by rw [List.length_map]; omega) (fun x hx K hK => ?_) ?_
    · obtain ⟨r, hr, rfl⟩ := List.mem_map.mp hx
      k_allIn
      exact hK
    have eT : ((rows.map (rowD false)).filterMap fun d => match d with
      | .lst r => some (D.int ((r.length : Nat) : Int))
      | _ => none) = rows.map fun r => D.int ((r.length : Nat) : Int) := by
      rw [List.filterMap_map, ← List.filterMap_eq_map]
      refine congrFun (congrArg _ (funext fun r => ?_)) _
      show some (D.int (((r.map D.str).length : Nat) : Int)) = _
      rw [List.length_map]; rfl
    rw [eT]
    obtain ⟨i1, i2⟩ := empty_index he
    k_allIn
    refine ⟨j, rfl, by rw [List.all_map, List.all_eq_true]; intro r _; rfl, i1, i2, ?_⟩
    have := right6_none (R := R) (rows := rows) (N := .lst (names.map .str)) (j := j) h
    rw [← e] at this
    row_arm1w right4 ok.told hl ?_
    rw [e]
    rw [e] at this
    exact this
  | none =>
    have z := ok.none.mp he
    have e : toldD rows = .tup [.str "told", .int ((leastN (rows.map (maskN names)) names.length : Nat) : Int)] := by unfold toldD; rw [he, ← ok.least he]
    have := right6_some (R := R) (rows := rows) (N := .lst (names.map .str)) (ok.deal he) (ok.gap he) h
    rw [if_neg z]
    row_arm1w right4 ok.told hl ?_
    rw [e]
    exact this
end
end Law

set_option Elab.async false
set_option linter.all false
set_option maxRecDepth 100000
set_option maxHeartbeats 4000000
set_option autoImplicit false
namespace Law
open PySem L2 DL
section
local macro_rules | `(tactic| k_upd) => `(tactic| (first | exact trivial | exact rfl | ((try dsimp only); first | assumption | exact fits62 (by omega) (by omega) | exact cmul_s (by omega) (by omega) | exact cpow_s (by omega) (by omega) (by omega) | exact And.intro (by omega) (clog_s (by omega)) | exact Nat.le_of_ble_eq_true rfl | decide | omega)))
local macro_rules | `(tactic| k_memK) => `(tactic| first | (refine an_i ?_ ?_; focus k_upd) | refine ex_i rfl ?_ | refine ite_t rfl ?_ | refine ite_f Bool.false_ne_true ?_)
local macro_rules | `(tactic| k_allIn) => `(tactic| repeat k_memK)

local macro_rules | `(tactic| row_arm1w $t) => `(tactic| first | refine $t | (k_memK; row_arm1w $t))
set_option pp.deepTerms false
set_option pp.maxSteps 1500

def PlainLaw : Prop := ∀ (names : List Str) (rows : List (List Str)), (∀ s ∈ names, okName s) → names.Nodup → 1 ≤ names.length → names.length ≤ 6 → rows.length ≤ 128 → (∀ r ∈ rows, RowIn names r) → RightOk names rows
def sd_law : DSpec := fun args R => PlainLaw ∧ ∃ ns : List Int, args = [.val (.scr ns)] ∧ ns.length ≤ 63 ∧ R (.vl (.bl true)) [.no]
theorem len_law : ∀ args R, sd_law args R → args.length = 1 := by rintro args R ⟨_, ns, rfl, _⟩; rfl
def T4 : DStm := mSeq (mSet 4 (mOp2 aIx (mLst (mCons (mCall sd_l_take [] (mcCons (mVar 2) (mcCons (mC (.int 15)) (mcNil)))) (mCons (mOp2 aSub (mC (.int 128)) (mCall sd_l_take [] (mcCons (mVar 2) (mcCons (mC (.int 40)) (mcNil))))) (mNil)))) (mOp2 aFdiv (mCall sd_l_take [] (mcCons (mVar 2) (mcCons (mC (.int 8)) (mcNil)))) (mC (.int 7))))) (mSeq (mSet 5 (mCall sd_l_rows [] (mcCons (mVar 2) (mcCons (mVar 3) (mcCons (mVar 4) (mcNil)))))) (mSeq (mIfS (mNotT (mTru (mCall sd_l_right [] (mcCons (mVar 5) (mcCons (mVar 3) (mcNil)))))) (mRet (mC (.bl false))) (mSkip)) (mSeq (mSet 6 (mLc (mIt (mCall sd_l_mixed [] (mcCons (mVar 2) (mcCons (mVar 5) (mcNil))))) (gN 8) (mYes) (mRev (mVar 8)) [8])) (mSeq (mSet 7 (mCall sd_l_least [] (mcCons (mVar 5) (mcCons (mVar 3) (mcNil))))) (mSeq (mIfS (mAndT (mB (mOp2 aIsN (mVar 7) (mC .non))) (mOrT (mB (mOp2 aNe (mCall (noX sd_l_told) [] (mcCons (mFn aTuple (maCons (mVar 6) (maNil))) (mcNil))) (mTup (mCons (mC (.str "told")) (mCons (mVar 7) (mNil)))))) (mB (mOp2 aNe (mCall (noX sd_l_told) [] (mcCons (mVar 5) (mcNil))) (mTup (mCons (mC (.str "told")) (mCons (mVar 7) (mNil)))))))) (mRet (mC (.bl false))) (mSkip)) (mIfS (mOrT (mNotT (mTru (mCall sd_l_right [] (mcCons (mSl (mVar 6) (moNo) (moSo (mNeg (mC (.int 1))))) (mcCons (mVar 3) (mcNil)))))) (mNotT (mTru (mCall sd_l_right [] (mcCons (mOp2 aAdd (mSl (mVar 6) (moNo) (moSo (mC (.int 127)))) (mLst (mCons (mSl (mVar 3) (moNo) (moSo (mC (.int 2)))) (mNil)))) (mcCons (mVar 3) (mcNil))))))) (mRet (mC (.bl false))) (mSkip)))))))
def T5 : DStm := mSeq (mSet 5 (mCall sd_l_rows [] (mcCons (mVar 2) (mcCons (mVar 3) (mcCons (mVar 4) (mcNil)))))) (mSeq (mIfS (mNotT (mTru (mCall sd_l_right [] (mcCons (mVar 5) (mcCons (mVar 3) (mcNil)))))) (mRet (mC (.bl false))) (mSkip)) (mSeq (mSet 6 (mLc (mIt (mCall sd_l_mixed [] (mcCons (mVar 2) (mcCons (mVar 5) (mcNil))))) (gN 8) (mYes) (mRev (mVar 8)) [8])) (mSeq (mSet 7 (mCall sd_l_least [] (mcCons (mVar 5) (mcCons (mVar 3) (mcNil))))) (mSeq (mIfS (mAndT (mB (mOp2 aIsN (mVar 7) (mC .non))) (mOrT (mB (mOp2 aNe (mCall (noX sd_l_told) [] (mcCons (mFn aTuple (maCons (mVar 6) (maNil))) (mcNil))) (mTup (mCons (mC (.str "told")) (mCons (mVar 7) (mNil)))))) (mB (mOp2 aNe (mCall (noX sd_l_told) [] (mcCons (mVar 5) (mcNil))) (mTup (mCons (mC (.str "told")) (mCons (mVar 7) (mNil)))))))) (mRet (mC (.bl false))) (mSkip)) (mIfS (mOrT (mNotT (mTru (mCall sd_l_right [] (mcCons (mSl (mVar 6) (moNo) (moSo (mNeg (mC (.int 1))))) (mcCons (mVar 3) (mcNil)))))) (mNotT (mTru (mCall sd_l_right [] (mcCons (mOp2 aAdd (mSl (mVar 6) (moNo) (moSo (mC (.int 127)))) (mLst (mCons (mSl (mVar 3) (moNo) (moSo (mC (.int 2)))) (mNil)))) (mcCons (mVar 3) (mcNil))))))) (mRet (mC (.bl false))) (mSkip))))))
def T6 : DStm := mSeq (mIfS (mNotT (mTru (mCall sd_l_right [] (mcCons (mVar 5) (mcCons (mVar 3) (mcNil)))))) (mRet (mC (.bl false))) (mSkip)) (mSeq (mSet 6 (mLc (mIt (mCall sd_l_mixed [] (mcCons (mVar 2) (mcCons (mVar 5) (mcNil))))) (gN 8) (mYes) (mRev (mVar 8)) [8])) (mSeq (mSet 7 (mCall sd_l_least [] (mcCons (mVar 5) (mcCons (mVar 3) (mcNil))))) (mSeq (mIfS (mAndT (mB (mOp2 aIsN (mVar 7) (mC .non))) (mOrT (mB (mOp2 aNe (mCall (noX sd_l_told) [] (mcCons (mFn aTuple (maCons (mVar 6) (maNil))) (mcNil))) (mTup (mCons (mC (.str "told")) (mCons (mVar 7) (mNil)))))) (mB (mOp2 aNe (mCall (noX sd_l_told) [] (mcCons (mVar 5) (mcNil))) (mTup (mCons (mC (.str "told")) (mCons (mVar 7) (mNil)))))))) (mRet (mC (.bl false))) (mSkip)) (mIfS (mOrT (mNotT (mTru (mCall sd_l_right [] (mcCons (mSl (mVar 6) (moNo) (moSo (mNeg (mC (.int 1))))) (mcCons (mVar 3) (mcNil)))))) (mNotT (mTru (mCall sd_l_right [] (mcCons (mOp2 aAdd (mSl (mVar 6) (moNo) (moSo (mC (.int 127)))) (mLst (mCons (mSl (mVar 3) (moNo) (moSo (mC (.int 2)))) (mNil)))) (mcCons (mVar 3) (mcNil))))))) (mRet (mC (.bl false))) (mSkip)))))
def T7 : DStm := mSeq (mSet 6 (mLc (mIt (mCall sd_l_mixed [] (mcCons (mVar 2) (mcCons (mVar 5) (mcNil))))) (gN 8) (mYes) (mRev (mVar 8)) [8])) (mSeq (mSet 7 (mCall sd_l_least [] (mcCons (mVar 5) (mcCons (mVar 3) (mcNil))))) (mSeq (mIfS (mAndT (mB (mOp2 aIsN (mVar 7) (mC .non))) (mOrT (mB (mOp2 aNe (mCall (noX sd_l_told) [] (mcCons (mFn aTuple (maCons (mVar 6) (maNil))) (mcNil))) (mTup (mCons (mC (.str "told")) (mCons (mVar 7) (mNil)))))) (mB (mOp2 aNe (mCall (noX sd_l_told) [] (mcCons (mVar 5) (mcNil))) (mTup (mCons (mC (.str "told")) (mCons (mVar 7) (mNil)))))))) (mRet (mC (.bl false))) (mSkip)) (mIfS (mOrT (mNotT (mTru (mCall sd_l_right [] (mcCons (mSl (mVar 6) (moNo) (moSo (mNeg (mC (.int 1))))) (mcCons (mVar 3) (mcNil)))))) (mNotT (mTru (mCall sd_l_right [] (mcCons (mOp2 aAdd (mSl (mVar 6) (moNo) (moSo (mC (.int 127)))) (mLst (mCons (mSl (mVar 3) (moNo) (moSo (mC (.int 2)))) (mNil)))) (mcCons (mVar 3) (mcNil))))))) (mRet (mC (.bl false))) (mSkip))))
def T8 : DStm := mSeq (mSet 7 (mCall sd_l_least [] (mcCons (mVar 5) (mcCons (mVar 3) (mcNil))))) (mSeq (mIfS (mAndT (mB (mOp2 aIsN (mVar 7) (mC .non))) (mOrT (mB (mOp2 aNe (mCall (noX sd_l_told) [] (mcCons (mFn aTuple (maCons (mVar 6) (maNil))) (mcNil))) (mTup (mCons (mC (.str "told")) (mCons (mVar 7) (mNil)))))) (mB (mOp2 aNe (mCall (noX sd_l_told) [] (mcCons (mVar 5) (mcNil))) (mTup (mCons (mC (.str "told")) (mCons (mVar 7) (mNil)))))))) (mRet (mC (.bl false))) (mSkip)) (mIfS (mOrT (mNotT (mTru (mCall sd_l_right [] (mcCons (mSl (mVar 6) (moNo) (moSo (mNeg (mC (.int 1))))) (mcCons (mVar 3) (mcNil)))))) (mNotT (mTru (mCall sd_l_right [] (mcCons (mOp2 aAdd (mSl (mVar 6) (moNo) (moSo (mC (.int 127)))) (mLst (mCons (mSl (mVar 3) (moNo) (moSo (mC (.int 2)))) (mNil)))) (mcCons (mVar 3) (mcNil))))))) (mRet (mC (.bl false))) (mSkip)))
def T9 : DStm := mSeq (mIfS (mAndT (mB (mOp2 aIsN (mVar 7) (mC .non))) (mOrT (mB (mOp2 aNe (mCall (noX sd_l_told) [] (mcCons (mFn aTuple (maCons (mVar 6) (maNil))) (mcNil))) (mTup (mCons (mC (.str "told")) (mCons (mVar 7) (mNil)))))) (mB (mOp2 aNe (mCall (noX sd_l_told) [] (mcCons (mVar 5) (mcNil))) (mTup (mCons (mC (.str "told")) (mCons (mVar 7) (mNil)))))))) (mRet (mC (.bl false))) (mSkip)) (mIfS (mOrT (mNotT (mTru (mCall sd_l_right [] (mcCons (mSl (mVar 6) (moNo) (moSo (mNeg (mC (.int 1))))) (mcCons (mVar 3) (mcNil)))))) (mNotT (mTru (mCall sd_l_right [] (mcCons (mOp2 aAdd (mSl (mVar 6) (moNo) (moSo (mC (.int 127)))) (mLst (mCons (mSl (mVar 3) (moNo) (moSo (mC (.int 2)))) (mNil)))) (mcCons (mVar 3) (mcNil))))))) (mRet (mC (.bl false))) (mSkip))
def T10 : DStm := mIfS (mOrT (mNotT (mTru (mCall sd_l_right [] (mcCons (mSl (mVar 6) (moNo) (moSo (mNeg (mC (.int 1))))) (mcCons (mVar 3) (mcNil)))))) (mNotT (mTru (mCall sd_l_right [] (mcCons (mOp2 aAdd (mSl (mVar 6) (moNo) (moSo (mC (.int 127)))) (mLst (mCons (mSl (mVar 3) (moNo) (moSo (mC (.int 2)))) (mNil)))) (mcCons (mVar 3) (mcNil))))))) (mRet (mC (.bl false))) (mSkip)
def TF : DStm := mRet (mAndV (mOp2 aEq (mCall (noX sd_l_told) [] (mcCons (mLst (mNil)) (mcNil))) (mTup (mCons (mC (.str "told")) (mCons (mC (.int 0)) (mNil))))) (mOp2 aEq (mCall (noX sd_l_told) [] (mcCons (mLst (mCons (mLst (mCons (mC (.str "a")) (mNil))) (mCons (mLst (mNil)) (mCons (mLst (mCons (mC (.str "b")) (mNil))) (mCons (mLst (mNil)) (mNil)))))) (mcNil))) (mTup (mCons (mC (.str "nobody")) (mCons (mC (.int 1)) (mNil))))))

def leastD (names : List Str) (rows : List (List Str)) : D := if 0 ∈ rows.map (maskN names) then .non else .int ((leastN (rows.map (maskN names)) names.length : Nat) : Int)
theorem perm_map_inv {α β : Type} {f : α → β} : ∀ {ys : List β} {xs : List α}, ys.Perm (xs.map f) → ∃ zs : List α, zs.Perm xs ∧ ys = zs.map f
  | [], xs, h => by
    have := h.symm.eq_nil
    cases xs with
    | nil => exact ⟨[], List.Perm.refl _, rfl⟩
    | cons a l => simp at this
  | y :: ys, xs, h => by
    have hy : y ∈ xs.map f := h.subset (by simp)
    obtain ⟨x, hx, rfl⟩ := List.mem_map.mp hy
    obtain ⟨a, b, rfl⟩ := List.append_of_mem hx
    have h2 : (f x :: ys).Perm (f x :: (a ++ b).map f) := h.trans (by
      rw [List.map_append, List.map_append, List.map_cons]
      exact List.perm_middle)
    obtain ⟨zs, q1, q2⟩ := perm_map_inv ((List.perm_cons _).mp h2)
    exact ⟨x :: zs, (q1.cons x).trans List.perm_middle.symm, by rw [q2]; rfl⟩
theorem count_perm {a b : List Nat} (h : a.Perm b) : countN a = countN b := by
  funext own
  exact (h.filter _).length_eq
theorem least_perm {a b : List Nat} (n : Nat) (h : a.Perm b) : leastN a n = leastN b n := by
  unfold leastN ceilN withinN
  rw [count_perm h]
theorem mask_rev (names r : List Str) : maskN names r.reverse = maskN names r := by
  unfold maskN maskB
  simp
theorem masks_other {names : List Str} {rows zs : List (List Str)} (h : zs.Perm rows) : ((zs.map List.reverse).map (maskN names)).Perm (rows.map (maskN names)) := by
  rw [List.map_map]
  have : (maskN names ∘ List.reverse) = maskN names := funext fun r => mask_rev names r
  rw [this]
  exact h.map _
def cutR {α : Type} (xs : List α) (lo hi : Option Int) : List α := (xs.drop (HT.sIx xs.length 0 lo)).take (HT.sIx xs.length xs.length hi - HT.sIx xs.length 0 lo)
theorem cut_map {α : Type} (f : α → D) (xs : List α) (lo hi : Option Int) : cutD (xs.map f) lo hi = (cutR xs lo hi).map f := by
  unfold cutD cutR
  rw [List.length_map, ← List.map_drop, ← List.map_take]
theorem cutR_sub {α : Type} (xs : List α) (lo hi : Option Int) : (cutR xs lo hi).Sublist xs := (List.take_sublist _ _).trans (List.drop_sublist _ _)
theorem cutR_le {α : Type} (xs : List α) (k : Nat) : (cutR xs none (some (k : Int))).length ≤ k := by
  unfold cutR
  rw [List.length_take, HT.sIx_nat]
  omega
structure Lw (names : List Str) (rows : List (List Str)) : Prop where
  ok : ∀ s ∈ names, okName s
  nd : names.Nodup
  n1 : 1 ≤ names.length
  n6 : names.length ≤ 6
  le : rows.length ≤ 128
  sub : ∀ r ∈ rows, RowIn names r
theorem Lw.right {names : List Str} {rows : List (List Str)} (h : Lw names rows) (pl : PlainLaw) : RightOk names rows := pl names rows h.ok h.nd h.n1 h.n6 h.le h.sub
abbrev envW (ns : List Int) (jj : Int) (d : D) (names : List Str) (many : Int) (rows other : List (List Str)) (s7 s8 : Slot) : List Slot :=
  [.val (.scr ns), .val (.int jj), .own false d, .val (.lst (names.map .str)), .val (.int many), .val (.lst (rows.map (rowD false))), .val (.lst (other.map (rowD false))), s7, s8]
theorem law10 {P : Post} {ns : List Int} {jj many : Int} {d : D} {names : List Str} {rows other : List (List Str)} {s7 s8 : Slot} (pl : PlainLaw) (lo : Lw names other)
    (fin : P.nx (envW ns jj d names many rows other s7 s8)) : T10 P (envW ns jj d names many rows other s7 s8) := by
  have l1 : Lw names (cutR other none (some (-1))) := ⟨lo.ok, lo.nd, lo.n1, lo.n6, Nat.le_trans (cutR_sub _ _ _).length_le lo.le, fun r hr => lo.sub r ((cutR_sub _ _ _).subset hr)⟩
  have l2 : Lw names (cutR other none (some 127) ++ [cutR names none (some 2)]) := ⟨lo.ok, lo.nd, lo.n1, lo.n6, by
    have := cutR_le other 127
    rw [List.length_append]
    simp only [List.length_cons, List.length_nil]
    exact Nat.succ_le_succ this, fun r hr => by
    rcases List.mem_append.mp hr with q | q
    · exact lo.sub r ((cutR_sub _ _ _).subset q)
    · rw [List.mem_singleton.mp q]
      exact RowIn.of_sublist lo.nd (cutR_sub _ _ _)⟩
  have ec : (cutR other none (some 127) ++ [cutR names none (some 2)]).map (rowD false) = cutD (other.map (rowD false)) none (some 127) ++ [.lst (cutD (names.map .str) none (some 2))] := by
    rw [List.map_append, ← cut_map, List.map_cons, List.map_nil]
    show _ ++ [D.lst ((cutR names none (some 2)).map .str)] = _
    rw [← cut_map]
  k_allIn
  refine ⟨cutR other none (some (-1)), names, by rw [← cut_map]; rfl, l1.right pl, ?_⟩
  k_allIn
  refine an_i (by
    have a := cutR_le other 127
    have b := cut_map (rowD false) other none (some 127)
    have c : (cutD (other.map (rowD false)) none (some 127)).length ≤ 127 := by rw [b, List.length_map]; exact a
    unfold cutD at c
    exact Nat.le_trans (Nat.succ_le_succ c) (Nat.le_of_ble_eq_true rfl)) ?_
  k_allIn
  refine ⟨cutR other none (some 127) ++ [cutR names none (some 2)], names, by rw [ec]; rfl, l2.right pl, ?_⟩
  k_allIn
  exact fin
theorem told_none {names : List Str} {rows : List (List Str)} (h : RightOk names rows) (z : ¬ 0 ∈ rows.map (maskN names)) : toldD rows = .tup [.str "told", .int ((leastN (rows.map (maskN names)) names.length : Nat) : Int)] := by
  have e := h.none.mpr z
  unfold toldD
  rw [e, ← h.least e]
theorem law9 {P : Post} {ns : List Int} {jj many : Int} {d : D} {names : List Str} {rows other : List (List Str)} {s8 : Slot} (pl : PlainLaw) (lr : Lw names rows) (lo : Lw names other) (pm : (other.map (maskN names)).Perm (rows.map (maskN names)))
    (fin : P.nx (envW ns jj d names many rows other (.val (leastD names rows)) s8)) : T9 P (envW ns jj d names many rows other (.val (leastD names rows)) s8) := by
  have r1 := lr.right pl
  have r2 := lo.right pl
  by_cases z : 0 ∈ rows.map (maskN names)
  · have e : leastD names rows = .non := if_pos z
    rw [e] at fin ⊢
    row_arm1w law10 pl lo fin
  · have e : leastD names rows = .int ((leastN (rows.map (maskN names)) names.length : Nat) : Int) := if_neg z
    have z2 : ¬ 0 ∈ other.map (maskN names) := fun q => z (pm.subset q)
    have t1 := told_none r1 z
    have t2 := told_none r2 z2
    rw [least_perm _ pm] at t2
    rw [e] at fin ⊢
    generalize ((leastN (rows.map (maskN names)) names.length : Nat) : Int) = L at *
    k_allIn
    refine ⟨true, false, other, rfl, r2.told, ?_⟩
    rw [t2]
    k_allIn
    refine ite_f (by rw [deq_tcons, deq_tcons, deq_tnil, deq_str, deq_int]; simp) ?_
    k_allIn
    refine ⟨false, false, rows, rfl, r1.told, ?_⟩
    rw [t1]
    k_allIn
    refine ite_f (by rw [deq_tcons, deq_tcons, deq_tnil, deq_str, deq_int]; simp) ?_
    row_arm1w law10 pl lo fin
theorem law8 {P : Post} {ns : List Int} {jj many : Int} {d : D} {names : List Str} {rows other : List (List Str)} {s7 s8 : Slot} (p7 : Pl s7) (pl : PlainLaw) (lr : Lw names rows) (lo : Lw names other) (pm : (other.map (maskN names)).Perm (rows.map (maskN names)))
    (fin : P.nx (envW ns jj d names many rows other (.val (leastD names rows)) s8)) : T8 P (envW ns jj d names many rows other s7 s8) := by
  have hl := lr.le
  have h1 := lr.n1
  have h6 := lr.n6
  k_allIn
  refine ⟨rows, names, rfl, by omega, h1, by omega, ?_⟩
  refine an_i (by exact p7) ?_
  exact law9 pl lr lo pm fin
theorem lvl_rowsA (rows : List (List Str)) : ∀ x ∈ rows.map (rowD false), D.lvl 59 x = true := by
  intro x hx
  obtain ⟨r, _, rfl⟩ := List.mem_map.mp hx
  exact lvl_row r 58
theorem law7 {P : Post} {ns : List Int} {jj many : Int} {d : D} {m : Int} {names : List Str} {rows : List (List Str)} {s6 s7 : Slot} (p6 : Pl s6) (p7 : Pl s7) (B : Bx m d) (h0 : 0 ≤ m) (hm : m < 4000) (pl : PlainLaw) (lr : Lw names rows)
    (fin : ∀ d' other, P.nx (envW ns jj d' names many rows other (.val (leastD names rows)) .no)) : T7 P [.val (.scr ns), .val (.int jj), .own false d, .val (.lst (names.map .str)), .val (.int many), .val (.lst (rows.map (rowD false))), s6, s7, .no] := by
  have hl := lr.le
  k_allIn
  refine ⟨m, d, rows.map (rowD false), rfl, B, h0, by omega, by rw [List.length_map]; omega, lvl_rowsA rows, fun ys d' pm B' => ?_⟩
  obtain ⟨zs, q1, rfl⟩ := perm_map_inv pm
  have zl : zs.length = rows.length := q1.length_eq
  k_allIn
  refine compI_list (fun d => match d with
    | .lst r => some (.lst r.reverse)
    | _ => none) (by exact trivial) (by rw [List.length_map]; omega) (fun x hx K hK => ?_) ?_
  · obtain ⟨r, hr, rfl⟩ := List.mem_map.mp hx
    k_allIn
    exact hK
  have eT : ((zs.map (rowD false)).filterMap fun d => match d with
    | .lst r => some (D.lst r.reverse)
    | _ => none) = (zs.map List.reverse).map (rowD false) := by
    rw [List.filterMap_map, List.map_map, ← List.filterMap_eq_map]
    refine congrFun (congrArg _ (funext fun r => ?_)) _
    show some (D.lst (r.map D.str).reverse) = some (D.lst (r.reverse.map D.str))
    rw [List.map_reverse]
  rw [eT]
  have lo : Lw names (zs.map List.reverse) := ⟨lr.ok, lr.nd, lr.n1, lr.n6, by rw [List.length_map]; omega, fun r hr => by
    obtain ⟨r', h1, rfl⟩ := List.mem_map.mp hr
    have := lr.sub r' (q1.subset h1)
    exact ⟨(List.reverse_perm r').nodup_iff.mpr this.nd, fun s hs => this.sub s (by simpa using hs)⟩⟩
  row_arm1w law8 p7 pl lr lo (masks_other q1) (fin _ _)
theorem law6 {P : Post} {ns : List Int} {jj many : Int} {d : D} {m : Int} {names : List Str} {rows : List (List Str)} {s6 s7 : Slot} (p6 : Pl s6) (p7 : Pl s7) (B : Bx m d) (h0 : 0 ≤ m) (hm : m < 4000) (pl : PlainLaw) (lr : Lw names rows)
    (fin : ∀ d' other, P.nx (envW ns jj d' names many rows other (.val (leastD names rows)) .no)) : T6 P [.val (.scr ns), .val (.int jj), .own false d, .val (.lst (names.map .str)), .val (.int many), .val (.lst (rows.map (rowD false))), s6, s7, .no] := by
  k_allIn
  refine ⟨rows, names, rfl, lr.right pl, ?_⟩
  row_arm1w law7 p6 p7 B h0 hm pl lr fin
theorem law5 {P : Post} {ns : List Int} {jj : Int} {many : Nat} {d : D} {m : Int} {names : List Str} {s5 s6 s7 : Slot} (p5 : Pl s5) (p6 : Pl s6) (p7 : Pl s7) (B : Bx m d) (h0 : 0 ≤ m) (hm : m < 1000) (hmany : many ≤ 128) (nok : ∀ s ∈ names, okName s) (nd : names.Nodup) (n1 : 1 ≤ names.length) (n6 : names.length ≤ 6) (pl : PlainLaw)
    (fin : ∀ rows d' other, P.nx (envW ns jj d' names many rows other (.val (leastD names rows)) .no)) :
    T5 P [.val (.scr ns), .val (.int jj), .own false d, .val (.lst (names.map .str)), .val (.int many), s5, s6, s7, .no] := by
  k_allIn
  refine ⟨m, names, many, d, rfl, B, h0, by omega, hmany, nd, n1, by omega, fun rows d6 rlen rin B6 => ?_⟩
  refine an_i (by exact p5) ?_
  exact law6 p6 p7 B6 (by omega) (by omega) pl ⟨nok, nd, n1, n6, by omega, rin⟩ (fin rows)
theorem law4 {P : Post} {ns : List Int} {jj : Int} {d : D} {m : Int} {names : List Str} {s4 s5 s6 s7 : Slot} (p4 : Pl s4) (p5 : Pl s5) (p6 : Pl s6) (p7 : Pl s7) (B : Bx m d) (h0 : 0 ≤ m) (hm : m < 900) (nok : ∀ s ∈ names, okName s) (nd : names.Nodup) (n1 : 1 ≤ names.length) (n6 : names.length ≤ 6) (pl : PlainLaw)
    (fin : ∀ (many : Nat) rows d' other, P.nx (envW ns jj d' names many rows other (.val (leastD names rows)) .no)) :
    T4 P [.val (.scr ns), .val (.int jj), .own false d, .val (.lst (names.map .str)), s4, s5, s6, s7, .no] := by
  k_allIn
  refine take_i B (by omega) (by omega) (by omega) rfl fun ta d3 a0 a1 B3 => ?_
  k_allIn
  refine take_i B3 (by omega) (by omega) (by omega) rfl fun tb d4 b0 b1 B4 => ?_
  k_allIn
  refine take_i B4 (by omega) (by omega) (by omega) rfl fun tc d5 c0 c1 B5 => ?_
  k_allIn
  obtain ⟨many, hmany, hm128⟩ : ∃ many : Nat, atI [D.int ta, D.int (128 - tb)] (tc / 7) = some (.int (many : Int)) ∧ many ≤ 128 := by
    have : tc / 7 = 0 ∨ tc / 7 = 1 := by omega
    rcases this with e | e
    · rw [e]; exact ⟨ta.toNat, by rw [show ((ta.toNat : Nat) : Int) = ta by omega]; rfl, by omega⟩
    · rw [e]; exact ⟨(128 - tb).toNat, by rw [show (((128 - tb).toNat : Nat) : Int) = 128 - tb by omega]; rfl, by omega⟩
  refine ex_i hmany ?_
  k_memK
  exact law5 p5 p6 p7 B5 (by omega) (by omega) hm128 nok nd n1 n6 pl (fin many)
theorem empty_told : ToldOk [] := ⟨⟨by decide, by simp⟩, fun _ j hj => absurd hj (Nat.not_lt_zero _)⟩
theorem two_told : ToldOk [["a"], [], ["b"], []] := ⟨⟨by decide, by
  have ha : okName "a" := ⟨by decide, by decide, by decide⟩
  have hb : okName "b" := ⟨by decide, by decide, by decide⟩
  intro r hr
  simp only [List.mem_cons, List.not_mem_nil, or_false] at hr
  rcases hr with rfl | rfl | rfl | rfl
  · exact ⟨by decide, by simpa using ha, by simp⟩
  · exact ⟨by decide, by simp, by simp⟩
  · exact ⟨by decide, by simpa using hb, by simp⟩
  · exact ⟨by decide, by simp, by simp⟩⟩, fun h => by simp [emptyAt, List.findIdx?, List.findIdx?.go] at h⟩
theorem law_fin {R : RV → List Slot → Prop} {ns : List Int} {s1 s2 s3 s4 s5 s6 s7 s8 : Slot} (h : R (.vl (.bl true)) [.no]) : TF { nx := fun e => R (.vl .non) (outs 1 e), rt := fun r e => R r (outs 1 e) } [.val (.scr ns), s1, s2, s3, s4, s5, s6, s7, s8] := by
  k_allIn
  refine ⟨false, false, [], rfl, empty_told, ?_⟩
  have e1 : toldD [] = .tup [.str "told", .int 0] := rfl
  have e2 : toldD [["a"], [], ["b"], []] = .tup [.str "nobody", .int 1] := rfl
  rw [e1]
  k_allIn
  refine ⟨false, false, [["a"], [], ["b"], []], rfl, two_told, ?_⟩
  rw [e2]
  k_allIn
  have e3 : deq (.tup [.str "nobody", .int 1]) (.tup [.str "nobody", .int 1]) = true := by rw [deq_tcons, deq_tcons, deq_tnil, deq_str, deq_int]; simp
  rw [e3]
  exact h
theorem sp_law : ∀ args R, sd_law args R → m_law sd_l_cell sd_l_box sd_l_take sd_l_names sd_l_rows sd_l_least sd_l_mixed sd_l_told sd_l_right { nx := fun e => R (.vl .non) (outs 1 e), rt := fun r e => R r (outs 1 e) } (startE 9 args) := by
  rintro args R ⟨pl, ns, rfl, hns, h⟩
  k_allIn
  refine forI_inv (fun j env => ∃ s1 s2 s3 s4 s5 s6 s7 : Slot, Pl s1 ∧ Pl s2 ∧ Pl s3 ∧ Pl s4 ∧ Pl s5 ∧ Pl s6 ∧ Pl s7 ∧ env = [.val (.scr ns), s1, s2, s3, s4, s5, s6, s7, .no])
    ⟨.no, .no, .no, .no, .no, .no, .no, trivial, trivial, trivial, trivial, trivial, trivial, trivial, rfl⟩ (fun _ _ _ => trivial) ?_ ?_
  · rintro j x env hx ⟨s1, s2, s3, s4, s5, s6, s7, p1, p2, p3, p4, p5, p6, p7, rfl⟩ N hN
    obtain ⟨hj, rfl⟩ := rangeD_get hx
    rw [Int.zero_add]
    have hj6 : j < 1000000 := by
      refine Nat.lt_of_lt_of_le hj ?_
      have : (if (if ((ns.length : Nat) : Int) < 8 then ((ns.length : Nat) : Int) else 8) > 2 then (if ((ns.length : Nat) : Int) < 8 then ((ns.length : Nat) : Int) else 8) else (2 : Int)).toNat ≤ 1000000 := by
        split <;> split <;> omega
      exact this
    k_allIn
    refine ⟨ns, j, rfl, hj6, fun c => ?_⟩
    k_allIn
    refine ⟨c, rfl, fun d B0 => ?_⟩
    k_allIn
    refine take_i B0 (by omega) (by omega) (by omega) rfl fun tn d1 t0 t1 B1 => ?_
    obtain ⟨tn, rfl⟩ : ∃ k : Nat, tn = (k : Int) := ⟨tn.toNat, by omega⟩
    k_allIn
    refine ⟨0 + 1, 1 + tn, d1, by rw [show ((1 + tn : Nat) : Int) = 1 + (tn : Int) by omega]; rfl, B1, by omega, by omega, by omega, by omega, fun names d2 nok B2 => ?_⟩
    k_memK
    have nl := nok.len
    refine law4 p4 p5 p6 p7 B2 (by omega) (by omega) nok.ok nok.nd (by omega) (by omega) pl ?_
    intro many rows d' other
    exact hN _ ⟨.val (.int (j : Int)), .own false d', .val (.lst (names.map .str)), .val (.int many), .val (.lst (rows.map (rowD false))), .val (.lst (other.map (rowD false))), .val (leastD names rows), trivial, trivial, trivial, trivial, trivial, trivial, trivial, rfl⟩
  · rintro env ⟨s1, s2, s3, s4, s5, s6, s7, p1, p2, p3, p4, p5, p6, p7, rfl⟩
    exact law_fin h
end
end Law

set_option Elab.async false
set_option linter.all false
set_option maxRecDepth 100000
set_option maxHeartbeats 4000000
set_option autoImplicit false
namespace Law
open PySem
structure IsDeal (rows : List (List Str)) (most : Nat) (xs : List Str) : Prop where
  len : xs.length = rows.length
  mem : ∀ (i : Nat) (s : Str) (r : List Str), xs[i]? = some s → rows[i]? = some r → s ∈ r
  cnt : ∀ s, (xs.filter fun x => decide (x = s)).length ≤ most
def addN (acc r : List Str) : List Str := acc ++ r.filter fun s => !decide (s ∈ acc)
def namesOf (rows : List (List Str)) (js : List Nat) : List Str := js.foldl (fun acc j => addN acc (rows.getD j [])) []
structure IsGap (rows : List (List Str)) (most : Nat) (js : List Nat) : Prop where
  lt : ∀ j ∈ js, j < rows.length
  inc : js.Pairwise (· < ·)
  many : most * (namesOf rows js).length < js.length
def cntN (ds : List (Option Str)) (x : Str) : Nat := ds.count (some x)
theorem own_cnt (ds : List (Option Str)) (x : Str) : (ownF ds x).length = cntN ds x := by
  unfold ownF cntN
  have : ds = (List.range ds.length).map fun j => ds.getD j none := by
    apply List.ext_getElem
    · simp
    · intro i h1 h2; simp [List.getD_eq_getElem?_getD, List.getElem?_eq_getElem h1]
  conv => rhs; rw [this]
  rw [List.count_eq_length_filter, List.filter_map, List.length_map]
  congr 1
  apply List.filter_congr
  intro j hj
  have hj := List.mem_range.mp hj
  simp only [Function.comp, List.getD_eq_getElem?_getD, List.getElem?_eq_getElem hj, Option.getD_some, Option.some.injEq]
  by_cases q : ds[j] = some x <;> simp [q]
theorem mem_own {ds : List (Option Str)} {x : Str} {j : Nat} : j ∈ ownF ds x ↔ ds[j]? = some (some x) := by
  unfold ownF
  rw [List.mem_filter, List.mem_range]
  constructor
  · exact fun h => of_decide_eq_true h.2
  · intro h
    exact ⟨(List.getElem?_eq_some_iff.mp h).1, decide_eq_true h⟩
theorem own_nd (ds : List (Option Str)) (x : Str) : (ownF ds x).Nodup := List.Pairwise.filter _ List.nodup_range

structure Chain (ds : List (Option Str)) (first : Nat) (c : List (Str × Nat)) : Prop where
  nd : (c.map (·.1)).Nodup
  lt : ∀ (p : Nat) (n : Str) (j : Nat), c[p]? = some (n, j) → j < ds.length
  up : ∀ (p : Nat) (n : Str) (j : Nat), c[p]? = some (n, j) → (j = first ∧ ds[j]? = some none) ∨ ∃ (q : Nat) (m : Str) (i : Nat), q < p ∧ c[q]? = some (m, i) ∧ ds[j]? = some (some m)
theorem has_of {c : List (Str × Nat)} {n : Str} {j : Nat} (h : (n, j) ∈ c) : hasN c n = true := by
  unfold hasN; rw [List.any_eq_true]; exact ⟨_, h, by simp⟩
theorem has_iff {c : List (Str × Nat)} {n : Str} : hasN c n = true ↔ n ∈ c.map (·.1) := by
  unfold hasN; rw [List.any_eq_true, List.mem_map]
  simp
theorem look_of {n : Str} {j : Nat} : ∀ {c : List (Str × Nat)}, (c.map (·.1)).Nodup → (n, j) ∈ c → lookN c n = j
  | [], _, h => by simp at h
  | (m, i) :: c, nd, h => by
    unfold lookN
    rw [List.find?_cons]
    rw [List.map_cons, List.nodup_cons] at nd
    rcases List.mem_cons.mp h with e | h
    · cases e; simp
    · have : ¬ m = n := fun e => nd.1 (e ▸ List.mem_map.mpr ⟨_, h, rfl⟩)
      simp only [this, decide_false]
      exact look_of nd.2 h
theorem place_uniq {c : List (Str × Nat)} (nd : (c.map (·.1)).Nodup) {p q : Nat} {n : Str} {i j : Nat} (h : c[p]? = some (n, i)) (k : c[q]? = some (n, j)) : p = q := by
  have h' : (c.map (·.1))[p]? = some n := by rw [List.getElem?_map, h]; rfl
  have k' : (c.map (·.1))[q]? = some n := by rw [List.getElem?_map, k]; rfl
  obtain ⟨l1, e1⟩ := List.getElem?_eq_some_iff.mp h'
  obtain ⟨l2, e2⟩ := List.getElem?_eq_some_iff.mp k'
  exact (List.getElem_inj nd).mp (e1.trans e2.symm)
structure PassRes (c : List (Str × Nat)) (first : Nat) (d1 d2 : List (Option Str)) (n : Str) : Prop where
  len : d2.length = d1.length
  cnt : ∀ x, cntN d2 x = cntN d1 x + if n = x then 1 else 0
  same : ∀ i : Nat, d2[i]? = d1[i]? ∨ ∃ m, (m, i) ∈ c ∧ d2[i]? = some (some m)
  fst : ∃ m, (m, first) ∈ c ∧ d2[first]? = some (some m)
  non : ∀ i : Nat, (d1[i]? : Option (Option Str)) ≠ some none → (d2[i]? : Option (Option Str)) ≠ some none
theorem passF_none (k : Nat) (ds : List (Option Str)) (c : List (Str × Nat)) : passF k ds c none = ds := by cases k <;> rfl
theorem cnt_set {ds : List (Option Str)} {j : Nat} {n : Str} {o : Option Str} (h : ds[j]? = some o) (x : Str) : cntN (ds.set j (some n)) x + (if o = some x then 1 else 0) = cntN ds x + if n = x then 1 else 0 := by
  obtain ⟨hl, e⟩ := List.getElem?_eq_some_iff.mp h
  unfold cntN
  rw [List.count_set hl, e]
  have : (if (o == some x) = true then 1 else 0) = if o = some x then 1 else 0 := by simp
  have e2 : (if (some n == some x) = true then 1 else 0) = if n = x then 1 else 0 := by simp
  rw [this, e2]
  have : (if o = some x then 1 else 0) ≤ ds.count (some x) := by
    split
    · next q =>
      have : some x ∈ ds := by rw [← q, ← e]; exact List.getElem_mem hl
      exact List.count_pos_iff.mpr this
    · omega
  omega
theorem pass_ok {ds : List (Option Str)} {first : Nat} {c : List (Str × Nat)} (C : Chain ds first c) : ∀ (p k : Nat) (d1 : List (Option Str)) (n : Str) (j : Nat), p < k → c[p]? = some (n, j) → d1.length = ds.length →
    (∀ (q : Nat) (m : Str) (i : Nat), q ≤ p → c[q]? = some (m, i) → d1[i]? = ds[i]?) → passOk k d1 c (some n) ∧ PassRes c first d1 (passF k d1 c (some n)) n := by
  intro p
  induction p using Nat.strongRecOn with
  | _ p ih =>
    intro k d1 n j hk hp hl hs
    cases k with
    | zero => omega
    | succ k =>
      have hm : (n, j) ∈ c := List.mem_of_getElem? hp
      have hj := C.lt p n j hp
      have lk := look_of C.nd hm
      have e1 := hs p n j (Nat.le_refl _) hp
      have hset : (d1.set j (some n))[j]? = some (some n) := by rw [List.getElem?_set]; simp [hl, hj]
      unfold passOk passF
      rw [lk]
      rcases C.up p n j hp with ⟨rfl, e⟩ | ⟨q, m, i, hq, hc, e⟩
      · rw [List.getD_eq_getElem?_getD, e1, e]
        refine ⟨⟨has_of hm, by omega, by cases k <;> trivial⟩, ?_⟩
        show PassRes c j d1 (passF k (d1.set j (some n)) c none) n
        rw [passF_none]
        refine ⟨by simp, fun x => ?_, fun i => ?_, ⟨n, hm, hset⟩, fun i h => ?_⟩
        · have := cnt_set (n := n) (e1.trans e) x
          simpa using this
        · by_cases q : j = i
          · subst q; exact Or.inr ⟨n, hm, hset⟩
          · left; rw [List.getElem?_set_ne q]
        · by_cases q : j = i
          · subst q; rw [hset]; simp
          · rw [List.getElem?_set_ne q]; exact h
      · rw [List.getD_eq_getElem?_getD, e1, e]
        have step := ih q hq k (d1.set j (some n)) m i (by omega) hc (by simpa using hl) (fun q' m' i' h1 h2 => by
          by_cases z : j = i'
          · subst z
            exfalso
            rcases C.up q' m' j h2 with ⟨_, e'⟩ | ⟨q'', m'', i'', hq', hc', e'⟩
            · rw [e] at e'; cases e'
            · rw [e] at e'
              cases e'
              have := place_uniq C.nd hc hc'
              omega
          · rw [List.getElem?_set_ne z]
            exact hs q' m' i' (by omega) h2)
        obtain ⟨s1, s2⟩ := step
        refine ⟨⟨has_of hm, by omega, s1⟩, ?_⟩
        show PassRes c first d1 (passF k (d1.set j (some n)) c (some m)) n
        refine ⟨by rw [s2.len]; simp, fun x => ?_, fun i => ?_, s2.fst, fun i h => s2.non i ?_⟩
        · rw [s2.cnt x]
          have := cnt_set (n := n) (e1.trans e) x
          simpa using this
        · rcases s2.same i with h | h
          · by_cases z : j = i
            · subst z; exact Or.inr ⟨n, hm, by rw [h, hset]⟩
            · left; rw [h, List.getElem?_set_ne z]
          · exact Or.inr h
        · by_cases z : j = i
          · subst z; rw [hset]; simp
          · rw [List.getElem?_set_ne z]; exact h
structure Dealt (rows : List (List Str)) (most : Nat) (ds : List (Option Str)) (j : Nat) : Prop where
  len : ds.length = rows.length
  lo : ∀ i : Nat, i < j → i < rows.length → ∃ n, ds[i]? = some (some n)
  hi : ∀ i : Nat, j ≤ i → i < rows.length → (ds[i]? : Option (Option Str)) = some none
  mem : ∀ (i : Nat) (n : Str), ds[i]? = some (some n) → n ∈ rows.getD i []
  cnt : ∀ n, cntN ds n ≤ most
structure BInv (rows : List (List Str)) (most : Nat) (ds : List (Option Str)) (first : Nat) (r : List Nat) (c : List (Str × Nat)) : Prop where
  eq : r = first :: c.flatMap fun p => ownF ds p.1
  ch : Chain ds first c
  own : ∀ p ∈ c, most ≤ (ownF ds p.1).length
  row : ∀ p ∈ c, p.1 ∈ rows.getD p.2 []
section
variable {rows : List (List Str)} {most : Nat} {ds : List (Option Str)} {first : Nat} {r : List Nat} {c : List (Str × Nat)}
theorem BInv.mem (B : BInv rows most ds first r c) {j : Nat} : j ∈ r ↔ j = first ∨ ∃ p ∈ c, ds[j]? = some (some p.1) := by
  rw [B.eq, List.mem_cons, List.mem_flatMap]
  simp only [mem_own]
theorem BInv.lt (B : BInv rows most ds first r c) (hf : first < ds.length) {j : Nat} (h : j ∈ r) : j < ds.length := by
  rcases B.mem.mp h with rfl | ⟨p, _, e⟩
  · exact hf
  · exact (List.getElem?_eq_some_iff.mp e).1
theorem flat_nd : ∀ {c : List (Str × Nat)}, (c.map (·.1)).Nodup → (c.flatMap fun p => ownF ds p.1).Nodup
  | [], _ => by simp
  | p :: c, nd => by
    rw [List.map_cons, List.nodup_cons] at nd
    rw [List.flatMap_cons, List.nodup_append]
    refine ⟨own_nd _ _, flat_nd nd.2, ?_⟩
    intro a ha b hb e
    subst e
    obtain ⟨q, hq, hb⟩ := List.mem_flatMap.mp hb
    rw [mem_own] at ha hb
    rw [ha] at hb
    have : p.1 = q.1 := by simpa using hb
    exact nd.1 (List.mem_map.mpr ⟨q, hq, this.symm⟩)
theorem BInv.nd (B : BInv rows most ds first r c) (hn : (ds[first]? : Option (Option Str)) = some none) : r.Nodup := by
  rw [B.eq, List.nodup_cons]
  refine ⟨fun h => ?_, flat_nd B.ch.nd⟩
  obtain ⟨p, _, h⟩ := List.mem_flatMap.mp h
  rw [mem_own, hn] at h
  cases h
theorem BInv.rlen (B : BInv rows most ds first r c) (hf : first < ds.length) (hn : (ds[first]? : Option (Option Str)) = some none) : r.length ≤ ds.length := by
  have := List.Nodup.length_le_of_subset (B.nd hn) (l₂ := List.range ds.length) fun j hj => List.mem_range.mpr (B.lt hf hj)
  rwa [List.length_range] at this
theorem flat_ge : ∀ {c : List (Str × Nat)}, (∀ p ∈ c, most ≤ (ownF ds p.1).length) → most * c.length ≤ (c.flatMap fun p => ownF ds p.1).length
  | [], _ => by simp
  | p :: c, h => by
    have h1 := h p (by simp)
    have h2 := flat_ge (c := c) fun q hq => h q (List.mem_cons_of_mem _ hq)
    rw [List.flatMap_cons, List.length_append, List.length_cons, Nat.mul_add]
    omega
theorem BInv.ge (B : BInv rows most ds first r c) : most * c.length < r.length := by
  rw [B.eq, List.length_cons]
  have := flat_ge B.own
  omega
theorem BInv.clen (B : BInv rows most ds first r c) (h1 : 1 ≤ most) : c.length < r.length := by
  have := B.ge
  have := Nat.mul_le_mul_right c.length h1
  omega
theorem BInv.grow (B : BInv rows most ds first r c) (hn : (ds[first]? : Option (Option Str)) = some none) {n : Str} {job : Nat} (hj : job ∈ r) (hl : job < ds.length) (hc : ¬ n ∈ c.map (·.1)) : Chain ds first (c ++ [(n, job)]) := by
  refine ⟨?_, fun p m i h => ?_, fun p m i h => ?_⟩
  · rw [List.map_append, List.nodup_append]
    refine ⟨B.ch.nd, by simp, ?_⟩
    intro a ha b hb e
    have : b = n := by simpa using hb
    exact hc (by rw [← this, ← e]; exact ha)
  · rcases Nat.lt_or_ge p c.length with z | z
    · rw [List.getElem?_append_left z] at h
      exact B.ch.lt p m i h
    · rw [List.getElem?_append_right z] at h
      cases w : p - c.length with
      | zero => rw [w] at h; cases h; exact hl
      | succ k => rw [w] at h; cases h
  · rcases Nat.lt_or_ge p c.length with z | z
    · rw [List.getElem?_append_left z] at h
      rcases B.ch.up p m i h with e | ⟨q, m', i', h1, h2, h3⟩
      · exact Or.inl e
      · exact Or.inr ⟨q, m', i', h1, by rw [List.getElem?_append_left (by omega)]; exact h2, h3⟩
    · rw [List.getElem?_append_right z] at h
      cases w : p - c.length with
      | zero =>
        rw [w] at h
        have e : n = m ∧ job = i := by simpa using h
        obtain ⟨rfl, rfl⟩ := e
        rcases B.mem.mp hj with rfl | ⟨q, hq, e⟩
        · exact Or.inl ⟨rfl, hn⟩
        · obtain ⟨k, hk⟩ := List.mem_iff_getElem?.mp hq
          have kl := (List.getElem?_eq_some_iff.mp hk).1
          exact Or.inr ⟨k, q.1, q.2, by omega, by rw [List.getElem?_append_left kl]; exact hk, e⟩
      | succ k => rw [w] at h; cases h
structure Found (rows : List (List Str)) (most : Nat) (ds : List (Option Str)) (first : Nat) (c : List (Str × Nat)) (n : Str) : Prop where
  ch : Chain ds first c
  row : ∀ p ∈ c, p.1 ∈ rows.getD p.2 []
  free : cntN ds n < most
  last : ∃ j, c[c.length - 1]? = some (n, j) ∧ c ≠ []
theorem visit_ok (h1 : 1 ≤ most) (hf : first < ds.length) (hl : ds.length ≤ 128) (hn : (ds[first]? : Option (Option Str)) = some none) {job : Nat} : ∀ (ns : List Str) (r : List Nat) (c : List (Str × Nat)), BInv rows most ds first r c → job ∈ r → (∀ n ∈ ns, n ∈ rows.getD job []) →
    visitOk most ds job ns r c ∧ (∀ r' c', visitN most ds job ns r c = (r', c', none) → BInv rows most ds first r' c' ∧ (∃ t, r' = r ++ t) ∧ (∀ m ∈ c.map (·.1), m ∈ c'.map (·.1)) ∧ ∀ m ∈ ns, m ∈ c'.map (·.1)) ∧
      ∀ r' c' n, visitN most ds job ns r c = (r', c', some n) → Found rows most ds first c' n
  | [], r, c, B, hj, hr => by
    refine ⟨trivial, ?_, ?_⟩
    · intro r' c' e
      cases e
      exact ⟨B, ⟨[], by simp⟩, fun _ h => h, by simp⟩
    · intro r' c' n e; cases e
  | n :: ns, r, c, B, hj, hr => by
    have hr' : ∀ m ∈ ns, m ∈ rows.getD job [] := fun m h => hr m (List.mem_cons_of_mem _ h)
    have rl := B.rlen hf hn
    have cl := B.clen h1
    have jl := B.lt hf hj
    unfold visitOk visitN
    by_cases q : hasN c n = true
    · simp only [q, if_true]
      obtain ⟨i1, i2, i3⟩ := visit_ok h1 hf hl hn ns r c B hj hr'
      refine ⟨i1, fun r' c' e => ?_, i3⟩
      obtain ⟨a, b, d, e⟩ := i2 r' c' e
      refine ⟨a, b, d, fun m hm => ?_⟩
      rcases List.mem_cons.mp hm with rfl | hm
      · exact d _ (has_iff.mp q)
      · exact e m hm
    · have hc : ¬ n ∈ c.map (·.1) := fun z => q (has_iff.mpr z)
      have C := B.grow hn hj jl hc
      have hrow : ∀ p ∈ c ++ [(n, job)], p.1 ∈ rows.getD p.2 [] := by
        intro p hp
        rcases List.mem_append.mp hp with hp | hp
        · exact B.row p hp
        · rw [List.mem_singleton.mp hp]; exact hr n (by simp)
      have ol : (ownF ds n).length ≤ ds.length := by
        have := List.Nodup.length_le_of_subset (own_nd ds n) (l₂ := List.range ds.length) fun j hj => List.mem_range.mpr (List.getElem?_eq_some_iff.mp (mem_own.mp hj)).1
        rwa [List.length_range] at this
      have lastE : (c ++ [(n, job)])[c.length]? = some (n, job) := by rw [List.getElem?_append_right (Nat.le_refl _)]; simp
      simp only [q, if_false]
      by_cases f : (ownF ds n).length < most
      · simp only [f, if_true]
        refine ⟨⟨by omega, by omega, ?_⟩, fun r' c' e => (by cases e), fun r' c' m e => ?_⟩
        · exact (pass_ok C c.length _ ds n job (by simp) lastE rfl fun _ _ _ _ _ => rfl).1
        · cases e
          refine ⟨C, hrow, by rw [← own_cnt]; exact f, job, ?_, by simp⟩
          rw [List.length_append, List.length_singleton, Nat.add_sub_cancel]
          exact lastE
      · simp only [f, if_false]
        have B' : BInv rows most ds first (r ++ ownF ds n) (c ++ [(n, job)]) := by
          refine ⟨?_, C, ?_, hrow⟩
          · rw [List.flatMap_append, B.eq]; simp
          · intro p hp
            rcases List.mem_append.mp hp with hp | hp
            · exact B.own p hp
            · rw [List.mem_singleton.mp hp]; show most ≤ (ownF ds n).length; omega
        obtain ⟨i1, i2, i3⟩ := visit_ok h1 hf hl hn ns _ _ B' (List.mem_append_left _ hj) hr'
        refine ⟨⟨by omega, by omega, i1⟩, fun r' c' e => ?_, i3⟩
        obtain ⟨a, ⟨t, b⟩, d, e⟩ := i2 r' c' e
        refine ⟨a, ⟨ownF ds n ++ t, by rw [b, List.append_assoc]⟩, fun m hm => d m (by rw [List.map_append]; exact List.mem_append_left _ hm), fun m hm => ?_⟩
        rcases List.mem_cons.mp hm with rfl | hm
        · exact d _ (by simp)
        · exact e m hm
theorem bfs_ok (h1 : 1 ≤ most) (hrl : ds.length = rows.length) (hf : first < ds.length) (hl : ds.length ≤ 128) (hn : (ds[first]? : Option (Option Str)) = some none) : ∀ (k at_ : Nat) (r : List Nat) (c : List (Str × Nat)), BInv rows most ds first r c → at_ ≤ r.length → at_ + k = rows.length + 1 →
    (∀ i, i < at_ → ∀ n ∈ rows.getD (r.getD i 0) [], n ∈ c.map (·.1)) →
    bfsOk rows most ds k at_ r c ∧ (∀ r' c', bfsN rows most ds k at_ r c = (r', c', none) → BInv rows most ds first r' c' ∧ ∀ j ∈ r', ∀ n ∈ rows.getD j [], n ∈ c'.map (·.1)) ∧
      ∀ r' c' n, bfsN rows most ds k at_ r c = (r', c', some n) → Found rows most ds first c' n
  | 0, at_, r, c, B, ha, hk, hp => by
    have := B.rlen hf hn
    omega
  | k + 1, at_, r, c, B, ha, hk, hp => by
    by_cases q : at_ < r.length
    · have hm : r.getD at_ 0 ∈ r := by
        rw [List.getD_eq_getElem?_getD, List.getElem?_eq_getElem q]
        exact List.getElem_mem q
      obtain ⟨i1, i2, i3⟩ := visit_ok (rows := rows) h1 hf hl hn (rows.getD (r.getD at_ 0) []) r c B hm fun n h => h
      have jl := B.lt hf hm
      unfold bfsOk bfsN
      simp only [q, if_true, forall_const]
      rcases hv : visitN most ds (r.getD at_ 0) (rows.getD (r.getD at_ 0) []) r c with ⟨r1, c1, o⟩
      cases o with
      | some n =>
        refine ⟨⟨by omega, i1, trivial⟩, fun r' c' e => (by cases e), fun r' c' m e => ?_⟩
        cases e
        exact i3 _ _ _ hv
      | none =>
        obtain ⟨B1, ⟨t, et⟩, hk1, hv1⟩ := i2 r1 c1 hv
        have ih := bfs_ok h1 hrl hf hl hn k (at_ + 1) r1 c1 B1 (by rw [et, List.length_append]; omega) (by omega) (fun i hi n hn' => by
          have e : r1.getD i 0 = r.getD i 0 := by
            rw [et, List.getD_eq_getElem?_getD, List.getD_eq_getElem?_getD, List.getElem?_append_left (by omega)]
          rw [e] at hn'
          rcases Nat.lt_or_ge i at_ with z | z
          · exact hk1 n (hp i z n hn')
          · have : i = at_ := by omega
            subst this
            exact hv1 n hn')
        exact ⟨⟨by omega, i1, ih.1⟩, ih.2.1, ih.2.2⟩
    · unfold bfsOk bfsN
      simp only [q, if_false]
      refine ⟨fun h => h.elim, fun r' c' e => ?_, fun r' c' n e => (by cases e)⟩
      cases e
      refine ⟨B, fun j hj n hn' => ?_⟩
      obtain ⟨i, hi⟩ := List.mem_iff_getElem?.mp hj
      have il := (List.getElem?_eq_some_iff.mp hi).1
      refine hp i (by omega) n ?_
      have e : r.getD i 0 = j := by rw [List.getD_eq_getElem?_getD, hi]; rfl
      rw [e]
      exact hn'
end
section
variable {rows : List (List Str)} {most : Nat} {ds : List (Option Str)} {first : Nat}
theorem start_inv {j : Nat} : BInv rows most ds j [j] [] where
  eq := rfl
  ch := ⟨by simp, fun p n j h => by simp at h, fun p n j h => by simp at h⟩
  own := by simp
  row := by simp
theorem Dealt.none (d : Dealt rows most ds first) (h : first < rows.length) : (ds[first]? : Option (Option Str)) = some none := d.hi first (Nat.le_refl _) h
theorem names_sub {keys : List Str} : ∀ (js : List Nat) (acc : List Str), acc.Nodup → (∀ n ∈ acc, n ∈ keys) → (∀ j ∈ js, ∀ n ∈ rows.getD j [], n ∈ keys) → (∀ r ∈ rows, r.Nodup) →
    (js.foldl (fun acc j => addN acc (rows.getD j [])) acc).Nodup ∧ ∀ n ∈ js.foldl (fun acc j => addN acc (rows.getD j [])) acc, n ∈ keys
  | [], acc, a, b, _, _ => ⟨a, b⟩
  | j :: js, acc, a, b, c, d => by
    rw [List.foldl_cons]
    have rn : (rows.getD j []).Nodup := by
      rw [List.getD_eq_getElem?_getD]
      cases q : rows[j]? with
      | none => simp
      | some r => exact d r (List.mem_of_getElem? q)
    refine names_sub js _ ?_ ?_ (fun i hi => c i (List.mem_cons_of_mem _ hi)) d
    · unfold addN
      rw [List.nodup_append]
      refine ⟨a, List.Pairwise.filter _ rn, fun x hx y hy e => ?_⟩
      subst e
      have := (List.mem_filter.mp hy).2
      simp [hx] at this
    · intro n hn
      rcases List.mem_append.mp hn with hn | hn
      · exact b n hn
      · exact c j (by simp) n (List.mem_filter.mp hn).1
theorem names_all : ∀ (js : List Nat) (acc : List Str), (∀ n ∈ acc, n ∈ js.foldl (fun acc j => addN acc (rows.getD j [])) acc) ∧ ∀ j ∈ js, ∀ n ∈ rows.getD j [], n ∈ js.foldl (fun acc j => addN acc (rows.getD j [])) acc
  | [], acc => ⟨fun _ h => h, by simp⟩
  | j :: js, acc => by
    rw [List.foldl_cons]
    obtain ⟨h1, h2⟩ := names_all js (addN acc (rows.getD j []))
    refine ⟨fun n hn => h1 n (List.mem_append_left _ hn), fun i hi n hn => ?_⟩
    rcases List.mem_cons.mp hi with rfl | hi
    · refine h1 n ?_
      unfold addN
      by_cases q : n ∈ acc
      · exact List.mem_append_left _ q
      · exact List.mem_append_right _ (List.mem_filter.mpr ⟨hn, by simp [q]⟩)
    · exact h2 i hi n hn
theorem add_ok (h1 : 1 ≤ most) (hl : rows.length ≤ 128) (hnd : ∀ r ∈ rows, r.Nodup) (D : Dealt rows most ds first) (hf : first < rows.length) :
    bfsOk rows most ds (rows.length + 1) 0 [first] [] ∧ (∀ d', addF rows most ds first = (d', none) → Dealt rows most d' (first + 1)) ∧ ∀ d' g, addF rows most ds first = (d', some g) → IsGap rows most g := by
  have hn := D.none hf
  have dl := D.len
  obtain ⟨b1, b2, b3⟩ := bfs_ok (rows := rows) h1 D.len (by omega) (by omega) hn (rows.length + 1) 0 [first] [] start_inv (by simp) (by omega) (fun i h => by omega)
  refine ⟨b1, ?_, ?_⟩
  · intro d' e
    unfold addF at e
    rcases hb : bfsN rows most ds (rows.length + 1) 0 [first] [] with ⟨r', c', o⟩
    rw [hb] at e
    cases o with
    | none => cases e
    | some n =>
      obtain ⟨C, hrow, hfree, j, hj, hne⟩ := b3 r' c' n hb
      have cl : 0 < c'.length := List.length_pos_iff.mpr hne
      obtain ⟨-, P⟩ := pass_ok C (c'.length - 1) c'.length ds n j (by omega) hj rfl fun _ _ _ _ _ => rfl
      cases e
      have hcnt := P.cnt
      refine ⟨by rw [P.len]; exact D.len, ?_, ?_, ?_, ?_⟩
      · intro i hi hr
        have key : ∀ o : Option (Option Str), o ≠ none → o ≠ some none → ∃ n, o = some (some n) := by
          intro o h1 h2
          cases o with
          | none => exact absurd rfl h1
          | some o => cases o with
            | none => exact absurd rfl h2
            | some n => exact ⟨n, rfl⟩
        rcases Nat.lt_or_ge i first with z | z
        · obtain ⟨m, hm⟩ := D.lo i z hr
          refine key _ ?_ (P.non i (by rw [hm]; simp))
          rw [List.getElem?_eq_getElem (by rw [P.len]; omega)]; simp
        · have : i = first := by omega
          subst this
          obtain ⟨m, _, hm⟩ := P.fst
          exact ⟨m, hm⟩
      · intro i hi hr
        rcases P.same i with e | ⟨m, hm, e⟩
        · rw [e]; exact D.hi i (by omega) hr
        · exfalso
          obtain ⟨q, hq⟩ := List.mem_iff_getElem?.mp hm
          have hno := D.hi i (by omega) hr
          rcases C.up q m i hq with ⟨h, _⟩ | ⟨_, _, _, _, _, h⟩
          · omega
          · rw [hno] at h; cases h
      · intro i m hi
        rcases P.same i with e | ⟨m', hm, e⟩
        · rw [e] at hi; exact D.mem i m hi
        · rw [e] at hi
          cases hi
          exact hrow _ hm
      · intro x
        rw [hcnt x]
        have := D.cnt x
        split
        · next q => subst q; omega
        · omega
  · intro d' g e
    unfold addF at e
    rcases hb : bfsN rows most ds (rows.length + 1) 0 [first] [] with ⟨r', c', o⟩
    rw [hb] at e
    cases o with
    | some n => cases e
    | none =>
      cases e
      obtain ⟨B, hall⟩ := b2 r' c' hb
      have p : (sortN r').Perm r' := List.mergeSort_perm r' _
      have s2 : (sortN r').Pairwise (· ≤ ·) := by
        have := List.pairwise_mergeSort (le := fun a b : Nat => decide (a ≤ b)) (fun a b c h1 h2 => by simp at *; omega) (fun a b => by simp; omega) r'
        exact this.imp fun h => by simpa using h
      have nd : (sortN r').Nodup := p.nodup_iff.mpr (B.nd hn)
      refine ⟨fun j hj => ?_, ?_, ?_⟩
      · have := B.lt (by omega) (p.mem_iff.mp hj)
        omega
      · exact (s2.and nd).imp fun ⟨a, b⟩ => by omega
      · rw [p.length_eq]
        have hs := names_sub (rows := rows) (keys := c'.map (·.1)) (sortN r') [] (by simp) (by simp) (fun j hj => hall j (p.mem_iff.mp hj)) hnd
        have hle := List.Nodup.length_le_of_subset hs.1 hs.2
        rw [List.length_map] at hle
        have hg := B.ge
        have := Nat.mul_le_mul_left most hle
        unfold namesOf
        omega
theorem run_ok (h1 : 1 ≤ most) (hl : rows.length ≤ 128) (hnd : ∀ r ∈ rows, r.Nodup) : ∀ j, j ≤ rows.length → (∀ d, runF rows most j = (d, none) → Dealt rows most d j) ∧ ∀ d g, runF rows most j = (d, some g) → IsGap rows most g
  | 0, _ => by
    refine ⟨fun d e => ?_, fun d g e => by cases e⟩
    cases e
    refine ⟨by simp, fun i h => by omega, fun i _ h => by simp [h], fun i n h => ?_, fun n => ?_⟩
    · have := List.mem_of_getElem? h
      rw [List.mem_replicate] at this
      cases this.2
    · unfold cntN
      rw [List.count_replicate]
      simp
  | j + 1, hj => by
    obtain ⟨i1, i2⟩ := run_ok h1 hl hnd j (by omega)
    rcases hr : runF rows most j with ⟨d0, o⟩
    cases o with
    | some g0 =>
      have e : runF rows most (j + 1) = (d0, some g0) := by
        show (match runF rows most j with | (ds, some g) => (ds, some g) | (ds, none) => addF rows most ds j) = _
        rw [hr]
      rw [e]
      exact ⟨fun d e => (by cases e), fun d g e => by cases e; exact i2 d0 g0 hr⟩
    | none =>
      have e : runF rows most (j + 1) = addF rows most d0 j := by
        show (match runF rows most j with | (ds, some g) => (ds, some g) | (ds, none) => addF rows most ds j) = _
        rw [hr]
      rw [e]
      obtain ⟨-, a2, a3⟩ := add_ok h1 hl hnd (i1 d0 hr) (by omega)
      exact ⟨a2, a3⟩
theorem RunOk.mk' (h1 : 1 ≤ most) (hl : rows.length ≤ 128) (hnd : ∀ r ∈ rows, r.Nodup) : RunOk rows most := by
  intro j hj hn
  obtain ⟨i1, _⟩ := run_ok (rows := rows) (most := most) h1 hl hnd j (by omega)
  have e : runF rows most j = ((runF rows most j).1, none) := by rw [← hn]
  have d := i1 _ e
  exact ⟨(add_ok h1 hl hnd d hj).1, by rw [d.len]; exact hl⟩
theorem res_ok (h1 : 1 ≤ most) (hl : rows.length ≤ 128) (hnd : ∀ r ∈ rows, r.Nodup) : (∃ xs : List Str, resF rows most = (xs.map some, none) ∧ IsDeal rows most xs) ∨ ∃ d g, resF rows most = (d, some g) ∧ IsGap rows most g := by
  obtain ⟨i1, i2⟩ := run_ok (rows := rows) (most := most) h1 hl hnd rows.length (Nat.le_refl _)
  rcases hr : runF rows most rows.length with ⟨d0, o⟩
  cases o with
  | some g => exact Or.inr ⟨d0, g, hr, i2 d0 g hr⟩
  | none =>
    left
    have d := i1 d0 hr
    have hx : d0 = (d0.map fun o => o.getD "").map some := by
      apply List.ext_getElem
      · simp
      · intro i h2 h3
        obtain ⟨n, hn⟩ := d.lo i (by rw [← d.len]; exact h2) (by rw [← d.len]; exact h2)
        have := (List.getElem?_eq_some_iff.mp hn).2
        simp [this]
    generalize (d0.map fun o => o.getD "") = xs at hx
    subst hx
    refine ⟨xs, hr, ?_, ?_, ?_⟩
    · have := d.len; rwa [List.length_map] at this
    · intro i s r hs hrw
      have := d.mem i s (by rw [List.getElem?_map, hs]; rfl)
      rw [List.getD_eq_getElem?_getD, hrw] at this
      exact this
    · intro s
      have := d.cnt s
      unfold cntN at this
      rw [List.count_eq_length_filter, List.filter_map, List.length_map] at this
      refine Nat.le_trans (Nat.le_of_eq ?_) this
      congr 1
end
/-! masks -/
def mk2 (r : List Str) : List Str → Nat
  | [] => 0
  | a :: ns => (if a ∈ r then 1 else 0) + 2 * mk2 r ns
theorem maskB_from (r : List Str) : ∀ (ns : List Str) (k : Nat), ((ns.zipIdx k).filterMap fun p => if decide (p.1 ∈ r) = true then some (2 ^ p.2) else none).sum = 2 ^ k * mk2 r ns
  | [], k => by simp [mk2]
  | a :: ns, k => by
    rw [List.zipIdx_cons, List.filterMap_cons]
    have ih := maskB_from r ns (k + 1)
    unfold mk2
    by_cases q : a ∈ r
    · simp only [q, decide_true, if_true, List.sum_cons]
      simp only [decide_eq_true_eq] at ih ⊢
      rw [ih, Nat.pow_succ, Nat.mul_add, Nat.mul_one, Nat.mul_assoc]
    · simp only [q, decide_false, Bool.false_eq_true, if_false]
      simp only [decide_eq_true_eq] at ih ⊢
      rw [ih, Nat.pow_succ, Nat.zero_add, Nat.mul_assoc]
theorem maskN_eq (ns r : List Str) : maskN ns r = mk2 r ns := by
  unfold maskN maskB
  rw [maskB_from r ns 0]; simp
theorem mk2_bit (r : List Str) : ∀ (ns : List Str) (i : Nat), (mk2 r ns).testBit i = (match ns[i]? with
    | some a => decide (a ∈ r)
    | none => false)
  | [], i => by simp [mk2]
  | a :: ns, 0 => by
    unfold mk2
    rw [Nat.testBit_zero]
    by_cases q : a ∈ r <;> simp [q] <;> omega
  | a :: ns, i + 1 => by
    unfold mk2
    rw [Nat.testBit_succ, show ((if a ∈ r then 1 else 0) + 2 * mk2 r ns) / 2 = mk2 r ns by split <;> omega, mk2_bit r ns i]
    simp
theorem mk2_lt (r : List Str) : ∀ ns : List Str, mk2 r ns < 2 ^ ns.length
  | [] => by simp [mk2]
  | a :: ns => by
    have := mk2_lt r ns
    unfold mk2
    rw [List.length_cons, Nat.pow_succ]
    split <;> omega
theorem mask_bit {ns r : List Str} {i : Nat} {a : Str} (h : ns[i]? = some a) : (maskN ns r).testBit i = decide (a ∈ r) := by
  rw [maskN_eq, mk2_bit, h]
theorem mask_out {ns r : List Str} {i : Nat} (h : ns.length ≤ i) : (maskN ns r).testBit i = false := by
  rw [maskN_eq, mk2_bit, List.getElem?_eq_none h]
theorem mask_lt (ns r : List Str) : maskN ns r < 2 ^ ns.length := by rw [maskN_eq]; exact mk2_lt r ns
theorem mask_zero {ns r : List Str} (h : maskN ns r = 0) : ∀ a ∈ ns, ¬ a ∈ r := by
  intro a ha hr
  obtain ⟨i, hi⟩ := List.mem_iff_getElem?.mp ha
  have := mask_bit (r := r) hi
  rw [h, Nat.zero_testBit] at this
  simp [hr] at this
theorem mask_le {ns r t : List Str} (h : ∀ a ∈ r, a ∈ t) : maskN ns r &&& maskN ns t = maskN ns r := by
  apply Nat.eq_of_testBit_eq
  intro i
  rw [Nat.testBit_and]
  rcases Nat.lt_or_ge i ns.length with z | z
  · have e := List.getElem?_eq_getElem z
    rw [mask_bit e, mask_bit e]
    by_cases q : ns[i] ∈ r
    · simp [q, h _ q]
    · simp [q]
  · rw [mask_out z]; rfl
/-! sums -/
theorem within_eq (s : Nat) : ∀ ms : List Nat, withinN ms s = (ms.filter fun m => decide (m &&& s = m)).length := by
  intro ms
  unfold withinN
  generalize hL : ((List.range (s + 1)).filter fun own => decide (own &&& s = own)) = L
  have nd : L.Nodup := by rw [← hL]; exact List.Pairwise.filter _ List.nodup_range
  have hm : ∀ m, m ∈ L ↔ m &&& s = m := by
    intro m
    rw [← hL, List.mem_filter, List.mem_range, decide_eq_true_eq]
    refine ⟨fun h => h.2, fun h => ⟨?_, h⟩⟩
    have := Nat.and_le_right (n := m) (m := s)
    omega
  clear hL
  induction ms with
  | nil =>
    have : ∀ L : List Nat, (L.map (countN [])).sum = 0 := by
      intro L
      induction L with
      | nil => rfl
      | cons a L ih => rw [List.map_cons, List.sum_cons, ih]; rfl
    rw [this]; rfl
  | cons m ms ih =>
    have e : ∀ L : List Nat, (L.map (countN (m :: ms))).sum = (L.map (countN ms)).sum + L.count m := by
      intro L
      induction L with
      | nil => rfl
      | cons a L ihL =>
        rw [List.map_cons, List.sum_cons, ihL, List.map_cons, List.sum_cons, List.count_cons]
        unfold countN
        rw [List.filter_cons]
        by_cases q : m = a
        · subst q; simp; omega
        · have : ¬ a = m := fun z => q z.symm
          simp [q, this]; omega
    rw [e, ih, List.filter_cons]
    by_cases q : m &&& s = m
    · have := (hm m).mpr q
      rw [nd.count, if_pos this]
      simp [q]
    · have : ¬ m ∈ L := fun z => q ((hm m).mp z)
      rw [List.count_eq_zero_of_not_mem this]
      simp [q]
theorem size_eq (n s : Nat) : sizeN n s = ((List.range n).filter fun i => s.testBit i).length := by
  unfold sizeN
  congr 1
  apply List.filter_congr
  intro i _
  rw [Nat.testBit_eq_decide_div_mod_eq, Nat.and_one_is_mod]
theorem foldl_max (l : List Nat) : ∀ a b : Nat, l.foldl max a ≤ b ↔ a ≤ b ∧ ∀ x ∈ l, x ≤ b := by
  induction l with
  | nil => simp
  | cons y l ih =>
    intro a b
    rw [List.foldl_cons, ih]
    constructor
    · rintro ⟨h1, h2⟩
      refine ⟨by omega, fun x hx => ?_⟩
      rcases List.mem_cons.mp hx with rfl | hx
      · omega
      · exact h2 x hx
    · rintro ⟨h1, h2⟩
      refine ⟨?_, fun x hx => h2 x (List.mem_cons_of_mem _ hx)⟩
      have := h2 y (by simp)
      omega
theorem ceil_le {a b m : Nat} (hb : 1 ≤ b) : (a + b - 1) / b ≤ m ↔ a ≤ m * b := by
  rw [← Nat.lt_succ_iff, Nat.div_lt_iff_lt_mul (by omega), Nat.succ_mul]
  omega
theorem least_le {ms : List Nat} {n most : Nat} : leastN ms n ≤ most ↔ ∀ s, 1 ≤ s → s < 2 ^ n → withinN ms s ≤ most * sizeN n s := by
  unfold leastN
  rw [foldl_max]
  constructor
  · rintro ⟨_, h⟩ s h1 h2
    have := h (ceilN ms n s) (List.mem_map.mpr ⟨s - 1, List.mem_range.mpr (by omega), by rw [show s - 1 + 1 = s by omega]⟩)
    exact (ceil_le (size_pos h1 h2)).mp this
  · intro h
    refine ⟨by omega, fun x hx => ?_⟩
    obtain ⟨k, hk, rfl⟩ := List.mem_map.mp hx
    have hk := List.mem_range.mp hk
    exact (ceil_le (size_pos (by omega) (by omega))).mpr (h _ (by omega) (by omega))
theorem pigeon {m : Nat} : ∀ (S L : List Str), (∀ x ∈ L, x ∈ S) → (∀ x, (L.filter fun y => decide (y = x)).length ≤ m) → L.length ≤ m * S.length
  | [], L, h, _ => by
    cases L with
    | nil => simp
    | cons a L => exact absurd (h a (by simp)) (by simp)
  | a :: S, L, h, k => by
    have ih := pigeon S (L.filter fun y => !decide (y = a)) (fun x hx => by
      obtain ⟨h1, h2⟩ := List.mem_filter.mp hx
      rcases List.mem_cons.mp (h x h1) with rfl | h3
      · simp at h2
      · exact h3) (fun x => by
        refine Nat.le_trans ?_ (k x)
        rw [List.filter_filter]
        have : ∀ L : List Str, (L.filter fun y => decide (y = x) && !decide (y = a)).length ≤ (L.filter fun y => decide (y = x)).length := by
          intro L
          induction L with
          | nil => simp
          | cons b L ih =>
            rw [List.filter_cons, List.filter_cons]
            cases h1 : decide (b = x) <;> cases h2 : decide (b = a) <;> simp only [Bool.and_true, Bool.and_false, Bool.not_true, Bool.not_false, if_true, Bool.false_eq_true, if_false, List.length_cons] <;> omega
        exact this L)
    have e : L.length = (L.filter fun y => decide (y = a)).length + (L.filter fun y => !decide (y = a)).length := by
      clear ih h k
      induction L with
      | nil => rfl
      | cons b L ih =>
        rw [List.length_cons, List.filter_cons, List.filter_cons]
        by_cases q : b = a <;> simp [q] <;> omega
    have := k a
    rw [List.length_cons, Nat.mul_add]
    omega
theorem filt_ix {α : Type} (p : α → Bool) (d : α) (ms : List α) : (ms.filter p).length = ((List.range ms.length).filter fun j => p (ms.getD j d)).length := by
  have : ms = (List.range ms.length).map fun j => ms.getD j d := by
    apply List.ext_getElem
    · simp
    · intro i h1 h2; simp [List.getD_eq_getElem?_getD, List.getElem?_eq_getElem h1]
  conv => lhs; rw [this]
  rw [List.filter_map, List.length_map]
  rfl
section
variable {names : List Str} {rows : List (List Str)} {most : Nat}
theorem deal_hall {xs : List Str} (hr : ∀ r ∈ rows, RowIn names r) (h : IsDeal rows most xs) : (¬ 0 ∈ rows.map (maskN names)) ∧ leastN (rows.map (maskN names)) names.length ≤ most := by
  have key : ∀ (i : Nat) (r : List Str), rows[i]? = some r → ∃ s : Str, xs[i]? = some s ∧ s ∈ r := by
    intro i r hi
    have il := (List.getElem?_eq_some_iff.mp hi).1
    have e := List.getElem?_eq_getElem (l := xs) (i := i) (by rw [h.len]; exact il)
    exact ⟨_, e, h.mem i _ r e hi⟩
  constructor
  · intro hz
    obtain ⟨r, hrm, hz⟩ := List.mem_map.mp hz
    obtain ⟨i, hi⟩ := List.mem_iff_getElem?.mp hrm
    obtain ⟨s, _, hs⟩ := key i r hi
    exact mask_zero hz s ((hr r hrm).sub s hs) hs
  · rw [least_le]
    intro s h1 h2
    rw [within_eq, filt_ix _ 0, List.length_map, size_eq]
    generalize hI : ((List.range rows.length).filter fun j => decide ((rows.map (maskN names)).getD j 0 &&& s = (rows.map (maskN names)).getD j 0)) = I
    generalize hS : ((List.range names.length).filter fun i => s.testBit i) = S
    have hp := pigeon (m := most) (S.map fun i => names.getD i "") (I.map fun i => xs.getD i "") ?_ ?_
    · rw [List.length_map, List.length_map] at hp; exact hp
    · intro x hx
      obtain ⟨i, hi, rfl⟩ := List.mem_map.mp hx
      rw [← hI, List.mem_filter, List.mem_range, decide_eq_true_eq] at hi
      obtain ⟨hi, hm⟩ := hi
      have hri := List.getElem?_eq_getElem hi
      obtain ⟨t, ht, htr⟩ := key i _ hri
      have e : (rows.map (maskN names)).getD i 0 = maskN names rows[i] := by rw [List.getD_eq_getElem?_getD, List.getElem?_map, hri]; rfl
      rw [e] at hm
      rw [List.getD_eq_getElem?_getD, ht]
      show t ∈ _
      obtain ⟨a, ha⟩ := List.mem_iff_getElem?.mp ((hr _ (List.getElem_mem hi)).sub t htr)
      refine List.mem_map.mpr ⟨a, ?_, by rw [List.getD_eq_getElem?_getD, ha]; rfl⟩
      rw [← hS, List.mem_filter, List.mem_range]
      refine ⟨(List.getElem?_eq_some_iff.mp ha).1, ?_⟩
      have b := mask_bit (r := rows[i]) ha
      rw [← hm, Nat.testBit_and] at b
      simp [htr] at b
      exact b.2
    · intro x
      refine Nat.le_trans ?_ (h.cnt x)
      rw [filt_ix (fun y => decide (y = x)) "" xs, List.filter_map, List.length_map, ← hI, List.filter_filter, h.len]
      have : ∀ (p q : Nat → Bool) (L : List Nat), (L.filter fun j => p j && q j).length ≤ (L.filter p).length := by
        intro p q L
        induction L with
        | nil => simp
        | cons b L ih =>
          rw [List.filter_cons, List.filter_cons]
          cases hp : p b <;> cases hq : q b <;> simp [hp, hq] <;> omega
      exact this _ _ _
theorem gap_hall {js : List Nat} (nd : names.Nodup) (hr : ∀ r ∈ rows, RowIn names r) (h : IsGap rows most js) : ¬ ((¬ 0 ∈ rows.map (maskN names)) ∧ leastN (rows.map (maskN names)) names.length ≤ most) := by
  rintro ⟨hz, hl⟩
  rw [least_le] at hl
  have hall := (names_all (rows := rows) js []).2
  have hs := names_sub (rows := rows) (keys := names) js [] (by simp) (by simp) (fun j hj n hn => by
    have := h.lt j hj
    rw [List.getD_eq_getElem?_getD, List.getElem?_eq_getElem this] at hn
    exact (hr _ (List.getElem_mem this)).sub n hn) fun r hrm => (hr r hrm).nd
  have hmany := h.many
  unfold namesOf at hmany
  generalize List.foldl (fun acc j => addN acc (rows.getD j [])) [] js = G at *
  have js0 : 0 < js.length := by omega
  obtain ⟨j0, hj0⟩ : ∃ j, j ∈ js := List.length_pos_iff_exists_mem.mp js0
  have j0l := h.lt j0 hj0
  have p1 : 1 ≤ maskN names G := by
    refine Nat.pos_of_ne_zero fun e => hz ?_
    have hsub : ∀ n ∈ rows[j0], n ∈ G := fun n hn => hall j0 hj0 n (by rw [List.getD_eq_getElem?_getD, List.getElem?_eq_getElem j0l]; exact hn)
    have hle := mask_le (ns := names) hsub
    rw [e, Nat.and_zero] at hle
    rw [hle]
    exact List.mem_map.mpr ⟨_, List.getElem_mem j0l, rfl⟩
  have hb := hl _ p1 (mask_lt names G)
  rw [within_eq, filt_ix _ 0, List.length_map, size_eq] at hb
  have c1 : js.length ≤ ((List.range rows.length).filter fun j => decide ((rows.map (maskN names)).getD j 0 &&& maskN names G = (rows.map (maskN names)).getD j 0)).length := by
    refine List.Nodup.length_le_of_subset (h.inc.imp fun q => Nat.ne_of_lt q) fun j hj => ?_
    have jl := h.lt j hj
    rw [List.mem_filter, List.mem_range, decide_eq_true_eq]
    refine ⟨jl, ?_⟩
    rw [List.getD_eq_getElem?_getD, List.getElem?_map, List.getElem?_eq_getElem jl]
    exact mask_le fun n hn => hall j hj n (by rw [List.getD_eq_getElem?_getD, List.getElem?_eq_getElem jl]; exact hn)
  have c2 : ((List.range names.length).filter fun i => (maskN names G).testBit i).length ≤ G.length := by
    have e2 : ((List.range names.length).filter fun i => (maskN names G).testBit i).length = (names.filter fun a => decide (a ∈ G)).length := by
      rw [filt_ix _ ("" : Str) names]
      congr 1
      apply List.filter_congr
      intro i hi
      have hi := List.getElem?_eq_getElem (List.mem_range.mp hi)
      rw [mask_bit hi, List.getD_eq_getElem?_getD, hi]
      rfl
    rw [e2]
    exact List.Nodup.length_le_of_subset (List.Pairwise.filter _ nd) fun a ha => of_decide_eq_true (List.mem_filter.mp ha).2
  have := Nat.mul_le_mul_left most c2
  omega
theorem Dealt.deal {d0 : List (Option Str)} (d : Dealt rows most d0 rows.length) : ∃ xs : List Str, IsDeal rows most xs := by
  have hx : d0 = (d0.map fun o => o.getD "").map some := by
    apply List.ext_getElem
    · simp
    · intro i h2 h3
      obtain ⟨n, hn⟩ := d.lo i (by rw [← d.len]; exact h2) (by rw [← d.len]; exact h2)
      have := (List.getElem?_eq_some_iff.mp hn).2
      simp [this]
  generalize (d0.map fun o => o.getD "") = xs at hx
  subst hx
  refine ⟨xs, ?_, ?_, ?_⟩
  · have := d.len; rwa [List.length_map] at this
  · intro i s r hs hrw
    have := d.mem i s (by rw [List.getElem?_map, hs]; rfl)
    rw [List.getD_eq_getElem?_getD, hrw] at this
    exact this
  · intro s
    have := d.cnt s
    unfold cntN at this
    rw [List.count_eq_length_filter, List.filter_map, List.length_map] at this
    refine Nat.le_trans (Nat.le_of_eq ?_) this
    congr 1
theorem add_gap_ds {ds d' : List (Option Str)} {g : List Nat} {j : Nat} (e : addF rows most ds j = (d', some g)) : d' = ds := by
  unfold addF at e
  split at e
  · cases e
  · cases e; rfl
theorem Dealt.mono {m k : Nat} {ds : List (Option Str)} {j : Nat} (d : Dealt rows m ds j) (h : m ≤ k) : Dealt rows k ds j := ⟨d.len, d.lo, d.hi, d.mem, fun n => Nat.le_trans (d.cnt n) h⟩
theorem least_le128 (hl : rows.length ≤ 128) : leastN (rows.map (maskN names)) names.length ≤ 128 := by
  rw [least_le]
  intro s h1 h2
  rw [within_eq]
  have a := size_pos h1 h2
  have b := List.length_filter_le (fun m => decide (m &&& s = m)) (rows.map (maskN names))
  rw [List.length_map] at b
  have := Nat.mul_le_mul_left 128 a
  omega
theorem least_pos (hr : 0 < rows.length) (z : ¬ 0 ∈ rows.map (maskN names)) : 1 ≤ leastN (rows.map (maskN names)) names.length := by
  refine Nat.pos_of_ne_zero fun e => ?_
  have h := least_le.mp (Nat.le_of_eq e)
  obtain ⟨r, hrm⟩ := List.length_pos_iff_exists_mem.mp hr
  have m0 : maskN names r ≠ 0 := fun q => z (List.mem_map.mpr ⟨r, hrm, q⟩)
  have := h (maskN names r) (by omega) (mask_lt names r)
  rw [within_eq, Nat.zero_mul] at this
  have hp : 0 < ((rows.map (maskN names)).filter fun m => decide (m &&& maskN names r = m)).length := List.length_pos_iff_exists_mem.mpr ⟨maskN names r, List.mem_filter.mpr ⟨List.mem_map.mpr ⟨r, hrm, rfl⟩, by simp⟩⟩
  omega
theorem least_nil : leastN ([].map (maskN names)) names.length = 0 := by
  refine Nat.le_zero.mp (least_le.mpr fun s _ _ => ?_)
  rw [within_eq]; simp
theorem grow_ok (nd : names.Nodup) (hl : rows.length ≤ 128) (hr : ∀ r ∈ rows, RowIn names r) (z : ¬ 0 ∈ rows.map (maskN names)) {j : Nat} (hj : j < rows.length) : ∀ (k m : Nat) (ds : List (Option Str)), 1 ≤ m → m ≤ leastN (rows.map (maskN names)) names.length → leastN (rows.map (maskN names)) names.length - m < k → Dealt rows m ds j →
    growOk rows k m ds j ∧ 1 ≤ (growF rows k m ds j).1 ∧ (growF rows k m ds j).1 ≤ leastN (rows.map (maskN names)) names.length ∧ Dealt rows (growF rows k m ds j).1 (growF rows k m ds j).2 (j + 1)
  | 0, m, ds, h1, h2, h3, D => by omega
  | k + 1, m, ds, h1, h2, h3, D => by
    have hnd : ∀ r ∈ rows, r.Nodup := fun r h => (hr r h).nd
    have hL := least_le128 (names := names) hl
    obtain ⟨a1, a2, a3⟩ := add_ok (rows := rows) h1 hl hnd D hj
    have dl := D.len
    unfold growOk growF
    rcases e : addF rows m ds j with ⟨d', o⟩
    cases o with
    | none => exact ⟨⟨by omega, by omega, a1, trivial⟩, h1, h2, a2 d' e⟩
    | some g =>
      have e2 := add_gap_ds e
      subst e2
      have gp := gap_hall nd hr (a3 _ g e)
      have hm : m < leastN (rows.map (maskN names)) names.length := by
        rcases Nat.lt_or_ge m (leastN (rows.map (maskN names)) names.length) with q | q
        · exact q
        · exact absurd ⟨z, q⟩ gp
      obtain ⟨i1, i2⟩ := grow_ok nd hl hr z hj k (m + 1) d' (by omega) (by omega) (by omega) (D.mono (by omega))
      exact ⟨⟨by omega, by omega, a1, i1⟩, i2⟩
theorem lm_ok (nd : names.Nodup) (hl : rows.length ≤ 128) (hr : ∀ r ∈ rows, RowIn names r) (z : ¬ 0 ∈ rows.map (maskN names)) (h0 : 0 < rows.length) : ∀ j, j ≤ rows.length →
    (∀ i, i < j → growOk rows 200 (lmF rows i).1 (lmF rows i).2 i) ∧ 1 ≤ (lmF rows j).1 ∧ (lmF rows j).1 ≤ leastN (rows.map (maskN names)) names.length ∧ Dealt rows (lmF rows j).1 (lmF rows j).2 j
  | 0, _ => by
    have hp := least_pos (names := names) h0 z
    have e : min 1 rows.length = 1 := by omega
    refine ⟨fun i h => by omega, ?_, ?_, ?_⟩
    · show 1 ≤ min 1 rows.length; omega
    · show min 1 rows.length ≤ _; omega
    show Dealt rows (min 1 rows.length) (List.replicate rows.length none) 0
    refine ⟨by simp, fun i h => by omega, fun i _ h => by simp [h], fun i n h => ?_, fun n => ?_⟩
    · have := List.mem_of_getElem? h
      rw [List.mem_replicate] at this
      cases this.2
    · unfold cntN
      rw [List.count_replicate]
      simp
  | j + 1, hj => by
    obtain ⟨a, b, c, d⟩ := lm_ok nd hl hr z h0 j (by omega)
    have hL := least_le128 (names := names) hl
    obtain ⟨e, f⟩ := grow_ok nd hl hr z (show j < rows.length by omega) 200 _ _ b c (by omega) d
    refine ⟨fun i hi => ?_, f⟩
    rcases Nat.lt_or_ge i j with q | q
    · exact a i q
    · have : i = j := by omega
      subst this
      exact e
theorem lm_least (nd : names.Nodup) (hl : rows.length ≤ 128) (hr : ∀ r ∈ rows, RowIn names r) (z : ¬ 0 ∈ rows.map (maskN names)) : LmOk rows ∧ (lmF rows rows.length).1 = leastN (rows.map (maskN names)) names.length := by
  rcases Nat.eq_zero_or_pos rows.length with h | h
  · have : rows = [] := List.length_eq_zero_iff.mp h
    subst this
    refine ⟨fun j hj => absurd hj (Nat.not_lt_zero _), ?_⟩
    rw [least_nil]; rfl
  · obtain ⟨a, b, c, d⟩ := lm_ok nd hl hr z h rows.length (Nat.le_refl _)
    refine ⟨a, Nat.le_antisymm c ?_⟩
    obtain ⟨xs, hx⟩ := d.deal
    exact (deal_hall hr hx).2
theorem empty_iff (hr : ∀ r ∈ rows, RowIn names r) : emptyAt rows = none ↔ ¬ 0 ∈ rows.map (maskN names) := by
  unfold emptyAt
  rw [List.findIdx?_eq_none_iff]
  constructor
  · intro h z
    obtain ⟨r, hrm, e⟩ := List.mem_map.mp z
    have h1 := h r hrm
    have hz := mask_zero e
    cases r with
    | nil => simp at h1
    | cons s t => exact hz s ((hr _ hrm).sub s (by simp)) (by simp)
  · intro z r hrm
    cases r with
    | nil =>
      exfalso
      refine z (List.mem_map.mpr ⟨[], hrm, ?_⟩)
      unfold maskN maskB
      simp only [List.not_mem_nil, decide_false, Bool.false_eq_true, if_false]
      rw [List.filterMap_eq_nil_iff.mpr (fun _ _ => rfl)]
      rfl
    | cons s t => rfl
theorem plain_law : PlainLaw := by
  intro names rows nok nd n1 n6 hl hr
  have hnd : ∀ r ∈ rows, r.Nodup := fun r h => (hr r h).nd
  have ei := empty_iff hr
  have jo : JobsOk rows := ⟨hl, fun r h => ⟨by have := (hr r h).le; omega, fun s hs => nok s ((hr r h).sub s hs), (hr r h).nd⟩⟩
  have hL := least_le128 (names := names) hl
  refine ⟨⟨jo, fun e => (lm_least nd hl hr (ei.mp e)).1⟩, n1, n6, ei, fun e => (lm_least nd hl hr (ei.mp e)).2, fun e h0 => ?_, fun e m hm h0 => ?_⟩
  · refine ⟨⟨jo, by omega, hL, RunOk.mk' (by omega) hl hnd⟩, ?_⟩
    rcases res_ok (rows := rows) (most := leastN (rows.map (maskN names)) names.length) (by omega) hl hnd with ⟨xs, q, h⟩ | ⟨d, g, q, h⟩
    · rw [q]
    · exact absurd ⟨ei.mp e, Nat.le_refl _⟩ (gap_hall nd hr h)
  · refine ⟨⟨jo, by omega, by omega, RunOk.mk' (by omega) hl hnd⟩, ?_⟩
    rcases res_ok (rows := rows) (most := m) (by omega) hl hnd with ⟨xs, q, h⟩ | ⟨d, g, q, h⟩
    · have := (deal_hall hr h).2
      omega
    · exact ⟨g, by rw [q]⟩
end
end Law

set_option autoImplicit false
namespace Law
open PySem L2 DL
theorem law_true : ∀ ns : List Int, ns.length ≤ 63 → sd_law [.val (.scr ns)] fun r _ => r = .vl (.bl true) := fun ns h =>
  ⟨plain_law, ns, rfl, h, rfl⟩
end Law

set_option Elab.async false
set_option linter.all false
set_option maxRecDepth 100000
set_option maxHeartbeats 4000000
set_option autoImplicit false
namespace Law
open PySem L2 DL

theorem all_mk {l : PySem.W.OpenLaw} {w : World} {K : PySem.W.Frag} {h : Heap} {mg : Str → Option Value} {fa : Addr} (X : K.In h) (G : h.Ns mainGlobals mg) (hfa : mg "law" = some (.ref fa))
    {f0 : Addr} {od0 an0 : Option Addr} {sl0 : Array (Option Value)} {oc0 kV0 dc0 pm0 cd0 ct0 : Value}
    {f1 : Addr} {od1 an1 : Option Addr} {sl1 : Array (Option Value)} {oc1 kV1 dc1 pm1 cd1 ct1 : Value}
    {f2 : Addr} {od2 an2 : Option Addr} {sl2 : Array (Option Value)} {oc2 kV2 dc2 pm2 cd2 ct2 : Value}
    {f3 : Addr} {od3 an3 : Option Addr} {sl3 : Array (Option Value)} {oc3 kV3 dc3 pm3 cd3 ct3 : Value}
    {f4 : Addr} {od4 an4 : Option Addr} {sl4 : Array (Option Value)} {oc4 kV4 dc4 pm4 cd4 ct4 : Value}
    {f5 : Addr} {od5 an5 : Option Addr} {sl5 : Array (Option Value)} {oc5 kV5 dc5 pm5 cd5 ct5 : Value}
    {f6 : Addr} {od6 an6 : Option Addr} {sl6 : Array (Option Value)} {oc6 kV6 dc6 pm6 cd6 ct6 : Value}
    {f7 : Addr} {od7 an7 : Option Addr} {sl7 : Array (Option Value)} {oc7 kV7 dc7 pm7 cd7 ct7 : Value}
    {f8 : Addr} {od8 an8 : Option Addr} {sl8 : Array (Option Value)} {oc8 kV8 dc8 pm8 cd8 ct8 : Value}
    {f9 : Addr} {od9 an9 : Option Addr} {sl9 : Array (Option Value)} {oc9 kV9 dc9 pm9 cd9 ct9 : Value}
    {f10 : Addr} {od10 an10 : Option Addr} {sl10 : Array (Option Value)} {oc10 kV10 dc10 pm10 cd10 ct10 : Value}
    {f11 : Addr} {od11 an11 : Option Addr} {sl11 : Array (Option Value)} {oc11 kV11 dc11 pm11 cd11 ct11 : Value}
    {f12 : Addr} {od12 an12 : Option Addr} {sl12 : Array (Option Value)} {oc12 kV12 dc12 pm12 cd12 ct12 : Value}
    {f13 : Addr} {od13 an13 : Option Addr} {sl13 : Array (Option Value)} {oc13 kV13 dc13 pm13 cd13 ct13 : Value}
    {f14 : Addr} {od14 an14 : Option Addr} {sl14 : Array (Option Value)} {oc14 kV14 dc14 pm14 cd14 ct14 : Value}
    {f15 : Addr} {od15 an15 : Option Addr} {sl15 : Array (Option Value)} {oc15 kV15 dc15 pm15 cd15 ct15 : Value}
    {f16 : Addr} {od16 an16 : Option Addr} {sl16 : Array (Option Value)} {oc16 kV16 dc16 pm16 cd16 ct16 : Value}
    {f17 : Addr} {od17 an17 : Option Addr} {sl17 : Array (Option Value)} {oc17 kV17 dc17 pm17 cd17 ct17 : Value}
    {f18 : Addr} {od18 an18 : Option Addr} {sl18 : Array (Option Value)} {oc18 kV18 dc18 pm18 cd18 ct18 : Value}
    {f19 : Addr} {od19 an19 : Option Addr} {sl19 : Array (Option Value)} {oc19 kV19 dc19 pm19 cd19 ct19 : Value}
    {f20 : Addr} {od20 an20 : Option Addr} {sl20 : Array (Option Value)} {oc20 kV20 dc20 pm20 cd20 ct20 : Value}
    {f21 : Addr} {od21 an21 : Option Addr} {sl21 : Array (Option Value)} {oc21 kV21 dc21 pm21 cd21 ct21 : Value}
    {f22 : Addr} {od22 an22 : Option Addr} {sl22 : Array (Option Value)} {oc22 kV22 dc22 pm22 cd22 ct22 : Value}
    {f23 : Addr} {od23 an23 : Option Addr} {sl23 : Array (Option Value)} {oc23 kV23 dc23 pm23 cd23 ct23 : Value}
    {C_PeerError : Addr} {C_Absent : Addr} {C_Barred : Addr} {C_NoName : Addr} {C_NoNumber : Addr} {C_Twice : Addr} {C_NoJobs : Addr} {C_NoDoer : Addr} {fi_NoName : Addr} {odi_NoName ani_NoName : Option Addr} {sli_NoName : Array (Option Value)} {oci_NoName kVi_NoName dci_NoName pmi_NoName cdi_NoName cti_NoName : Value} {fi_NoJobs : Addr} {odi_NoJobs ani_NoJobs : Option Addr} {sli_NoJobs : Array (Option Value)} {oci_NoJobs kVi_NoJobs dci_NoJobs pmi_NoJobs cdi_NoJobs cti_NoJobs : Value} {fi_Twice : Addr} {odi_Twice ani_Twice : Option Addr} {sli_Twice : Array (Option Value)} {oci_Twice kVi_Twice dci_Twice pmi_Twice cdi_Twice cti_Twice : Value} {fi_NoNumber : Addr} {odi_NoNumber ani_NoNumber : Option Addr} {sli_NoNumber : Array (Option Value)} {oci_NoNumber kVi_NoNumber dci_NoNumber pmi_NoNumber cdi_NoNumber cti_NoNumber : Value} {fi_NoDoer : Addr} {odi_NoDoer ani_NoDoer : Option Addr} {sli_NoDoer : Array (Option Value)} {oci_NoDoer kVi_NoDoer dci_NoDoer pmi_NoDoer cdi_NoDoer cti_NoDoer : Value}
    (a0 : PySem.W.nsIn K mainGlobals "is_whole" = some (some (.ref f0))) (l0 : K.lookup f0 = some ⟨oc0, od0, .func (PySem.W.fnOf "is_whole" "is_whole" (defArgs s_is_whole) (defBody s_is_whole) (defScope s_is_whole) .none kV0 dc0 pm0 an0 cd0 ct0), sl0⟩) (c0 : PySem.W.codeIn K cd0 "is_whole" = true) (k0 : PySem.W.keepIn K (.ref f0) = true)
    (a1 : PySem.W.nsIn K mainGlobals "is_name" = some (some (.ref f1))) (l1 : K.lookup f1 = some ⟨oc1, od1, .func (PySem.W.fnOf "is_name" "is_name" (defArgs s_is_name) (defBody s_is_name) (defScope s_is_name) .none kV1 dc1 pm1 an1 cd1 ct1), sl1⟩) (c1 : PySem.W.codeIn K cd1 "is_name" = true) (k1 : PySem.W.keepIn K (.ref f1) = true)
    (a2 : PySem.W.nsIn K mainGlobals "need_name" = some (some (.ref f2))) (l2 : K.lookup f2 = some ⟨oc2, od2, .func (PySem.W.fnOf "need_name" "need_name" (defArgs s_need_name) (defBody s_need_name) (defScope s_need_name) .none kV2 dc2 pm2 an2 cd2 ct2), sl2⟩) (c2 : PySem.W.codeIn K cd2 "need_name" = true) (k2 : PySem.W.keepIn K (.ref f2) = true)
    (a3 : PySem.W.nsIn K mainGlobals "need_row" = some (some (.ref f3))) (l3 : K.lookup f3 = some ⟨oc3, od3, .func (PySem.W.fnOf "need_row" "need_row" (defArgs s_need_row) (defBody s_need_row) (defScope s_need_row) .none kV3 dc3 pm3 an3 cd3 ct3), sl3⟩) (c3 : PySem.W.codeIn K cd3 "need_row" = true) (k3 : PySem.W.keepIn K (.ref f3) = true)
    (a4 : PySem.W.nsIn K mainGlobals "need_jobs" = some (some (.ref f4))) (l4 : K.lookup f4 = some ⟨oc4, od4, .func (PySem.W.fnOf "need_jobs" "need_jobs" (defArgs s_need_jobs) (defBody s_need_jobs) (defScope s_need_jobs) .none kV4 dc4 pm4 an4 cd4 ct4), sl4⟩) (c4 : PySem.W.codeIn K cd4 "need_jobs" = true) (k4 : PySem.W.keepIn K (.ref f4) = true)
    (a5 : PySem.W.nsIn K mainGlobals "need_most" = some (some (.ref f5))) (l5 : K.lookup f5 = some ⟨oc5, od5, .func (PySem.W.fnOf "need_most" "need_most" (defArgs s_need_most) (defBody s_need_most) (defScope s_need_most) .none kV5 dc5 pm5 an5 cd5 ct5), sl5⟩) (c5 : PySem.W.codeIn K cd5 "need_most" = true) (k5 : PySem.W.keepIn K (.ref f5) = true)
    (a6 : PySem.W.nsIn K mainGlobals "dealt_to" = some (some (.ref f6))) (l6 : K.lookup f6 = some ⟨oc6, od6, .func (PySem.W.fnOf "dealt_to" "dealt_to" (defArgs s_dealt_to) (defBody s_dealt_to) (defScope s_dealt_to) .none kV6 dc6 pm6 an6 cd6 ct6), sl6⟩) (c6 : PySem.W.codeIn K cd6 "dealt_to" = true) (k6 : PySem.W.keepIn K (.ref f6) = true)
    (a7 : PySem.W.nsIn K mainGlobals "pass_on" = some (some (.ref f7))) (l7 : K.lookup f7 = some ⟨oc7, od7, .func (PySem.W.fnOf "pass_on" "pass_on" (defArgs s_pass_on) (defBody s_pass_on) (defScope s_pass_on) .none kV7 dc7 pm7 an7 cd7 ct7), sl7⟩) (c7 : PySem.W.codeIn K cd7 "pass_on" = true) (k7 : PySem.W.keepIn K (.ref f7) = true)
    (a8 : PySem.W.nsIn K mainGlobals "add_job" = some (some (.ref f8))) (l8 : K.lookup f8 = some ⟨oc8, od8, .func (PySem.W.fnOf "add_job" "add_job" (defArgs s_add_job) (defBody s_add_job) (defScope s_add_job) .none kV8 dc8 pm8 an8 cd8 ct8), sl8⟩) (c8 : PySem.W.codeIn K cd8 "add_job" = true) (k8 : PySem.W.keepIn K (.ref f8) = true)
    (a9 : PySem.W.nsIn K mainGlobals "deal_or_gap" = some (some (.ref f9))) (l9 : K.lookup f9 = some ⟨oc9, od9, .func (PySem.W.fnOf "deal_or_gap" "deal_or_gap" (defArgs s_deal_or_gap) (defBody s_deal_or_gap) (defScope s_deal_or_gap) .none kV9 dc9 pm9 an9 cd9 ct9), sl9⟩) (c9 : PySem.W.codeIn K cd9 "deal_or_gap" = true) (k9 : PySem.W.keepIn K (.ref f9) = true)
    (a10 : PySem.W.nsIn K mainGlobals "deal_of" = some (some (.ref f10))) (l10 : K.lookup f10 = some ⟨oc10, od10, .func (PySem.W.fnOf "deal_of" "deal_of" (defArgs s_deal_of) (defBody s_deal_of) (defScope s_deal_of) .none kV10 dc10 pm10 an10 cd10 ct10), sl10⟩) (c10 : PySem.W.codeIn K cd10 "deal_of" = true) (k10 : PySem.W.keepIn K (.ref f10) = true)
    (a11 : PySem.W.nsIn K mainGlobals "gap_of" = some (some (.ref f11))) (l11 : K.lookup f11 = some ⟨oc11, od11, .func (PySem.W.fnOf "gap_of" "gap_of" (defArgs s_gap_of) (defBody s_gap_of) (defScope s_gap_of) .none kV11 dc11 pm11 an11 cd11 ct11), sl11⟩) (c11 : PySem.W.codeIn K cd11 "gap_of" = true) (k11 : PySem.W.keepIn K (.ref f11) = true)
    (a12 : PySem.W.nsIn K mainGlobals "least_most" = some (some (.ref f12))) (l12 : K.lookup f12 = some ⟨oc12, od12, .func (PySem.W.fnOf "least_most" "least_most" (defArgs s_least_most) (defBody s_least_most) (defScope s_least_most) .none kV12 dc12 pm12 an12 cd12 ct12), sl12⟩) (c12 : PySem.W.codeIn K cd12 "least_most" = true) (k12 : PySem.W.keepIn K (.ref f12) = true)
    (a13 : PySem.W.nsIn K mainGlobals "_law_cell" = some (some (.ref f13))) (l13 : K.lookup f13 = some ⟨oc13, od13, .func (PySem.W.fnOf "_law_cell" "_law_cell" (defArgs s_l_cell) (defBody s_l_cell) (defScope s_l_cell) .none kV13 dc13 pm13 an13 cd13 ct13), sl13⟩) (c13 : PySem.W.codeIn K cd13 "_law_cell" = true) (k13 : PySem.W.keepIn K (.ref f13) = true)
    (a14 : PySem.W.nsIn K mainGlobals "_law_box" = some (some (.ref f14))) (l14 : K.lookup f14 = some ⟨oc14, od14, .func (PySem.W.fnOf "_law_box" "_law_box" (defArgs s_l_box) (defBody s_l_box) (defScope s_l_box) .none kV14 dc14 pm14 an14 cd14 ct14), sl14⟩) (c14 : PySem.W.codeIn K cd14 "_law_box" = true) (k14 : PySem.W.keepIn K (.ref f14) = true)
    (a15 : PySem.W.nsIn K mainGlobals "_law_take" = some (some (.ref f15))) (l15 : K.lookup f15 = some ⟨oc15, od15, .func (PySem.W.fnOf "_law_take" "_law_take" (defArgs s_l_take) (defBody s_l_take) (defScope s_l_take) .none kV15 dc15 pm15 an15 cd15 ct15), sl15⟩) (c15 : PySem.W.codeIn K cd15 "_law_take" = true) (k15 : PySem.W.keepIn K (.ref f15) = true)
    (a16 : PySem.W.nsIn K mainGlobals "_law_names" = some (some (.ref f16))) (l16 : K.lookup f16 = some ⟨oc16, od16, .func (PySem.W.fnOf "_law_names" "_law_names" (defArgs s_l_names) (defBody s_l_names) (defScope s_l_names) .none kV16 dc16 pm16 an16 cd16 ct16), sl16⟩) (c16 : PySem.W.codeIn K cd16 "_law_names" = true) (k16 : PySem.W.keepIn K (.ref f16) = true)
    (a17 : PySem.W.nsIn K mainGlobals "_law_rows" = some (some (.ref f17))) (l17 : K.lookup f17 = some ⟨oc17, od17, .func (PySem.W.fnOf "_law_rows" "_law_rows" (defArgs s_l_rows) (defBody s_l_rows) (defScope s_l_rows) .none kV17 dc17 pm17 an17 cd17 ct17), sl17⟩) (c17 : PySem.W.codeIn K cd17 "_law_rows" = true) (k17 : PySem.W.keepIn K (.ref f17) = true)
    (a18 : PySem.W.nsIn K mainGlobals "_law_masks" = some (some (.ref f18))) (l18 : K.lookup f18 = some ⟨oc18, od18, .func (PySem.W.fnOf "_law_masks" "_law_masks" (defArgs s_l_masks) (defBody s_l_masks) (defScope s_l_masks) .none kV18 dc18 pm18 an18 cd18 ct18), sl18⟩) (c18 : PySem.W.codeIn K cd18 "_law_masks" = true) (k18 : PySem.W.keepIn K (.ref f18) = true)
    (a19 : PySem.W.nsIn K mainGlobals "_law_least" = some (some (.ref f19))) (l19 : K.lookup f19 = some ⟨oc19, od19, .func (PySem.W.fnOf "_law_least" "_law_least" (defArgs s_l_least) (defBody s_l_least) (defScope s_l_least) .none kV19 dc19 pm19 an19 cd19 ct19), sl19⟩) (c19 : PySem.W.codeIn K cd19 "_law_least" = true) (k19 : PySem.W.keepIn K (.ref f19) = true)
    (a20 : PySem.W.nsIn K mainGlobals "_law_mixed" = some (some (.ref f20))) (l20 : K.lookup f20 = some ⟨oc20, od20, .func (PySem.W.fnOf "_law_mixed" "_law_mixed" (defArgs s_l_mixed) (defBody s_l_mixed) (defScope s_l_mixed) .none kV20 dc20 pm20 an20 cd20 ct20), sl20⟩) (c20 : PySem.W.codeIn K cd20 "_law_mixed" = true) (k20 : PySem.W.keepIn K (.ref f20) = true)
    (a21 : PySem.W.nsIn K mainGlobals "_law_told" = some (some (.ref f21))) (l21 : K.lookup f21 = some ⟨oc21, od21, .func (PySem.W.fnOf "_law_told" "_law_told" (defArgs s_l_told) (defBody s_l_told) (defScope s_l_told) .none kV21 dc21 pm21 an21 cd21 ct21), sl21⟩) (c21 : PySem.W.codeIn K cd21 "_law_told" = true) (k21 : PySem.W.keepIn K (.ref f21) = true)
    (a22 : PySem.W.nsIn K mainGlobals "_law_right" = some (some (.ref f22))) (l22 : K.lookup f22 = some ⟨oc22, od22, .func (PySem.W.fnOf "_law_right" "_law_right" (defArgs s_l_right) (defBody s_l_right) (defScope s_l_right) .none kV22 dc22 pm22 an22 cd22 ct22), sl22⟩) (c22 : PySem.W.codeIn K cd22 "_law_right" = true) (k22 : PySem.W.keepIn K (.ref f22) = true)
    (a23 : PySem.W.nsIn K mainGlobals "law" = some (some (.ref f23))) (l23 : K.lookup f23 = some ⟨oc23, od23, .func (PySem.W.fnOf "law" "law" (defArgs s_law) (defBody s_law) (defScope s_law) .none kV23 dc23 pm23 an23 cd23 ct23), sl23⟩) (c23 : PySem.W.codeIn K cd23 "law" = true) (k23 : PySem.W.keepIn K (.ref f23) = true)
    (z_all : PySem.W.nsIn K mainGlobals "all" = some none) (z_bool : PySem.W.nsIn K mainGlobals "bool" = some none) (z_enumerate : PySem.W.nsIn K mainGlobals "enumerate" = some none) (z_int : PySem.W.nsIn K mainGlobals "int" = some none) (z_isinstance : PySem.W.nsIn K mainGlobals "isinstance" = some none) (z_len : PySem.W.nsIn K mainGlobals "len" = some none) (z_list : PySem.W.nsIn K mainGlobals "list" = some none) (z_max : PySem.W.nsIn K mainGlobals "max" = some none) (z_min : PySem.W.nsIn K mainGlobals "min" = some none) (z_range : PySem.W.nsIn K mainGlobals "range" = some none) (z_sorted : PySem.W.nsIn K mainGlobals "sorted" = some none) (z_str : PySem.W.nsIn K mainGlobals "str" = some none) (z_sum : PySem.W.nsIn K mainGlobals "sum" = some none) (z_tuple : PySem.W.nsIn K mainGlobals "tuple" = some none)
    {u_LETTERS : Value} (y_LETTERS : PySem.W.nsIn K mainGlobals "LETTERS" = some (some u_LETTERS)) (r_LETTERS : RelV (.str "abcdefghijklmnopqrstuvwxyz") u_LETTERS) {u_MOST_JOBS : Value} (y_MOST_JOBS : PySem.W.nsIn K mainGlobals "MOST_JOBS" = some (some u_MOST_JOBS)) (r_MOST_JOBS : RelV (.int 128) u_MOST_JOBS) {u_MOST_PEERS : Value} (y_MOST_PEERS : PySem.W.nsIn K mainGlobals "MOST_PEERS" = some (some u_MOST_PEERS)) (r_MOST_PEERS : RelV (.int 8) u_MOST_PEERS)
    (ac_PeerError : PySem.W.nsIn K mainGlobals "PeerError" = some (some (.ref C_PeerError)))
    (ac_Absent : PySem.W.nsIn K mainGlobals "Absent" = some (some (.ref C_Absent)))
    (ac_Barred : PySem.W.nsIn K mainGlobals "Barred" = some (some (.ref C_Barred)))
    (ac_NoName : PySem.W.nsIn K mainGlobals "NoName" = some (some (.ref C_NoName)))
    (ac_NoNumber : PySem.W.nsIn K mainGlobals "NoNumber" = some (some (.ref C_NoNumber)))
    (ac_Twice : PySem.W.nsIn K mainGlobals "Twice" = some (some (.ref C_Twice)))
    (ac_NoJobs : PySem.W.nsIn K mainGlobals "NoJobs" = some (some (.ref C_NoJobs)))
    (ac_NoDoer : PySem.W.nsIn K mainGlobals "NoDoer" = some (some (.ref C_NoDoer)))
    (vb_NoName : veB K C_NoName = true)
    (sa_NoName : PySem.W.findIn K (.ref C_NoName) "__setattr__" = some (some (.builtin "object.__setattr__")))
    (ex_NoName : PySem.W.subIn K (.ref C_NoName) (.type "BaseException") = some true)
    (ty_NoName : PySem.W.typeIn K (.ref C_NoName) = some (.type "type"))
    (kc_NoName : PySem.W.keepIn K (.ref C_NoName) = true)
    (xf_NoName : xfB K C_NoName = true)
    (no_NoName : PySem.W.findIn K (.ref C_NoName) "found" = some none)
    (ic_NoName : PySem.W.findIn K (.ref C_NoName) "__init__" = some (some (.ref fi_NoName)))
    (ti_NoName : PySem.W.typeIn K (.ref fi_NoName) = some (.type "function"))
    (li_NoName : K.lookup fi_NoName = some ⟨oci_NoName, odi_NoName, .func (PySem.W.fnOf "__init__" "NoName.__init__" (defArgs si_NoName) (defBody si_NoName) (defScope si_NoName) .none kVi_NoName dci_NoName pmi_NoName ani_NoName cdi_NoName cti_NoName), sli_NoName⟩)
    (cc_NoName : PySem.W.codeIn K cdi_NoName "NoName.__init__" = true)
    (ki_NoName : PySem.W.keepIn K (.ref fi_NoName) = true)
    (vb_NoJobs : veB K C_NoJobs = true)
    (sa_NoJobs : PySem.W.findIn K (.ref C_NoJobs) "__setattr__" = some (some (.builtin "object.__setattr__")))
    (ex_NoJobs : PySem.W.subIn K (.ref C_NoJobs) (.type "BaseException") = some true)
    (ty_NoJobs : PySem.W.typeIn K (.ref C_NoJobs) = some (.type "type"))
    (kc_NoJobs : PySem.W.keepIn K (.ref C_NoJobs) = true)
    (xf_NoJobs : xfB K C_NoJobs = true)
    (no_NoJobs : PySem.W.findIn K (.ref C_NoJobs) "found" = some none)
    (ic_NoJobs : PySem.W.findIn K (.ref C_NoJobs) "__init__" = some (some (.ref fi_NoJobs)))
    (ti_NoJobs : PySem.W.typeIn K (.ref fi_NoJobs) = some (.type "function"))
    (li_NoJobs : K.lookup fi_NoJobs = some ⟨oci_NoJobs, odi_NoJobs, .func (PySem.W.fnOf "__init__" "NoJobs.__init__" (defArgs si_NoJobs) (defBody si_NoJobs) (defScope si_NoJobs) .none kVi_NoJobs dci_NoJobs pmi_NoJobs ani_NoJobs cdi_NoJobs cti_NoJobs), sli_NoJobs⟩)
    (cc_NoJobs : PySem.W.codeIn K cdi_NoJobs "NoJobs.__init__" = true)
    (ki_NoJobs : PySem.W.keepIn K (.ref fi_NoJobs) = true)
    (vb_Twice : veB K C_Twice = true)
    (sa_Twice : PySem.W.findIn K (.ref C_Twice) "__setattr__" = some (some (.builtin "object.__setattr__")))
    (ex_Twice : PySem.W.subIn K (.ref C_Twice) (.type "BaseException") = some true)
    (ty_Twice : PySem.W.typeIn K (.ref C_Twice) = some (.type "type"))
    (kc_Twice : PySem.W.keepIn K (.ref C_Twice) = true)
    (xf_Twice : xfB K C_Twice = true)
    (no_Twice : PySem.W.findIn K (.ref C_Twice) "found" = some none)
    (ic_Twice : PySem.W.findIn K (.ref C_Twice) "__init__" = some (some (.ref fi_Twice)))
    (ti_Twice : PySem.W.typeIn K (.ref fi_Twice) = some (.type "function"))
    (li_Twice : K.lookup fi_Twice = some ⟨oci_Twice, odi_Twice, .func (PySem.W.fnOf "__init__" "Twice.__init__" (defArgs si_Twice) (defBody si_Twice) (defScope si_Twice) .none kVi_Twice dci_Twice pmi_Twice ani_Twice cdi_Twice cti_Twice), sli_Twice⟩)
    (cc_Twice : PySem.W.codeIn K cdi_Twice "Twice.__init__" = true)
    (ki_Twice : PySem.W.keepIn K (.ref fi_Twice) = true)
    (vb_NoNumber : veB K C_NoNumber = true)
    (sa_NoNumber : PySem.W.findIn K (.ref C_NoNumber) "__setattr__" = some (some (.builtin "object.__setattr__")))
    (ex_NoNumber : PySem.W.subIn K (.ref C_NoNumber) (.type "BaseException") = some true)
    (ty_NoNumber : PySem.W.typeIn K (.ref C_NoNumber) = some (.type "type"))
    (kc_NoNumber : PySem.W.keepIn K (.ref C_NoNumber) = true)
    (xf_NoNumber : xfB K C_NoNumber = true)
    (no_NoNumber : PySem.W.findIn K (.ref C_NoNumber) "found" = some none)
    (ic_NoNumber : PySem.W.findIn K (.ref C_NoNumber) "__init__" = some (some (.ref fi_NoNumber)))
    (ti_NoNumber : PySem.W.typeIn K (.ref fi_NoNumber) = some (.type "function"))
    (li_NoNumber : K.lookup fi_NoNumber = some ⟨oci_NoNumber, odi_NoNumber, .func (PySem.W.fnOf "__init__" "NoNumber.__init__" (defArgs si_NoNumber) (defBody si_NoNumber) (defScope si_NoNumber) .none kVi_NoNumber dci_NoNumber pmi_NoNumber ani_NoNumber cdi_NoNumber cti_NoNumber), sli_NoNumber⟩)
    (cc_NoNumber : PySem.W.codeIn K cdi_NoNumber "NoNumber.__init__" = true)
    (ki_NoNumber : PySem.W.keepIn K (.ref fi_NoNumber) = true)
    (vb_NoDoer : leB K C_NoDoer "KeyError" = true)
    (ov_NoDoer : PySem.W.excOver K C_NoDoer tailKE = true)
    (sa_NoDoer : PySem.W.findIn K (.ref C_NoDoer) "__setattr__" = some (some (.builtin "object.__setattr__")))
    (ex_NoDoer : PySem.W.subIn K (.ref C_NoDoer) (.type "BaseException") = some true)
    (ty_NoDoer : PySem.W.typeIn K (.ref C_NoDoer) = some (.type "type"))
    (kc_NoDoer : PySem.W.keepIn K (.ref C_NoDoer) = true)
    (xf_NoDoer : xfB K C_NoDoer = true)
    (no_NoDoer : PySem.W.findIn K (.ref C_NoDoer) "at" = some none)
    (ic_NoDoer : PySem.W.findIn K (.ref C_NoDoer) "__init__" = some (some (.ref fi_NoDoer)))
    (ti_NoDoer : PySem.W.typeIn K (.ref fi_NoDoer) = some (.type "function"))
    (li_NoDoer : K.lookup fi_NoDoer = some ⟨oci_NoDoer, odi_NoDoer, .func (PySem.W.fnOf "__init__" "NoDoer.__init__" (defArgs si_NoDoer) (defBody si_NoDoer) (defScope si_NoDoer) .none kVi_NoDoer dci_NoDoer pmi_NoDoer ani_NoDoer cdi_NoDoer cti_NoDoer), sli_NoDoer⟩)
    (cc_NoDoer : PySem.W.codeIn K cdi_NoDoer "NoDoer.__init__" = true)
    (ki_NoDoer : PySem.W.keepIn K (.ref fi_NoDoer) = true)
    (rd_PeerError : PySem.W.readsIn K C_PeerError (.type "type") = true)
    (ga_PeerError : PySem.W.specialIn K (.ref C_PeerError) "__getattribute__" = some (some (.builtin "type.__getattribute__")))
    (at_PeerError : PySem.W.findCls K (.ref C_PeerError) (.type "type") "__init__" = some (.val (.builtin "ValueError.__init__")))
    (rd_Absent : PySem.W.readsIn K C_Absent (.type "type") = true)
    (ga_Absent : PySem.W.specialIn K (.ref C_Absent) "__getattribute__" = some (some (.builtin "type.__getattribute__")))
    (at_Absent : PySem.W.findCls K (.ref C_Absent) (.type "type") "__init__" = some (.val (.builtin "KeyError.__init__")))
    (ie_NoName_NoDoer : PySem.W.exmOne K (.ref C_NoName) (.ref C_NoDoer) = some false)
    (ie_NoJobs_NoDoer : PySem.W.exmOne K (.ref C_NoJobs) (.ref C_NoDoer) = some false)
    (ie_Twice_NoDoer : PySem.W.exmOne K (.ref C_Twice) (.ref C_NoDoer) = some false)
    (ie_NoNumber_NoDoer : PySem.W.exmOne K (.ref C_NoNumber) (.ref C_NoDoer) = some false)
    (ie_NoDoer_NoDoer : PySem.W.exmOne K (.ref C_NoDoer) (.ref C_NoDoer) = some true) :
    ∃ fd : FuncData, (∀ (s : Shared) (v : Value), BindsTo s fd ⟨[v], []⟩ [("script", v)]) ∧ ∀ base : Heap, K.In base → base.Ns mainGlobals mg → FnG l.prog w K mg base CX0 9 fa fd ["script"] (spD K sd_law) := by
  have e := hfa.symm.trans (PySem.W.mg_of X G a23)
  cases e
  have T : Txt K mg (fun i => ([.ref C_PeerError, .ref C_Absent, .ref C_Barred, .ref C_NoName, .ref C_NoNumber, .ref C_Twice, .ref C_NoJobs, .ref C_NoDoer] : List Value).getD i .none) := ⟨PySem.W.mg_none_of X G z_all, PySem.W.mg_none_of X G z_bool, PySem.W.mg_none_of X G z_enumerate, PySem.W.mg_none_of X G z_int, PySem.W.mg_none_of X G z_isinstance, PySem.W.mg_none_of X G z_len, PySem.W.mg_none_of X G z_list, PySem.W.mg_none_of X G z_max, PySem.W.mg_none_of X G z_min, PySem.W.mg_none_of X G z_range, PySem.W.mg_none_of X G z_sorted, PySem.W.mg_none_of X G z_str, PySem.W.mg_none_of X G z_sum, PySem.W.mg_none_of X G z_tuple, ⟨_, PySem.W.mg_of X G y_LETTERS, r_LETTERS⟩, ⟨_, PySem.W.mg_of X G y_MOST_JOBS, r_MOST_JOBS⟩, ⟨_, PySem.W.mg_of X G y_MOST_PEERS, r_MOST_PEERS⟩, PySem.W.mg_of X G ac_PeerError, PySem.W.mg_of X G ac_Absent, PySem.W.mg_of X G ac_NoName, PySem.W.mg_of X G ac_NoNumber, PySem.W.mg_of X G ac_Twice, PySem.W.mg_of X G ac_NoJobs, PySem.W.mg_of X G ac_NoDoer⟩
  refine ⟨PySem.W.fnOf "law" "law" (defArgs s_law) (defBody s_law) (defScope s_law) .none kV23 dc23 pm23 an23 cd23 ct23, fun s v => .of_eq rfl, fun base _ _ => ?_⟩
  have isa : isaOk K (fun i => ([.ref C_PeerError, .ref C_Absent, .ref C_Barred, .ref C_NoName, .ref C_NoNumber, .ref C_Twice, .ref C_NoJobs, .ref C_NoDoer] : List Value).getD i .none) isaT := by
    intro x y b h
    match x, y, h with
    | 0, y, h => exact (match y, h with | 0, h => nomatch h | 1, h => nomatch h | 2, h => nomatch h | 3, h => nomatch h | 4, h => nomatch h | 5, h => nomatch h | 6, h => nomatch h | 7, h => nomatch h | n + 8, h => nomatch h)
    | 1, y, h => exact (match y, h with | 0, h => nomatch h | 1, h => nomatch h | 2, h => nomatch h | 3, h => nomatch h | 4, h => nomatch h | 5, h => nomatch h | 6, h => nomatch h | 7, h => nomatch h | n + 8, h => nomatch h)
    | 2, y, h => exact (match y, h with | 0, h => nomatch h | 1, h => nomatch h | 2, h => nomatch h | 3, h => nomatch h | 4, h => nomatch h | 5, h => nomatch h | 6, h => nomatch h | 7, h => nomatch h | n + 8, h => nomatch h)
    | 3, y, h => exact (match y, h with | 0, h => nomatch h | 1, h => nomatch h | 2, h => nomatch h | 3, h => nomatch h | 4, h => nomatch h | 5, h => nomatch h | 6, h => nomatch h | 7, h => by cases h; exact ie_NoName_NoDoer | n + 8, h => nomatch h)
    | 4, y, h => exact (match y, h with | 0, h => nomatch h | 1, h => nomatch h | 2, h => nomatch h | 3, h => nomatch h | 4, h => nomatch h | 5, h => nomatch h | 6, h => nomatch h | 7, h => by cases h; exact ie_NoNumber_NoDoer | n + 8, h => nomatch h)
    | 5, y, h => exact (match y, h with | 0, h => nomatch h | 1, h => nomatch h | 2, h => nomatch h | 3, h => nomatch h | 4, h => nomatch h | 5, h => nomatch h | 6, h => nomatch h | 7, h => by cases h; exact ie_Twice_NoDoer | n + 8, h => nomatch h)
    | 6, y, h => exact (match y, h with | 0, h => nomatch h | 1, h => nomatch h | 2, h => nomatch h | 3, h => nomatch h | 4, h => nomatch h | 5, h => nomatch h | 6, h => nomatch h | 7, h => by cases h; exact ie_NoJobs_NoDoer | n + 8, h => nomatch h)
    | 7, y, h => exact (match y, h with | 0, h => nomatch h | 1, h => nomatch h | 2, h => nomatch h | 3, h => nomatch h | 4, h => nomatch h | 5, h => nomatch h | 6, h => nomatch h | 7, h => by cases h; exact ie_NoDoer_NoDoer | n + 8, h => nomatch h)
    | n + 8, y, h => exact nomatch h
  have F_NoName := fun_mk (st := si_NoName) li_NoName cc_NoName ki_NoName
  have F_NoJobs := fun_mk (st := si_NoJobs) li_NoJobs cc_NoJobs ki_NoJobs
  have F_Twice := fun_mk (st := si_Twice) li_Twice cc_Twice ki_Twice
  have F_NoNumber := fun_mk (st := si_NoNumber) li_NoNumber cc_NoNumber ki_NoNumber
  have F_NoDoer := fun_mk (st := si_NoDoer) li_NoDoer cc_NoDoer ki_NoDoer
  have XT : XTxt l.prog w K mg (fun i => ([.ref C_PeerError, .ref C_Absent, .ref C_Barred, .ref C_NoName, .ref C_NoNumber, .ref C_Twice, .ref C_NoJobs, .ref C_NoDoer] : List Value).getD i .none) base := ⟨isa, ⟨_, rfl, xcl_VE (PySem.W.mg_of X G ac_NoName) ⟨veB_ok vb_NoName, sa_NoName, ex_NoName, ty_NoName, kc_NoName⟩ (xfB_ok xf_NoName) no_NoName ic_NoName ti_NoName (xi_NoName ⟨rd_PeerError, ga_PeerError, at_PeerError⟩ (PySem.W.mg_of X G ac_PeerError) F_NoName) (F_NoName.binds (ps := ["self", "found"]) fun _ _ _ _ _ _ us hl => match us, hl with | [_, _], _ => rfl) (by decide)⟩, ⟨_, rfl, xcl_VE (PySem.W.mg_of X G ac_NoJobs) ⟨veB_ok vb_NoJobs, sa_NoJobs, ex_NoJobs, ty_NoJobs, kc_NoJobs⟩ (xfB_ok xf_NoJobs) no_NoJobs ic_NoJobs ti_NoJobs (xi_NoJobs ⟨rd_PeerError, ga_PeerError, at_PeerError⟩ (PySem.W.mg_of X G ac_PeerError) F_NoJobs) (F_NoJobs.binds (ps := ["self", "found"]) fun _ _ _ _ _ _ us hl => match us, hl with | [_, _], _ => rfl) (by decide)⟩, ⟨_, rfl, xcl_VE (PySem.W.mg_of X G ac_Twice) ⟨veB_ok vb_Twice, sa_Twice, ex_Twice, ty_Twice, kc_Twice⟩ (xfB_ok xf_Twice) no_Twice ic_Twice ti_Twice (xi_Twice ⟨rd_PeerError, ga_PeerError, at_PeerError⟩ (PySem.W.mg_of X G ac_PeerError) F_Twice) (F_Twice.binds (ps := ["self", "found"]) fun _ _ _ _ _ _ us hl => match us, hl with | [_, _], _ => rfl) (by decide)⟩, ⟨_, rfl, xcl_VE (PySem.W.mg_of X G ac_NoNumber) ⟨veB_ok vb_NoNumber, sa_NoNumber, ex_NoNumber, ty_NoNumber, kc_NoNumber⟩ (xfB_ok xf_NoNumber) no_NoNumber ic_NoNumber ti_NoNumber (xi_NoNumber ⟨rd_PeerError, ga_PeerError, at_PeerError⟩ (PySem.W.mg_of X G ac_PeerError) F_NoNumber) (F_NoNumber.binds (ps := ["self", "found"]) fun _ _ _ _ _ _ us hl => match us, hl with | [_, _], _ => rfl) (by decide)⟩, ⟨_, rfl, xcl_KE (PySem.W.mg_of X G ac_NoDoer) ⟨vb_NoDoer, ov_NoDoer, sa_NoDoer, ex_NoDoer, ty_NoDoer, kc_NoDoer⟩ (xfB_ok xf_NoDoer) no_NoDoer ic_NoDoer ti_NoDoer (xi_NoDoer ⟨rd_Absent, ga_Absent, at_Absent⟩ (PySem.W.mg_of X G ac_Absent) F_NoDoer) (F_NoDoer.binds (ps := ["self", "at"]) fun _ _ _ _ _ _ us hl => match us, hl with | [_, _], _ => rfl) (by decide)⟩⟩
  have c_is_whole : Cal l.prog w K mg base "is_whole" s_is_whole 1 ["thing", "low", "high"] sd_is_whole := k_is_whole T  (fun_mk (st := s_is_whole) l0 c0 k0) (PySem.W.mg_of X G a0) len_is_whole sp_is_whole
  have c_is_name : Cal l.prog w K mg base "is_name" s_is_name 1 ["thing"] sd_is_name := k_is_name T  (fun_mk (st := s_is_name) l1 c1 k1) (PySem.W.mg_of X G a1) len_is_name sp_is_name
  have c_need_name : CalX l.prog w K mg (fun i => ([.ref C_PeerError, .ref C_Absent, .ref C_Barred, .ref C_NoName, .ref C_NoNumber, .ref C_Twice, .ref C_NoJobs, .ref C_NoDoer] : List Value).getD i .none) base "need_name" s_need_name 3 ["thing"] sd_need_name := k_need_name T XT c_is_name (fun_mk (st := s_need_name) l2 c2 k2) (PySem.W.mg_of X G a2) len_need_name sp_need_name
  have c_need_row : CalX l.prog w K mg (fun i => ([.ref C_PeerError, .ref C_Absent, .ref C_Barred, .ref C_NoName, .ref C_NoNumber, .ref C_Twice, .ref C_NoJobs, .ref C_NoDoer] : List Value).getD i .none) base "need_row" s_need_row 4 ["row"] sd_need_row := k_need_row T XT c_need_name (fun_mk (st := s_need_row) l3 c3 k3) (PySem.W.mg_of X G a3) len_need_row sp_need_row
  have c_need_jobs : CalX l.prog w K mg (fun i => ([.ref C_PeerError, .ref C_Absent, .ref C_Barred, .ref C_NoName, .ref C_NoNumber, .ref C_Twice, .ref C_NoJobs, .ref C_NoDoer] : List Value).getD i .none) base "need_jobs" s_need_jobs 5 ["jobs"] sd_need_jobs := k_need_jobs T XT c_need_row (fun_mk (st := s_need_jobs) l4 c4 k4) (PySem.W.mg_of X G a4) len_need_jobs sp_need_jobs
  have c_need_most : CalX l.prog w K mg (fun i => ([.ref C_PeerError, .ref C_Absent, .ref C_Barred, .ref C_NoName, .ref C_NoNumber, .ref C_Twice, .ref C_NoJobs, .ref C_NoDoer] : List Value).getD i .none) base "need_most" s_need_most 3 ["most"] sd_need_most := k_need_most T XT c_is_whole (fun_mk (st := s_need_most) l5 c5 k5) (PySem.W.mg_of X G a5) len_need_most sp_need_most
  have c_dealt_to : Cal l.prog w K mg base "dealt_to" s_dealt_to 1 ["dealt", "name"] sd_dealt_to := k_dealt_to T  (fun_mk (st := s_dealt_to) l6 c6 k6) (PySem.W.mg_of X G a6) len_dealt_to sp_dealt_to
  have c_pass_on : Cal l.prog w K mg base "pass_on" s_pass_on 1 ["dealt", "came", "name"] sd_pass_on := k_pass_on T  (fun_mk (st := s_pass_on) l7 c7 k7) (PySem.W.mg_of X G a7) len_pass_on sp_pass_on
  have c_add_job : Cal l.prog w K mg base "add_job" s_add_job 2 ["jobs", "most", "dealt", "first"] sd_add_job := k_add_job T c_dealt_to c_pass_on (fun_mk (st := s_add_job) l8 c8 k8) (PySem.W.mg_of X G a8) len_add_job sp_add_job
  have c_deal_or_gap : Cal2 l.prog w K mg base "deal_or_gap" s_deal_or_gap 3 ["jobs", "most"] sd_deal_or_gap := k_deal_or_gap T c_add_job (fun_mk (st := s_deal_or_gap) l9 c9 k9) (PySem.W.mg_of X G a9) len_deal_or_gap sp_deal_or_gap
  have c_deal_of : CalX l.prog w K mg (fun i => ([.ref C_PeerError, .ref C_Absent, .ref C_Barred, .ref C_NoName, .ref C_NoNumber, .ref C_Twice, .ref C_NoJobs, .ref C_NoDoer] : List Value).getD i .none) base "deal_of" s_deal_of 6 ["jobs", "most"] sd_deal_of := k_deal_of T XT c_need_jobs c_need_most c_deal_or_gap (fun_mk (st := s_deal_of) l10 c10 k10) (PySem.W.mg_of X G a10) len_deal_of sp_deal_of
  have c_gap_of : CalX l.prog w K mg (fun i => ([.ref C_PeerError, .ref C_Absent, .ref C_Barred, .ref C_NoName, .ref C_NoNumber, .ref C_Twice, .ref C_NoJobs, .ref C_NoDoer] : List Value).getD i .none) base "gap_of" s_gap_of 6 ["jobs", "most"] sd_gap_of := k_gap_of T XT c_need_jobs c_need_most c_deal_or_gap (fun_mk (st := s_gap_of) l11 c11 k11) (PySem.W.mg_of X G a11) len_gap_of sp_gap_of
  have c_least_most : CalX l.prog w K mg (fun i => ([.ref C_PeerError, .ref C_Absent, .ref C_Barred, .ref C_NoName, .ref C_NoNumber, .ref C_Twice, .ref C_NoJobs, .ref C_NoDoer] : List Value).getD i .none) base "least_most" s_least_most 6 ["jobs"] sd_least_most := k_least_most T XT c_need_jobs c_add_job (fun_mk (st := s_least_most) l12 c12 k12) (PySem.W.mg_of X G a12) len_least_most sp_least_most
  have c_l_cell : Cal l.prog w K mg base "_law_cell" s_l_cell 1 ["script", "k"] sd_l_cell := k_l_cell T  (fun_mk (st := s_l_cell) l13 c13 k13) (PySem.W.mg_of X G a13) len_l_cell sp_l_cell
  have c_l_box : Cal l.prog w K mg base "_law_box" s_l_box 1 ["cell"] sd_l_box := k_l_box T  (fun_mk (st := s_l_box) l14 c14 k14) (PySem.W.mg_of X G a14) len_l_box sp_l_box
  have c_l_take : Cal l.prog w K mg base "_law_take" s_l_take 1 ["box", "many"] sd_l_take := k_l_take T  (fun_mk (st := s_l_take) l15 c15 k15) (PySem.W.mg_of X G a15) len_l_take sp_l_take
  have c_l_names : Cal l.prog w K mg base "_law_names" s_l_names 2 ["box", "many"] sd_l_names := k_l_names T c_l_take (fun_mk (st := s_l_names) l16 c16 k16) (PySem.W.mg_of X G a16) len_l_names sp_l_names
  have c_l_rows : Cal l.prog w K mg base "_law_rows" s_l_rows 2 ["box", "names", "many"] sd_l_rows := k_l_rows T c_l_take (fun_mk (st := s_l_rows) l17 c17 k17) (PySem.W.mg_of X G a17) len_l_rows sp_l_rows
  have c_l_masks : Cal l.prog w K mg base "_law_masks" s_l_masks 1 ["rows", "names"] sd_l_masks := k_l_masks T  (fun_mk (st := s_l_masks) l18 c18 k18) (PySem.W.mg_of X G a18) len_l_masks sp_l_masks
  have c_l_least : Cal l.prog w K mg base "_law_least" s_l_least 2 ["rows", "names"] sd_l_least := k_l_least T c_l_masks (fun_mk (st := s_l_least) l19 c19 k19) (PySem.W.mg_of X G a19) len_l_least sp_l_least
  have c_l_mixed : Cal l.prog w K mg base "_law_mixed" s_l_mixed 2 ["box", "row"] sd_l_mixed := k_l_mixed T c_l_take (fun_mk (st := s_l_mixed) l20 c20 k20) (PySem.W.mg_of X G a20) len_l_mixed sp_l_mixed
  have c_l_told : CalX l.prog w K mg (fun i => ([.ref C_PeerError, .ref C_Absent, .ref C_Barred, .ref C_NoName, .ref C_NoNumber, .ref C_Twice, .ref C_NoJobs, .ref C_NoDoer] : List Value).getD i .none) base "_law_told" s_l_told 7 ["rows"] sd_l_told := k_l_told T XT c_least_most (fun_mk (st := s_l_told) l21 c21 k21) (PySem.W.mg_of X G a21) len_l_told sp_l_told
  have c_l_right : Cal l.prog w K mg base "_law_right" s_l_right 8 ["rows", "names"] sd_l_right := k_l_right T c_deal_of c_gap_of c_l_least c_l_told (fun_mk (st := s_l_right) l22 c22 k22) (PySem.W.mg_of X G a22) len_l_right sp_l_right
  exact FunG.ok (FunG.of (fun_mk (st := s_law) l23 c23 k23)) sc_law len_law (fun cdv A outer s H E hgd hr => d_law T c_l_cell c_l_box c_l_take c_l_names c_l_rows c_l_least c_l_mixed c_l_told c_l_right hgd hr) sp_law

theorem walk {l : PySem.W.OpenLaw} {q : Program} {loose : List Str} {XP : (Str → Option Value) → Heap → Prop} {YP : World → Heap → Prop} {d : DefRec} {K : Params → PySem.W.Frag} (hn : l.most = some 63) (hdf : d.params.defaults = [])
    (hY : ∀ (w : World) (h : Heap), YP w h → (K w.params).In h)
    (F : ∀ (w : World) (mg : Str → Option Value) (fa : Addr) (h : Heap), (K w.params).In h → h.Ns mainGlobals mg → mg d.name = some (.ref fa) →
      ∃ fd : FuncData, (∀ (s : Shared) (u : Value), BindsTo s fd ⟨[u], []⟩ [("script", u)]) ∧ ∀ base : Heap, (K w.params).In base → base.Ns mainGlobals mg → FnG l.prog w (K w.params) mg base CX0 9 fa fd ["script"] (spD (K w.params) sd_law)) :
    PySem.W.WalkO q loose XP YP l.row.toRowW d [] (fun f vs => PySem.call f vs) :=
  walkG (n := 63) hn (by decide) hdf ⟨rfl, by decide, by decide⟩ hY F law_true
end Law
open PySem PySem.W PyProof.Rows
set_option maxRecDepth 100000 in
set_option maxHeartbeats 0 in
theorem PySem.Challenge.cw_peershold_k60_whole_least_number_for_all_holds : PySem.Challenge.rw_peershold_k60_whole_least_number_for_all.Holds := by
  w_on; o_law; k_head; (case hw => w_witness2)
  k_fill
  refine Law.walk (l := PySem.Challenge.rw_peershold_k60_whole_least_number_for_all) rfl rfl (fun w h Y => PySem.W.kIn_of Y) ?F
  case F =>
    intro w mg fa h KX G hmg
    refine' Law.all_mk KX G hmg ?a0 ?l0 ?c0 ?k0 ?a1 ?l1 ?c1 ?k1 ?a2 ?l2 ?c2 ?k2 ?a3 ?l3 ?c3 ?k3 ?a4 ?l4 ?c4 ?k4 ?a5 ?l5 ?c5 ?k5 ?a6 ?l6 ?c6 ?k6 ?a7 ?l7 ?c7 ?k7 ?a8 ?l8 ?c8 ?k8 ?a9 ?l9 ?c9 ?k9 ?a10 ?l10 ?c10 ?k10 ?a11 ?l11 ?c11 ?k11 ?a12 ?l12 ?c12 ?k12 ?a13 ?l13 ?c13 ?k13 ?a14 ?l14 ?c14 ?k14 ?a15 ?l15 ?c15 ?k15 ?a16 ?l16 ?c16 ?k16 ?a17 ?l17 ?c17 ?k17 ?a18 ?l18 ?c18 ?k18 ?a19 ?l19 ?c19 ?k19 ?a20 ?l20 ?c20 ?k20 ?a21 ?l21 ?c21 ?k21 ?a22 ?l22 ?c22 ?k22 ?a23 ?l23 ?c23 ?k23 ?z_all ?z_bool ?z_enumerate ?z_int ?z_isinstance ?z_len ?z_list ?z_max ?z_min ?z_range ?z_sorted ?z_str ?z_sum ?z_tuple ?y_LETTERS ?r_LETTERS ?y_MOST_JOBS ?r_MOST_JOBS ?y_MOST_PEERS ?r_MOST_PEERS ?ac_PeerError ?ac_Absent ?ac_Barred ?ac_NoName ?ac_NoNumber ?ac_Twice ?ac_NoJobs ?ac_NoDoer ?vb_NoName ?sa_NoName ?ex_NoName ?ty_NoName ?kc_NoName ?xf_NoName ?no_NoName ?ic_NoName ?ti_NoName ?li_NoName ?cc_NoName ?ki_NoName ?vb_NoJobs ?sa_NoJobs ?ex_NoJobs ?ty_NoJobs ?kc_NoJobs ?xf_NoJobs ?no_NoJobs ?ic_NoJobs ?ti_NoJobs ?li_NoJobs ?cc_NoJobs ?ki_NoJobs ?vb_Twice ?sa_Twice ?ex_Twice ?ty_Twice ?kc_Twice ?xf_Twice ?no_Twice ?ic_Twice ?ti_Twice ?li_Twice ?cc_Twice ?ki_Twice ?vb_NoNumber ?sa_NoNumber ?ex_NoNumber ?ty_NoNumber ?kc_NoNumber ?xf_NoNumber ?no_NoNumber ?ic_NoNumber ?ti_NoNumber ?li_NoNumber ?cc_NoNumber ?ki_NoNumber ?vb_NoDoer ?ov_NoDoer ?sa_NoDoer ?ex_NoDoer ?ty_NoDoer ?kc_NoDoer ?xf_NoDoer ?no_NoDoer ?ic_NoDoer ?ti_NoDoer ?li_NoDoer ?cc_NoDoer ?ki_NoDoer ?rd_PeerError ?ga_PeerError ?at_PeerError ?rd_Absent ?ga_Absent ?at_Absent ?ie_NoName_NoDoer ?ie_NoJobs_NoDoer ?ie_Twice_NoDoer ?ie_NoNumber_NoDoer ?ie_NoDoer_NoDoer
    (case a0 => k_is); (case l0 => k_is); (case c0 => k_is); (case k0 => k_is); (case a1 => k_is); (case l1 => k_is); (case c1 => k_is); (case k1 => k_is); (case a2 => k_is); (case l2 => k_is); (case c2 => k_is); (case k2 => k_is); (case a3 => k_is); (case l3 => k_is); (case c3 => k_is); (case k3 => k_is); (case a4 => k_is); (case l4 => k_is); (case c4 => k_is); (case k4 => k_is); (case a5 => k_is); (case l5 => k_is); (case c5 => k_is); (case k5 => k_is); (case a6 => k_is); (case l6 => k_is); (case c6 => k_is); (case k6 => k_is); (case a7 => k_is); (case l7 => k_is); (case c7 => k_is); (case k7 => k_is); (case a8 => k_is); (case l8 => k_is); (case c8 => k_is); (case k8 => k_is); (case a9 => k_is); (case l9 => k_is); (case c9 => k_is); (case k9 => k_is); (case a10 => k_is); (case l10 => k_is); (case c10 => k_is); (case k10 => k_is); (case a11 => k_is); (case l11 => k_is); (case c11 => k_is); (case k11 => k_is); (case a12 => k_is); (case l12 => k_is); (case c12 => k_is); (case k12 => k_is); (case a13 => k_is); (case l13 => k_is); (case c13 => k_is); (case k13 => k_is); (case a14 => k_is); (case l14 => k_is); (case c14 => k_is); (case k14 => k_is); (case a15 => k_is); (case l15 => k_is); (case c15 => k_is); (case k15 => k_is); (case a16 => k_is); (case l16 => k_is); (case c16 => k_is); (case k16 => k_is); (case a17 => k_is); (case l17 => k_is); (case c17 => k_is); (case k17 => k_is); (case a18 => k_is); (case l18 => k_is); (case c18 => k_is); (case k18 => k_is); (case a19 => k_is); (case l19 => k_is); (case c19 => k_is); (case k19 => k_is); (case a20 => k_is); (case l20 => k_is); (case c20 => k_is); (case k20 => k_is); (case a21 => k_is); (case l21 => k_is); (case c21 => k_is); (case k21 => k_is); (case a22 => k_is); (case l22 => k_is); (case c22 => k_is); (case k22 => k_is); (case a23 => k_is); (case l23 => k_is); (case c23 => k_is); (case k23 => k_is); (case z_all => k_is); (case z_bool => k_is); (case z_enumerate => k_is); (case z_int => k_is); (case z_isinstance => k_is); (case z_len => k_is); (case z_list => k_is); (case z_max => k_is); (case z_min => k_is); (case z_range => k_is); (case z_sorted => k_is); (case z_str => k_is); (case z_sum => k_is); (case z_tuple => k_is); (case y_LETTERS => k_is); (case r_LETTERS => exact ⟨_, rfl⟩); (case y_MOST_JOBS => k_is); (case r_MOST_JOBS => exact ⟨_, rfl⟩); (case y_MOST_PEERS => k_is); (case r_MOST_PEERS => exact ⟨_, rfl⟩); (case ac_PeerError => k_is); (case ac_Absent => k_is); (case ac_Barred => k_is); (case ac_NoName => k_is); (case ac_NoNumber => k_is); (case ac_Twice => k_is); (case ac_NoJobs => k_is); (case ac_NoDoer => k_is); (case vb_NoName => first | rfl | kernel_rfl); (case sa_NoName => k_is); (case ex_NoName => k_is); (case ty_NoName => k_is); (case kc_NoName => k_is); (case xf_NoName => first | rfl | kernel_rfl); (case no_NoName => k_is); (case ic_NoName => k_is); (case ti_NoName => k_is); (case li_NoName => k_is); (case cc_NoName => k_is); (case ki_NoName => k_is); (case vb_NoJobs => first | rfl | kernel_rfl); (case sa_NoJobs => k_is); (case ex_NoJobs => k_is); (case ty_NoJobs => k_is); (case kc_NoJobs => k_is); (case xf_NoJobs => first | rfl | kernel_rfl); (case no_NoJobs => k_is); (case ic_NoJobs => k_is); (case ti_NoJobs => k_is); (case li_NoJobs => k_is); (case cc_NoJobs => k_is); (case ki_NoJobs => k_is); (case vb_Twice => first | rfl | kernel_rfl); (case sa_Twice => k_is); (case ex_Twice => k_is); (case ty_Twice => k_is); (case kc_Twice => k_is); (case xf_Twice => first | rfl | kernel_rfl); (case no_Twice => k_is); (case ic_Twice => k_is); (case ti_Twice => k_is); (case li_Twice => k_is); (case cc_Twice => k_is); (case ki_Twice => k_is); (case vb_NoNumber => first | rfl | kernel_rfl); (case sa_NoNumber => k_is); (case ex_NoNumber => k_is); (case ty_NoNumber => k_is); (case kc_NoNumber => k_is); (case xf_NoNumber => first | rfl | kernel_rfl); (case no_NoNumber => k_is); (case ic_NoNumber => k_is); (case ti_NoNumber => k_is); (case li_NoNumber => k_is); (case cc_NoNumber => k_is); (case ki_NoNumber => k_is); (case vb_NoDoer => first | rfl | kernel_rfl); (case ov_NoDoer => first | rfl | kernel_rfl); (case sa_NoDoer => k_is); (case ex_NoDoer => k_is); (case ty_NoDoer => k_is); (case kc_NoDoer => k_is); (case xf_NoDoer => first | rfl | kernel_rfl); (case no_NoDoer => k_is); (case ic_NoDoer => k_is); (case ti_NoDoer => k_is); (case li_NoDoer => k_is); (case cc_NoDoer => k_is); (case ki_NoDoer => k_is); (case rd_PeerError => k_is); (case ga_PeerError => k_is); (case at_PeerError => k_is); (case rd_Absent => k_is); (case ga_Absent => k_is); (case at_Absent => k_is); (case ie_NoName_NoDoer => first | rfl | kernel_rfl); (case ie_NoJobs_NoDoer => first | rfl | kernel_rfl); (case ie_Twice_NoDoer => first | rfl | kernel_rfl); (case ie_NoNumber_NoDoer => first | rfl | kernel_rfl); (case ie_NoDoer_NoDoer => first | rfl | kernel_rfl)
