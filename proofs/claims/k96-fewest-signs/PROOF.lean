import PyProof.Rows.All
import Wide.All
import OpenK.AllK
import Wide.FinOn
import HandS.ForMost
import HandS.Evl
import HandS.Wide
import HandS.TupLe
import HandS.TupAny
import HandS.IsInst
import HandS.Strs
import HandS.SortInts
import HandS.StrMore
import HandS.NoneIn
import HandS.DictComp
import HandS.Replace
import HandS.Style
import HandS.Deep
import HandS.TupSets
import PyProof.ReprRoads
import PyProof.FitsInt
import KE.GoesEnum
import HandS.ForExc
import HandS.ExcInit
import HandS.ExcField
import HandS.WordsExc
import KE.KExcInit
import HandS.Iter
import KE.KRevSl
import PyProof.SliceStr2
import PyProof.EnumMake
import PyProof.Draws
import PySem.Challenge.RW_peershold_k96_whole_fewest_signs_changed
set_option Elab.async false
set_option linter.all false
set_option maxRecDepth 100000
set_option maxHeartbeats 4000000
set_option autoImplicit false
/-! DL1: data trees over the hand layer: values as trees, slots, states, what an expression and a statement come to. -/
namespace DL
open PySem L2 Evl

inductive D where
  | non | bl (b : Bool) | int (i : Int) | str (x : Str) | lst (xs : List D) | tup (xs : List D) | dic (kvs : List (Key × D)) | scr (ns : List Int)
  | fn (a : Addr) | obj (C : Addr) (fs : List (Str × D)) | exc (a dd : Addr) (fs : List (Str × D))

mutual
inductive Rep (K : PySem.W.Frag) (F : Hp) : V → D → Prop
  | non : Rep K F .non .non
  | bl (b : Bool) : Rep K F (.bl b) (.bl b)
  | int (i : Int) : Rep K F (.int i) (.int i)
  | str (x : Str) : PyData.strOk x = true → Rep K F (.str x) (.str x)
  | lst {a : Addr} {vs : List V} {ds : List D} : F a = some (.lst vs) → RepL K F vs ds → Rep K F (.ref a) (.lst ds)
  | tup {a : Addr} {vs : List V} {ds : List D} : SqT K F a vs → RepL K F vs ds → Rep K F (.ref a) (.tup ds)
  | dic {a : Addr} {kvs : List (Key × V)} {ks : List (Key × D)} : F a = some (.dK kvs) → kvs.map (·.1) = ks.map (·.1) → RepL K F (kvs.map (·.2)) (ks.map (·.2)) → Rep K F (.ref a) (.dic ks)
  | scr {a : Addr} {ns : List Int} : SqL K F a (ns.map V.int) → Rep K F (.ref a) (.scr ns)
  | fn (a : Addr) : PySem.W.keepIn K (.ref a) = true → Rep K F (.ref a) (.fn a)
  | obj {a C dx : Addr} {kvs : List (Str × V)} {fs : List (Str × D)} : F a = some (.ins C dx kvs) → kvs.map (·.1) = fs.map (·.1) → RepL K F (kvs.map (·.2)) (fs.map (·.2)) → Rep K F (.ref a) (.obj C fs)
  | exc {a dd : Addr} {kvs : List (Str × V)} {fs : List (Str × D)} : F dd = some (.xd kvs) → kvs.map (·.1) = fs.map (·.1) → RepL K F (kvs.map (·.2)) (fs.map (·.2)) → Rep K F (.ref a) (.exc a dd fs)
inductive RepL (K : PySem.W.Frag) (F : Hp) : List V → List D → Prop
  | nil : RepL K F [] []
  | cons {v : V} {vs : List V} {d : D} {ds : List D} : Rep K F v d → RepL K F vs ds → RepL K F (v :: vs) (d :: ds)
end

section
variable {K : PySem.W.Frag} {F F' H : Hp}
mutual
theorem Rep.mono (e : Ex F F') : ∀ {v : V} {d : D}, Rep K F v d → Rep K F' v d
  | _, _, .non => .non
  | _, _, .bl b => .bl b
  | _, _, .int i => .int i
  | _, _, .str x h => .str x h
  | _, _, .lst h r => .lst (e _ _ h) (RepL.mono e r)
  | _, _, .tup h r => .tup (ex_t e h) (RepL.mono e r)
  | _, _, .dic h k r => .dic (e _ _ h) k (RepL.mono e r)
  | _, _, .scr h => .scr (ex_l e h)
  | _, _, .fn a h => .fn a h
  | _, _, .obj h k r => .obj (e _ _ h) k (RepL.mono e r)
  | _, _, .exc h k r => .exc (e _ _ h) k (RepL.mono e r)
theorem RepL.mono (e : Ex F F') : ∀ {vs : List V} {ds : List D}, RepL K F vs ds → RepL K F' vs ds
  | _, _, .nil => .nil
  | _, _, .cons a b => .cons (Rep.mono e a) (RepL.mono e b)
end
theorem RepL.length : ∀ {vs : List V} {ds : List D}, RepL K F vs ds → vs.length = ds.length
  | _, _, .nil => rfl
  | _, _, .cons _ r => congrArg (· + 1) (RepL.length r)
theorem RepL.get : ∀ {vs : List V} {ds : List D} {i : Nat} {d : D}, RepL K F vs ds → ds[i]? = some d → ∃ v, vs[i]? = some v ∧ Rep K F v d
  | _, _, _, _, .nil, e => by simp at e
  | _, _, 0, _, .cons a _, e => by simp at e; subst e; exact ⟨_, rfl, a⟩
  | _, _, i + 1, _, .cons _ r, e => by
    obtain ⟨v, h1, h2⟩ := RepL.get (i := i) r (by simpa using e)
    exact ⟨v, by simpa using h1, h2⟩
theorem RepL.getV : ∀ {vs : List V} {ds : List D} {i : Nat} {v : V}, RepL K F vs ds → vs[i]? = some v → ∃ d, ds[i]? = some d ∧ Rep K F v d
  | _, _, _, _, .nil, e => by simp at e
  | _, _, 0, _, .cons a _, e => by simp at e; subst e; exact ⟨_, rfl, a⟩
  | _, _, i + 1, _, .cons _ r, e => by
    obtain ⟨v, h1, h2⟩ := RepL.getV (i := i) r (by simpa using e)
    exact ⟨v, by simpa using h1, h2⟩
theorem RepL.append : ∀ {vs ws : List V} {ds es : List D}, RepL K F vs ds → RepL K F ws es → RepL K F (vs ++ ws) (ds ++ es)
  | _, _, _, _, .nil, s => s
  | _, _, _, _, .cons a r, s => .cons a (RepL.append r s)
theorem RepL.take : ∀ {vs : List V} {ds : List D} (n : Nat), RepL K F vs ds → RepL K F (vs.take n) (ds.take n)
  | _, _, 0, _ => by simp; exact .nil
  | _, _, _ + 1, .nil => by simp; exact .nil
  | _, _, n + 1, .cons a r => by simp; exact .cons a (RepL.take n r)
theorem RepL.drop : ∀ {vs : List V} {ds : List D} (n : Nat), RepL K F vs ds → RepL K F (vs.drop n) (ds.drop n)
  | _, _, 0, r => by simpa using r
  | _, _, _ + 1, .nil => by simp; exact .nil
  | _, _, n + 1, .cons _ r => by simpa using RepL.drop n r
theorem RepL.set {v : V} {d : D} (a : Rep K F v d) : ∀ {vs : List V} {ds : List D} (i : Nat), RepL K F vs ds → RepL K F (vs.set i v) (ds.set i d)
  | _, _, _, .nil => by simp; exact .nil
  | _, _, 0, .cons _ r => by simp; exact .cons a r
  | _, _, i + 1, .cons b r => by simp; exact .cons b (RepL.set a i r)
theorem RepL.reverse : ∀ {vs : List V} {ds : List D}, RepL K F vs ds → RepL K F vs.reverse ds.reverse
  | _, _, .nil => by simp; exact .nil
  | _, _, .cons a r => by simp; exact RepL.append (RepL.reverse r) (.cons a .nil)
theorem RepL.ints : ∀ {vs : List V} {ns : List Int}, RepL K F vs (ns.map D.int) → vs = ns.map V.int
  | _, [], .nil => rfl
  | _, _ :: _, .cons (.int _) r => by rw [RepL.ints r]; rfl
theorem RepL.strs : ∀ {vs : List V} {ns : List Str}, RepL K F vs (ns.map D.str) → vs = ns.map V.str
  | _, [], .nil => rfl
  | _, _ :: _, .cons (.str _ _) r => by rw [RepL.strs r]; rfl
theorem RepL.bls : ∀ {vs : List V} {ns : List Bool}, RepL K F vs (ns.map D.bl) → vs = ns.map V.bl
  | _, [], .nil => rfl
  | _, _ :: _, .cons (.bl _) r => by rw [RepL.bls r]; rfl
theorem RepL.ofInts : ∀ ns : List Int, RepL K F (ns.map V.int) (ns.map D.int)
  | [] => .nil
  | n :: ns => .cons (.int n) (RepL.ofInts ns)
theorem RepL.ofStrs : ∀ ns : List Str, (∀ n ∈ ns, PyData.strOk n = true) → RepL K F (ns.map V.str) (ns.map D.str)
  | [], _ => .nil
  | n :: ns, h => .cons (.str n (h n (by simp))) (RepL.ofStrs ns fun m q => h m (by simp [q]))
theorem RepL.sOk : ∀ {vs : List V} {ns : List Str}, RepL K F vs (ns.map D.str) → ∀ n ∈ ns, PyData.strOk n = true
  | _, _ :: ns, .cons (.str _ h) r, m, q => by
    rcases List.mem_cons.mp q with rfl | q
    · exact h
    · exact RepL.sOk r m q
theorem RepL.ofBls : ∀ ns : List Bool, RepL K F (ns.map V.bl) (ns.map D.bl)
  | [] => .nil
  | n :: ns => .cons (.bl n) (RepL.ofBls ns)

def RepO (K : PySem.W.Frag) (F : Hp) : HO → D → Prop
  | .lst vs, .lst ds => RepL K F vs ds
  | .dK kvs, .dic ks => kvs.map (·.1) = ks.map (·.1) ∧ RepL K F (kvs.map (·.2)) (ks.map (·.2))
  | _, _ => False
theorem RepO.mono (e : Ex F F') : ∀ {o : HO} {d : D}, RepO K F o d → RepO K F' o d := by
  intro o d h
  unfold RepO at h ⊢
  split at h
  · exact RepL.mono e h
  · exact ⟨h.1, RepL.mono e h.2⟩
  · exact h.elim
theorem RepO.rep {p : Addr} {o : HO} {d : D} (h : RepO K F o d) (hp : F p = some o) : Rep K F (.ref p) d := by
  unfold RepO at h
  split at h
  · exact .lst hp h
  · exact .dic hp h.1 h.2
  · exact h.elim
end

/-! ### slots and states -/
inductive Slot where
  | no | val (d : D) | own (pin : Bool) (d : D)

structure Ct where
  G : Hp
  F0 : Hp
  W : Addr → Prop
  par : List V
  pin : Nat → Prop

def Owns (env : List Slot) (σ : L2.St) (i : Nat) (p : Addr) : Prop := ∃ b d, env[i]? = some (.own b d) ∧ σ[i]? = some (some (.ref p))

structure Ok (K : PySem.W.Frag) (C : Ct) (F : Hp) (env : List Slot) (σ : L2.St) (H : Hp) : Prop where
  len : σ.length = env.length
  sub : Ex F H
  keep : ∀ a o, C.G a = some o → ¬ C.W a → H a = some o
  all : ∀ a, C.G a ≠ none → H a ≠ none
  new : ∀ a, C.G a ≠ none → C.F0 a = none → F a = none
  bas : Ex C.F0 F
  vals : ∀ (i : Nat) (d : D), env[i]? = some (.val d) → ∃ v, σ[i]? = some (some v) ∧ Rep K F v d
  owns : ∀ (i : Nat) (b : Bool) (d : D), env[i]? = some (.own b d) → ∃ p o, σ[i]? = some (some (.ref p)) ∧ H p = some o ∧ RepO K F o d ∧ F p = none ∧ (b = false → C.G p = none) ∧ (b = true → C.par[i]? = some (.ref p) ∧ C.W p ∧ C.G p ≠ none)
  sep : ∀ i j p, Owns env σ i p → Owns env σ j p → i = j
  pins : ∀ i, C.pin i → ∃ d, env[i]? = some (.own true d)

def Sub (env env' : List Slot) : Prop := ∀ (i : Nat) (b : Bool) (d : D), env'[i]? = some (.own b d) → ∃ d', env[i]? = some (.own b d')
theorem Sub.refl (env : List Slot) : Sub env env := fun _ _ d h => ⟨d, h⟩
theorem Sub.trans {a b c : List Slot} (h : Sub a b) (k : Sub b c) : Sub a c := fun i x d e => by
  obtain ⟨d', e'⟩ := k i x d e
  exact h i x d' e'
theorem Sub.owns {env env' : List Slot} {σ : L2.St} (s : Sub env env') {i : Nat} {p : Addr} (h : Owns env' σ i p) : Owns env σ i p := by
  obtain ⟨b, d, h1, h2⟩ := h
  obtain ⟨d', h3⟩ := s i b d h1
  exact ⟨b, d', h3, h2⟩

structure Aft (K : PySem.W.Frag) (C : Ct) (F : Hp) (env : List Slot) (σ : L2.St) (H : Hp) (F' : Hp) (env' : List Slot) (H' : Hp) : Prop where
  ok : Ok K C F' env' σ H'
  ex : Ex F F'
  fr : ∀ a o, H a = some o → (∀ i, ¬ Owns env σ i a) → H' a = some o
  nw : ∀ a, H a ≠ none → F a = none → (∀ i, ¬ Owns env σ i a) → F' a = none
  al : ∀ a, H a ≠ none → H' a ≠ none
  le : Sub env env'

section
variable {K : PySem.W.Frag} {C : Ct} {F F' F1 F2 H H' H1 H2 : Hp} {env env' env1 env2 : List Slot} {σ : L2.St}
theorem Ok.aft (h : Ok K C F env σ H) : Aft K C F env σ H F env H := ⟨h, Ex.refl F, fun _ _ e _ => e, fun _ _ e _ => e, fun _ e => e, Sub.refl env⟩
theorem Aft.trans (a : Aft K C F env σ H F1 env1 H1) (b : Aft K C F1 env1 σ H1 F2 env2 H2) : Aft K C F env σ H F2 env2 H2 where
  ok := b.ok
  ex := a.ex.trans b.ex
  fr := fun x o e n => b.fr x o (a.fr x o e n) fun i q => n i (a.le.owns q)
  nw := fun x e z n => b.nw x (by
    cases q : H x with
    | none => exact absurd q e
    | some o => rw [a.fr x o q n]; exact fun z => nomatch z) (a.nw x e z n) fun i q => n i (a.le.owns q)
  al := fun x e => b.al x (a.al x e)
  le := a.le.trans b.le
theorem Ok.tmp (h : Ok K C F env σ H) {p : Addr} (hp : H p = none) (o : HO) : Aft K C F env σ H F env (upd H p o) where
  ok := { len := h.len, sub := fun a u e => by rw [upd_ne (ne_of_none (h.sub a u e) hp)]; exact h.sub a u e
          keep := fun a u e n => by
            have q := h.keep a u e n
            rw [upd_ne (ne_of_none q hp)]; exact q
          all := fun a e => by
            by_cases q : a = p
            · subst q; rw [upd_same]; exact fun z => nomatch z
            · rw [upd_ne q]; exact h.all a e
          new := h.new, bas := h.bas, vals := h.vals
          owns := fun i b d e => by
            obtain ⟨q, u, h1, h2, h3, h4, h5, h6⟩ := h.owns i b d e
            exact ⟨q, u, h1, by rw [upd_ne (ne_of_none h2 hp)]; exact h2, h3, h4, h5, h6⟩
          sep := h.sep, pins := h.pins }
  ex := Ex.refl F
  fr := fun a u e _ => by rw [upd_ne (ne_of_none e hp)]; exact e
  nw := fun _ _ e _ => e
  al := fun a e => by
    by_cases q : a = p
    · subst q; rw [upd_same]; exact fun z => nomatch z
    · rw [upd_ne q]; exact e
  le := Sub.refl env
theorem Ok.gnone (h : Ok K C F env σ H) {p : Addr} (hp : H p = none) : C.G p = none := by
  cases q : C.G p with
  | none => rfl
  | some o => exact absurd hp (h.all p (by rw [q]; exact fun z => nomatch z))
theorem Ok.fnone (h : Ok K C F env σ H) {p : Addr} (hp : H p = none) : F p = none := by
  cases q : F p with
  | none => rfl
  | some o => have := h.sub p o q; rw [hp] at this; cases this
theorem Ok.unowned (h : Ok K C F env σ H) {p : Addr} (hp : H p = none) (i : Nat) : ¬ Owns env σ i p := fun ⟨b, d, e, s⟩ => by
  obtain ⟨q, o, h1, h2, _⟩ := h.owns i b d e
  rw [s] at h1; cases h1
  rw [hp] at h2; cases h2
theorem Ok.hold (h : Ok K C F env σ H) {p : Addr} {o : HO} (hp : H p = some o) (hF : F p = none) (hG : C.G p = none) (hn : ∀ i, ¬ Owns env σ i p) : Ok K C (upd F p o) env σ H where
  len := h.len
  sub := fun a u e => by
    by_cases q : a = p
    · subst q; rw [upd_same] at e; cases e; exact hp
    · rw [upd_ne q] at e; exact h.sub a u e
  keep := h.keep
  all := h.all
  new := fun a e z => by
    by_cases q : a = p
    · subst q; exact absurd hG e
    · rw [upd_ne q]; exact h.new a e z
  bas := fun a u e => by rw [upd_ne (ne_of_none (h.bas a u e) hF)]; exact h.bas a u e
  vals := fun i d e => by
    obtain ⟨v, h1, h2⟩ := h.vals i d e
    exact ⟨v, h1, h2.mono (Ex.new hF)⟩
  owns := fun i b d e => by
    obtain ⟨q, u, h1, h2, h3, h4, h5, h6⟩ := h.owns i b d e
    refine ⟨q, u, h1, h2, h3.mono (Ex.new hF), ?_, h5, h6⟩
    rw [upd_ne (fun z => hn i ⟨b, d, e, by rw [h1, z]⟩)]
    exact h4
  sep := h.sep
  pins := h.pins
end

/-! ### what an expression gives: a thing held still, a new object, what a slot holds -/
inductive RV where
  | vl (d : D) | tm (d : D) | sl (i : Nat)
@[simp] def RV.con (env : List Slot) (R : D → Prop) : RV → Prop
  | .vl d => R d
  | .tm d => R d
  | .sl i => match env[i]? with
    | some (.val d) => R d
    | some (.own _ d) => R d
    | _ => False
@[simp] def RV.get (env : List Slot) (R : D → Prop) : RV → Prop
  | .vl d => R d
  | .tm d => R d
  | .sl i => match env[i]? with
    | some (.val d) => R d
    | _ => False
def RVOk (K : PySem.W.Frag) (C : Ct) (F : Hp) (env : List Slot) (σ : L2.St) (H0 H : Hp) (v : V) : RV → Prop
  | .vl d => Rep K F v d
  | .tm d => ∃ p o, v = .ref p ∧ H p = some o ∧ RepO K F o d ∧ F p = none ∧ C.G p = none ∧ (∀ i, ¬ Owns env σ i p) ∧ H0 p = none
  | .sl i => σ[i]? = some (some v)

abbrev DM := List Slot → (RV → List Slot → Prop) → Prop
abbrev DMB := List Slot → (Bool → List Slot → Prop) → Prop
abbrev DML := List Slot → (List D → List Slot → Prop) → Prop

def EvD (K : PySem.W.Frag) (m : DM) (t : TE) : Prop := ∀ C F env σ H R Q, Ok K C F env σ H → m env R →
  (∀ l env' F' v H', R l env' → Aft K C F env σ H F' env' H' → RVOk K C F' env' σ H H' v l → Q v H') → t σ H Q
def EvB (K : PySem.W.Frag) (m : DMB) (t : TT) : Prop := ∀ C F env σ H R (Q : Bool → Hp → Prop), Ok K C F env σ H → m env R →
  (∀ b env' F' H', R b env' → Aft K C F env σ H F' env' H' → Q b H') → t σ H Q
def EvL (K : PySem.W.Frag) (m : DML) (t : TA) : Prop := ∀ C F env σ H R (Q : List V → Hp → Prop), Ok K C F env σ H → m env R →
  (∀ ds env' F' vs H', R ds env' → Aft K C F env σ H F' env' H' → RepL K F' vs ds → Q vs H') → t σ H Q

def DE (X : Cx) (e : Expr) (m : DM) : Prop := ∃ t, PE X e t ∧ EvD X.K m t
def DT (X : Cx) (e : Expr) (m : DMB) : Prop := ∃ t, PT X e t ∧ EvB X.K m t
def DW (X : Cx) (e : Expr) (m : DMB) : Prop := ∃ t, PW X e t ∧ EvB X.K m t
def DL (X : Cx) (es : List Expr) (m : DML) : Prop := ∃ t, PA X es t ∧ EvL X.K m t

section
variable {K : PySem.W.Frag} {C : Ct} {F F' F1 F2 H H' H1 H2 : Hp} {env env' env1 env2 : List Slot} {σ : L2.St} {v : V} {l : RV} {d : D}
theorem Aft.keepIt (a : Aft K C F env σ H F' env' H') (r : RVOk K C F' env' σ H H' v l) {R : D → Prop} (h : l.get env' R) : ∃ F2 d, R d ∧ Aft K C F env σ H F2 env' H' ∧ Ex F' F2 ∧ Rep K F2 v d := by
  cases l with
  | vl d => exact ⟨F', d, h, a, Ex.refl _, r⟩
  | tm d =>
    obtain ⟨p, o, rfl, h1, h2, h3, h4, h5, h6⟩ := r
    have e := Ex.new (o := o) h3
    exact ⟨upd F' p o, d, h, ⟨a.ok.hold h1 h3 h4 h5, a.ex.trans e, a.fr, fun x n z w => by
      rw [upd_ne (fun q => n (by rw [q]; exact h6))]
      exact a.nw x n z w, a.al, a.le⟩, e, (h2.mono e).rep upd_same⟩
  | sl i =>
    have h' : (match env'[i]? with | some (.val d) => R d | _ => False) := h
    split at h'
    · rename_i d e
      obtain ⟨w, h1, h2⟩ := a.ok.vals i d e
      have r' : σ[i]? = some (some v) := r
      rw [r'] at h1; cases h1
      exact ⟨F', d, h', a, Ex.refl _, h2⟩
    · exact h'.elim
theorem Aft.back (a : Aft K C F env σ H F' env' H') {p : Addr} (h : H' p = none) : H p = none := by
  cases q : H p with
  | none => rfl
  | some o => exact absurd h (a.al p (by rw [q]; exact fun z => nomatch z))
theorem RVOk.from {H0 : Hp} (r : RVOk K C F env σ H1 H v l) (h : ∀ p, H1 p = none → H0 p = none) : RVOk K C F env σ H0 H v l := by
  cases l with
  | vl d => exact r
  | tm d =>
    obtain ⟨p, o, rfl, h1, h2, h3, h4, h5, h6⟩ := r
    exact ⟨p, o, rfl, h1, h2, h3, h4, h5, h p h6⟩
  | sl i => exact r
theorem RVOk.on (a : Aft K C F1 env1 σ H1 F2 env2 H2) (r : RVOk K C F1 env1 σ H H1 v l) : RVOk K C F2 env2 σ H H2 v l := by
  cases l with
  | vl d => exact Rep.mono a.ex r
  | tm d =>
    obtain ⟨p, o, rfl, h1, h2, h3, h4, h5, h6⟩ := r
    exact ⟨p, o, rfl, a.fr p o h1 h5, h2.mono a.ex, a.nw p (by rw [h1]; exact fun z => nomatch z) h3 h5, h4, fun i q => h5 i (a.le.owns q), h6⟩
  | sl i => exact r

inductive See (K : PySem.W.Frag) (F H : Hp) : V → D → Prop
  | rep {v : V} {d : D} : Rep K F v d → See K F H v d
  | obj {p : Addr} {o : HO} {d : D} : H p = some o → RepO K F o d → See K F H (.ref p) d
theorem Ok.see (h : Ok K C F env σ H) (r : RVOk K C F env σ H1 H v l) {R : D → Prop} (c : l.con env R) : ∃ d, R d ∧ See K F H v d := by
  cases l with
  | vl d => exact ⟨d, c, .rep r⟩
  | tm d =>
    obtain ⟨p, o, rfl, h1, h2, _⟩ := r
    exact ⟨d, c, .obj h1 h2⟩
  | sl i =>
    have c' : (match env[i]? with | some (.val d) => R d | some (.own _ d) => R d | _ => False) := c
    have r' : σ[i]? = some (some v) := r
    split at c'
    · rename_i d e
      obtain ⟨w, h1, h2⟩ := h.vals i d e
      rw [r'] at h1; cases h1
      exact ⟨d, c', .rep h2⟩
    · rename_i b d e
      obtain ⟨p, o, h1, h2, h3, _⟩ := h.owns i b d e
      rw [r'] at h1; cases h1
      exact ⟨d, c', .obj h2 h3⟩
    · exact c'.elim
theorem See.lst (h : Ex F H) {ds : List D} (s : See K F H v (.lst ds)) : ∃ p vs, v = .ref p ∧ H p = some (.lst vs) ∧ RepL K F vs ds := by
  cases s with
  | rep r => cases r with | lst e r => exact ⟨_, _, rfl, h _ _ e, r⟩
  | obj e r =>
    unfold RepO at r
    split at r
    · rename_i q; cases q; exact ⟨_, _, rfl, e, r⟩
    · rename_i q; cases q
    · exact r.elim
theorem See.dic (h : Ex F H) {ks : List (Key × D)} (s : See K F H v (.dic ks)) : ∃ p kvs, v = .ref p ∧ H p = some (.dK kvs) ∧ kvs.map (·.1) = ks.map (·.1) ∧ RepL K F (kvs.map (·.2)) (ks.map (·.2)) := by
  cases s with
  | rep r => cases r with | dic e k r => exact ⟨_, _, rfl, h _ _ e, k, r⟩
  | obj e r =>
    unfold RepO at r
    split at r
    · rename_i q; cases q
    · rename_i q; cases q; exact ⟨_, _, rfl, e, r.1, r.2⟩
    · exact r.elim
theorem See.tup {ds : List D} (s : See K F H v (.tup ds)) : ∃ p vs, v = .ref p ∧ SqT K F p vs ∧ RepL K F vs ds := by
  cases s with
  | rep r => cases r with | tup e r => exact ⟨_, _, rfl, e, r⟩
  | obj e r =>
    unfold RepO at r
    split at r <;> first | (rename_i q; cases q) | exact r.elim
theorem See.int {i : Int} (s : See K F H v (.int i)) : v = .int i := by
  cases s with
  | rep r => cases r; rfl
  | obj e r => unfold RepO at r; split at r <;> first | (rename_i q; cases q) | exact r.elim
theorem See.str {i : Str} (s : See K F H v (.str i)) : v = .str i ∧ PyData.strOk i = true := by
  cases s with
  | rep r => cases r with | str _ h => exact ⟨rfl, h⟩
  | obj e r => unfold RepO at r; split at r <;> first | (rename_i q; cases q) | exact r.elim
theorem See.bl {i : Bool} (s : See K F H v (.bl i)) : v = .bl i := by
  cases s with
  | rep r => cases r; rfl
  | obj e r => unfold RepO at r; split at r <;> first | (rename_i q; cases q) | exact r.elim
theorem See.non (s : See K F H v .non) : v = .non := by
  cases s with
  | rep r => cases r; rfl
  | obj e r => unfold RepO at r; split at r <;> first | (rename_i q; cases q) | exact r.elim
theorem See.scr {ns : List Int} (s : See K F H v (.scr ns)) : ∃ p, v = .ref p ∧ SqL K F p (ns.map V.int) := by
  cases s with
  | rep r => cases r with | scr h => exact ⟨_, rfl, h⟩
  | obj e r => unfold RepO at r; split at r <;> first | (rename_i q; cases q) | exact r.elim
end

/-! ### ends of operations on values -/
abbrev Gives (K : PySem.W.Frag) (C : Ct) (F : Hp) (env : List Slot) (σ : L2.St) (H : Hp) (R : RV → Prop) (Q : VK) : Prop :=
  ∀ l F' v H', R l → Aft K C F env σ H F' env H' → RVOk K C F' env σ H H' v l → Q v H'
section
variable {K : PySem.W.Frag} {C : Ct} {F H : Hp} {env : List Slot} {σ : L2.St} {R : RV → Prop} {Q : VK}
theorem Gives.here (g : Gives K C F env σ H R Q) (h : Ok K C F env σ H) {v : V} {d : D} (r : R (.vl d)) (a : Rep K F v d) : Q v H := g _ F v H r h.aft a
theorem Gives.bl (g : Gives K C F env σ H R Q) (h : Ok K C F env σ H) {b : Bool} (r : R (.vl (.bl b))) : Q (.bl b) H := g.here h r (.bl b)
theorem Gives.int (g : Gives K C F env σ H R Q) (h : Ok K C F env σ H) {b : Int} (r : R (.vl (.int b))) : Q (.int b) H := g.here h r (.int b)
theorem Gives.str (g : Gives K C F env σ H R Q) (h : Ok K C F env σ H) {b : Str} (o : PyData.strOk b = true) (r : R (.vl (.str b))) : Q (.str b) H := g.here h r (.str b o)
theorem Gives.obj (g : Gives K C F env σ H R Q) (h : Ok K C F env σ H) {o : HO} {d : D} (r : R (.tm d)) (a : RepO K F o d) (p : Addr) (hp : H p = none) : Q (.ref p) (upd H p o) :=
  g _ F _ _ r (h.tmp hp o) ⟨p, o, rfl, upd_same, a, h.fnone hp, h.gnone hp, h.unowned hp, hp⟩
theorem Gives.lst (g : Gives K C F env σ H R Q) (h : Ok K C F env σ H) {vs : List V} {ds : List D} (r : R (.tm (.lst ds))) (a : RepL K F vs ds) (p : Addr) (hp : H p = none) : Q (.ref p) (upd H p (.lst vs)) := g.obj h (o := .lst vs) r a p hp
theorem Ok.lay (h : Ok K C F env σ H) {p : Addr} (hp : H p = none) (o : HO) : Aft K C F env σ H (upd F p o) env (upd H p o) where
  ok := (h.tmp hp o).ok.hold upd_same (h.fnone hp) (h.gnone hp) (h.unowned hp)
  ex := Ex.new (h.fnone hp)
  fr := (h.tmp hp o).fr
  nw := fun a n z _ => by rw [upd_ne (fun q => n (by rw [q]; exact hp))]; exact z
  al := (h.tmp hp o).al
  le := Sub.refl env
theorem Gives.tup (g : Gives K C F env σ H R Q) (h : Ok K C F env σ H) {vs : List V} {ds : List D} (r : R (.vl (.tup ds))) (a : RepL K F vs ds) (p : Addr) (hp : H p = none) : Q (.ref p) (upd H p (.tup vs)) :=
  g _ _ _ _ r (h.lay hp _) (Rep.tup (st_of upd_same) (RepL.mono (Ex.new (h.fnone hp)) a))
end
end DL

set_option Elab.async false
set_option linter.all false
set_option maxRecDepth 100000
set_option maxHeartbeats 4000000
set_option autoImplicit false
/-! DL2: rules of expressions over data. -/
namespace DL
open PySem L2 Evl

section
variable {X : Cx} {pos : Pos}
/-! ### names and constants -/
@[simp] def mC (d : D) : DM := fun env R => R (.vl d) env
@[simp] def mVar (i : Nat) : DM := fun env R => (match env[i]? with
  | some (.val _) => True
  | some (.own _ _) => True
  | _ => False) ∧ R (.sl i) env
theorem evd_var {K : PySem.W.Frag} (i : Nat) : EvD K (mVar i) (tVar i) := by
  intro C F env σ H R Q I h k
  obtain ⟨h1, h2⟩ := h
  have : ∃ v, σ[i]? = some (some v) := by
    split at h1
    · rename_i d e
      obtain ⟨v, q, _⟩ := I.vals i d e
      exact ⟨v, q⟩
    · rename_i b d e
      obtain ⟨p, o, q, _⟩ := I.owns i b d e
      exact ⟨_, q⟩
    · exact h1.elim
  obtain ⟨v, q⟩ := this
  exact ⟨v, q, k _ env F v H h2 I.aft q⟩
theorem dvar (i : Nat) {x : Str} (hN : X.N[i]? = some x := by rfl) (hv : Vis X.env.scope x := by first | exact Or.inl rfl | exact Or.inr (Or.inl rfl) | exact Or.inr (Or.inr rfl)) (hd : (x == ("__debug__" : Str)) = false := by decide)
    (hcd : (x == ("__classdict__" : Str)) = false := by decide) : DE X (.Name x pos) (mVar i) := ⟨_, pe_var hN hv hd hcd, evd_var i⟩
theorem evd_c {K : PySem.W.Frag} {v : V} {d : D} (r : ∀ F, Rep K F v d) : EvD K (mC d) (tC v) := fun C F env σ H R Q I h k => k _ env F v H h I.aft (r F)
theorem dint {i : Int} {j : Nat} : DE X (.Constant (.int i) j pos) (mC (.int i)) := ⟨_, pe_int, evd_c fun _ => .int i⟩
theorem dbl {b : Bool} {j : Nat} : DE X (.Constant (.bool b) j pos) (mC (.bl b)) := ⟨_, pe_bl, evd_c fun _ => .bl b⟩
theorem dnon {j : Nat} : DE X (.Constant .none j pos) (mC .non) := ⟨_, pe_non, evd_c fun _ => .non⟩
theorem dstr {x : Str} {j : Nat} (h : PyData.strOk x = true := by decide +kernel) : DE X (.Constant (.str x) j pos) (mC (.str x)) := ⟨_, pe_str, evd_c fun _ => .str x h⟩
theorem dglob {x : Str} {v : V} {u : Value} {d : D} (hg : Gl X x) (hm : X.mg x = some u) (r : RelV v u) (rep : ∀ F, Rep X.K F v d) (hd : (x == ("__debug__" : Str)) = false := by decide) : DE X (.Name x pos) (mC d) := ⟨_, pe_glob hg hm r hd, evd_c rep⟩
theorem dgint {x : Str} {u : Value} {i : Int} (hg : Gl X x) (hm : X.mg x = some u) (r : RelV (.int i) u) (hd : (x == ("__debug__" : Str)) = false := by decide) : DE X (.Name x pos) (mC (.int i)) := dglob hg hm r (fun _ => .int i) hd
theorem dgstr {x : Str} {u : Value} {i : Str} (hg : Gl X x) (hm : X.mg x = some u) (r : RelV (.str i) u) (h : PyData.strOk i = true) (hd : (x == ("__debug__" : Str)) = false := by decide) : DE X (.Name x pos) (mC (.str i)) := dglob hg hm r (fun _ => .str i h) hd

/-! ### two operands -/
def Op2 (K : PySem.W.Frag) (r : R2) (f : D → D → (RV → Prop) → Prop) : Prop := ∀ (C : Ct) (F : Hp) (env : List Slot) (σ : L2.St) (H : Hp) (v w : V) (d e : D) (R : RV → Prop) (Q : VK),
  Ok K C F env σ H → See K F H v d → See K F H w e → f d e R → Gives K C F env σ H R Q → r v w H Q
@[simp] def mOp2 (f : D → D → (RV → Prop) → Prop) (a b : DM) : DM := fun env R => a env fun x e1 => b e1 fun y e2 => x.con e2 fun d => y.con e2 fun e => f d e fun l => R l e2
theorem evd_op2 {K : PySem.W.Frag} {r : R2} {f : D → D → (RV → Prop) → Prop} {m1 m2 : DM} {ta tb : TE} (hf : Op2 K r f) (ha : EvD K m1 ta) (hb : EvD K m2 tb) : EvD K (mOp2 f m1 m2) (tOp r ta tb) := by
  intro C F env σ H R Q I h k
  refine ha C F env σ H _ _ I h ?_
  intro x e1 F1 v H1 h1 A1 r1
  refine hb C F1 e1 σ H1 _ _ A1.ok h1 ?_
  intro y e2 F2 w H2 h2 A2 r2
  obtain ⟨d, h3, s1⟩ := A2.ok.see (r1.on A2) h2
  obtain ⟨e, h4, s2⟩ := A2.ok.see r2 h3
  have A := A1.trans A2
  exact hf C F2 e2 σ H2 v w d e _ _ A2.ok s1 s2 h4 fun l F3 u H3 hl A3 r3 => k l e2 F3 u H3 hl (A.trans A3) (r3.from fun p => A.back)
theorem dop {op : Operator} {r : R2} {f : D → D → (RV → Prop) → Prop} {a b : Expr} {m1 m2 : DM} (ho : OpR X (binaryOp op) r) (hf : Op2 X.K r f) (ha : DE X a m1) (hb : DE X b m2) : DE X (.BinOp a op b pos) (mOp2 f m1 m2) := by
  obtain ⟨ta, pa, ea⟩ := ha
  obtain ⟨tb, pb, eb⟩ := hb
  exact ⟨_, pe_op ho pa pb, evd_op2 hf ea eb⟩
theorem dcmp {op : CmpOp} {r : R2} {f : D → D → (RV → Prop) → Prop} {a b : Expr} {m1 m2 : DM} (ho : OpR X (compareOp op) r) (hf : Op2 X.K r f) (ha : DE X a m1) (hb : DE X b m2) (hm : behindInMarks op b = false := by first | exact nomark _ | rfl | with_unfolding_all rfl) : DE X (.Compare a [op] [b] pos) (mOp2 f m1 m2) := by
  obtain ⟨ta, pa, ea⟩ := ha
  obtain ⟨tb, pb, eb⟩ := hb
  exact ⟨_, pe_cmpR ho pa pb hm, evd_op2 hf ea eb⟩
@[simp] def mB (a : DM) : DMB := fun env R => a env fun x e1 => x.con e1 fun d => match d with
  | .bl b => R b e1
  | _ => False
theorem evb_of {K : PySem.W.Frag} {m : DM} {t : TE} (h : EvD K m t) : EvB K (mB m) (tTest t) := by
  intro C F env σ H R Q I hm k
  refine h C F env σ H _ _ I hm ?_
  intro x e1 F1 v H1 h1 A1 r1
  obtain ⟨d, h3, s1⟩ := A1.ok.see r1 h1
  cases d with
  | bl b => exact ⟨b, s1.bl, k b e1 F1 H1 h3 A1⟩
  | _ => exact h3.elim
theorem dtcmp {op : CmpOp} {r : R2} {f : D → D → (RV → Prop) → Prop} {a b : Expr} {m1 m2 : DM} (ho : OpR X (compareOp op) r) (hf : Op2 X.K r f) (ha : DE X a m1) (hb : DE X b m2) (hm : behindInMarks op b = false := by first | exact nomark _ | rfl | with_unfolding_all rfl) : DT X (.Compare a [op] [b] pos) (mB (mOp2 f m1 m2)) := by
  obtain ⟨ta, pa, ea⟩ := ha
  obtain ⟨tb, pb, eb⟩ := hb
  exact ⟨_, pt_cmpR ho pa pb hm, evb_of (evd_op2 hf ea eb)⟩
@[simp] def mChain (f g : D → D → (RV → Prop) → Prop) (a b c : DM) : DM := fun env R => a env fun x e1 => b e1 fun y e2 => x.con e2 fun d => y.con e2 fun e => f d e fun l => l.con e2 fun z => match z with
  | .bl b => if b = true then c e2 fun w e3 => y.con e3 fun e' => w.con e3 fun u => g e' u fun l => R l e3 else R (.vl (.bl false)) e2
  | _ => False
theorem evd_chain {K : PySem.W.Frag} {r r' : R2} {f g : D → D → (RV → Prop) → Prop} {m1 m2 m3 : DM} {ta tb tc : TE} (hf : Op2 K r f) (hg : Op2 K r' g) (ha : EvD K m1 ta) (hb : EvD K m2 tb) (hc : EvD K m3 tc) : EvD K (mChain f g m1 m2 m3) (tChain r r' ta tb tc) := by
  intro C F env σ H R Q I h k
  refine ha C F env σ H _ _ I h ?_
  intro x e1 F1 v H1 h1 A1 r1
  refine hb C F1 e1 σ H1 _ _ A1.ok h1 ?_
  intro y e2 F2 w H2 h2 A2 r2
  obtain ⟨d, h3, s1⟩ := A2.ok.see (r1.on A2) h2
  obtain ⟨e, h4, s2⟩ := A2.ok.see r2 h3
  have A := A1.trans A2
  refine hf C F2 e2 σ H2 v w d e _ _ A2.ok s1 s2 h4 ?_
  intro l F3 u H3 hl A3 r3
  obtain ⟨z, h5, s3⟩ := A3.ok.see r3 hl
  cases z with
  | bl b =>
    refine ⟨b, s3.bl, ?_⟩
    cases b with
    | false =>
      rw [if_neg Bool.false_ne_true]
      exact k _ e2 F3 _ H3 h5 (A.trans A3) (Rep.bl false)
    | true =>
      rw [if_pos rfl]
      refine hc C F3 e2 σ H3 _ _ A3.ok h5 ?_
      intro w' e3 F4 v4 H4 h6 A4 r4
      have ry := (r2.on A3).on A4
      obtain ⟨e', h7, s4⟩ := A4.ok.see ry h6
      obtain ⟨u', h8, s5⟩ := A4.ok.see r4 h7
      have B := (A.trans A3).trans A4
      exact hg C F4 e3 σ H4 w v4 e' u' _ _ A4.ok s4 s5 h8 fun l F5 u5 H5 hl A5 r5 => k l e3 F5 u5 H5 hl (B.trans A5) (r5.from fun p => B.back)
  | _ => exact h5.elim
theorem dchain {op op' : CmpOp} {r r' : R2} {f g : D → D → (RV → Prop) → Prop} {a b c : Expr} {m1 m2 m3 : DM} (ho : OpR X (compareOp op) r) (hf : Op2 X.K r f) (ho' : OpR X (compareOp op') r') (hg : Op2 X.K r' g) (ha : DE X a m1) (hb : DE X b m2) (hc : DE X c m3)
    (hm : lastMarks [op, op'] [b, c] = false := by with_unfolding_all rfl) : DE X (.Compare a [op, op'] [b, c] pos) (mChain f g m1 m2 m3) := by
  obtain ⟨ta, pa, ea⟩ := ha
  obtain ⟨tb, pb, eb⟩ := hb
  obtain ⟨tc, pc, ec⟩ := hc
  exact ⟨_, pe_chain ho ho' pa pb pc hm, evd_chain hf hg ea eb ec⟩
theorem dtchain {op op' : CmpOp} {r r' : R2} {f g : D → D → (RV → Prop) → Prop} {a b c : Expr} {m1 m2 m3 : DM} (ho : OpR X (compareOp op) r) (hf : Op2 X.K r f) (ho' : OpR X (compareOp op') r') (hg : Op2 X.K r' g) (ha : DE X a m1) (hb : DE X b m2) (hc : DE X c m3)
    (hm : lastMarks [op, op'] [b, c] = false := by with_unfolding_all rfl) : DT X (.Compare a [op, op'] [b, c] pos) (mB (mChain f g m1 m2 m3)) := by
  obtain ⟨ta, pa, ea⟩ := ha
  obtain ⟨tb, pb, eb⟩ := hb
  obtain ⟨tc, pc, ec⟩ := hc
  exact ⟨_, pt_chain ho ho' pa pb pc hm, evb_of (evd_chain hf hg ea eb ec)⟩

/-! ### truth, and, or, not, if -/
@[simp] def aTru (d : D) (R : Bool → Prop) : Prop := match d with
  | .non => R false
  | .bl b => R b
  | .int i => R (i != 0)
  | .str s => s.length ≤ sizeLine ∧ R ((s.length : Int) != 0)
  | .lst xs => R (!xs.isEmpty)
  | .tup xs => R (!xs.isEmpty)
  | .dic ks => R (!ks.isEmpty)
  | .scr ns => R (!ns.isEmpty)
  | _ => False
@[simp] def mTru (a : DM) : DMB := fun env R => a env fun x e1 => x.con e1 fun d => aTru d fun b => R b e1
theorem RepL.isEmpty {K : PySem.W.Frag} {F : Hp} {vs : List V} {ds : List D} (r : RepL K F vs ds) : vs.isEmpty = ds.isEmpty := by cases r <;> rfl
theorem tru_of {K : PySem.W.Frag} {C : Ct} {F H : Hp} {env : List Slot} {σ : L2.St} {v : V} {d : D} {R : Bool → Prop} (I : Ok K C F env σ H) (s : See K F H v d) (h : aTru d R) : ∃ b, TruV K v H b ∧ R b := by
  cases d with
  | non => exact ⟨false, by rw [s.non]; rfl, h⟩
  | bl b => exact ⟨b, by rw [s.bl]; rfl, h⟩
  | int i => exact ⟨_, by rw [s.int]; rfl, h⟩
  | str x => exact ⟨_, by rw [s.str.1]; exact ⟨h.1, rfl⟩, h.2⟩
  | lst xs =>
    obtain ⟨p, vs, rfl, e, r⟩ := s.lst I.sub
    exact ⟨_, Or.inl ⟨vs, sq_of e, rfl⟩, by rw [r.isEmpty]; exact h⟩
  | tup xs =>
    obtain ⟨p, vs, rfl, e, r⟩ := s.tup
    exact ⟨_, Or.inr (Or.inl ⟨vs, ex_t I.sub e, rfl⟩), by rw [r.isEmpty]; exact h⟩
  | dic ks =>
    obtain ⟨p, kvs, rfl, e, k, r⟩ := s.dic I.sub
    refine ⟨_, Or.inr (Or.inr ⟨kvs, e, rfl⟩), ?_⟩
    have : kvs.isEmpty = ks.isEmpty := by
      have := congrArg List.length k
      simp at this
      cases kvs <;> cases ks <;> simp_all
    rw [this]; exact h
  | scr ns =>
    obtain ⟨p, rfl, e⟩ := s.scr
    refine ⟨_, Or.inl ⟨_, ex_l I.sub e, rfl⟩, ?_⟩
    cases ns <;> exact h
  | fn a => exact h.elim
  | obj C fs => exact h.elim
  | exc a dd fs => exact h.elim
theorem dtru {a : Expr} {m : DM} (h : DE X a m) (he : ∀ whole, isTrue a X.env whole = (do let v ← whole; standAt a.pos; holding [v] (truthy v)) := by intro _; rfl) : DT X a (mTru m) := by
  obtain ⟨t, p, ev⟩ := h
  refine ⟨_, pt_truth p he, ?_⟩
  intro C F env σ H R Q I hm k
  refine ev C F env σ H _ _ I hm ?_
  intro x e1 F1 v H1 h1 A1 r1
  obtain ⟨d, h3, s1⟩ := A1.ok.see r1 h1
  obtain ⟨b, h4, h5⟩ := tru_of A1.ok s1 h3
  exact ⟨b, h4, k b e1 F1 H1 h5 A1⟩
@[simp] def mAndT (a b : DMB) : DMB := fun env R => a env fun x e1 => if x = true then b e1 R else R false e1
@[simp] def mOrT (a b : DMB) : DMB := fun env R => a env fun x e1 => if x = true then R true e1 else b e1 R
@[simp] def mNotT (a : DMB) : DMB := fun env R => a env fun x e1 => R (!x) e1
theorem evb_and {K : PySem.W.Frag} {m1 m2 : DMB} {t u : TT} (ha : EvB K m1 t) (hb : EvB K m2 u) : EvB K (mAndT m1 m2) (tAnd t u) := by
  intro C F env σ H R Q I h k
  refine ha C F env σ H _ _ I h ?_
  intro b e1 F1 H1 h1 A1
  cases b with
  | false =>
    have h1' : R false e1 := by simpa using h1
    show (if false = true then u σ H1 Q else Q false H1)
    rw [if_neg Bool.false_ne_true]
    exact k false e1 F1 H1 h1' A1
  | true =>
    have h1' : m2 e1 R := by simpa using h1
    show (if true = true then u σ H1 Q else Q false H1)
    rw [if_pos rfl]
    exact hb C F1 e1 σ H1 _ _ A1.ok h1' fun b e2 F2 H2 h2 A2 => k b e2 F2 H2 h2 (A1.trans A2)
theorem evb_or {K : PySem.W.Frag} {m1 m2 : DMB} {t u : TT} (ha : EvB K m1 t) (hb : EvB K m2 u) : EvB K (mOrT m1 m2) (tOr t u) := by
  intro C F env σ H R Q I h k
  refine ha C F env σ H _ _ I h ?_
  intro b e1 F1 H1 h1 A1
  cases b with
  | true =>
    have h1' : R true e1 := by simpa using h1
    show (if true = true then Q true H1 else u σ H1 Q)
    rw [if_pos rfl]
    exact k true e1 F1 H1 h1' A1
  | false =>
    have h1' : m2 e1 R := by simpa using h1
    show (if false = true then Q true H1 else u σ H1 Q)
    rw [if_neg Bool.false_ne_true]
    exact hb C F1 e1 σ H1 _ _ A1.ok h1' fun b e2 F2 H2 h2 A2 => k b e2 F2 H2 h2 (A1.trans A2)
theorem dw_and1 {a : Expr} {m : DMB} (h : DT X a m) : DW X (.BoolOp .And [a] pos) m := by
  obtain ⟨t, p, e⟩ := h
  exact ⟨t, pw_and1 p, e⟩
theorem dw_or1 {a : Expr} {m : DMB} (h : DT X a m) : DW X (.BoolOp .Or [a] pos) m := by
  obtain ⟨t, p, e⟩ := h
  exact ⟨t, pw_or1 p, e⟩
theorem dw_and {a b : Expr} {rest : List Expr} {m1 m2 : DMB} (ha : DT X a m1) (hb : DW X (.BoolOp .And (b :: rest) pos) m2) : DW X (.BoolOp .And (a :: b :: rest) pos) (mAndT m1 m2) := by
  obtain ⟨t, p, e⟩ := ha
  obtain ⟨u, q, e2⟩ := hb
  exact ⟨_, pw_and p q, evb_and e e2⟩
theorem dw_or {a b : Expr} {rest : List Expr} {m1 m2 : DMB} (ha : DT X a m1) (hb : DW X (.BoolOp .Or (b :: rest) pos) m2) : DW X (.BoolOp .Or (a :: b :: rest) pos) (mOrT m1 m2) := by
  obtain ⟨t, p, e⟩ := ha
  obtain ⟨u, q, e2⟩ := hb
  exact ⟨_, pw_or p q, evb_or e e2⟩
theorem dtw {a : Expr} {m : DMB} (h : DW X a m) : DT X a m := by
  obtain ⟨t, p, e⟩ := h
  exact ⟨t, p.pt, e⟩
theorem dtnot {a : Expr} {m : DMB} (h : DT X a m) : DT X (.UnaryOp .Not a pos) (mNotT m) := by
  obtain ⟨t, p, e⟩ := h
  refine ⟨_, pt_not p, ?_⟩
  intro C F env σ H R Q I h k
  refine e C F env σ H _ _ I h ?_
  intro b e1 F1 H1 h1 A1
  exact k (!b) e1 F1 H1 h1 A1
@[simp] def mAndV (a b : DM) : DM := fun env R => a env fun x e1 => x.con e1 fun d => match d with
  | .bl c => if c = true then b e1 R else R (.vl (.bl false)) e1
  | _ => False
@[simp] def mOrV (a b : DM) : DM := fun env R => a env fun x e1 => x.con e1 fun d => match d with
  | .bl c => if c = true then R (.vl (.bl true)) e1 else b e1 R
  | _ => False
@[simp] def mNotV (a : DM) : DM := fun env R => a env fun x e1 => x.con e1 fun d => match d with
  | .bl b => R (.vl (.bl (!b))) e1
  | _ => False
theorem done1 {op : BoolOp} {a : Expr} {m : DM} (h : DE X a m) : DE X (.BoolOp op [a] pos) m := by
  obtain ⟨t, p, e⟩ := h
  exact ⟨t, pe_one p, e⟩
theorem dand {a b : Expr} {rest : List Expr} {m1 m2 : DM} (ha : DE X a m1) (hb : DE X (.BoolOp .And (b :: rest) pos) m2) : DE X (.BoolOp .And (a :: b :: rest) pos) (mAndV m1 m2) := by
  obtain ⟨t, p, ea⟩ := ha
  obtain ⟨u, q, eb⟩ := hb
  refine ⟨_, pe_and p q, ?_⟩
  intro C F env σ H R Q I h k
  refine ea C F env σ H _ _ I h ?_
  intro x e1 F1 v H1 h1 A1 r1
  obtain ⟨d, h3, s1⟩ := A1.ok.see r1 h1
  cases d with
  | bl b =>
    refine ⟨b, s1.bl, ?_⟩
    cases b with
    | true =>
      rw [if_pos rfl]
      exact eb C F1 e1 σ H1 _ _ A1.ok h3 fun l e2 F2 w H2 h2 A2 r2 => k l e2 F2 w H2 h2 (A1.trans A2) (r2.from fun p => A1.back)
    | false =>
      rw [if_neg Bool.false_ne_true]
      exact k _ e1 F1 _ H1 h3 A1 (Rep.bl false)
  | _ => exact h3.elim
theorem dor {a b : Expr} {rest : List Expr} {m1 m2 : DM} (ha : DE X a m1) (hb : DE X (.BoolOp .Or (b :: rest) pos) m2) : DE X (.BoolOp .Or (a :: b :: rest) pos) (mOrV m1 m2) := by
  obtain ⟨t, p, ea⟩ := ha
  obtain ⟨u, q, eb⟩ := hb
  refine ⟨_, pe_or p q, ?_⟩
  intro C F env σ H R Q I h k
  refine ea C F env σ H _ _ I h ?_
  intro x e1 F1 v H1 h1 A1 r1
  obtain ⟨d, h3, s1⟩ := A1.ok.see r1 h1
  cases d with
  | bl b =>
    refine ⟨b, s1.bl, ?_⟩
    cases b with
    | false =>
      rw [if_neg Bool.false_ne_true]
      exact eb C F1 e1 σ H1 _ _ A1.ok h3 fun l e2 F2 w H2 h2 A2 r2 => k l e2 F2 w H2 h2 (A1.trans A2) (r2.from fun p => A1.back)
    | true =>
      rw [if_pos rfl]
      exact k _ e1 F1 _ H1 h3 A1 (Rep.bl true)
  | _ => exact h3.elim
theorem dnot {a : Expr} {m : DM} (ha : DE X a m) : DE X (.UnaryOp .Not a pos) (mNotV m) := by
  obtain ⟨t, p, ea⟩ := ha
  refine ⟨_, pe_not p, ?_⟩
  intro C F env σ H R Q I h k
  refine ea C F env σ H _ _ I h ?_
  intro x e1 F1 v H1 h1 A1 r1
  obtain ⟨d, h3, s1⟩ := A1.ok.see r1 h1
  cases d with
  | bl b => exact ⟨b, s1.bl, k _ e1 F1 _ H1 h3 A1 (Rep.bl _)⟩
  | _ => exact h3.elim
@[simp] def mIf (t : DMB) (a b : DM) : DM := fun env R => t env fun x e1 => if x = true then a e1 R else b e1 R
theorem dif {c a b : Expr} {t : DMB} {m1 m2 : DM} (hc : DT X c t) (ha : DE X a m1) (hb : DE X b m2) : DE X (.IfExp c a b pos) (mIf t m1 m2) := by
  obtain ⟨tc, pc, ec⟩ := hc
  obtain ⟨ta, pa, ea⟩ := ha
  obtain ⟨tb, pb, eb⟩ := hb
  refine ⟨_, pe_ifExp pc pa pb, ?_⟩
  intro C F env σ H R Q I h k
  refine ec C F env σ H _ _ I h ?_
  intro b e1 F1 H1 h1 A1
  cases b with
  | true =>
    have h1' : m1 e1 R := by simpa using h1
    show (if true = true then ta σ H1 Q else tb σ H1 Q)
    rw [if_pos rfl]
    exact ea C F1 e1 σ H1 _ _ A1.ok h1' fun l e2 F2 w H2 h2 A2 r2 => k l e2 F2 w H2 h2 (A1.trans A2) (r2.from fun p => A1.back)
  | false =>
    have h1' : m2 e1 R := by simpa using h1
    show (if false = true then ta σ H1 Q else tb σ H1 Q)
    rw [if_neg Bool.false_ne_true]
    exact eb C F1 e1 σ H1 _ _ A1.ok h1' fun l e2 F2 w H2 h2 A2 r2 => k l e2 F2 w H2 h2 (A1.trans A2) (r2.from fun p => A1.back)

/-! ### arguments, displays -/
@[simp] def mNil : DML := fun env R => R [] env
@[simp] def mCons (a : DM) (r : DML) : DML := fun env R => a env fun x e1 => x.get e1 fun d => r e1 fun ds e2 => R (d :: ds) e2
theorem dl_nil : DL X [] mNil := ⟨_, pa_nil, fun C F env σ H R Q I h k => k [] env F [] H h I.aft .nil⟩
theorem dl_cons {e : Expr} {es : List Expr} {m : DM} {ml : DML} (h : DE X e m) (hr : DL X es ml) (hs : starEach (e :: es) X.env = (false, eval e X.env) :: starEach es X.env := by rfl) : DL X (e :: es) (mCons m ml) := by
  obtain ⟨t, p, ev⟩ := h
  obtain ⟨u, q, er⟩ := hr
  refine ⟨_, pa_cons p q hs, ?_⟩
  intro C F env σ H R Q I h k
  refine ev C F env σ H _ _ I h ?_
  intro x e1 F1 v H1 h1 A1 r1
  obtain ⟨F2, d, h2, A2, ex, rp⟩ := A1.keepIt r1 h1
  refine er C F2 e1 σ H1 _ _ A2.ok h2 ?_
  intro ds e3 F3 vs H3 h3 A3 r3
  exact k (d :: ds) e3 F3 (v :: vs) H3 h3 (A2.trans A3) (.cons (rp.mono A3.ex) r3)
@[simp] def mTup (a : DML) : DM := fun env R => a env fun ds e1 => ds.length ≤ 100000 ∧ R (.vl (.tup ds)) e1
@[simp] def mLst (a : DML) : DM := fun env R => a env fun ds e1 => ds.length ≤ 100000 ∧ R (.tm (.lst ds)) e1
theorem dtup {es : List Expr} {x1 : _} {ml : DML} (h : DL X es ml) : DE X (.Tuple es x1 pos) (mTup ml) := by
  obtain ⟨t, p, ev⟩ := h
  refine ⟨_, pe_tup p, ?_⟩
  intro C F env σ H R Q I h k
  refine ev C F env σ H _ _ I h ?_
  intro ds e1 F1 vs H1 h1 A1 r1
  refine ⟨by rw [r1.length]; exact sz_of h1.1, fun q hq => ?_⟩
  have B := A1.ok.lay hq (.tup vs)
  exact k _ e1 _ _ _ h1.2 (A1.trans B) (Rep.tup (st_of upd_same) (r1.mono B.ex))
theorem dlst {es : List Expr} {ml : DML} (h : DL X es ml) : DE X (.List es pos) (mLst ml) := by
  obtain ⟨t, p, ev⟩ := h
  refine ⟨_, pe_lst p, ?_⟩
  intro C F env σ H R Q I h k
  refine ev C F env σ H _ _ I h ?_
  intro ds e1 F1 vs H1 h1 A1 r1
  refine ⟨by rw [r1.length]; exact sz_of h1.1, fun q hq => ?_⟩
  have g : Gives X.K C F1 e1 σ H1 (fun l => R l e1) Q := fun l F3 u H3 hl A3 r3 => k l e1 F3 u H3 hl (A1.trans A3) (r3.from fun p => A1.back)
  exact g.lst A1.ok h1.2 r1 q hq
end
end DL

set_option Elab.async false
set_option linter.all false
set_option maxRecDepth 100000
set_option maxHeartbeats 4000000
set_option autoImplicit false
/-! DL3: statements over data; a def's promise; calls. -/
namespace DL
open PySem L2 Evl

/-! ### statements -/
structure Post where
  nx : List Slot → Prop
  rt : RV → List Slot → Prop
  bk : List Slot → Prop := fun _ => False
  ct : List Slot → Prop := fun _ => False
  r2 : RV → RV → List Slot → Prop := fun _ _ _ => False
  ex : Nat → List (Str × D) → List Slot → Prop := fun _ _ _ => False
def RetOk (K : PySem.W.Frag) (C : Ct) (F H : Hp) (v : V) : RV → Prop
  | .vl d => Rep K F v d
  | .tm d => ∃ p o, v = .ref p ∧ H p = some o ∧ RepO K F o d ∧ F p = none ∧ C.G p = none
  | .sl _ => False
def Ret2 (K : PySem.W.Frag) (C : Ct) (F H : Hp) (v : V) (x y : RV) : Prop := ∃ T u w, v = .ref T ∧ SqT K H T [u, w] ∧ RetOk K C F H u x ∧ RetOk K C F H w y ∧ ((∃ d, x = .tm d) → (∃ d, y = .tm d) → u ≠ w)
structure Conn (K : PySem.W.Frag) (C : Ct) (D : Ends) (P : Post) : Prop where
  nx : ∀ F env σ H, Ok K C F env σ H → P.nx env → D.nx σ H
  bk : ∀ F env σ H, Ok K C F env σ H → P.bk env → D.bk σ H
  ct : ∀ F env σ H, Ok K C F env σ H → P.ct env → D.ct σ H
  rt : ∀ F env σ H v r, Ok K C F env σ H → RetOk K C F H v r → P.rt r env → D.rt v H
  r2 : ∀ F env σ H v x y, Ok K C F env σ H → Ret2 K C F H v x y → P.r2 x y env → D.rt v H
abbrev DStm := Post → List Slot → Prop
def EvS (K : PySem.W.Frag) (m : DStm) (t : TS) : Prop := ∀ C F env σ H D P, Ok K C F env σ H → m P env → Conn K C D P → t D σ H
def DS (X : Cx) (st : Stmt) (m : DStm) : Prop := ∃ t, PS X st t ∧ EvS X.K m t
def DB (X : Cx) (sts : List Stmt) (m : DStm) : Prop := ∃ t, PSs X sts t ∧ EvS X.K m t

section
variable {K : PySem.W.Frag} {C : Ct} {F F' H H' : Hp} {env env' : List Slot} {σ : L2.St} {v : V} {d : D} {j : Nat}
@[simp] def Pl : Slot → Prop
  | .own true _ => False
  | _ => True
@[simp] def Free (env : List Slot) (j : Nat) : Prop := match env[j]? with
  | some s => Pl s
  | none => False
theorem Free.pins {i : Nat} {s : Slot} (f : Free env j) (h : ∃ d, env[i]? = some (.own true d)) : ∃ d, (env.set j s)[i]? = some (.own true d) := by
  obtain ⟨d, e⟩ := h
  refine ⟨d, ?_⟩
  rw [List.getElem?_set_ne]
  · exact e
  · rintro rfl
    unfold Free at f
    rw [e] at f
    exact f
theorem Ok.setVal (h : Ok K C F env σ H) (f : Free env j) (r : Rep K F v d) : Ok K C F (env.set j (.val d)) (σ.set j (some v)) H where
  len := by rw [List.length_set, List.length_set]; exact h.len
  sub := h.sub
  keep := h.keep
  all := h.all
  new := h.new
  bas := h.bas
  vals := fun i d' e => by
    by_cases q : j = i
    · subst q
      have hj : j < env.length := by
        rcases Nat.lt_or_ge j env.length with z | z
        · exact z
        · rw [List.getElem?_eq_none (by simpa using z)] at e; cases e
      rw [List.getElem?_set_self hj] at e
      cases e
      exact ⟨v, by rw [List.getElem?_set_self (by rw [h.len]; exact hj)], r⟩
    · rw [List.getElem?_set_ne q] at e ⊢
      exact h.vals i d' e
  owns := fun i b d' e => by
    by_cases q : j = i
    · subst q
      have hj : j < env.length := by
        rcases Nat.lt_or_ge j env.length with z | z
        · exact z
        · rw [List.getElem?_eq_none (by simpa using z)] at e; cases e
      rw [List.getElem?_set_self hj] at e
      cases e
    · rw [List.getElem?_set_ne q] at e ⊢
      exact h.owns i b d' e
  sep := fun i k p ⟨b, d1, e1, s1⟩ ⟨b2, d2, e2, s2⟩ => by
    have hne : ∀ (i : Nat) (b : Bool) (d1 : D), (env.set j (.val d))[i]? = some (.own b d1) → j ≠ i := fun i b d1 e q => by
      subst q
      rw [List.getElem?_set] at e
      split at e
      · split at e <;> cases e
      · exact absurd rfl ‹¬ _›
    have q1 := hne _ _ _ e1
    have q2 := hne _ _ _ e2
    rw [List.getElem?_set_ne q1] at e1 s1
    rw [List.getElem?_set_ne q2] at e2 s2
    exact h.sep i k p ⟨b, d1, e1, s1⟩ ⟨b2, d2, e2, s2⟩
  pins := fun i q => Free.pins f (h.pins i q)
theorem Ok.setOwn {p : Addr} {o : HO} (h : Ok K C F env σ H) (f : Free env j) (ho : H p = some o) (r : RepO K F o d) (hF : F p = none) (hG : C.G p = none) (hn : ∀ i, ¬ Owns env σ i p) : Ok K C F (env.set j (.own false d)) (σ.set j (some (.ref p))) H where
  len := by rw [List.length_set, List.length_set]; exact h.len
  sub := h.sub
  keep := h.keep
  all := h.all
  new := h.new
  bas := h.bas
  vals := fun i d' e => by
    by_cases q : j = i
    · subst q
      rw [List.getElem?_set] at e
      split at e
      · split at e <;> cases e
      · exact absurd rfl ‹¬ _›
    · rw [List.getElem?_set_ne q] at e ⊢
      exact h.vals i d' e
  owns := fun i b d' e => by
    by_cases q : j = i
    · subst q
      have hj : j < env.length := by
        rcases Nat.lt_or_ge j env.length with z | z
        · exact z
        · rw [List.getElem?_eq_none (by simpa using z)] at e; cases e
      rw [List.getElem?_set_self hj] at e
      cases e
      exact ⟨p, o, by rw [List.getElem?_set_self (by rw [h.len]; exact hj)], ho, r, hF, fun _ => hG, fun z => by cases z⟩
    · rw [List.getElem?_set_ne q] at e ⊢
      exact h.owns i b d' e
  sep := fun i k q ⟨b, d1, e1, s1⟩ ⟨b2, d2, e2, s2⟩ => by
    by_cases q1 : j = i
    · by_cases q2 : j = k
      · rw [← q1, ← q2]
      · subst q1
        rw [List.getElem?_set_ne q2] at e2 s2
        have : q = p := by
          rw [List.getElem?_set] at s1
          split at s1
          · split at s1
            · cases s1; rfl
            · cases s1
          · exact absurd rfl ‹¬ _›
        subst this
        exact absurd ⟨b2, d2, e2, s2⟩ (hn k)
    · rw [List.getElem?_set_ne q1] at e1 s1
      by_cases q2 : j = k
      · subst q2
        have : q = p := by
          rw [List.getElem?_set] at s2
          split at s2
          · split at s2
            · cases s2; rfl
            · cases s2
          · exact absurd rfl ‹¬ _›
        subst this
        exact absurd ⟨b, d1, e1, s1⟩ (hn i)
      · rw [List.getElem?_set_ne q2] at e2 s2
        exact h.sep i k q ⟨b, d1, e1, s1⟩ ⟨b2, d2, e2, s2⟩
  pins := fun i q => Free.pins f (h.pins i q)
theorem Ok.change {b : Bool} {p : Addr} {o : HO} {d0 : D} (h : Ok K C F env σ H) (e : env[j]? = some (.own b d0)) (s : σ[j]? = some (some (.ref p))) (r : RepO K F o d) : Ok K C F (env.set j (.own b d)) σ (upd H p o) := by
  obtain ⟨p', o', h1, h2, h3, h4, h5, h6⟩ := h.owns j b d0 e
  rw [s] at h1; cases h1
  have hj : j < env.length := by
    rcases Nat.lt_or_ge j env.length with z | z
    · exact z
    · rw [List.getElem?_eq_none (by simpa using z)] at e; cases e
  have ow : ∀ i q, Owns (env.set j (.own b d)) σ i q → Owns env σ i q := fun i q ⟨b1, d1, e1, s1⟩ => by
    by_cases z : j = i
    · subst z
      rw [List.getElem?_set_self hj] at e1; cases e1
      exact ⟨b, d0, e, s1⟩
    · rw [List.getElem?_set_ne z] at e1
      exact ⟨b1, d1, e1, s1⟩
  exact {
    len := by rw [List.length_set]; exact h.len
    sub := fun a u q => by rw [upd_ne (ne_of_none q h4)]; exact h.sub a u q
    keep := fun a u q n => by
      rw [upd_ne]
      · exact h.keep a u q n
      · rintro rfl
        cases b with
        | true => exact n (h6 rfl).2.1
        | false => rw [h5 rfl] at q; cases q
    all := fun a q => by
      by_cases z : a = p
      · subst z; rw [upd_same]; exact fun w => nomatch w
      · rw [upd_ne z]; exact h.all a q
    new := h.new
    bas := h.bas
    vals := fun i d' q => by
      by_cases z : j = i
      · subst z; rw [List.getElem?_set_self hj] at q; cases q
      · rw [List.getElem?_set_ne z] at q; exact h.vals i d' q
    owns := fun i b' d' q => by
      by_cases z : j = i
      · subst z
        rw [List.getElem?_set_self hj] at q; cases q
        exact ⟨p, o, s, upd_same, r, h4, h5, h6⟩
      · rw [List.getElem?_set_ne z] at q
        obtain ⟨p2, o2, g1, g2, g3⟩ := h.owns i b' d' q
        refine ⟨p2, o2, g1, ?_, g3⟩
        rw [upd_ne]
        · exact g2
        · rintro rfl
          exact z (h.sep j i _ ⟨b, d0, e, s⟩ ⟨b', d', q, g1⟩)
    sep := fun i k q h1 h2 => h.sep i k q (ow i q h1) (ow k q h2)
    pins := fun i q => by
      obtain ⟨d', e'⟩ := h.pins i q
      by_cases z : j = i
      · subst z
        rw [e] at e'; cases e'
        exact ⟨d, by rw [List.getElem?_set_self hj]⟩
      · exact ⟨d', by rw [List.getElem?_set_ne z]; exact e'⟩ }
@[simp] def freeze (env : List Slot) (i : Nat) : List Slot := match env[i]? with
  | some (.own false d) => env.set i (.val d)
  | _ => env
theorem Ok.freeze (h : Ok K C F env σ H) (i : Nat) : ∃ F', Ex F F' ∧ Ok K C F' (freeze env i) σ H := by
  unfold DL.freeze
  split
  · rename_i d e
    obtain ⟨p, o, h1, h2, h3, h4, h5, h6⟩ := h.owns i false d e
    have hj : i < env.length := by
      rcases Nat.lt_or_ge i env.length with z | z
      · exact z
      · rw [List.getElem?_eq_none (by simpa using z)] at e; cases e
    have ne : ∀ (k : Nat) (b : Bool) (d1 : D), (env.set i (.val d))[k]? = some (.own b d1) → i ≠ k ∧ env[k]? = some (.own b d1) := fun k b d1 q => by
      by_cases z : i = k
      · subst z; rw [List.getElem?_set_self hj] at q; cases q
      · rw [List.getElem?_set_ne z] at q; exact ⟨z, q⟩
    have ow : ∀ k q, Owns (env.set i (.val d)) σ k q → i ≠ k ∧ Owns env σ k q := fun k q ⟨b1, d1, e1, s1⟩ => ⟨(ne k b1 d1 e1).1, b1, d1, (ne k b1 d1 e1).2, s1⟩
    refine ⟨upd F p o, Ex.new h4, ?_⟩
    exact {
      len := by rw [List.length_set]; exact h.len
      sub := fun a u q => by
        by_cases z : a = p
        · subst z; rw [upd_same] at q; cases q; exact h2
        · rw [upd_ne z] at q; exact h.sub a u q
      keep := h.keep
      all := h.all
      new := fun a q z => by
        by_cases w : a = p
        · subst w; exact absurd (h5 rfl) q
        · rw [upd_ne w]; exact h.new a q z
      bas := fun a u q => by rw [upd_ne (ne_of_none (h.bas a u q) h4)]; exact h.bas a u q
      vals := fun k d' q => by
        by_cases z : i = k
        · subst z
          rw [List.getElem?_set_self hj] at q; cases q
          exact ⟨_, h1, (h3.mono (Ex.new h4)).rep upd_same⟩
        · rw [List.getElem?_set_ne z] at q
          obtain ⟨v, g1, g2⟩ := h.vals k d' q
          exact ⟨v, g1, g2.mono (Ex.new h4)⟩
      owns := fun k b d' q => by
        obtain ⟨z, q'⟩ := ne k b d' q
        obtain ⟨p2, o2, g1, g2, g3, g4, g5⟩ := h.owns k b d' q'
        refine ⟨p2, o2, g1, g2, g3.mono (Ex.new h4), ?_, g5⟩
        rw [upd_ne]
        · exact g4
        · rintro rfl
          exact z (h.sep i k _ ⟨false, d, e, h1⟩ ⟨b, d', q', g1⟩)
      sep := fun a k q g1 g2 => h.sep a k q (ow a q g1).2 (ow k q g2).2
      pins := fun k q => by
        obtain ⟨d', e'⟩ := h.pins k q
        refine ⟨d', ?_⟩
        rw [List.getElem?_set_ne]
        · exact e'
        · rintro rfl
          rw [e] at e'; cases e' }
  · exact ⟨F, Ex.refl F, h⟩
end

section
variable {X : Cx} {pos : Pos}
@[simp] def mSkip : DStm := fun P env => P.nx env
@[simp] def mSeq (a b : DStm) : DStm := fun P env => a { P with nx := b P } env
@[simp] def mNever : DStm := fun _ _ => False
@[simp] def mBreak : DStm := fun P env => P.bk env
@[simp] def mCont : DStm := fun P env => P.ct env
@[simp] def mDrop (a : DM) : DStm := fun P env => a env fun _ e => P.nx e
@[simp] def mIfS (t : DMB) (a b : DStm) : DStm := fun P env => t env fun x e => if x = true then a P e else b P e
@[simp] def mSet (j : Nat) (a : DM) : DStm := fun P env => a env fun x e => x.get e fun d => Free e j ∧ P.nx (e.set j (.val d))
@[simp] def mSetO (j : Nat) (a : DM) : DStm := fun P env => a env fun x e => match x with
  | .tm d => Free e j ∧ P.nx (e.set j (.own false d))
  | _ => False
@[simp] def mRet (a : DM) : DStm := fun P env => a env fun x e => match x with
  | .vl d => P.rt (.vl d) e
  | .tm d => P.rt (.tm d) e
  | .sl i => match e[i]? with
    | some (.val d) => P.rt (.vl d) e
    | some (.own false d) => P.rt (.tm d) e
    | _ => False
@[simp] def mRetN : DStm := fun P env => P.rt (.vl .non) env
@[simp] def mFrz (i : Nat) (a : DStm) : DStm := fun P env => a P (freeze env i)
theorem db_nil : DB X [] mSkip := ⟨_, pss_nil, fun C F env σ H D P I h k => k.nx F env σ H I h⟩
theorem db_cons {st : Stmt} {rest : List Stmt} {a b : DStm} (ha : DS X st a) (hb : DB X rest b) : DB X (st :: rest) (mSeq a b) := by
  obtain ⟨t, p, ea⟩ := ha
  obtain ⟨u, q, eb⟩ := hb
  refine ⟨_, pss_cons p q, ?_⟩
  intro C F env σ H D P I h k
  exact ea C F env σ H { D with nx := u D } { P with nx := b P } I h ⟨fun F env σ H I h => eb C F env σ H D P I h k, k.bk, k.ct, k.rt, k.r2⟩
theorem db_one {st : Stmt} {a : DStm} (ha : DS X st a) : DB X [st] a := by
  obtain ⟨t, p, ea⟩ := ha
  exact ⟨_, pss_one p, ea⟩
theorem ds_never {st : Stmt} : DS X st mNever := ⟨_, ps_never, fun _ _ _ _ _ _ _ _ h _ => h.elim⟩
theorem ds_pass : DS X (.Pass pos) mSkip := ⟨_, ps_pass, fun C F env σ H D P I h k => k.nx F env σ H I h⟩
theorem ds_break : DS X (.Break pos) mBreak := ⟨_, ps_break, fun C F env σ H D P I h k => k.bk F env σ H I h⟩
theorem ds_cont : DS X (.Continue pos) mCont := ⟨_, ps_continue, fun C F env σ H D P I h k => k.ct F env σ H I h⟩
theorem ds_frz (i : Nat) {st : Stmt} {a : DStm} (ha : DS X st a) : DS X st (mFrz i a) := by
  obtain ⟨t, p, ea⟩ := ha
  refine ⟨t, p, ?_⟩
  intro C F env σ H D P I h k
  obtain ⟨F', _, I'⟩ := I.freeze i
  exact ea C F' _ σ H D P I' h k
theorem ds_expr {e : Expr} {m : DM} (h : DE X e m) (hs : swapsWith e none pos.line X.env = pure false := by rfl) : DS X (.Expr e pos) (mDrop m) := by
  obtain ⟨t, p, ev⟩ := h
  refine ⟨_, ps_expr p hs, ?_⟩
  intro C F env σ H D P I h k
  exact ev C F env σ H _ _ I h fun l e1 F1 v H1 h1 A1 r1 => k.nx F1 e1 σ H1 A1.ok h1
theorem ds_if {c : Expr} {a b : List Stmt} {t : DMB} {m1 m2 : DStm} (hc : DT X c t) (ha : DB X a m1) (hb : DB X b m2) : DS X (.If c a b pos) (mIfS t m1 m2) := by
  obtain ⟨tc, pc, ec⟩ := hc
  obtain ⟨ta, pa, ea⟩ := ha
  obtain ⟨tb, pb, eb⟩ := hb
  refine ⟨_, ps_if pc pa pb, ?_⟩
  intro C F env σ H D P I h k
  refine ec C F env σ H _ _ I h ?_
  intro x e1 F1 H1 h1 A1
  cases x with
  | true =>
    have h1' : m1 P e1 := by simpa using h1
    show (if true = true then ta D σ H1 else tb D σ H1)
    rw [if_pos rfl]
    exact ea C F1 e1 σ H1 D P A1.ok h1' k
  | false =>
    have h1' : m2 P e1 := by simpa using h1
    show (if false = true then ta D σ H1 else tb D σ H1)
    rw [if_neg Bool.false_ne_true]
    exact eb C F1 e1 σ H1 D P A1.ok h1' k
theorem evs_set {K : PySem.W.Frag} {j : Nat} {m : DM} {t : TE} (ev : EvD K m t) : EvS K (mSet j m) (tAsg t (gName j)) := by
  intro C F env σ H D P I h k
  refine ev C F env σ H _ _ I h ?_
  intro l e1 F1 v H1 h1 A1 r1
  obtain ⟨F2, d, h2, A2, ex, rp⟩ := A1.keepIt r1 h1
  exact k.nx F2 _ _ H1 (A2.ok.setVal h2.1 rp) h2.2
theorem evs_setO {K : PySem.W.Frag} {j : Nat} {m : DM} {t : TE} (ev : EvD K m t) : EvS K (mSetO j m) (tAsg t (gName j)) := by
  intro C F env σ H D P I h k
  refine ev C F env σ H _ _ I h ?_
  intro l e1 F1 v H1 h1 A1 r1
  cases l with
  | tm d =>
    obtain ⟨p, o, rfl, g1, g2, g3, g4, g5, g6⟩ := r1
    exact k.nx F1 _ _ H1 (A1.ok.setOwn h1.1 g1 g2 g3 g4 g5) h1.2
  | _ => exact h1.elim
theorem ds_set {j : Nat} {x : Str} {e : Expr} {m : DM} {pos' : Pos} (hN : X.N.Nodup) (hi : X.N[j]? = some x) (hx : Loc X.env.scope x) (h : DE X e m) (hs : swapsWith e (some (.Name x pos')) pos.line X.env = pure false := by rfl) (hf : X.fn x = true ∨ X.env.scope.names.lookup x = some .local := by first | exact .inl rfl | exact .inr rfl | assumption) :
    DS X (.Assign [.Name x pos'] e pos) (mSet j m) := by
  obtain ⟨t, p, ev⟩ := h
  exact ⟨_, ps_set hN hi hx p hs hf, evs_set ev⟩
theorem ds_setO {j : Nat} {x : Str} {e : Expr} {m : DM} {pos' : Pos} (hN : X.N.Nodup) (hi : X.N[j]? = some x) (hx : Loc X.env.scope x) (h : DE X e m) (hs : swapsWith e (some (.Name x pos')) pos.line X.env = pure false := by rfl) (hf : X.fn x = true ∨ X.env.scope.names.lookup x = some .local := by first | exact .inl rfl | exact .inr rfl | assumption) :
    DS X (.Assign [.Name x pos'] e pos) (mSetO j m) := by
  obtain ⟨t, p, ev⟩ := h
  exact ⟨_, ps_set hN hi hx p hs hf, evs_setO ev⟩
theorem ds_ret {e : Expr} {m : DM} (h : DE X e m) : DS X (.Return (some e) pos) (mRet m) := by
  obtain ⟨t, p, ev⟩ := h
  refine ⟨_, ps_ret p, ?_⟩
  intro C F env σ H D P I h k
  refine ev C F env σ H _ _ I h ?_
  intro l e1 F1 v H1 h1 A1 r1
  cases l with
  | vl d => exact k.rt F1 e1 σ H1 v (.vl d) A1.ok r1 h1
  | tm d =>
    obtain ⟨p, o, g0, g1, g2, g3, g4, g5, g6⟩ := r1
    exact k.rt F1 e1 σ H1 v (.tm d) A1.ok ⟨p, o, g0, g1, g2, g3, g4⟩ h1
  | sl i =>
    have h1' : (match e1[i]? with | some (.val d) => P.rt (.vl d) e1 | some (.own false d) => P.rt (.tm d) e1 | _ => False) := h1
    have r1' : σ[i]? = some (some v) := r1
    split at h1'
    · rename_i d e
      obtain ⟨w, q1, q2⟩ := A1.ok.vals i d e
      rw [r1'] at q1; cases q1
      exact k.rt F1 e1 σ H1 v (.vl d) A1.ok q2 h1'
    · rename_i d e
      obtain ⟨q, o, q1, q2, q3, q4, q5, _⟩ := A1.ok.owns i false d e
      rw [r1'] at q1; cases q1
      exact k.rt F1 e1 σ H1 _ (.tm d) A1.ok ⟨q, o, rfl, q2, q3, q4, q5 rfl⟩ h1'
    · exact h1'.elim
theorem ds_retN : DS X (.Return none pos) mRetN := ⟨_, ps_retN, fun C F env σ H D P I h k => k.rt F env σ H .non (.vl .non) I Rep.non h⟩
end
end DL

set_option Elab.async false
set_option linter.all false
set_option maxRecDepth 100000
set_option maxHeartbeats 4000000
set_option autoImplicit false
/-! DL4: what a def promises over data; its calls; the law's own call. Where no guard of repr runs is carried along. -/
namespace DL
open PySem PySem.Spec L2 Evl PyProof.Rows

structure FnG (P : Program) (w : World) (K : PySem.W.Frag) (mg : Str → Option Value) (base : Heap) (CX : CXT) (k : Nat) (f : Addr) (fd : FuncData) (ps : List Str) (sp : Sp) : Prop where
  len : ∀ vs H Q E, sp vs H Q E → vs.length = ps.length
  run : ∀ (A : Around) (outer : List PySem.Env) (s : Shared) (H : Hp) (args : Args) (us : List Value) (vs : List V) (Q : VK) (E : XK), A.guards = some [] → Room k A → Env0 P w K mg base A outer s H →
    BindsTo s fd args (ps.zip us) → Vals vs us → sp vs H Q E → codeAny (model P w) A (.call (.ref f) args) (CR CX outer P w H s Q E) s
theorem FnG.imp {P : Program} {w : World} {K : PySem.W.Frag} {mg : Str → Option Value} {base : Heap} {CX : CXT} {k : Nat} {f : Addr} {fd : FuncData} {ps : List Str} {sp sp' : Sp} (F : FnG P w K mg base CX k f fd ps sp)
    (h : ∀ vs H Q E, sp' vs H Q E → sp vs H Q E) : FnG P w K mg base CX k f fd ps sp' :=
  ⟨fun vs H Q E q => F.len vs H Q E (h _ _ _ _ q), fun A outer s H args us vs Q E hg hr he hb hv hs => F.run A outer s H args us vs Q E hg hr he hb hv (h _ _ _ _ hs)⟩

theorem fnG_of {CX : CXT} {P : Program} {w : World} {K : PySem.W.Frag} {mg : Str → Option Value} {base : Heap} {k : Nat} {f : Addr} {name qual : Str} {params : Arguments} {body : List Stmt} {scope : Scope} {dV kV doc pm cdv ct oc : Value} {an od : Option Addr}
    {osl : Array (Option Value)} {N ps : List Str} {sp : Sp} (lk : K.lookup f = some ⟨oc, od, .func (PySem.W.fnOf name qual params body scope dV kV doc pm an cdv ct), osl⟩) (hcd : PySem.W.codeIn K cdv qual = true) (S : FnScope N ps scope)
    (len : ∀ vs H Q E, sp vs H Q E → vs.length = ps.length)
    (hbody : ∀ (A : Around) (outer : List PySem.Env) (s : Shared) (H : Hp) (vs : List V) (Q : VK) (E : XK), A.guards = some [] → Room k (A.deeper (envOfC qual scope s.heap.objs.size f cdv)) → sp vs H Q E →
      ∃ t, PSs (cxOf CX P w K mg base N qual scope f cdv A outer s H E) body t ∧ t { nx := fun _ H' => Q .non H', rt := Q } (L2.start N vs) H) :
    FnG P w K mg base CX (k + 1) f (PySem.W.fnOf name qual params body scope dV kV doc pm an cdv ct) ps sp := by
  constructor
  · exact len
  intro A outer s H args us vs Q E hg hr e0 hb r hsp
  have nvs := len _ _ _ _ hsp
  have old : ∀ b o, base.get? b = some o → s.heap.get? b = some o := fun b o e => (e0.bs b o e).1
  have inK : K.In s.heap := e0.mod.kin.keeps old
  have noLim : s.heap.NoLimit := e0.mod.nolimit.keeps old
  have kinds : ∀ y ∈ ps.zip us, scope.names.lookup y.1 = some .local ∨ (scope.names.lookup y.1 = some .cell ∧ ((cellsFrom (s.heap.objs.size + 1) scope.names []).lookup y.1).isSome = true) := by
    rintro ⟨n, v⟩ hy
    cases S.par n (List.of_mem_zip hy).1 with
    | inl q => exact Or.inl q
    | inr q => exact Or.inr ⟨q, PySem.W.cellsFrom_some _ _ _ (Or.inl q)⟩
  apply codeAny_call_function hr.depth (inK _ _ lk) rfl S.co S.gen rfl (PySem.W.codeRec_of inK hcd)
  apply hb
  apply wpAny_newFunctionEnv_cells S.kind kinds
  rintro env rfl s1 x
  refine ⟨noLim.keeps x.toInCall.keep, codeAny_func ?_⟩
  obtain ⟨t, ht, hq⟩ := hbody A outer s H vs Q E hg (hr.deeper _) hsp
  have I0 : Inv (cxOf CX P w K mg base N qual scope f cdv A outer s H E) [] (L2.start N vs) H s1 := inv_start S hr.hd e0 nvs r x
  apply wpAny_mono (ht.run [] s1 (L2.start N vs) H _ I0 hq)
  · rintro fl s' hs
    cases fl with
    | ret u =>
      obtain ⟨v, σ', H', J, rv, q⟩ := hs
      exact ⟨v, H', J.os, J.bare, J.base, J.hok, rv, q⟩
    | next =>
      obtain ⟨σ', H', J, q⟩ := hs
      exact ⟨V.non, H', J.os, J.bare, J.base, J.hok, rfl, q⟩
    | brk => exact (hs.elim fun _ z => z.elim fun _ z => z.2).elim
    | cont => exact (hs.elim fun _ z => z.elim fun _ z => z.2).elim
  · exact fun e s' hs => hs

section
variable {X : Cx} {CX : CXT} {k : Nat} {f : Addr} {fd : FuncData} {ps ks : List Str} {sp : Sp} {dvs : List V} {ds : List Value} {E : XK} {x : Str} {p pos : Pos} {e : Expr} {es : List Expr} {t tk : TA} {kws : List Keyword}
theorem run_g {pins : List (Addr × Obj)} {σ : L2.St} {H : Hp} {s : Shared} {Q : VK} {us : List Value} {vs : List V} {binds : List Value} {args : Args} (F : FnG X.prog X.w X.K X.mg X.base CX k f fd ps sp) (hgd : X.A.guards = some []) (hr : Room k X.A)
    (hb : BindsTo s fd args (ps.zip us)) (hx : Passes CX X E) (I : Inv X pins σ H s) (r : Vals vs us) (h : sp vs H Q E) : wpAny (model X.prog X.w) X.A (call (.ref f) args.pos args.kw) (EP X pins σ Q) X.xe s := by
  apply wpAny_call
  apply codeAny_mono (F.run X.A X.stack s H args us vs Q E hgd hr I.env0 hb r h)
  intro r s' hq
  match r, hq with
  | .error e, hq => exact hx pins σ H s e s' I hq
  | .ok (.ret u), hq => exact I.after hq
  | .ok .next, hq => exact False.elim hq
  | .ok .brk, hq => exact False.elim hq
  | .ok .cont, hq => exact False.elim hq
theorem pe_callG (F : FnG X.prog X.w X.K X.mg X.base CX k f fd ps sp) (hgd : X.A.guards = some []) (hr : Room k X.A) (hg : Gl X x) (hm : X.mg x = some (.ref f)) (hk : PySem.W.keepIn X.K (.ref f) = true) (hb : Binds X.K fd ps ds) (hd : Vals dvs ds) (hx : Passes CX X E)
    (ha : PA X (e :: es) t) (hdb : (x == ("__debug__" : Str)) = false := by decide) (he : starEach (e :: es) X.env = (false, eval e X.env) :: starEach es X.env := by rfl) (hpl : (backTo pos (starEach es X.env)).any (·.1) = false := by rfl) :
    PE X (.Call (.Name x p) (e :: es) [] pos) (tCall sp dvs E t) := by
  constructor
  intro pins s σ H Q I h
  apply wpAny_Call_Name_kw
  apply ld_glob I hg hm _ hdb
  apply PySem.W.callWith_K (h₀ := X.base) I.ok.mod.kin hk _ he hpl
  apply thn (ha.run pos pins s σ H _ I h)
  rintro us s1 ⟨vs, H1, I1, r, q⟩
  refine ⟨I1.kIn, ?_⟩
  have r2 : Vals (vs ++ dvs) (us ++ ds) := r.append hd
  have hl : (us ++ ds).length = ps.length := r2.length.symm.trans (F.len _ _ _ _ q)
  exact run_g (args := ⟨us, []⟩) (binds := []) F hgd hr (hb s1 us I1.kIn hl) hx I1 r2 q
theorem pe_callGK {g : List Value → List Value → List Value} {gV : List V → List V → List V} (F : FnG X.prog X.w X.K X.mg X.base CX k f fd ps sp) (hgd : X.A.guards = some []) (hr : Room k X.A) (hg : Gl X x) (hm : X.mg x = some (.ref f)) (hk : PySem.W.keepIn X.K (.ref f) = true) (hb : KBinds X.K fd ps ks g gV) (hx : Passes CX X E)
    (ha : PA X (e :: es) t) (hkw : PK X kws tk) (hall : (backToKw pos (keywordEach kws X.env)).all (·.1.isSome) = true := by rfl) (hks : (backToKw pos (keywordEach kws X.env)).filterMap (·.1) = ks := by rfl)
    (hdb : (x == ("__debug__" : Str)) = false := by decide) (he : starEach (e :: es) X.env = (false, eval e X.env) :: starEach es X.env := by rfl)
    (hpl : ((backTo pos (starEach (e :: es) X.env)).any (·.1) || (backToKw pos (keywordEach kws X.env)).any (·.1.isNone)) = false := by rfl) : PE X (.Call (.Name x p) (e :: es) kws pos) (tCallK sp gV E t tk) := by
  constructor
  intro pins s σ H Q I h
  apply wpAny_Call_Name_kw
  apply ld_glob I hg hm _ hdb
  apply PySem.W.callWith_KW (h₀ := X.base) I.ok.mod.kin hk hall _ hpl he
  apply thn (ha.run pos pins s σ H _ I h)
  rintro us s1 ⟨vs, H1, I1, r, q⟩
  apply thn (hkw.run pos pins s1 σ H1 _ I1 q)
  rintro ws s2 ⟨zs, H2, I2, rz, q2⟩
  refine ⟨I2.kIn, ?_⟩
  rw [hks]
  have r2 := hb.rel r rz
  have hl : (g us ws).length = ps.length := r2.length.symm.trans (F.len _ _ _ _ q2)
  exact run_g (args := ⟨us, ks.zip ws⟩) (binds := []) F hgd hr (hb.to s2 us ws I2.kIn hl) hx I2 r2 q2
end

/-! ### a promise over data -/
abbrev DSpec := List Slot → (RV → List Slot → Prop) → Prop
def OwnW (args : List Slot) (vs : List V) (p : Addr) : Prop := ∃ i, Owns args (vs.map some) i p
def ctOf (args : List Slot) (vs : List V) (F H : Hp) : Ct := ⟨H, F, OwnW args vs, vs, fun i => ∃ b d, args[i]? = some (.own b d)⟩
def ArgsOk (K : PySem.W.Frag) (F : Hp) (args : List Slot) (vs : List V) (H : Hp) : Prop := Ok K (ctOf args vs F H) F args (vs.map some) H
def outS : Slot → Slot
  | .own b d => .own b d
  | _ => .no
@[simp] def outs (n : Nat) (env : List Slot) : List Slot := (env.take n).map outS
@[simp] theorem outS_own (b : Bool) (d : D) : outS (.own b d) = .own b d := rfl
@[simp] theorem outS_val (d : D) : outS (.val d) = .no := rfl
@[simp] theorem outS_no : outS .no = .no := rfl
structure Done (K : PySem.W.Frag) (F : Hp) (args : List Slot) (vs : List V) (H : Hp) (r : RV) (args' : List Slot) (F' : Hp) (v : V) (H' : Hp) : Prop where
  ex : Ex F F'
  sub : Ex F' H'
  keep : ∀ a o, H a = some o → ¬ OwnW args vs a → H' a = some o
  all : ∀ a, H a ≠ none → H' a ≠ none
  new : ∀ a, H a ≠ none → F a = none → F' a = none
  own : ∀ (i : Nat) (b : Bool) (d : D), args[i]? = some (.own b d) → ∃ p o d', vs[i]? = some (.ref p) ∧ args'[i]? = some (.own b d') ∧ H' p = some o ∧ RepO K F' o d'
  res : match r with
    | .vl d => Rep K F' v d
    | .tm d => ∃ p o, v = .ref p ∧ H' p = some o ∧ RepO K F' o d ∧ F' p = none ∧ H p = none
    | .sl _ => False
def spD (K : PySem.W.Frag) (sd : DSpec) : Sp := fun vs H Q _ => ∃ F args R, ArgsOk K F args vs H ∧ (∀ (i : Nat) (d : D), args[i]? ≠ some (.own false d)) ∧ sd args R ∧
  ∀ r args' F' v H', R r args' → Done K F args vs H r args' F' v H' → Q v H'

def startE (n : Nat) (args : List Slot) : List Slot := args ++ List.replicate (n - args.length) .no

theorem ok_start {K : PySem.W.Frag} {F H : Hp} {args : List Slot} {vs : List V} (N : List Str) (h : ArgsOk K F args vs H) (np : ∀ (i : Nat) (d : D), args[i]? ≠ some (.own false d)) :
    Ok K (ctOf args vs F H) F (startE N.length args) (L2.start N vs) H := by
  have hl : vs.length = args.length := by have := h.len; simpa using this
  have ge : ∀ (i : Nat) (s : Slot), s ≠ .no → (startE N.length args)[i]? = some s → args[i]? = some s ∧ i < args.length := fun i s ns e => by
    unfold startE at e
    by_cases q : i < args.length
    · rw [List.getElem?_append_left q] at e; exact ⟨e, q⟩
    · rw [List.getElem?_append_right (by omega), List.getElem?_replicate] at e
      split at e
      · cases e; exact absurd rfl ns
      · cases e
  have gs : ∀ (i : Nat), i < args.length → (L2.start N vs)[i]? = (vs.map some)[i]? := fun i q => by
    unfold L2.start
    rw [List.getElem?_append_left (by rw [List.length_map, hl]; exact q)]
  have ow : ∀ i p, Owns (startE N.length args) (L2.start N vs) i p → Owns args (vs.map some) i p := fun i p ⟨b, d, e, s⟩ => by
    obtain ⟨e1, q⟩ := ge i _ (fun z => by cases z) e
    exact ⟨b, d, e1, by rw [← gs i q]; exact s⟩
  exact {
    len := by unfold startE L2.start; simp [hl]
    sub := h.sub, keep := fun a o e _ => e, all := fun a e => e, new := h.new, bas := Ex.refl F
    vals := fun i d e => by
      obtain ⟨e1, q⟩ := ge i _ (fun z => by cases z) e
      obtain ⟨v, h1, h2⟩ := h.vals i d e1
      exact ⟨v, by rw [gs i q]; exact h1, h2⟩
    owns := fun i b d e => by
      obtain ⟨e1, q⟩ := ge i _ (fun z => by cases z) e
      obtain ⟨p, o, h1, h2, h3, h4, h5, h6⟩ := h.owns i b d e1
      exact ⟨p, o, by rw [gs i q]; exact h1, h2, h3, h4, h5, h6⟩
    sep := fun i j p a b => h.sep i j p (ow i p a) (ow j p b)
    pins := fun i ⟨b, d, e⟩ => by
      cases b with
      | false => exact absurd e (np i d)
      | true =>
        refine ⟨d, ?_⟩
        unfold startE
        rw [List.getElem?_append_left]
        · exact e
        · rcases Nat.lt_or_ge i args.length with z | z
          · exact z
          · rw [List.getElem?_eq_none (by simpa using z)] at e; cases e }

structure FunG (K : PySem.W.Frag) (qual : Str) (body : List Stmt) (scope : Scope) (f : Addr) (fd : FuncData) : Prop where
  ex : ∃ (oc : Value) (od : Option Addr) (name : Str) (params : Arguments) (dV kV doc pm : Value) (an : Option Addr) (cdv ct : Value) (osl : Array (Option Value)),
    fd = PySem.W.fnOf name qual params body scope dV kV doc pm an cdv ct ∧ K.lookup f = some ⟨oc, od, .func fd, osl⟩ ∧ PySem.W.codeIn K cdv qual = true
theorem FunG.of {K : PySem.W.Frag} {x qual : Str} {st : Stmt} {f : Addr} {fd : FuncData} (F : Fun K x qual st f fd) : FunG K qual (defBody st) (defScope st) f fd := by
  obtain ⟨⟨oc, od, kV, doc, pm, an, cdv, ct, osl, h1, h2, h3⟩, _⟩ := F
  exact ⟨oc, od, _, _, _, kV, doc, pm, an, cdv, ct, osl, h1, h2, h3⟩

theorem FunG.ok {P : Program} {w : World} {K : PySem.W.Frag} {mg : Str → Option Value} {base : Heap} {qual : Str} {body : List Stmt} {scope : Scope} {f : Addr} {fd : FuncData} {N ps : List Str} {k : Nat} {sd : DSpec} {m : DStm}
    (F : FunG K qual body scope f fd) (S : FnScope N ps scope) (len : ∀ args R, sd args R → args.length = ps.length)
    (hbody : ∀ (cdv : Value) (A : Around) (outer : List PySem.Env) (s : Shared) (H : Hp) (E : XK), A.guards = some [] → Room k (A.deeper (envOfC qual scope s.heap.objs.size f cdv)) →
      DB (cxOf CX0 P w K mg base N qual scope f cdv A outer s H E).nox body m)
    (hm : ∀ args R, sd args R → m { nx := fun e => R (.vl .non) (outs ps.length e), rt := fun r e => R r (outs ps.length e) } (startE N.length args)) :
    FnG P w K mg base CX0 (k + 1) f fd ps (spD K sd) := by
  obtain ⟨oc, od, name, params, dV, kV, doc, pm, an, cdv, ct, osl, rfl, lk, hcd⟩ := F.ex
  refine fnG_of lk hcd S ?_ ?_
  · rintro vs H Q E ⟨F, args, R, h1, _, h2, _⟩
    have := h1.len
    rw [List.length_map] at this
    rw [this, len args R h2]
  rintro A outer s H vs Q E hg hr ⟨F0, args, R, h1, np, h2, h3⟩
  obtain ⟨t, ht, ev⟩ := hbody cdv A outer s H E hg hr
  refine ⟨t, ht.nox, ?_⟩
  have hl : args.length = ps.length := len args R h2
  have hv : vs.length = args.length := by have := h1.len; rwa [List.length_map] at this
  -- what is told behind
  have fin : ∀ F' env σ H' v r, Ok K (ctOf args vs F0 H) F' env σ H' → RetOk K (ctOf args vs F0 H) F' H' v r → R r (outs ps.length env) → Q v H' := by
    intro F' env σ H' v r I' ro hR
    refine h3 r _ F' v H' hR ⟨I'.bas, I'.sub, I'.keep, I'.all, I'.new, fun i b d e => ?_, ?_⟩
    · cases b with
      | false => exact absurd e (np i d)
      | true =>
      obtain ⟨d', e'⟩ := I'.pins i ⟨true, d, e⟩
      have hi : i < ps.length := by
        rw [← hl]
        rcases Nat.lt_or_ge i args.length with z | z
        · exact z
        · rw [List.getElem?_eq_none (by simpa using z)] at e; cases e
      obtain ⟨p, o, g1, g2, g3, g4, g5, g6⟩ := I'.owns i true d' e'
      obtain ⟨q1, q2, q3⟩ := g6 rfl
      refine ⟨p, o, d', q1, ?_, g2, g3⟩
      unfold outs
      rw [List.getElem?_map, List.getElem?_take_of_lt hi, e']
      rfl
    · cases r with
      | vl d => exact ro
      | tm d => exact ro
      | sl i => exact ro.elim
  exact ev (ctOf args vs F0 H) F0 _ _ H _ _ (ok_start N h1 np) (hm args R h2) ⟨fun F env σ H' I' q => fin F env σ H' .non (.vl .non) I' Rep.non q, fun _ _ _ _ _ z => z.elim, fun _ _ _ _ _ z => z.elim, fun F env σ H' v r I' ro q => fin F env σ H' v r I' ro q, fun _ _ _ _ _ _ _ _ _ z => z.elim⟩
end DL

set_option Elab.async false
set_option linter.all false
set_option maxRecDepth 100000
set_option maxHeartbeats 4000000
set_option autoImplicit false
/-! DL5: calls over data. -/
namespace DL
open PySem PySem.Spec L2 Evl PyProof.Rows

inductive CA where
  | vl (d : D) | sl (i : Nat)
abbrev DMC := List Slot → (List CA → List Slot → Prop) → Prop
def CAOk (K : PySem.W.Frag) (F : Hp) (σ : L2.St) (v : V) : CA → Prop
  | .vl d => Rep K F v d
  | .sl i => σ[i]? = some (some v)
inductive CAs (K : PySem.W.Frag) (F : Hp) (σ : L2.St) : List V → List CA → Prop
  | nil : CAs K F σ [] []
  | cons {v : V} {vs : List V} {a : CA} {as : List CA} : CAOk K F σ v a → CAs K F σ vs as → CAs K F σ (v :: vs) (a :: as)
section
variable {K : PySem.W.Frag} {F F' : Hp} {σ : L2.St}
theorem CAOk.mono (e : Ex F F') {v : V} {a : CA} (h : CAOk K F σ v a) : CAOk K F' σ v a := by
  cases a with
  | vl d => exact Rep.mono e h
  | sl i => exact h
theorem CAs.mono (e : Ex F F') : ∀ {vs : List V} {as : List CA}, CAs K F σ vs as → CAs K F' σ vs as
  | _, _, .nil => .nil
  | _, _, .cons a r => .cons (a.mono e) (CAs.mono e r)
theorem CAs.length : ∀ {vs : List V} {as : List CA}, CAs K F σ vs as → vs.length = as.length
  | _, _, .nil => rfl
  | _, _, .cons _ r => congrArg (· + 1) (CAs.length r)
theorem CAs.get : ∀ {vs : List V} {as : List CA} {i : Nat} {a : CA}, CAs K F σ vs as → as[i]? = some a → ∃ v, vs[i]? = some v ∧ CAOk K F σ v a
  | _, _, _, _, .nil, e => by simp at e
  | _, _, 0, _, .cons a _, e => by simp at e; subst e; exact ⟨_, rfl, a⟩
  | _, _, i + 1, _, .cons _ r, e => by
    obtain ⟨v, h1, h2⟩ := CAs.get (i := i) r (by simpa using e)
    exact ⟨v, by simpa using h1, h2⟩
theorem CAs.append : ∀ {vs ws : List V} {as bs : List CA}, CAs K F σ vs as → CAs K F σ ws bs → CAs K F σ (vs ++ ws) (as ++ bs)
  | _, _, _, _, .nil, s => s
  | _, _, _, _, .cons a r, s => .cons a (CAs.append r s)
theorem CAs.ofRep : ∀ {vs : List V} {ds : List D}, RepL K F vs ds → CAs K F σ vs (ds.map .vl)
  | _, _, .nil => .nil
  | _, _, .cons a r => .cons a (CAs.ofRep r)
end
def EvC (K : PySem.W.Frag) (m : DMC) (t : TA) : Prop := ∀ C F env σ H R (Q : List V → Hp → Prop), Ok K C F env σ H → m env R →
  (∀ as env' F' vs H', R as env' → Aft K C F env σ H F' env' H' → CAs K F' σ vs as → Q vs H') → t σ H Q
def DC (X : Cx) (es : List Expr) (m : DMC) : Prop := ∃ t, PA X es t ∧ EvC X.K m t
def DK (X : Cx) (kws : List Keyword) (m : DMC) : Prop := ∃ t, PK X kws t ∧ EvC X.K m t
@[simp] def mcNil : DMC := fun env R => R [] env
@[simp] def mcCons (a : DM) (r : DMC) : DMC := fun env R => a env fun x e1 => match x with
  | .vl d => r e1 fun as e2 => R (.vl d :: as) e2
  | .tm d => r e1 fun as e2 => R (.vl d :: as) e2
  | .sl i => r e1 fun as e2 => R (.sl i :: as) e2
theorem evc_nil {K : PySem.W.Frag} : EvC K mcNil tNil := fun C F env σ H R Q I h k => k [] env F [] H h I.aft .nil
theorem evc_cons {K : PySem.W.Frag} {m : DM} {r : DMC} {t : TE} {u : TA} (ev : EvD K m t) (er : EvC K r u) : EvC K (mcCons m r) (tCons t u) := by
  intro C F env σ H R Q I h k
  refine ev C F env σ H _ _ I h ?_
  intro x e1 F1 v H1 h1 A1 r1
  have kept : ∀ d : D, x.get e1 (fun d' => d' = d) → r e1 (fun as e2 => R (.vl d :: as) e2) → u σ H1 fun xs H2 => Q (v :: xs) H2 := fun d hd h2 => by
    obtain ⟨F2, d', rfl, A2, ex, rp⟩ := A1.keepIt r1 hd
    refine er C F2 e1 σ H1 _ _ A2.ok h2 ?_
    intro as e3 F3 vs H3 h3 A3 r3
    exact k (.vl d' :: as) e3 F3 (v :: vs) H3 h3 (A2.trans A3) (.cons (rp.mono A3.ex) r3)
  cases x with
  | vl d => exact kept d rfl h1
  | tm d => exact kept d rfl h1
  | sl i =>
    refine er C F1 e1 σ H1 _ _ A1.ok h1 ?_
    intro as e3 F3 vs H3 h3 A3 r3
    exact k (.sl i :: as) e3 F3 (v :: vs) H3 h3 (A1.trans A3) (.cons r1 r3)
theorem dc_nil {X : Cx} : DC X [] mcNil := ⟨_, pa_nil, evc_nil⟩
theorem dc_cons {X : Cx} {e : Expr} {es : List Expr} {m : DM} {mc : DMC} (h : DE X e m) (hr : DC X es mc) (hs : starEach (e :: es) X.env = (false, eval e X.env) :: starEach es X.env := by rfl) : DC X (e :: es) (mcCons m mc) := by
  obtain ⟨t, p, ev⟩ := h
  obtain ⟨u, q, er⟩ := hr
  exact ⟨_, pa_cons p q hs, evc_cons ev er⟩
theorem dk_nil {X : Cx} : DK X [] mcNil := ⟨_, pk_nil, evc_nil⟩
theorem dk_cons {X : Cx} {nm : _} {kpos : _} {e : Expr} {kws : List Keyword} {m : DM} {mc : DMC} (h : DE X e m) (hr : DK X kws mc) : DK X (⟨nm, e, kpos⟩ :: kws) (mcCons m mc) := by
  obtain ⟨t, p, ev⟩ := h
  obtain ⟨u, q, er⟩ := hr
  exact ⟨_, pk_cons p q, evc_cons ev er⟩

/-! ### how the callee sees the caller's slots, and what the caller has behind -/
@[simp] def passS : Slot → Slot
  | .own _ d => .own true d
  | .val d => .val d
  | .no => .no
@[simp] def resolve (env : List Slot) : CA → Slot
  | .vl d => .val d
  | .sl i => match env[i]? with
    | some s => passS s
    | none => .no
@[simp] def isOwn (env : List Slot) (i : Nat) : Bool := match env[i]? with
  | some (.own _ _) => true
  | _ => false
@[simp] def isSl (i : Nat) : CA → Bool
  | .sl j => i == j
  | .vl _ => false
@[simp] def apart (env : List Slot) : List CA → Bool
  | [] => true
  | .sl i :: r => (!isOwn env i || !r.any (isSl i)) && apart env r
  | .vl _ :: r => apart env r
@[simp] def look : List CA → List Slot → Nat → D → D
  | .sl j :: as, .own _ d' :: ss, i, d => if j = i then d' else look as ss i d
  | _ :: as, _ :: ss, i, d => look as ss i d
  | _, _, _, d => d
@[simp] def putBack (as : List CA) (ss : List Slot) : Nat → List Slot → List Slot
  | _, [] => []
  | k, .own b d :: r => .own b (look as ss k d) :: putBack as ss (k + 1) r
  | k, .val d :: r => .val d :: putBack as ss (k + 1) r
  | k, .no :: r => .no :: putBack as ss (k + 1) r
def pbS (as : List CA) (ss : List Slot) (k : Nat) : Slot → Slot
  | .own b d => .own b (look as ss k d)
  | s => s
theorem putBack_get (as : List CA) (ss : List Slot) : ∀ (env : List Slot) (k i : Nat), (putBack as ss k env)[i]? = (env[i]?).map (pbS as ss (k + i))
  | [], k, i => by simp
  | s :: r, k, 0 => by cases s <;> simp [pbS]
  | s :: r, k, i + 1 => by
    have h := putBack_get as ss r (k + 1) i
    have e : k + 1 + i = k + (i + 1) := by omega
    rw [e] at h
    cases s <;> simpa using h
theorem putBack_length (as : List CA) (ss : List Slot) : ∀ (env : List Slot) (k : Nat), (putBack as ss k env).length = env.length
  | [], k => rfl
  | s :: r, k => by cases s <;> simp [putBack_length as ss r (k + 1)]
theorem apart_ix {env : List Slot} : ∀ {as : List CA} {i j a : Nat}, apart env as = true → isOwn env a = true → as[i]? = some (.sl a) → as[j]? = some (.sl a) → i = j
  | [], i, j, a, _, _, e, _ => by simp at e
  | c :: r, 0, 0, a, _, _, _, _ => rfl
  | c :: r, 0, j + 1, a, h, o, e1, e2 => by
    simp at e1; subst e1
    simp only [apart, Bool.and_eq_true, o, Bool.not_true, Bool.false_or, Bool.not_eq_true', List.any_eq_false] at h
    have := h.1 (.sl a) (List.mem_of_getElem? (by simpa using e2))
    simp at this
  | c :: r, i + 1, 0, a, h, o, e1, e2 => by
    simp at e2; subst e2
    simp only [apart, Bool.and_eq_true, o, Bool.not_true, Bool.false_or, Bool.not_eq_true', List.any_eq_false] at h
    have := h.1 (.sl a) (List.mem_of_getElem? (by simpa using e1))
    simp at this
  | c :: r, i + 1, j + 1, a, h, o, e1, e2 => by
    have h' : apart env r = true := by
      cases c with
      | sl q => simp only [apart, Bool.and_eq_true] at h; exact h.2
      | vl d => simpa using h
    exact congrArg (· + 1) (apart_ix h' o (by simpa using e1) (by simpa using e2))
theorem look_at : ∀ {as : List CA} {ss : List Slot} {k i : Nat} {b : Bool} {d d' : D}, as[k]? = some (.sl i) → ss[k]? = some (.own b d') → (∀ j : Nat, as[j]? = some (CA.sl i) → j = k) → look as ss i d = d'
  | [], _, _, _, _, _, _, e, _, _ => by simp at e
  | _ :: _, [], _, _, _, _, _, _, e, _ => by simp at e
  | c :: as, s :: ss, 0, i, b, d, d', e1, e2, _ => by
    simp at e1 e2; subst e1; subst e2; simp
  | c :: as, s :: ss, k + 1, i, b, d, d', e1, e2, u => by
    have r : look as ss i d = d' := look_at (k := k) (by simpa using e1) (by simpa using e2) fun j q => by
      have := u (j + 1) (by simpa using q)
      omega
    have nc : c ≠ .sl i := fun z => by
      have := u 0 (by simp [z])
      omega
    cases c with
    | vl x => simpa using r
    | sl j =>
      have : j ≠ i := fun z => nc (by rw [z])
      cases s <;> simp [this, r]
theorem look_none : ∀ {as : List CA} {ss : List Slot} {i : Nat} {d : D}, (∀ k : Nat, as[k]? ≠ some (CA.sl i)) → look as ss i d = d
  | [], ss, i, d, _ => by cases ss <;> simp
  | c :: as, [], i, d, _ => by cases c <;> simp
  | c :: as, s :: ss, i, d, h => by
    have r : look as ss i d = d := look_none fun k q => h (k + 1) (by simpa using q)
    cases c with
    | vl x => simpa using r
    | sl j =>
      have : j ≠ i := fun z => h 0 (by simp [z])
      cases s <;> simp [this, r]
@[simp] def putB : List CA → List Slot → List Slot → List Slot
  | .sl i :: as, .own _ d' :: ss, env => putB as ss (match env[i]? with
    | some (.own b _) => env.set i (.own b d')
    | _ => env)
  | _ :: as, _ :: ss, env => putB as ss env
  | _, _, env => env
theorem isOwn_set {env : List Slot} {i : Nat} {b b' : Bool} {d d' : D} (e : env[i]? = some (.own b d)) (n : Nat) : isOwn (env.set i (.own b' d')) n = isOwn env n := by
  by_cases q : i = n
  · subst q
    have hl : i < env.length := by
      rcases Nat.lt_or_ge i env.length with z | z
      · exact z
      · rw [List.getElem?_eq_none z] at e; cases e
    show (match (env.set i (.own b' d'))[i]? with | some (.own _ _) => true | _ => false) = match env[i]? with | some (.own _ _) => true | _ => false
    rw [List.getElem?_set_self hl, e]
  · show (match (env.set i (.own b' d'))[n]? with | some (.own _ _) => true | _ => false) = match env[n]? with | some (.own _ _) => true | _ => false
    rw [List.getElem?_set_ne q]
theorem apart_congr {env env' : List Slot} (h : ∀ n, isOwn env' n = isOwn env n) : ∀ as : List CA, apart env' as = apart env as
  | [] => rfl
  | .vl d :: r => by simpa using apart_congr h r
  | .sl i :: r => by
    show ((!isOwn env' i || !r.any (isSl i)) && apart env' r) = ((!isOwn env i || !r.any (isSl i)) && apart env r)
    rw [h, apart_congr h r]
theorem putB_get : ∀ (as : List CA) (ss env : List Slot) (n : Nat), apart env as = true → (putB as ss env)[n]? = (env[n]?).map (pbS as ss n)
  | [], ss, env, n, _ => by
    have : pbS [] ss n = id := funext fun s => by cases s <;> simp [pbS]
    simp [this]
  | c :: as, [], env, n, _ => by
    have : pbS (c :: as) [] n = id := funext fun s => by cases s <;> cases c <;> simp [pbS]
    cases c <;> simp [this]
  | .vl x :: as, s :: ss, env, n, ap => by
    have : pbS (.vl x :: as) (s :: ss) n = pbS as ss n := funext fun q => by cases q <;> simp [pbS]
    simp only [putB, this]
    exact putB_get as ss env n (by simpa using ap)
  | .sl i :: as, .val x :: ss, env, n, ap => by
    have : pbS (.sl i :: as) (.val x :: ss) n = pbS as ss n := funext fun q => by cases q <;> simp [pbS]
    simp only [putB, this]
    exact putB_get as ss env n (by simp only [apart, Bool.and_eq_true] at ap; exact ap.2)
  | .sl i :: as, .no :: ss, env, n, ap => by
    have : pbS (.sl i :: as) (.no :: ss) n = pbS as ss n := funext fun q => by cases q <;> simp [pbS]
    simp only [putB, this]
    exact putB_get as ss env n (by simp only [apart, Bool.and_eq_true] at ap; exact ap.2)
  | .sl i :: as, .own b0 d' :: ss, env, n, ap => by
    have ap0 : (!isOwn env i || !as.any (isSl i)) = true ∧ apart env as = true := by simpa only [apart, Bool.and_eq_true] using ap
    cases q : env[i]? with
    | none =>
      have e : putB (.sl i :: as) (.own b0 d' :: ss) env = putB as ss env := by simp only [putB, q]
      rw [e, putB_get as ss env n ap0.2]
      cases qn : env[n]? with
      | none => rfl
      | some s =>
        have hne : i ≠ n := fun z => by subst z; rw [q] at qn; cases qn
        cases s <;> simp [pbS, hne]
    | some si =>
      cases si with
      | val x =>
        have e : putB (.sl i :: as) (.own b0 d' :: ss) env = putB as ss env := by simp only [putB, q]
        rw [e, putB_get as ss env n ap0.2]
        cases qn : env[n]? with
        | none => rfl
        | some s =>
          by_cases hne : i = n
          · subst hne; rw [q] at qn; cases qn; simp [pbS]
          · cases s <;> simp [pbS, hne]
      | no =>
        have e : putB (.sl i :: as) (.own b0 d' :: ss) env = putB as ss env := by simp only [putB, q]
        rw [e, putB_get as ss env n ap0.2]
        cases qn : env[n]? with
        | none => rfl
        | some s =>
          by_cases hne : i = n
          · subst hne; rw [q] at qn; cases qn; simp [pbS]
          · cases s <;> simp [pbS, hne]
      | own b x =>
        have e : putB (.sl i :: as) (.own b0 d' :: ss) env = putB as ss (env.set i (.own b d')) := by simp only [putB, q]
        have ap1 : apart (env.set i (.own b d')) as = true := by rw [apart_congr (isOwn_set q)]; exact ap0.2
        have hl : i < env.length := by
          rcases Nat.lt_or_ge i env.length with z | z
          · exact z
          · rw [List.getElem?_eq_none z] at q; cases q
        rw [e, putB_get as ss _ n ap1]
        by_cases hne : i = n
        · subst hne
          rw [List.getElem?_set_self hl, q]
          have no : ∀ k : Nat, as[k]? ≠ some (CA.sl i) := fun k z => by
            have h1 := ap0.1
            have : isOwn env i = true := by simp [q]
            rw [this] at h1
            have h2 : as.any (isSl i) = false := by simpa using h1
            rw [List.any_eq_false] at h2
            exact h2 _ (List.mem_of_getElem? z) (by simp)
          simp [pbS, look_none no]
        · rw [List.getElem?_set_ne hne]
          cases qn : env[n]? with
          | none => rfl
          | some s => cases s <;> simp [pbS, hne]
theorem putB_eq {as : List CA} {ss env : List Slot} (ap : apart env as = true) : putB as ss env = putBack as ss 0 env := by
  apply List.ext_getElem?
  intro n
  rw [putB_get as ss env n ap, putBack_get, Nat.zero_add]
theorem resolve_own {env : List Slot} {a : CA} {b : Bool} {d : D} (h : resolve env a = .own b d) : b = true ∧ ∃ i b', a = .sl i ∧ env[i]? = some (.own b' d) := by
  cases a with
  | vl x => simp at h
  | sl i =>
    simp only [resolve] at h
    split at h
    · rename_i s e
      cases s with
      | own b' d' => simp at h; exact ⟨h.1, i, b', rfl, by rw [e, h.2]⟩
      | val d' => simp at h
      | no => simp at h
    · cases h
theorem resolve_val {env : List Slot} {a : CA} {d : D} (h : resolve env a = .val d) : a = .vl d ∨ ∃ i, a = .sl i ∧ env[i]? = some (.val d) := by
  cases a with
  | vl x => simp at h; exact Or.inl (by rw [h])
  | sl i =>
    simp only [resolve] at h
    split at h
    · rename_i s e
      cases s with
      | own b' d' => simp at h
      | val d' => simp at h; exact Or.inr ⟨i, rfl, by rw [e, h]⟩
      | no => simp at h
    · cases h

section
variable {K : PySem.W.Frag} {C : Ct} {F0 F H0 H : Hp} {env0 env : List Slot} {σ : L2.St}
theorem call_parts {vs : List V} {as : List CA} (I : Ok K C F env σ H) (ca : CAs K F σ vs as) (ap : apart env as = true) :
    ArgsOk K F (as.map (resolve env)) vs H ∧ (∀ (i : Nat) (d : D), (as.map (resolve env))[i]? ≠ some (.own false d)) ∧
      ∀ r ss F' v H', Done K F (as.map (resolve env)) vs H r ss F' v H' → Aft K C F env σ H F' (putB as ss env) H' ∧ ∀ p, H p = none → ∀ i, ¬ Owns (putB as ss env) σ i p := by
  have hl := ca.length
  have getA : ∀ (i : Nat) (s : Slot), (as.map (resolve env))[i]? = some s → ∃ a v, as[i]? = some a ∧ vs[i]? = some v ∧ CAOk K F σ v a ∧ resolve env a = s := fun i s e => by
    rw [List.getElem?_map] at e
    cases q : as[i]? with
    | none => rw [q] at e; cases e
    | some a =>
      rw [q] at e
      obtain ⟨v, h1, h2⟩ := ca.get q
      exact ⟨a, v, rfl, h1, h2, by simpa using e⟩
  -- an owned argument is an owned slot
  have ownA : ∀ (i : Nat) (p : Addr), Owns (as.map (resolve env)) (vs.map some) i p → ∃ j, as[i]? = some (.sl j) ∧ Owns env σ j p := fun i p ⟨b, d, e, s⟩ => by
    obtain ⟨a, v, h1, h2, h3, h4⟩ := getA i _ e
    obtain ⟨_, j, b', rfl, h5⟩ := resolve_own h4
    rw [List.getElem?_map, h2] at s
    simp at s
    have h3' : σ[j]? = some (some v) := h3
    exact ⟨j, h1, b', d, h5, by rw [h3', s]⟩
  have isO : ∀ {j : Nat} {p : Addr}, Owns env σ j p → isOwn env j = true := fun {j p} ⟨b, d, e, _⟩ => by simp [e]
  refine ⟨?_, ?_, ?_⟩
  · exact {
      len := by rw [List.length_map, List.length_map, hl]
      sub := I.sub, keep := fun a o e _ => e, all := fun a e => e, new := fun a _ e => e, bas := Ex.refl F
      vals := fun i d e => by
        obtain ⟨a, v, h1, h2, h3, h4⟩ := getA i _ e
        refine ⟨v, by rw [List.getElem?_map, h2]; rfl, ?_⟩
        rcases resolve_val h4 with rfl | ⟨j, rfl, h5⟩
        · exact h3
        · obtain ⟨w, q1, q2⟩ := I.vals j d h5
          have h3' : σ[j]? = some (some v) := h3
          rw [h3'] at q1; cases q1
          exact q2
      owns := fun i b d e => by
        obtain ⟨a, v, h1, h2, h3, h4⟩ := getA i _ e
        obtain ⟨rfl, j, b', rfl, h5⟩ := resolve_own h4
        obtain ⟨p, o, q1, q2, q3, q4, q5, q6⟩ := I.owns j b' d h5
        have h3' : σ[j]? = some (some v) := h3
        rw [h3'] at q1; cases q1
        have hs : (vs.map some)[i]? = some (some (.ref p)) := by rw [List.getElem?_map, h2]; rfl
        exact ⟨p, o, hs, q2, q3, q4, (fun z => by cases z), fun _ => ⟨h2, ⟨i, true, d, e, hs⟩, by show H p ≠ none; rw [q2]; exact fun z => nomatch z⟩⟩
      sep := fun i j p a b => by
        obtain ⟨x, h1, h2⟩ := ownA i p a
        obtain ⟨y, h3, h4⟩ := ownA j p b
        have := I.sep x y p h2 h4
        subst this
        exact apart_ix ap (isO h2) h1 h3
      pins := fun i ⟨b, d, e⟩ => by
        obtain ⟨a, v, h1, h2, h3, h4⟩ := getA i _ e
        obtain ⟨rfl, _⟩ := resolve_own h4
        exact ⟨d, e⟩ }
  · intro i d e
    obtain ⟨a, v, h1, h2, h3, h4⟩ := getA i _ e
    obtain ⟨q, _⟩ := resolve_own h4
    cases q
  intro r ss F' v H' dn
  rw [putB_eq ap]
  have notW : ∀ a, (∀ i, ¬ Owns env σ i a) → ¬ OwnW (as.map (resolve env)) vs a := fun a n ⟨i, q⟩ => by
    obtain ⟨j, _, h2⟩ := ownA i a q
    exact n j h2
  have pbO : ∀ (i : Nat) (b : Bool) (d : D), (putBack as ss 0 env)[i]? = some (.own b d) → ∃ d0, env[i]? = some (.own b d0) ∧ d = look as ss i d0 := fun i b d e => by
    rw [putBack_get, Nat.zero_add] at e
    cases q : env[i]? with
    | none => rw [q] at e; cases e
    | some s =>
      rw [q] at e
      cases s with
      | own b' d' => simp [pbS] at e; exact ⟨d', by rw [e.1], e.2.symm⟩
      | val d' => simp [pbS] at e
      | no => simp [pbS] at e
  have ow2 : ∀ i p, Owns (putBack as ss 0 env) σ i p → Owns env σ i p := fun i p ⟨b, d, e, s⟩ => by
    obtain ⟨d0, h1, _⟩ := pbO i b d e
    exact ⟨b, d0, h1, s⟩
  have B : Aft K C F env σ H F' (putBack as ss 0 env) H' := {
    ok := {
      len := by rw [putBack_length]; exact I.len
      sub := dn.sub
      keep := fun a o e n => by
        refine dn.keep a o (I.keep a o e n) (notW a fun i q => ?_)
        obtain ⟨b, d, h1, h2⟩ := q
        obtain ⟨p, u, q1, q2, q3, q4, q5, q6⟩ := I.owns i b d h1
        rw [h2] at q1; cases q1
        cases b with
        | false => have := q5 rfl; rw [e] at this; cases this
        | true => exact n (q6 rfl).2.1
      all := fun a e => dn.all a (I.all a e)
      new := fun a e z => dn.new a (I.all a e) (I.new a e z)
      bas := I.bas.trans dn.ex
      vals := fun i d e => by
        rw [putBack_get, Nat.zero_add] at e
        cases q : env[i]? with
        | none => rw [q] at e; cases e
        | some s =>
          rw [q] at e
          cases s with
          | own b' d' => simp [pbS] at e
          | val d' =>
            simp [pbS] at e
            subst e
            obtain ⟨w, q1, q2⟩ := I.vals i d' q
            exact ⟨w, q1, q2.mono dn.ex⟩
          | no => simp [pbS] at e
      owns := fun i b d e => by
        obtain ⟨d0, h1, h2⟩ := pbO i b d e
        obtain ⟨p, o, q1, q2, q3, q4, q5, q6⟩ := I.owns i b d0 h1
        have hF : F' p = none := dn.new p (by rw [q2]; exact fun z => nomatch z) q4
        by_cases w : ∃ k : Nat, as[k]? = some (CA.sl i)
        · obtain ⟨k', hk'⟩ := w
          have ea : (as.map (resolve env))[k']? = some (.own true d0) := by rw [List.getElem?_map, hk']; simp [h1]
          obtain ⟨p', o', d', g1, g2, g3, g4⟩ := dn.own k' true d0 ea
          obtain ⟨v', g5, g6⟩ := ca.get hk'
          rw [g1] at g5; cases g5
          have g6' : σ[i]? = some (some (.ref p')) := g6
          rw [q1] at g6'; cases g6'
          have : look as ss i d0 = d' := look_at hk' g2 fun j hj => apart_ix ap (isO ⟨b, d0, h1, q1⟩) hj hk'
          rw [h2, this]
          exact ⟨p, o', q1, g3, g4, hF, q5, q6⟩
        · have : look as ss i d0 = d0 := look_none fun k q => w ⟨k, q⟩
          rw [h2, this]
          refine ⟨p, o, q1, dn.keep p o q2 ?_, q3.mono dn.ex, hF, q5, q6⟩
          rintro ⟨k', q⟩
          obtain ⟨j, z1, z2⟩ := ownA k' p q
          have := I.sep j i p z2 ⟨b, d0, h1, q1⟩
          subst this
          exact w ⟨k', z1⟩
      sep := fun i j p a b => I.sep i j p (ow2 i p a) (ow2 j p b)
      pins := fun i q => by
        obtain ⟨d, e⟩ := I.pins i q
        exact ⟨look as ss i d, by rw [putBack_get, e]; simp [pbS]⟩ }
    ex := dn.ex
    fr := fun a o e n => dn.keep a o e (notW a n)
    nw := fun a e z _ => dn.new a e z
    al := dn.all
    le := fun i b d e => let ⟨d0, h1, _⟩ := pbO i b d e; ⟨d0, h1⟩ }
  exact ⟨B, fun p g4 i q => I.unowned g4 i (ow2 i p q)⟩
theorem call_core {sd : DSpec} {vs : List V} {as : List CA} {R : RV → List Slot → Prop} {Q : VK} {E : XK} (A : Aft K C F0 env0 σ H0 F env H) (ca : CAs K F σ vs as) (ap : apart env as = true)
    (h : sd (as.map (resolve env)) R)
    (k : ∀ r ss F' v H', R r ss → Aft K C F0 env0 σ H0 F' (putB as ss env) H' → RVOk K C F' (putB as ss env) σ H0 H' v r → Q v H') : spD K sd vs H Q E := by
  obtain ⟨h1, h2, h3⟩ := call_parts A.ok ca ap
  refine ⟨F, as.map (resolve env), R, h1, h2, h, ?_⟩
  intro r ss F' v H' hR dn
  obtain ⟨B, no⟩ := h3 r ss F' v H' dn
  refine k r ss F' v H' hR (A.trans B) ?_
  have rs := dn.res
  cases r with
  | vl d => exact rs
  | tm d =>
    obtain ⟨p, o, rfl, g1, g2, g3, g4⟩ := rs
    exact ⟨p, o, rfl, g1, g2, g3, A.ok.gnone g4, no p g4, A.back g4⟩
  | sl i => exact rs.elim
end

@[simp] def mCall (sd : DSpec) (dds : List D) (a : DMC) : DM := fun env R => a env fun as e => apart e as = true ∧ sd ((as ++ dds.map CA.vl).map (resolve e)) fun r ss => R r (putB as ss e)
theorem apart_app {env : List Slot} : ∀ {as : List CA} {dds : List D}, apart env as = true → apart env (as ++ dds.map CA.vl) = true
  | [], [], _ => rfl
  | [], d :: dds, h => apart_app (as := []) (dds := dds) h
  | .vl d :: as, dds, h => apart_app (as := as) h
  | .sl i :: as, dds, h => by
    simp only [apart, Bool.and_eq_true] at h
    show ((!isOwn env i || !(as ++ dds.map CA.vl).any (isSl i)) && apart env (as ++ dds.map CA.vl)) = true
    rw [List.any_append]
    have e : (dds.map CA.vl).any (isSl i) = false := by
      rw [List.any_map]
      induction dds with
      | nil => rfl
      | cons d r ih => simp
    rw [e, Bool.or_false, h.1, apart_app h.2]
    rfl
theorem look_app {dds : List D} : ∀ {as : List CA} {ss : List Slot} {i : Nat} {d : D}, look (as ++ dds.map CA.vl) ss i d = look as ss i d
  | [], ss, i, d => by
    have : ∀ (l : List D) (ss : List Slot), look (l.map CA.vl) ss i d = d := fun l ss => look_none fun k q => by
      rw [List.getElem?_map] at q
      cases h : l[k]? <;> simp [h] at q
    show look (dds.map CA.vl) ss i d = look [] ss i d
    rw [this]
    cases ss <;> rfl
  | c :: as, [], i, d => by cases c <;> simp
  | .vl x :: as, s :: ss, i, d => by
    show look (as ++ dds.map CA.vl) ss i d = look as ss i d
    exact look_app
  | .sl j :: as, .own b d' :: ss, i, d => by
    show (if j = i then d' else look (as ++ dds.map CA.vl) ss i d) = if j = i then d' else look as ss i d
    rw [look_app]
  | .sl j :: as, .val d' :: ss, i, d => by
    show look (as ++ dds.map CA.vl) ss i d = look as ss i d
    exact look_app
  | .sl j :: as, .no :: ss, i, d => by
    show look (as ++ dds.map CA.vl) ss i d = look as ss i d
    exact look_app
theorem putB_vl {dds : List D} : ∀ {ss env : List Slot}, putB (dds.map CA.vl) ss env = env := by
  induction dds with
  | nil => intro ss env; rfl
  | cons d r ih =>
    intro ss env
    cases ss with
    | nil => rfl
    | cons s ss => exact ih
theorem putB_app {dds : List D} : ∀ {as : List CA} {ss env : List Slot}, putB (as ++ dds.map CA.vl) ss env = putB as ss env
  | [], ss, env => by
    show putB (dds.map CA.vl) ss env = putB [] ss env
    rw [putB_vl]; cases ss <;> rfl
  | c :: as, [], env => by cases c <;> rfl
  | .vl x :: as, s :: ss, env => by
    show putB (as ++ dds.map CA.vl) ss env = putB as ss env
    exact putB_app
  | .sl i :: as, s :: ss, env => by
    cases s with
    | own b d => exact putB_app (as := as) (ss := ss)
    | val d => exact putB_app (as := as) (ss := ss)
    | no => exact putB_app (as := as) (ss := ss)
section
variable {X : Cx} {k : Nat} {f : Addr} {fd : FuncData} {ps ks : List Str} {sd : DSpec} {dvs : List V} {dds : List D} {ds : List Value} {x : Str} {p pos : Pos} {e : Expr} {es : List Expr} {kws : List Keyword}
theorem dcallD (F : FnG X.prog X.w X.K X.mg X.base CX0 k f fd ps (spD X.K sd)) (hgd : X.A.guards = some []) (hr : Room k X.A) (hg : Gl X x) (hm : X.mg x = some (.ref f)) (hk : PySem.W.keepIn X.K (.ref f) = true) (hb : Binds X.K fd ps ds) (hd : Vals dvs ds) (rd : ∀ F, RepL X.K F dvs dds)
    {mc : DMC} (h : DC X (e :: es) mc) (hdb : (x == ("__debug__" : Str)) = false := by decide) (he : starEach (e :: es) X.env = (false, eval e X.env) :: starEach es X.env := by rfl) (hpl : (backTo pos (starEach es X.env)).any (·.1) = false := by rfl) :
    DE X (.Call (.Name x p) (e :: es) [] pos) (mCall sd dds mc) := by
  obtain ⟨t, pa, ev⟩ := h
  refine ⟨_, pe_callG (E := E0) F hgd hr hg hm hk hb hd pass0 pa hdb he hpl, ?_⟩
  intro C F env σ H R Q I h k
  refine ev C F env σ H _ _ I h ?_
  intro as e1 F1 vs H1 h1 A1 r1
  refine call_core A1 (r1.append (CAs.ofRep (rd F1))) (apart_app h1.1) h1.2 fun r ss F' v H' hR A2 r2 => ?_
  rw [putB_app] at A2 r2
  exact k r _ F' v H' hR A2 r2
theorem dcall (F : FnG X.prog X.w X.K X.mg X.base CX0 k f fd ps (spD X.K sd)) (hgd : X.A.guards = some []) (hr : Room k X.A) (hg : Gl X x) (hm : X.mg x = some (.ref f)) (hk : PySem.W.keepIn X.K (.ref f) = true) (hb : Binds X.K fd ps [])
    {mc : DMC} (h : DC X (e :: es) mc) (hdb : (x == ("__debug__" : Str)) = false := by decide) (he : starEach (e :: es) X.env = (false, eval e X.env) :: starEach es X.env := by rfl) (hpl : (backTo pos (starEach es X.env)).any (·.1) = false := by rfl) :
    DE X (.Call (.Name x p) (e :: es) [] pos) (mCall sd [] mc) := dcallD F hgd hr hg hm hk hb .nil (fun _ => .nil) h hdb he hpl
end
end DL

set_option Elab.async false
set_option linter.all false
set_option maxRecDepth 100000
set_option maxHeartbeats 4000000
set_option autoImplicit false
/-! DL6: what is walked, targets, for, while, comprehensions. -/
namespace DL
open PySem PySem.Spec L2 Evl PyProof.Rows

/-! ### targets -/
abbrev DTg := D → List Slot → (List Slot → Prop) → Prop
abbrev DTgs := List D → List Slot → (List Slot → Prop) → Prop
def Keeps (js : List Nat) (env env' : List Slot) (σ σ' : L2.St) : Prop :=
  σ'.length = σ.length ∧ (∀ i, i ∉ js → σ'[i]? = σ[i]?) ∧ (∀ (i : Nat) (b : Bool) (d : D), env'[i]? = some (.own b d) → env[i]? = some (.own b d))
theorem Keeps.trans {js : List Nat} {a b c : List Slot} {x y z : L2.St} (h : Keeps js a b x y) (k : Keeps js b c y z) : Keeps js a c x z :=
  ⟨k.1.trans h.1, fun i n => (k.2.1 i n).trans (h.2.1 i n), fun i q d e => h.2.2 i q d (k.2.2 i q d e)⟩
theorem Keeps.mono {js ks : List Nat} {a b : List Slot} {x y : L2.St} (h : Keeps js a b x y) (s : ∀ i ∈ js, i ∈ ks) : Keeps ks a b x y :=
  ⟨h.1, fun i n => h.2.1 i fun q => n (s i q), h.2.2⟩
def EvG (K : PySem.W.Frag) (js : List Nat) (g : DTg) (t : TG) : Prop := ∀ C F env σ H v d R Q, Ok K C F env σ H → Rep K F v d → g d env R →
  (∀ env' σ', R env' → Ok K C F env' σ' H → Keeps js env env' σ σ' → Q σ' H) → t v σ H Q
def EvGs (K : PySem.W.Frag) (js : List Nat) (g : DTgs) (t : TGs) : Prop := ∀ C F env σ H vs ds R Q, Ok K C F env σ H → RepL K F vs ds → g ds env R →
  (∀ env' σ', R env' → Ok K C F env' σ' H → Keeps js env env' σ σ' → Q σ' H) → t vs σ H Q
def DG (X : Cx) (tg : Expr) (js : List Nat) (g : DTg) : Prop := ∃ t, PG X tg t ∧ EvG X.K js g t
def DGs (X : Cx) (tgs : List Expr) (js : List Nat) (g : DTgs) : Prop := ∃ t, PGs X tgs t ∧ EvGs X.K js g t
@[simp] def gN (j : Nat) : DTg := fun d env R => Free env j ∧ R (env.set j (.val d))
@[simp] def gsNil : DTgs := fun ds env R => match ds with
  | [] => R env
  | _ => False
@[simp] def gsCons (g : DTg) (gs : DTgs) : DTgs := fun ds env R => match ds with
  | d :: r => g d env fun e => gs r e R
  | [] => False
@[simp] def gT (n : Nat) (gs : DTgs) : DTg := fun d env R => match d with
  | .tup ds => ds.length = n ∧ gs ds env R
  | _ => False
section
variable {X : Cx} {pos : Pos}
theorem dg_name (j : Nat) {x : Str} (hN : X.N.Nodup) (hi : X.N[j]? = some x) (hx : Loc X.env.scope x) (hf : X.fn x = true ∨ X.env.scope.names.lookup x = some .local := by first | exact .inl rfl | exact .inr rfl | assumption) : DG X (.Name x pos) [j] (gN j) := by
  refine ⟨_, pg_name hN hi hx hf, ?_⟩
  intro C F env σ H v d R Q I r h k
  refine k _ _ h.2 (I.setVal h.1 r) ⟨by simp, fun i n => ?_, fun i b d' e => ?_⟩
  · rw [List.getElem?_set_ne]
    rintro rfl
    exact n (by simp)
  · by_cases q : j = i
    · subst q
      rw [List.getElem?_set] at e
      split at e
      · split at e <;> cases e
      · exact absurd rfl ‹¬ _›
    · rw [List.getElem?_set_ne q] at e; exact e
theorem dgs_nil : DGs X [] [] gsNil := by
  refine ⟨_, pgs_nil, ?_⟩
  intro C F env σ H vs ds R Q I r h k
  cases r with
  | nil => exact ⟨rfl, k env σ h I ⟨rfl, fun _ _ => rfl, fun _ _ _ e => e⟩⟩
  | cons _ _ => exact h.elim
theorem dgs_cons {e : Expr} {es : List Expr} {js ks : List Nat} {g : DTg} {gs : DTgs} (h1 : DG X e js g) (h2 : DGs X es ks gs)
    (hs : (assignEach (e :: es) X.env).map (·.2) = assign e X.env :: (assignEach es X.env).map (·.2) := by rfl) : DGs X (e :: es) (js ++ ks) (gsCons g gs) := by
  obtain ⟨t, p, ev⟩ := h1
  obtain ⟨u, q, er⟩ := h2
  refine ⟨_, pgs_cons p q hs, ?_⟩
  intro C F env σ H vs ds R Q I r h k
  cases r with
  | nil => exact h.elim
  | cons a r =>
    refine ⟨_, _, rfl, ?_⟩
    refine ev C F env σ H _ _ _ _ I a h ?_
    intro e1 σ1 h1 I1 k1
    refine er C F e1 σ1 H _ _ _ _ I1 r h1 ?_
    intro e2 σ2 h2 I2 k2
    exact k e2 σ2 h2 I2 ((k1.mono fun i z => List.mem_append_left _ z).trans (k2.mono fun i z => List.mem_append_right _ z))
theorem dg_tup {es : List Expr} {kk : Nat} {js : List Nat} {gs : DTgs} {n : Nat} (hc : X.calm = true) (h : DGs X es js gs) (hn : (assignEach es X.env).length = n := by rfl) (hst : (assignEach es X.env).findIdx? (·.1) = none := by rfl) : DG X (.Tuple es kk pos) js (gT n gs) := by
  obtain ⟨t, p, ev⟩ := h
  refine ⟨_, pg_tup hc p hn hst, ?_⟩
  intro C F env σ H v d R Q I r h k
  cases r with
  | tup s r =>
    refine ⟨_, _, rfl, ex_t I.sub s, r.length.trans h.1, ?_⟩
    exact ev C F env σ H _ _ _ _ I r h.2 k
  | _ => exact h.elim
end

/-! ### what is walked -/
abbrev Holds := List (Nat × List D)
abbrev DMI := List Slot → (List D → Holds → List Slot → Prop) → Prop
@[simp] def holdE : Holds → List Slot → Prop
  | [], _ => True
  | (i, l) :: r, env => (match env[i]? with
    | some (.own _ (.lst l')) => l' = l
    | _ => False) ∧ holdE r env
@[simp] def pinE : Holds → List Slot → Prop
  | [], _ => True
  | (i, l) :: r, env => (match env[i]? with
    | some (.own true (.lst l')) => l' = l
    | _ => False) ∧ pinE r env
theorem holdE.get : ∀ {h : Holds} {env : List Slot}, holdE h env → ∀ p ∈ h, ∃ b, env[p.1]? = some (.own b (.lst p.2))
  | (i, l) :: r, env, h, p, m => by
    rcases List.mem_cons.mp m with rfl | m
    · have h1 := h.1
      split at h1
      · rename_i b l' e; subst h1; exact ⟨b, e⟩
      · exact h1.elim
    · exact holdE.get h.2 p m
theorem pinE.get : ∀ {h : Holds} {env : List Slot}, pinE h env → ∀ p ∈ h, env[p.1]? = some (.own true (.lst p.2))
  | (i, l) :: r, env, h, p, m => by
    rcases List.mem_cons.mp m with rfl | m
    · have h1 := h.1
      split at h1
      · rename_i l' e; subst h1; exact e
      · exact h1.elim
    · exact pinE.get h.2 p m
theorem pinE.hold : ∀ {h : Holds} {env : List Slot}, pinE h env → holdE h env
  | [], _, _ => trivial
  | (i, l) :: r, env, h => by
    refine ⟨?_, pinE.hold h.2⟩
    have h1 := h.1
    split at h1
    · rename_i l' e; rw [e]; exact h1
    · exact h1.elim
def IterOk (K : PySem.W.Frag) (C : Ct) (F0 : Hp) (σ0 : L2.St) (J : It) (items : List D) (hold : Holds) : Prop :=
  ∀ (i : Nat) (F : Hp) (env : List Slot) (σ : L2.St) (H : Hp), Ok K C F env σ H → Ex F0 F → holdE hold env → (∀ p ∈ hold, σ[p.1]? = σ0[p.1]?) →
    (i < items.length → J.go i H ∧ ∀ x H', J.yld i H x H' → ∃ F' d, items[i]? = some d ∧ Aft K C F env σ H F' env H' ∧ Rep K F' x d) ∧ (items.length ≤ i → J.stop i H)
def EvI (K : PySem.W.Frag) (m : DMI) (wi : TI) : Prop := ∀ C F env σ H R (Q : It → Hp → Prop), Ok K C F env σ H → m env R →
  (∀ items hold env' F' H' J, R items hold env' → Aft K C F env σ H F' env' H' → IterOk K C F' σ J items hold → holdE hold env' → Q J H') → wi σ H Q
def DI (X : Cx) (tg iter : Expr) (m : DMI) : Prop := ∃ wi, PI X tg iter wi ∧ EvI X.K m wi

def NowL (K : PySem.W.Frag) (C : Ct) (F0 : Hp) (σ0 : L2.St) (a : Addr) (ds : List D) (hold : Holds) : Prop :=
  ∀ (F : Hp) (env : List Slot) (σ : L2.St) (H : Hp), Ok K C F env σ H → Ex F0 F → holdE hold env → (∀ p ∈ hold, σ[p.1]? = σ0[p.1]?) → ∃ vs, SqL K H a vs ∧ RepL K F vs ds
def NowT (K : PySem.W.Frag) (C : Ct) (F0 : Hp) (σ0 : L2.St) (a : Addr) (ds : List D) (hold : Holds) : Prop :=
  ∀ (F : Hp) (env : List Slot) (σ : L2.St) (H : Hp), Ok K C F env σ H → Ex F0 F → holdE hold env → (∀ p ∈ hold, σ[p.1]? = σ0[p.1]?) → ∃ vs, SqT K H a vs ∧ RepL K F vs ds
@[simp] def enumD : Nat → List D → List D
  | _, [] => []
  | k, x :: xs => .tup [.int (k : Int), x] :: enumD (k + 1) xs
theorem enumD_length : ∀ (k : Nat) (xs : List D), (enumD k xs).length = xs.length
  | _, [] => rfl
  | k, x :: xs => congrArg (· + 1) (enumD_length (k + 1) xs)
theorem enumD_get : ∀ (k : Nat) (xs : List D) (i : Nat), (enumD k xs)[i]? = (xs[i]?).map fun x => .tup [.int ((k + i : Nat) : Int), x]
  | _, [], i => by simp
  | k, x :: xs, 0 => by simp
  | k, x :: xs, i + 1 => by
    have h := enumD_get (k + 1) xs i
    have e : k + 1 + i = k + (i + 1) := by omega
    rw [e] at h
    simpa using h
@[simp] def zipD (xs ys : List D) : List D := List.zipWith (fun x y => .tup [x, y]) xs ys
section
variable {K : PySem.W.Frag} {C : Ct} {F0 : Hp} {σ0 : L2.St} {a b : Addr} {ds es : List D} {hold hold' : Holds}
theorem it_list (n : NowL K C F0 σ0 a ds hold) : IterOk K C F0 σ0 (Itl K a) ds hold := by
  intro i F env σ H I e h s
  obtain ⟨vs, q, r⟩ := n F env σ H I e h s
  refine ⟨fun hi => ?_, fun hi => ⟨vs, q, by rw [r.length]; exact hi⟩⟩
  obtain ⟨v, h1, h2⟩ := r.get (List.getElem?_eq_getElem hi)
  refine ⟨⟨vs, v, q, h1⟩, fun x H' y => ?_⟩
  obtain ⟨rfl, y⟩ := y
  have := y vs q
  rw [h1] at this; cases this
  exact ⟨F, _, List.getElem?_eq_getElem hi, I.aft, h2⟩
theorem it_tup (n : NowT K C F0 σ0 a ds hold) : IterOk K C F0 σ0 (Itt K a) ds hold := by
  intro i F env σ H I e h s
  obtain ⟨vs, q, r⟩ := n F env σ H I e h s
  refine ⟨fun hi => ?_, fun hi => ⟨vs, q, by rw [r.length]; exact hi⟩⟩
  obtain ⟨v, h1, h2⟩ := r.get (List.getElem?_eq_getElem hi)
  refine ⟨⟨vs, v, q, h1⟩, fun x H' y => ?_⟩
  obtain ⟨rfl, y⟩ := y
  have := y vs q
  rw [h1] at this; cases this
  exact ⟨F, _, List.getElem?_eq_getElem hi, I.aft, h2⟩
theorem lay_pair {F H : Hp} {env : List Slot} {σ : L2.St} {T : Addr} {u v : V} {d e : D} (I : Ok K C F env σ H) (hT : H T = none) (r1 : Rep K F u d) (r2 : Rep K F v e) : ∃ F', Aft K C F env σ H F' env (upd H T (.tup [u, v])) ∧ Rep K F' (.ref T) (.tup [d, e]) := by
  have B := I.lay hT (.tup [u, v])
  exact ⟨_, B, Rep.tup (st_of upd_same) (.cons (r1.mono B.ex) (.cons (r2.mono B.ex) .nil))⟩
theorem it_enum (n : NowL K C F0 σ0 a ds hold) : IterOk K C F0 σ0 (Ite K a) (enumD 0 ds) hold := by
  intro i F env σ H I e h s
  obtain ⟨vs, q, r⟩ := n F env σ H I e h s
  rw [enumD_length]
  refine ⟨fun hi => ?_, fun hi => ⟨vs, q, by rw [r.length]; exact hi⟩⟩
  obtain ⟨v, h1, h2⟩ := r.get (List.getElem?_eq_getElem hi)
  refine ⟨⟨vs, v, q, h1⟩, fun x H' y => ?_⟩
  obtain ⟨T, x', rfl, hT, rfl, y⟩ := y
  have := y vs q
  rw [h1] at this; cases this
  obtain ⟨F', B, rp⟩ := lay_pair I hT (Rep.int (i : Int)) h2
  refine ⟨F', _, ?_, B, rp⟩
  rw [enumD_get, List.getElem?_eq_getElem hi, Nat.zero_add]
  rfl
theorem it_zip (n : NowL K C F0 σ0 a ds hold) (n2 : NowL K C F0 σ0 b es hold) : IterOk K C F0 σ0 (Itz K a b) (zipD ds es) hold := by
  intro i F env σ H I e h s
  obtain ⟨vs, q, r⟩ := n F env σ H I e h s
  obtain ⟨ws, q2, r2⟩ := n2 F env σ H I e h s
  unfold zipD
  rw [List.length_zipWith]
  refine ⟨fun hi => ?_, fun hi => ⟨vs, ws, q, q2, by rw [r.length, r2.length]; omega⟩⟩
  have i1 : i < ds.length := by omega
  have i2 : i < es.length := by omega
  obtain ⟨v, h1, h2⟩ := r.get (List.getElem?_eq_getElem i1)
  obtain ⟨w, h3, h4⟩ := r2.get (List.getElem?_eq_getElem i2)
  refine ⟨⟨vs, ws, v, w, q, q2, h1, h3⟩, fun x H' y => ?_⟩
  obtain ⟨T, x', y', rfl, hT, rfl, y1, y2⟩ := y
  have := y1 vs q
  rw [h1] at this; cases this
  have := y2 ws q2
  rw [h3] at this; cases this
  obtain ⟨F', B, rp⟩ := lay_pair I hT h2 h4
  refine ⟨F', _, ?_, B, rp⟩
  rw [List.getElem?_zipWith, List.getElem?_eq_getElem i1, List.getElem?_eq_getElem i2]
theorem NowL.more (n : NowL K C F0 σ0 a ds hold) (s : ∀ p ∈ hold, p ∈ hold') (hh : ∀ env, holdE hold' env → holdE hold env) : NowL K C F0 σ0 a ds hold' :=
  fun F env σ H I e h z => n F env σ H I e (hh env h) fun p m => z p (s p m)
end
@[simp] def lsOf (l : RV) (env : List Slot) (R : List D → Holds → Prop) : Prop := match l with
  | .vl (.lst ds) => R ds []
  | .tm (.lst ds) => R ds []
  | .sl i => match env[i]? with
    | some (.val (.lst ds)) => R ds []
    | some (.own _ (.lst ds)) => R ds [(i, ds)]
    | _ => False
  | _ => False
section
variable {K : PySem.W.Frag}
theorem now_of {C : Ct} {F F' H H' : Hp} {env env' : List Slot} {σ : L2.St} {v : V} {l : RV} (A : Aft K C F env σ H F' env' H') (r : RVOk K C F' env' σ H H' v l) {R : List D → Holds → Prop}
    (h : lsOf l env' R) : ∃ F2 a ds hold, v = .ref a ∧ R ds hold ∧ Aft K C F env σ H F2 env' H' ∧ Ex F' F2 ∧ NowL K C F2 σ a ds hold ∧ holdE hold env' ∧ ∃ vs, H' a = some (.lst vs) := by
  have kept : ∀ ds, l.get env' (fun d => d = .lst ds) → R ds [] → ∃ F2 a ds hold, v = .ref a ∧ R ds hold ∧ Aft K C F env σ H F2 env' H' ∧ Ex F' F2 ∧ NowL K C F2 σ a ds hold ∧ holdE hold env' ∧ ∃ vs, H' a = some (.lst vs) := fun ds hd hR => by
    obtain ⟨F2, d, rfl, A2, ex, rp⟩ := A.keepIt r hd
    cases rp with
    | lst e q => exact ⟨F2, _, ds, [], rfl, hR, A2, ex, fun F env σ H I x _ _ => ⟨_, sq_of (I.sub _ _ (x _ _ e)), q.mono x⟩, trivial, _, A2.ok.sub _ _ e⟩
  cases l with
  | vl d =>
    cases d with
    | lst ds => exact kept ds rfl h
    | _ => exact h.elim
  | tm d =>
    cases d with
    | lst ds => exact kept ds rfl h
    | _ => exact h.elim
  | sl i =>
    have h' : (match env'[i]? with | some (.val (.lst ds)) => R ds [] | some (.own _ (.lst ds)) => R ds [(i, ds)] | _ => False) := h
    split at h'
    · rename_i ds e
      exact kept ds (by simp [e]) h'
    · rename_i b ds e
      have r' : σ[i]? = some (some v) := r
      obtain ⟨p, o, q1, q2, q3, _⟩ := A.ok.owns i b _ e
      rw [r'] at q1; cases q1
      have ho : ∃ vs, o = .lst vs := by
        unfold RepO at q3
        split at q3
        · exact ⟨_, rfl⟩
        · rename_i z; cases z
        · exact q3.elim
      obtain ⟨vs0, rfl⟩ := ho
      refine ⟨F', p, ds, [(i, ds)], rfl, h', A, Ex.refl _, fun F env2 σ2 H I x hh ss => ?_, by simp [e], vs0, q2⟩
      obtain ⟨b2, e2⟩ := holdE.get hh (i, ds) (by simp)
      obtain ⟨p2, o2, g1, g2, g3, _⟩ := I.owns i b2 _ e2
      have s2 := ss (i, ds) (by simp)
      rw [r', g1] at s2
      cases s2
      unfold RepO at g3
      split at g3
      · rename_i z; cases z; exact ⟨_, sq_of g2, g3⟩
      · rename_i z; cases z
      · exact g3.elim
    · exact h'.elim
end
@[simp] def signsD (s : Str) : List D := s.cps.toList.map fun c => .str ⟨#[c]⟩
@[simp] def mItD (d : D) (R : List D → Prop) : Prop := match d with
  | .lst ds => R ds
  | .tup ds => R ds
  | .str s => R (signsD s)
  | .scr ns => R (ns.map .int)
  | _ => False
@[simp] def mIt (m : DM) : DMI := fun env R => m env fun x e1 => match x with
  | .vl d => mItD d fun ds => R ds [] e1
  | .tm d => mItD d fun ds => R ds [] e1
  | .sl i => match e1[i]? with
    | some (.val d) => mItD d fun ds => R ds [] e1
    | some (.own _ (.lst ds)) => R ds [(i, ds)] e1
    | _ => False
def iAny (K : PySem.W.Frag) (te : TE) : TI := fun σ H R => te σ H fun x H1 => (∃ a, x = .ref a ∧ (∃ xs, SqL K H1 a xs) ∧ R (Itl K a) H1) ∨ (∃ a, x = .ref a ∧ (∃ xs, SqT K H1 a xs) ∧ R (Itt K a) H1) ∨ ∃ z, x = .str z ∧ R (Its z) H1
section
variable {X : Cx} {tg e : Expr} {te : TE}
theorem pi_any (he : PE X e te) : PI X tg e (iAny X.K te) := by
  constructor
  intro pins s σ H R I h
  apply thn (he.run pins s σ H _ I h)
  rintro v s1 ⟨x, H1, I1, r1, q1⟩
  rcases q1 with ⟨a, rfl, ⟨xs, hq⟩, q⟩ | ⟨a, rfl, ⟨xs, hq⟩, q⟩ | ⟨z, rfl, q⟩
  · cases r1
    obtain ⟨its, _, p, _⟩ := I1.list hq
    exact wpAny_pyIter_list p.isList (pi_one (tk := s1.toks) I1 _ (turn_list a _) ⟨_, Heap.get?_push_size _ rfl, rfl, rfl⟩ q)
  · cases r1
    obtain ⟨its, _, p, _⟩ := I1.tuple hq
    exact wpAny_pyIter_tuple (show s1.heap.IsTuple a its.toArray from p) (pi_one (tk := s1.toks) I1 _ (turn_tuple a _) ⟨_, Heap.get?_push_size _ rfl, rfl, rfl⟩ q)
  · obtain ⟨t, rfl⟩ := r1
    by_cases ha : z.cps.all (· < 128) = true
    · exact wpAny_pyIter_ascii ha (pi_one (tk := s1.toks) I1 _ (turn_str _ z t "str_ascii_iterator" (.inl rfl)) ⟨_, Heap.get?_push_size _ rfl, rfl, rfl⟩ q)
    · exact wpAny_pyIter_wide (by simpa using ha) (pi_one (tk := s1.toks) I1 _ (turn_str _ z t "str_iterator" (.inr rfl)) ⟨_, Heap.get?_push_size _ rfl, rfl, rfl⟩ q)
theorem strOk_sign {s : Str} {i c : Nat} (h : PyData.strOk s = true) (e : s.cps.toList[i]? = some c) : PyData.strOk ⟨#[c]⟩ = true := by
  unfold PyData.strOk at h ⊢
  rw [Array.all_eq_true'] at h
  have := h c (by rw [← Array.mem_toList_iff]; exact List.mem_of_getElem? e)
  simpa using this
theorem di_any {m : DM} (h : DE X e m) : DI X tg e (mIt m) := by
  obtain ⟨t, p, ev⟩ := h
  refine ⟨_, pi_any p, ?_⟩
  intro C F env σ H R Q I h k
  refine ev C F env σ H _ _ I h ?_
  intro x e1 F1 v H1 h1 A1 r1
  have kept : ∀ d, x.get e1 (fun d' => d' = d) → (mItD d fun ds => R ds [] e1) → (∃ a, v = .ref a ∧ (∃ xs, SqL X.K H1 a xs) ∧ Q (Itl X.K a) H1) ∨ (∃ a, v = .ref a ∧ (∃ xs, SqT X.K H1 a xs) ∧ Q (Itt X.K a) H1) ∨ ∃ z, v = .str z ∧ Q (Its z) H1 := fun d hd hm => by
    obtain ⟨F2, d', rfl, A2, ex, rp⟩ := A1.keepIt r1 hd
    cases rp with
    | lst e q => exact Or.inl ⟨_, rfl, ⟨_, sq_of (A2.ok.sub _ _ e)⟩, k _ [] e1 F2 H1 _ hm A2 (it_list fun F env σ H I x _ _ => ⟨_, sq_of (I.sub _ _ (x _ _ e)), q.mono x⟩) trivial⟩
    | tup e q => exact Or.inr (Or.inl ⟨_, rfl, ⟨_, ex_t A2.ok.sub e⟩, k _ [] e1 F2 H1 _ hm A2 (it_tup fun F env σ H I x _ _ => ⟨_, ex_t I.sub (ex_t x e), q.mono x⟩) trivial⟩)
    | scr e => exact Or.inl ⟨_, rfl, ⟨_, ex_l A2.ok.sub e⟩, k _ [] e1 F2 H1 _ hm A2 (it_list fun F env σ H I x _ _ => ⟨_, ex_l I.sub (ex_l x e), RepL.ofInts _⟩) trivial⟩
    | str s hs =>
      refine Or.inr (Or.inr ⟨s, rfl, k _ [] e1 F2 H1 _ hm A2 ?_ trivial⟩)
      intro i F env σ H I x _ _
      have hl : (signsD s).length = s.cps.size := by simp
      rw [hl]
      refine ⟨fun hi => ⟨hi, fun y H' yl => ?_⟩, fun hi => hi⟩
      obtain ⟨rfl, c, hc, rfl⟩ := yl
      have hc' : s.cps.toList[i]? = some c := by simpa using hc
      exact ⟨F, .str ⟨#[c]⟩, by simp [hc], I.aft, Rep.str _ (strOk_sign hs hc')⟩
    | _ => exact hm.elim
  cases x with
  | vl d => exact kept d rfl h1
  | tm d => exact kept d rfl h1
  | sl i =>
    have h' : (match e1[i]? with | some (.val d) => mItD d (fun ds => R ds [] e1) | some (.own _ (.lst ds)) => R ds [(i, ds)] e1 | _ => False) := h1
    split at h'
    · rename_i d q
      exact kept d (by simp [q]) h'
    · rename_i b ds q
      obtain ⟨F2, a, ds', hold, rfl, hR, A2, ex, nw, hh, vs, hv⟩ := now_of A1 r1 (R := fun ds hold => R ds hold e1) (by simp [q]; exact h')
      exact Or.inl ⟨a, rfl, ⟨vs, sq_of hv⟩, k _ _ e1 F2 H1 _ hR A2 (it_list nw) hh⟩
    · exact h'.elim
end
@[simp] def mLs (m : DM) : DMI := fun env R => m env fun x e1 => lsOf x e1 fun ds hold => R ds hold e1
@[simp] def mEnum (m : DM) : DMI := fun env R => mLs m env fun ds hold e1 => R (enumD 0 ds) hold e1
@[simp] def mZip (m n : DM) : DMI := fun env R => mLs m env fun ds hold e1 => mLs n e1 fun es hold' e2 => holdE hold e2 ∧ R (zipD ds es) (hold ++ hold') e2
@[simp] def rangeD (lo : Int) (n : Nat) : List D := (List.range n).map fun (i : Nat) => .int (lo + (i : Int))
@[irreducible] def Fits62 (n : Int) : Prop := -(2 ^ 62) ≤ n ∧ n < 2 ^ 62
theorem fits62 {n : Int} (h : -4611686018427387904 ≤ n) (k : n < 4611686018427387904) : Fits62 n := by unfold Fits62; exact ⟨h, k⟩
theorem Fits62.lo {n : Int} (h : Fits62 n) : -(2 ^ 62) ≤ n := by unfold Fits62 at h; exact h.1
theorem Fits62.hi {n : Int} (h : Fits62 n) : n < 2 ^ 62 := by unfold Fits62 at h; exact h.2
@[simp] def mRange1 (m : DM) : DMI := fun env R => m env fun x e1 => x.con e1 fun d => match d with
  | .int n => Fits62 n ∧ R (rangeD 0 n.toNat) [] e1
  | _ => False
@[simp] def mRange2 (m1 m2 : DM) : DMI := fun env R => m1 env fun x e1 => m2 e1 fun y e2 => x.con e2 fun d => y.con e2 fun d' => match d, d' with
  | .int i, .int j => Fits62 i ∧ Fits62 j ∧ R (rangeD i (j - i).toNat) [] e2
  | _, _ => False
theorem holdE_app : ∀ {a b : Holds} {env : List Slot}, holdE (a ++ b) env ↔ holdE a env ∧ holdE b env
  | [], b, env => by simp
  | (i, l) :: a, b, env => by
    show _ ∧ holdE (a ++ b) env ↔ (_ ∧ holdE a env) ∧ holdE b env
    rw [holdE_app]
    exact and_assoc.symm
section
variable {X : Cx} {e f : Expr} {p pos tpos : Pos} {elts : List Expr} {kk : Nat} {tg : Expr}
theorem di_enum {m : DM} (hg : Gl X "enumerate") (hm : X.mg "enumerate" = none) (h : DE X e m) (hs : starEach [e] X.env = [(false, eval e X.env)] := by rfl) (hs' : starEach [e] X.env = (false, eval e X.env) :: starEach [] X.env := by rfl) : DI X (.Tuple elts kk tpos) (.Call (.Name "enumerate" p) [e] [] pos) (mEnum m) := by
  obtain ⟨t, q, ev⟩ := h
  refine ⟨_, pi_enum hg hm (pa_cons q pa_nil hs') hs, ?_⟩
  intro C F env σ H R Q I h k
  refine ev C F env σ H _ _ I h ?_
  intro x e1 F1 v H1 h1 A1 r1
  obtain ⟨F2, a, ds, hold, rfl, hR, A2, ex, nw, hh, vs, hv⟩ := now_of A1 r1 (R := fun ds hold => R (enumD 0 ds) hold e1) h1
  exact ⟨a, vs, rfl, sq_of hv, k _ _ e1 F2 H1 _ hR A2 (it_enum nw) hh⟩
theorem di_zip {m n : DM} (hg : Gl X "zip") (hm : X.mg "zip" = none) (h : DE X e m) (h2 : DE X f n) (hs : starEach [e, f] X.env = (false, eval e X.env) :: starEach [f] X.env := by rfl) (hs2 : starEach [f] X.env = (false, eval f X.env) :: starEach [] X.env := by rfl) (hpl : (backTo pos (starEach [f] X.env)).any (·.1) = false := by rfl) :
    DI X (.Tuple elts kk tpos) (.Call (.Name "zip" p) [e, f] [] pos) (mZip m n) := by
  obtain ⟨t, q, ev⟩ := h
  obtain ⟨u, q2, ev2⟩ := h2
  refine ⟨_, pi_zip hg hm (pa_cons q (pa_cons q2 pa_nil hs2) hs) hs hpl, ?_⟩
  intro C F env σ H R Q I h k
  refine ev C F env σ H _ _ I h ?_
  intro x e1 F1 v H1 h1 A1 r1
  obtain ⟨F2, a, ds, hold, rfl, hR, A2, ex, nw, hh, vs, hv⟩ := now_of A1 r1 (R := fun ds hold => mLs n e1 fun es hold' e2 => holdE hold e2 ∧ R (zipD ds es) (hold ++ hold') e2) h1
  refine ev2 C F2 e1 σ H1 _ _ A2.ok hR ?_
  intro y e2 F3 w H3 h3 A3 r3
  obtain ⟨F4, b, es, hold', rfl, hR2, A4, ex4, nw2, hh2, ws, hw⟩ := now_of A3 r3 (R := fun es hold' => holdE hold e2 ∧ R (zipD ds es) (hold ++ hold') e2) h3
  obtain ⟨vs3, hz, _⟩ := nw F4 e2 σ H3 A4.ok (A4.ex) hR2.1 (fun _ _ => rfl)
  refine ⟨a, b, _, ws, rfl, hz, sq_of hw, k _ _ e2 F4 H3 _ hR2.2 (A2.trans A4) ?_ (holdE_app.mpr ⟨hR2.1, hh2⟩)⟩
  refine it_zip (fun F env σ' H I x hh ss => ?_) (fun F env σ' H I x hh ss => ?_)
  · exact nw F env σ' H I (A4.ex.trans x) (holdE_app.mp hh).1 fun p m => ss p (List.mem_append_left _ m)
  · exact nw2 F env σ' H I x (holdE_app.mp hh).2 fun p m => ss p (List.mem_append_right _ m)
theorem it_range {K : PySem.W.Frag} {C : Ct} {F0 : Hp} {σ0 : L2.St} {lo : Int} {n : Nat} : IterOk K C F0 σ0 (Itr lo n) (rangeD lo n) [] := by
  intro i F env σ H I _ _ _
  have hl : (rangeD lo n).length = n := by simp
  rw [hl]
  refine ⟨fun hi => ⟨hi, fun x H' y => ?_⟩, fun hi => hi⟩
  obtain ⟨rfl, rfl⟩ := y
  exact ⟨F, .int (lo + (i : Int)), by simp [hi], I.aft, Rep.int _⟩
theorem di_range1 {m : DM} (hg : Gl X "range") (hm : X.mg "range" = none) (h : DE X e m) (hs : starEach [e] X.env = [(false, eval e X.env)] := by rfl) (hs' : starEach [e] X.env = (false, eval e X.env) :: starEach [] X.env := by rfl) : DI X tg (.Call (.Name "range" p) [e] [] pos) (mRange1 m) := by
  obtain ⟨t, q, ev⟩ := h
  refine ⟨_, pi_range1 hg hm (pa_cons q pa_nil hs') hs, ?_⟩
  intro C F env σ H R Q I h k
  refine ev C F env σ H _ _ I h ?_
  intro x e1 F1 v H1 h1 A1 r1
  obtain ⟨d, h3, s1⟩ := A1.ok.see r1 h1
  cases d with
  | int n =>
    refine ⟨n, by rw [s1.int], h3.1.lo, h3.1.hi, k _ [] e1 F1 H1 _ h3.2 A1 it_range trivial⟩
  | _ => exact h3.elim
theorem di_range2 {m n : DM} (hg : Gl X "range") (hm : X.mg "range" = none) (h : DE X e m) (h2 : DE X f n) (hs : starEach [e, f] X.env = [(false, eval e X.env), (false, eval f X.env)] := by rfl) (hs2 : starEach [f] X.env = [(false, eval f X.env)] := by rfl) (hs1' : starEach [e, f] X.env = (false, eval e X.env) :: starEach [f] X.env := by rfl) (hs2' : starEach [f] X.env = (false, eval f X.env) :: starEach [] X.env := by rfl) : DI X tg (.Call (.Name "range" p) [e, f] [] pos) (mRange2 m n) := by
  obtain ⟨t, q, ev⟩ := h
  obtain ⟨u, q2, ev2⟩ := h2
  refine ⟨_, pi_range2 hg hm (pa_cons q (pa_cons q2 pa_nil hs2') hs1') hs hs2, ?_⟩
  intro C F env σ H R Q I h k
  refine ev C F env σ H _ _ I h ?_
  intro x e1 F1 v H1 h1 A1 r1
  refine ev2 C F1 e1 σ H1 _ _ A1.ok h1 ?_
  intro y e2 F2 w H2 h2 A2 r2
  obtain ⟨d, h3, s1⟩ := A2.ok.see (r1.on A2) h2
  obtain ⟨d', h4, s2⟩ := A2.ok.see r2 h3
  have A := A1.trans A2
  cases d with
  | int i =>
    cases d' with
    | int j => exact ⟨i, j, by rw [s1.int, s2.int], ⟨h4.1.lo, h4.1.hi, h4.2.1.lo, h4.2.1.hi⟩, k _ [] e2 F2 H2 _ h4.2.2 A it_range trivial⟩
    | _ => exact h4.elim
  | _ => exact h4.elim
end
end DL

set_option Elab.async false
set_option linter.all false
set_option maxRecDepth 100000
set_option maxHeartbeats 4000000
set_option autoImplicit false
/-! DL7: for, while, comprehensions over data. -/
namespace DL
open PySem PySem.Spec L2 Evl PyProof.Rows

/-! ### for -/
@[simp] def forW (hold : Holds) (g : DTg) (mb : DStm) (P : Post) : List D → List Slot → Prop
  | [], env => pinE hold env ∧ P.nx env
  | x :: xs, env => pinE hold env ∧ g x env fun e => mb { P with nx := fun e => forW hold g mb P xs e, ct := fun e => forW hold g mb P xs e, bk := P.nx } e
@[irreducible] def forI (hold : Holds) (g : DTg) (mb : DStm) (P : Post) (items : List D) (env : List Slot) : Prop := forW hold g mb P items env
theorem forI_iff {hold : Holds} {g : DTg} {mb : DStm} {P : Post} {items : List D} {env : List Slot} : forI hold g mb P items env ↔ forW hold g mb P items env := by unfold forI; exact Iff.rfl
@[simp] def mFor (mi : DMI) (g : DTg) (mb : DStm) : DStm := fun P env => mi env fun items hold e => forI hold g mb P items e
theorem Ok.rebase {K : PySem.W.Frag} {C : Ct} {F1 F H H1 : Hp} {e1 env : List Slot} {σ1 σ : L2.St} (h1 : Ok K C F1 e1 σ1 H1) (h : Ok K C F env σ H) (x : Ex F1 F) : Ok K { C with F0 := F1 } F env σ H where
  len := h.len
  sub := h.sub
  keep := h.keep
  all := h.all
  new := fun a e z => h.new a e (by
    cases q : C.F0 a with
    | none => rfl
    | some o =>
      have z' : F1 a = none := z
      rw [h1.bas a o q] at z'; cases z')
  bas := x
  vals := h.vals
  owns := h.owns
  sep := h.sep
  pins := h.pins
theorem Ok.unbase {K : PySem.W.Frag} {C : Ct} {F1 F H H1 : Hp} {e1 env : List Slot} {σ1 σ : L2.St} (h1 : Ok K C F1 e1 σ1 H1) (h : Ok K { C with F0 := F1 } F env σ H) : Ok K C F env σ H where
  len := h.len
  sub := h.sub
  keep := h.keep
  all := h.all
  new := fun a e z => h.new a e (h1.new a e z)
  bas := h1.bas.trans h.bas
  vals := h.vals
  owns := h.owns
  sep := h.sep
  pins := h.pins
section
variable {X : Cx} {pos : Pos}
theorem forW_pin {hold : Holds} {g : DTg} {mb : DStm} {P : Post} {items : List D} {env : List Slot} (h : forW hold g mb P items env) : pinE hold env := by
  cases items <;> exact h.1
theorem ds_for {tg iter : Expr} {body : List Stmt} {js : List Nat} {mi : DMI} {g : DTg} {mb : DStm} (hp : PassesOwn (model X.prog X.w) X.A X.env X.xe) (hc : X.calm = true) (hi : DI X tg iter mi) (hg : DG X tg js g) (hb : DB X body mb)
    (hs : ∀ x, foldedSetIterable iter X.env x = pure x := by intro _; rfl) : DS X (.For tg iter body [] pos) (mFor mi g mb) := by
  obtain ⟨wi, pi, ei⟩ := hi
  obtain ⟨tg', pg, eg⟩ := hg
  obtain ⟨tb, pb, eb⟩ := hb
  refine ⟨_, ps_for hp hc pi pg pb hs, ?_⟩
  intro C F env σ H D P I h k
  refine ei C F env σ H _ _ I h ?_
  intro items hold e1 F1 H1 J h1 A1 io hh
  rw [forI_iff] at h1
  have pin0 := forW_pin h1
  -- the pinned slots stay where they are
  have agree : ∀ F e σ' H, Ok X.K C F e σ' H → pinE hold e → ∀ p ∈ hold, σ'[p.1]? = σ[p.1]? := fun F e σ' H I' q p m => by
    obtain ⟨a, o, g1, _, _, _, _, g6⟩ := I'.owns p.1 true _ (pinE.get q p m)
    obtain ⟨a', o', g1', _, _, _, _, g6'⟩ := A1.ok.owns p.1 true _ (pinE.get pin0 p m)
    have := (g6 rfl).1.symm.trans (g6' rfl).1
    rw [g1, g1']; cases this; rfl
  refine ⟨fun i m σ' H' => m = items.length - i ∧ i ≤ items.length ∧ ∃ F e, Ok X.K C F e σ' H' ∧ Ex F1 F ∧ forW hold g mb P (items.drop i) e, ⟨items.length, by simp, Nat.zero_le _, F1, e1, A1.ok, Ex.refl _, by simpa using h1⟩, ?_⟩
  rintro i m σ' H' ⟨rfl, hi', F2, e2, I2, x2, w2⟩
  have io2 := io i F2 e2 σ' H' I2 x2 (forW_pin w2).hold (agree F2 e2 σ' H' I2 (forW_pin w2))
  by_cases hlt : i < items.length
  · refine Or.inr ⟨(io2.1 hlt).1, fun σ'' H'' => ∃ F e, Ok X.K C F e σ'' H'' ∧ Ex F1 F ∧ forW hold g mb P (items.drop (i + 1)) e, fun σ'' H'' q => ⟨items.length - (i + 1), by omega, rfl, hlt, q⟩, fun x H3 y => ?_⟩
    obtain ⟨F3, d, hd, A3, rp⟩ := (io2.1 hlt).2 x H3 y
    have hdr : items.drop i = d :: items.drop (i + 1) := by
      rw [List.drop_eq_getElem_cons hlt]
      rw [List.getElem?_eq_getElem hlt] at hd
      cases hd; rfl
    rw [hdr] at w2
    refine eg C F3 e2 σ' H3 _ _ _ _ A3.ok rp w2.2 ?_
    intro e4 σ4 h4 I4 k4
    have I4' := A1.ok.rebase I4 (x2.trans A3.ex)
    have back : ∀ F e σ5 H5, Ok X.K { C with F0 := F1 } F e σ5 H5 → forW hold g mb P (items.drop (i + 1)) e → ∃ F e, Ok X.K C F e σ5 H5 ∧ Ex F1 F ∧ forW hold g mb P (items.drop (i + 1)) e :=
      fun F e σ5 H5 I5 q => ⟨F, e, A1.ok.unbase I5, I5.bas, q⟩
    exact eb { C with F0 := F1 } F3 e4 σ4 H3 _ _ I4' h4 ⟨fun F e σ5 H5 I5 q => back F e σ5 H5 I5 q, fun F e σ5 H5 I5 q => k.nx F e σ5 H5 (A1.ok.unbase I5) q, fun F e σ5 H5 I5 q => back F e σ5 H5 I5 q,
      fun F e σ5 H5 v r I5 ro q => k.rt F e σ5 H5 v r (A1.ok.unbase I5) (by cases r <;> exact ro) q,
      fun F e σ5 H5 v x y I5 ro q => k.r2 F e σ5 H5 v x y (A1.ok.unbase I5) (by obtain ⟨T, u, w, a, b, c, d, e⟩ := ro; exact ⟨T, u, w, a, b, by cases x <;> exact c, by cases y <;> exact d, e⟩) q⟩
  · have e : i = items.length := by omega
    subst e
    rw [List.drop_length] at w2
    exact Or.inl ⟨io2.2 (Nat.le_refl _), k.nx F2 e2 σ' H' I2 w2.2⟩

/-! ### while -/
@[simp] def whN (t : DMB) (mb : DStm) : Nat → Post → List Slot → Prop
  | 0, _, _ => False
  | n + 1, P, env => t env fun b e => if b = true then mb { P with nx := fun e => whN t mb n P e, ct := fun e => whN t mb n P e, bk := P.nx } e else P.nx e
@[irreducible] def mWhile (t : DMB) (mb : DStm) (P : Post) (env : List Slot) : Prop := ∃ n, whN t mb n P env
theorem mWhile_iff {t : DMB} {mb : DStm} {P : Post} {env : List Slot} : mWhile t mb P env ↔ ∃ n, whN t mb n P env := by unfold mWhile; exact Iff.rfl
theorem ds_while {c : Expr} {body : List Stmt} {t : DMB} {mb : DStm} (hp : PassesOwn (model X.prog X.w) X.A X.env X.xe) (hc : DT X c t) (hb : DB X body mb) : DS X (.While c body [] pos) (mWhile t mb) := by
  obtain ⟨tc, pc, ec⟩ := hc
  obtain ⟨tb, pb, eb⟩ := hb
  refine ⟨_, ps_while hp pc pb, ?_⟩
  intro C F env σ H D P I h k
  obtain ⟨n, hn⟩ := mWhile_iff.mp h
  refine ⟨fun m σ' H' => ∃ F e, Ok X.K C F e σ' H' ∧ whN t mb m P e, ⟨n, F, env, I, hn⟩, ?_⟩
  rintro m σ' H' ⟨F1, e1, I1, w1⟩
  cases m with
  | zero => exact w1.elim
  | succ m =>
    refine ec C F1 e1 σ' H' _ _ I1 w1 ?_
    intro b e2 F2 H2 h2 A2
    cases b with
    | true =>
      have h2' : mb { P with nx := fun e => whN t mb m P e, ct := fun e => whN t mb m P e, bk := P.nx } e2 := by simpa using h2
      refine ⟨fun σ'' H'' => ∃ F e, Ok X.K C F e σ'' H'' ∧ whN t mb m P e, fun σ'' H'' q => ⟨m, Nat.lt_succ_self m, q⟩, ?_⟩
      exact eb C F2 e2 σ' H2 _ _ A2.ok h2' ⟨fun F e σ5 H5 I5 q => ⟨F, e, I5, q⟩, fun F e σ5 H5 I5 q => k.nx F e σ5 H5 I5 q, fun F e σ5 H5 I5 q => ⟨F, e, I5, q⟩, k.rt, k.r2⟩
    | false =>
      have h2' : P.nx e2 := by simpa using h2
      exact k.nx F2 e2 σ' H2 A2.ok h2'
end

/-! ### comprehensions -/
@[simp] def wipeE (env : List Slot) : List Nat → List Slot
  | [] => env
  | v :: vs => (wipeE env vs).set v .no
@[simp] def unwipe (env e : List Slot) : List Nat → List Slot
  | [] => e
  | v :: vs => (unwipe env e vs).set v (env.getD v .no)
@[simp] def noOwn (env : List Slot) (vs : List Nat) : Bool := vs.all fun v => !isOwn env v
@[simp] def compW (hold : Holds) (g : DTg) (tt : DMB) (me : DM) (vs : List Nat) : List D → List D → List Slot → (List D → List Slot → Prop) → Prop
  | [], acc, env, R => holdE hold env ∧ R acc env
  | x :: xs, acc, env, R => holdE hold env ∧ g x (wipeE env vs) fun e => tt e fun b e2 => if b = true then me e2 fun y e3 => y.get e3 fun d => acc.length < 100000 ∧ compW hold g tt me vs xs (acc ++ [d]) (unwipe env e3 vs) R else compW hold g tt me vs xs acc (unwipe env e2 vs) R
@[irreducible] def compI (hold : Holds) (g : DTg) (tt : DMB) (me : DM) (vs : List Nat) (items acc : List D) (env : List Slot) (R : List D → List Slot → Prop) : Prop := compW hold g tt me vs items acc env R
theorem compI_iff {hold : Holds} {g : DTg} {tt : DMB} {me : DM} {vs : List Nat} {items acc : List D} {env : List Slot} {R : List D → List Slot → Prop} : compI hold g tt me vs items acc env R ↔ compW hold g tt me vs items acc env R := by unfold compI; exact Iff.rfl
@[simp] def mLc (mi : DMI) (g : DTg) (tt : DMB) (me : DM) (vs : List Nat) : DM := fun env R => mi env fun items hold e => noOwn e vs = true ∧ compI hold g tt me vs items [] e fun ds e' => R (.tm (.lst ds)) e'
theorem wipeE_length (env : List Slot) : ∀ vs : List Nat, (wipeE env vs).length = env.length
  | [] => rfl
  | v :: vs => by simp [wipeE_length env vs]
theorem unwipe_length (env e : List Slot) : ∀ vs : List Nat, (unwipe env e vs).length = e.length
  | [] => rfl
  | v :: vs => by simp [unwipe_length env e vs]
theorem wipeE_get {env : List Slot} : ∀ {vs : List Nat} {i : Nat} {s : Slot}, s ≠ .no → ((wipeE env vs)[i]? = some s ↔ env[i]? = some s ∧ i ∉ vs)
  | [], i, s, _ => by simp
  | v :: vs, i, s, ns => by
    show ((wipeE env vs).set v .no)[i]? = some s ↔ _
    by_cases q : v = i
    · subst q
      rw [List.getElem?_set]
      simp only [if_true]
      constructor
      · intro e
        split at e
        · cases e; exact absurd rfl ns
        · cases e
      · rintro ⟨_, n⟩; exact absurd (List.mem_cons_self) n
    · rw [List.getElem?_set_ne q, wipeE_get ns]
      simp [fun z => q (Eq.symm z)]
      intro _ _ z
      exact q z.symm
theorem unwipe_get {env e : List Slot} (hl : env.length = e.length) : ∀ {vs : List Nat} {i : Nat}, (unwipe env e vs)[i]? = if i ∈ vs then env[i]? else e[i]?
  | [], i => by simp
  | v :: vs, i => by
    show ((unwipe env e vs).set v (env.getD v .no))[i]? = _
    by_cases q : v = i
    · subst q
      rw [List.getElem?_set]
      simp only [if_true, List.mem_cons_self]
      rw [unwipe_length]
      split
      · rename_i h
        have h' : v < env.length := by omega
        simp [h']
      · rename_i h
        have h' : env.length ≤ v := by omega
        simp [h']
    · rw [List.getElem?_set_ne q, unwipe_get hl]
      have : (i ∈ v :: vs) ↔ i ∈ vs := by simp [fun z => q (Eq.symm z)]; intro z; exact absurd z.symm q
      simp only [this]
theorem wipe_get {σ : L2.St} : ∀ {vs : List Nat} {i : Nat}, i ∉ vs → (wipe σ vs)[i]? = σ[i]?
  | [], i, _ => rfl
  | v :: vs, i, n => by
    show ((wipe σ vs).set v none)[i]? = _
    rw [List.getElem?_set_ne (fun z => n (by simp [z]))]
    exact wipe_get fun z => n (List.mem_cons_of_mem _ z)
theorem wipe_in {σ : L2.St} : ∀ {vs : List Nat} {i : Nat}, i ∈ vs → i < σ.length → (wipe σ vs)[i]? = some none
  | v :: vs, i, m, h => by
    show ((wipe σ vs).set v none)[i]? = _
    by_cases q : v = i
    · subst q
      rw [List.getElem?_set_self (by rw [wipe_length]; exact h)]
    · rw [List.getElem?_set_ne q]
      exact wipe_in ((List.mem_cons.mp m).resolve_left fun z => q z.symm) h
theorem wipe_same {σ σ2 : L2.St} {vs : List Nat} (hl : σ2.length = σ.length) (h : ∀ i, i ∉ vs → σ2[i]? = σ[i]?) : wipe σ2 vs = wipe σ vs := by
  apply List.ext_getElem?
  intro i
  by_cases q : i ∈ vs
  · by_cases l : i < σ.length
    · rw [wipe_in q l, wipe_in q (by omega)]
    · rw [List.getElem?_eq_none (by rw [wipe_length]; omega), List.getElem?_eq_none (by rw [wipe_length]; omega)]
  · rw [wipe_get q, wipe_get q]; exact h i q
section
variable {K : PySem.W.Frag} {C : Ct} {F F' H H' : Hp} {env e : List Slot} {σ σ2 : L2.St} {vs : List Nat}
theorem noOwn_no (h : noOwn env vs = true) {i : Nat} {b : Bool} {d : D} (e : env[i]? = some (.own b d)) : i ∉ vs := fun m => by
  have := List.all_eq_true.mp h i m
  simp [e] at this
theorem Ok.wiped (h : Ok K C F env σ H) (n : noOwn env vs = true) : Ok K C F (wipeE env vs) (wipe σ vs) H where
  len := by rw [wipe_length, wipeE_length]; exact h.len
  sub := h.sub
  keep := h.keep
  all := h.all
  new := h.new
  bas := h.bas
  vals := fun i d q => by
    obtain ⟨q1, q2⟩ := (wipeE_get (by simp)).mp q
    rw [wipe_get q2]; exact h.vals i d q1
  owns := fun i b d q => by
    obtain ⟨q1, q2⟩ := (wipeE_get (by simp)).mp q
    rw [wipe_get q2]; exact h.owns i b d q1
  sep := fun i j p ⟨b, d, e1, s1⟩ ⟨b2, d2, e2, s2⟩ => by
    obtain ⟨q1, q2⟩ := (wipeE_get (by simp)).mp e1
    obtain ⟨q3, q4⟩ := (wipeE_get (by simp)).mp e2
    rw [wipe_get q2] at s1
    rw [wipe_get q4] at s2
    exact h.sep i j p ⟨b, d, q1, s1⟩ ⟨b2, d2, q3, s2⟩
  pins := fun i q => by
    obtain ⟨d, e⟩ := h.pins i q
    exact ⟨d, (wipeE_get (by simp)).mpr ⟨e, noOwn_no n e⟩⟩
structure Block (env e : List Slot) (σ σ2 : L2.St) (vs : List Nat) : Prop where
  len : σ2.length = σ.length
  st : ∀ i, i ∉ vs → σ2[i]? = σ[i]?
  own : ∀ (i : Nat) (b : Bool) (d : D), e[i]? = some (.own b d) → ∃ d', env[i]? = some (.own b d') ∧ i ∉ vs
theorem Block.owns (B : Block env e σ σ2 vs) {i : Nat} {p : Addr} (h : Owns e σ2 i p) : Owns env σ i p := by
  obtain ⟨b, d, h1, h2⟩ := h
  obtain ⟨d', h3, h4⟩ := B.own i b d h1
  exact ⟨b, d', h3, by rw [← B.st i h4]; exact h2⟩
theorem Block.sub (B : Block env e σ σ2 vs) {e' : List Slot} (s : Sub e e') : Block env e' σ σ2 vs := ⟨B.len, B.st, fun i b d h => by
  obtain ⟨d', h'⟩ := s i b d h
  exact B.own i b d' h'⟩
theorem Ok.unwiped (h0 : Ok K C F env σ H) (n : noOwn env vs = true) (h : Ok K C F' e σ2 H') (x : Ex F F') (B : Block env e σ σ2 vs) : Ok K C F' (unwipe env e vs) σ H' := by
  have hl : env.length = e.length := by rw [← h0.len, ← h.len]; exact B.len.symm
  have og : ∀ (i : Nat) (b : Bool) (d : D), (unwipe env e vs)[i]? = some (.own b d) → e[i]? = some (.own b d) ∧ i ∉ vs := fun i b d q => by
    rw [unwipe_get hl] at q
    split at q
    · rename_i m; exact absurd m (noOwn_no n q)
    · rename_i m; exact ⟨q, m⟩
  exact {
    len := by rw [unwipe_length, ← hl]; exact h0.len
    sub := h.sub, keep := h.keep, all := h.all, new := h.new, bas := h.bas
    vals := fun i d q => by
      rw [unwipe_get hl] at q
      split at q
      · obtain ⟨v, h1, h2⟩ := h0.vals i d q
        exact ⟨v, h1, h2.mono x⟩
      · rename_i m
        rw [← B.st i m]; exact h.vals i d q
    owns := fun i b d q => by
      obtain ⟨q1, q2⟩ := og i b d q
      rw [← B.st i q2]; exact h.owns i b d q1
    sep := fun i j p ⟨b, d, e1, s1⟩ ⟨b2, d2, e2, s2⟩ => by
      obtain ⟨q1, q2⟩ := og i b d e1
      obtain ⟨q3, q4⟩ := og j b2 d2 e2
      exact h.sep i j p ⟨b, d, q1, by rw [B.st i q2]; exact s1⟩ ⟨b2, d2, q3, by rw [B.st j q4]; exact s2⟩
    pins := fun i q => by
      obtain ⟨d, z⟩ := h.pins i q
      obtain ⟨_, _, z2⟩ := B.own i true d z
      exact ⟨d, by rw [unwipe_get hl, if_neg z2]; exact z⟩ }
theorem Aft.unwiped {F1 H1 : Hp} (h0 : Ok K C F env σ H) (n : noOwn env vs = true) (B : Block env e σ σ2 vs) {e' : List Slot} (A : Aft K C F e σ2 H F1 e' H1) : Aft K C F env σ H F1 (unwipe env e' vs) H1 := by
  have B' := B.sub A.le
  have hl : env.length = e'.length := by rw [← h0.len, ← A.ok.len]; exact B.len.symm
  exact {
    ok := h0.unwiped n A.ok A.ex B'
    ex := A.ex
    fr := fun a o q u => A.fr a o q fun i z => u i (B.owns z)
    nw := fun a q z u => A.nw a q z fun i w => u i (B.owns w)
    al := A.al
    le := fun i b d q => by
      rw [unwipe_get hl] at q
      split at q
      · exact ⟨d, q⟩
      · obtain ⟨d', z, _⟩ := B'.own i b d q
        exact ⟨d', z⟩ }
theorem noOwn_unwipe (hl : env.length = e.length) (n : noOwn env vs = true) : noOwn (unwipe env e vs) vs = true := by
  apply List.all_eq_true.mpr
  intro v m
  have := List.all_eq_true.mp n v m
  simp only [isOwn] at this ⊢
  rw [unwipe_get hl, if_pos m]
  exact this
theorem holdE_unwipe_of {hold : Holds} : True := trivial
theorem Aft.poke {F1 H1 : Hp} {p : Addr} {u : HO} (o : HO) (A : Aft K C F env σ H F1 e H1) (hp : H1 p = some u) (hF : F1 p = none) (hG : C.G p = none) (hn : ∀ i, ¬ Owns env σ i p) (h0 : H p = none) : Aft K C F env σ H F1 e (upd H1 p o) where
  ok := {
    len := A.ok.len
    sub := fun a w q => by rw [upd_ne (ne_of_none q hF)]; exact A.ok.sub a w q
    keep := fun a w q z => by rw [upd_ne (ne_of_none q hG)]; exact A.ok.keep a w q z
    all := fun a q => by
      by_cases z : a = p
      · subst z; rw [upd_same]; exact fun w => nomatch w
      · rw [upd_ne z]; exact A.ok.all a q
    new := A.ok.new, bas := A.ok.bas, vals := A.ok.vals
    owns := fun i b d q => by
      obtain ⟨p2, o2, g1, g2, g3⟩ := A.ok.owns i b d q
      refine ⟨p2, o2, g1, ?_, g3⟩
      rw [upd_ne]
      · exact g2
      · rintro rfl
        exact hn i (A.le.owns ⟨b, d, q, g1⟩)
    sep := A.ok.sep, pins := A.ok.pins }
  ex := A.ex
  fr := fun a w q z => by rw [upd_ne (ne_of_none q h0)]; exact A.fr a w q z
  nw := A.nw
  al := fun a q => by
    by_cases z : a = p
    · subst z; rw [upd_same]; exact fun w => nomatch w
    · rw [upd_ne z]; exact A.al a q
  le := A.le
end
theorem compW_hold {hold : Holds} {g : DTg} {tt : DMB} {me : DM} {vs : List Nat} {items acc : List D} {env : List Slot} {R : List D → List Slot → Prop} (h : compW hold g tt me vs items acc env R) : holdE hold env := by
  cases items <;> exact h.1
theorem evd_lc {K : PySem.W.Frag} {mi : DMI} {g : DTg} {tt : DMB} {me : DM} {js vs : List Nat} {wi : TI} {tg : TG} {ti : TT} {te : TE} (ei : EvI K mi wi) (eg : EvG K js g tg) (et : EvB K tt ti) (ee : EvD K me te) (hj : ∀ i ∈ js, i ∈ vs) :
    EvD K (mLc mi g tt me vs) (tLc wi tg ti te vs) := by
  intro C F env σ H R Q I h k
  refine ei C F env σ H _ _ I h ?_
  intro items hold e1 F1 H1 J h1 A1 io hh
  intro p hp
  obtain ⟨n1, w1⟩ := h1
  rw [compI_iff] at w1
  refine ⟨fun i m H' => m = items.length - i ∧ i ≤ items.length ∧ ∃ F2 e acc vacc, Aft K C F1 e1 σ H1 F2 e H' ∧ H' p = some (.lst vacc) ∧ RepL K F2 vacc acc ∧ F2 p = none ∧ noOwn e vs = true ∧
    compW hold g tt me vs (items.drop i) acc e (fun ds e' => R (.tm (.lst ds)) e'), ⟨items.length, by simp, Nat.zero_le _, F1, e1, [], [], A1.ok.tmp hp _, upd_same, .nil, A1.ok.fnone hp, n1, by simpa using w1⟩, ?_⟩
  have hG : C.G p = none := A1.ok.gnone hp
  have hU : ∀ i, ¬ Owns e1 σ i p := A1.ok.unowned hp
  rintro i m H2 ⟨rfl, hi, F2, e2, acc, vacc, A2, hv, ra, hF, n2, w2⟩
  have io2 := io i F2 e2 σ H2 A2.ok A2.ex (compW_hold w2) (fun _ _ => rfl)
  by_cases hlt : i < items.length
  · refine Or.inr ⟨(io2.1 hlt).1, fun H' => ∃ F2 e acc vacc, Aft K C F1 e1 σ H1 F2 e H' ∧ H' p = some (.lst vacc) ∧ RepL K F2 vacc acc ∧ F2 p = none ∧ noOwn e vs = true ∧
      compW hold g tt me vs (items.drop (i + 1)) acc e (fun ds e' => R (.tm (.lst ds)) e'), fun H' q => ⟨items.length - (i + 1), by omega, rfl, hlt, q⟩, fun x H3 y => ?_⟩
    obtain ⟨F3, d, hd, A3, rp⟩ := (io2.1 hlt).2 x H3 y
    have hdr : items.drop i = d :: items.drop (i + 1) := by
      rw [List.drop_eq_getElem_cons hlt]
      rw [List.getElem?_eq_getElem hlt] at hd
      cases hd; rfl
    rw [hdr] at w2
    have A13 := A2.trans A3
    refine eg C F3 (wipeE e2 vs) (wipe σ vs) H3 _ _ _ _ (A3.ok.wiped n2) rp w2.2 ?_
    intro e4 σ4 h4 I4 k4
    have B4 : Block e2 e4 σ σ4 vs := ⟨by rw [k4.1, wipe_length], fun i q => (k4.2.1 i fun z => q (hj i z)).trans (wipe_get q), fun i b d q => by
      obtain ⟨q1, q2⟩ := (wipeE_get (by simp)).mp (k4.2.2 i b d q)
      exact ⟨d, q1, q2⟩⟩
    refine ⟨wipe_same B4.len B4.st |>.trans rfl, ?_⟩
    refine et C F3 e4 σ4 H3 _ _ I4 h4 ?_
    intro b e5 F5 H5 h5 A5
    have pU : ∀ {F' e' H'}, Aft K C F1 e1 σ H1 F' e' H' → ∀ i, ¬ Owns e' σ i p := fun A i q => hU i (A.le.owns q)
    have hl : ∀ {F' e' H'}, Aft K C F3 e4 σ4 H3 F' e' H' → e2.length = e'.length := fun {F' e' H'} A => by
      rw [← A2.ok.len, ← A.ok.len]; exact B4.len.symm
    -- the new list stays through the turn
    have stay : ∀ {F' e' H'}, Aft K C F3 e4 σ4 H3 F' e' H' → H' p = some (.lst vacc) ∧ F' p = none := fun {F' e' H'} A => by
      have u4 : ∀ i, ¬ Owns e4 σ4 i p := fun i q => pU A2 i (B4.owns q)
      have g3 : H3 p = some (.lst vacc) := A3.fr p _ hv (pU A2)
      have f3 : F3 p = none := A3.nw p (by rw [hv]; exact fun z => nomatch z) hF (pU A2)
      exact ⟨A.fr p _ g3 u4, A.nw p (by rw [g3]; exact fun z => nomatch z) f3 u4⟩
    cases b with
    | true =>
      have h5' : me e5 (fun y e3 => y.get e3 fun d => acc.length < 100000 ∧ compW hold g tt me vs (items.drop (i + 1)) (acc ++ [d]) (unwipe e2 e3 vs) fun ds e' => R (.tm (.lst ds)) e') := by simpa using h5
      rw [if_pos rfl]
      refine ee C F5 e5 σ4 H5 _ _ A5.ok h5' ?_
      intro l e6 F6 v6 H6 h6 A6 r6
      obtain ⟨F7, d7, h7, A7, ex7, rp7⟩ := A6.keepIt r6 h6
      have A57 := A5.trans A7
      obtain ⟨s1, s2⟩ := stay A57
      refine ⟨vacc, s1, by rw [ra.length]; exact sz_lt h7.1, F7, _, acc ++ [d7], vacc ++ [v6], Aft.poke _ (A13.trans (Aft.unwiped A3.ok n2 B4 A57)) s1 s2 hG hU hp, upd_same, ?_, s2, noOwn_unwipe (hl A57) n2, h7.2⟩
      exact (ra.mono (A3.ex.trans A57.ex)).append (.cons rp7 .nil)
    | false =>
      have h5' : compW hold g tt me vs (items.drop (i + 1)) acc (unwipe e2 e5 vs) (fun ds e' => R (.tm (.lst ds)) e') := by simpa using h5
      rw [if_neg Bool.false_ne_true]
      obtain ⟨s1, s2⟩ := stay A5
      exact ⟨F5, _, acc, vacc, A13.trans (Aft.unwiped A3.ok n2 B4 A5), s1, ra.mono (A3.ex.trans A5.ex), s2, noOwn_unwipe (hl A5) n2, h5'⟩
  · have e : i = items.length := by omega
    subst e
    rw [List.drop_length] at w2
    refine Or.inl ⟨io2.2 (Nat.le_refl _), ?_⟩
    exact k _ e2 F2 _ H2 w2.2 (A1.trans A2) ⟨p, _, rfl, hv, ra, hF, hG, fun i q => hU i (A2.le.owns q), A1.back hp⟩
end DL

set_option Elab.async false
set_option linter.all false
set_option maxRecDepth 100000
set_option maxHeartbeats 4000000
set_option autoImplicit false
/-! DL8: readings that hang on the data's reading alone; list comprehensions as expressions and as values given to a name. -/
namespace DL
open PySem PySem.Spec L2 Evl PyProof.Rows

def TD (K : PySem.W.Frag) (m : DM) : TE := fun σ H Q => ∃ C F env R, Ok K C F env σ H ∧ m env R ∧ ∀ l env' F' v H', R l env' → Aft K C F env σ H F' env' H' → RVOk K C F' env' σ H H' v l → Q v H'
def TB (K : PySem.W.Frag) (m : DMB) : TT := fun σ H Q => ∃ C F env R, Ok K C F env σ H ∧ m env R ∧ ∀ b env' F' H', R b env' → Aft K C F env σ H F' env' H' → Q b H'
def TGn (K : PySem.W.Frag) (js : List Nat) (g : DTg) : TG := fun v σ H Q => ∃ C F env d R, Ok K C F env σ H ∧ Rep K F v d ∧ g d env R ∧ ∀ env' σ', R env' → Ok K C F env' σ' H → Keeps js env env' σ σ' → Q σ' H
def TIn (K : PySem.W.Frag) (m : DMI) : TI := fun σ H Q => ∃ C F env R, Ok K C F env σ H ∧ m env R ∧ ∀ items hold env' F' H' J, R items hold env' → Aft K C F env σ H F' env' H' → IterOk K C F' σ J items hold → holdE hold env' → Q J H'
section
variable {K : PySem.W.Frag}
theorem evd_TD {m : DM} : EvD K m (TD K m) := fun C F env σ H R Q I h k => ⟨C, F, env, R, I, h, k⟩
theorem evb_TB {m : DMB} : EvB K m (TB K m) := fun C F env σ H R Q I h k => ⟨C, F, env, R, I, h, k⟩
theorem evg_TG {js : List Nat} {g : DTg} : EvG K js g (TGn K js g) := fun C F env σ H v d R Q I r h k => ⟨C, F, env, d, R, I, r, h, k⟩
theorem evi_TI {m : DMI} : EvI K m (TIn K m) := fun C F env σ H R Q I h k => ⟨C, F, env, R, I, h, k⟩
end
section
variable {X : Cx}
theorem DE.can {e : Expr} {m : DM} (h : DE X e m) : PE X e (TD X.K m) := by
  obtain ⟨t, p, ev⟩ := h
  refine ⟨fun pins s σ H Q I q => ?_⟩
  obtain ⟨C, F, env, R, O, hm, k⟩ := q
  exact p.run pins s σ H Q I (ev C F env σ H R Q O hm k)
theorem DT.can {e : Expr} {m : DMB} (h : DT X e m) : PT X e (TB X.K m) := by
  obtain ⟨t, p, ev⟩ := h
  refine ⟨fun pins s σ H Q I q => ?_⟩
  obtain ⟨C, F, env, R, O, hm, k⟩ := q
  exact p.run pins s σ H Q I (ev C F env σ H R Q O hm k)
theorem DG.can {e : Expr} {js : List Nat} {g : DTg} (h : DG X e js g) : PG X e (TGn X.K js g) := by
  obtain ⟨t, p, ev⟩ := h
  refine ⟨fun pins s σ H v u Q I rv q => ?_⟩
  obtain ⟨C, F, env, d, R, O, r, hm, k⟩ := q
  exact p.run pins s σ H v u Q I rv (ev C F env σ H v d R Q O r hm k)
theorem DI.can {tg e : Expr} {m : DMI} (h : DI X tg e m) : PI X tg e (TIn X.K m) := by
  obtain ⟨t, p, ev⟩ := h
  refine ⟨fun pins s σ H R' I q => ?_⟩
  obtain ⟨C, F, env, R, O, hm, k⟩ := q
  exact p.run pins s σ H R' I (ev C F env σ H R R' O hm k)
def DTs (X : Cx) (ifs : List Expr) (m : DMB) : Prop := PTs X ifs (TB X.K m)
@[simp] def mYes : DMB := fun env R => R true env
theorem dts_nil : DTs X [] mYes := by
  refine ⟨fun pins s σ H Q I q => ?_⟩
  obtain ⟨C, F, env, R, O, hm, k⟩ := q
  exact pts_nil.run pins s σ H Q I (k true env F H hm O.aft)
theorem dts_one {c : Expr} {m : DMB} (h : DT X c m) : DTs X [c] m := pts_one h.can
abbrev Blk (X : Cx) (scope : Scope) (s : Shared) (H : Hp) (C : Addr) (cl : List (Str × Addr)) (fp : List Addr) : Cx := X.blk s H scope (compEnvC scope cl C X.env) fp
variable {elt tg iter : Expr} {ifs : List Expr} {scope : Scope} {own : List (Str × Nat)} {pos spos py : Pos} {mi : DMI} {js : List Nat} {g : DTg} {tt : DMB} {me : DM}
theorem dlc (own : List (Str × Nat)) (hc : X.calm = true) (hN : X.N.Nodup) (ok : BlkOk X.N X.env.scope scope own) (hi : DI X tg iter mi)
    (hg : ∀ s H C cl fp, DG (Blk X scope s H C cl fp) tg js g) (ht : ∀ s H C cl fp, DTs (Blk X scope s H C cl fp) ifs tt) (he : ∀ s H C cl fp, DE (Blk X scope s H C cl fp) elt me)
    (hj : ∀ i ∈ js, i ∈ own.map (·.2) := by decide) (hs : ∀ x, foldedSetIterable iter X.env x = pure x := by intro _; rfl) :
    DE X (.ListComp elt [⟨tg, iter, ifs, 0⟩] scope pos) (mLc mi g tt me (own.map (·.2))) :=
  ⟨_, pe_lc (tt := TB X.K tt) hc hN hi.can ok (fun s H C cl fp => (hg s H C cl fp).can) (fun s H C cl fp => ht s H C cl fp) (fun s H C cl fp => (he s H C cl fp).can) hs, evd_lc evi_TI evg_TG evb_TB evd_TD hj⟩
theorem ps_lcTo {i : Nat} {y : Str} (own : List (Str × Nat)) (hc : X.calm = true) (hN : X.N.Nodup) (hy : X.N[i]? = some y) (hyl : X.env.scope.names.lookup y = some .local)
    (hsw : swapsWith (.ListComp elt [⟨tg, iter, ifs, 0⟩] scope pos) (some (.Name y py)) spos.line X.env = pure true) (ok : BlkOk X.N X.env.scope scope own) (hi : DI X tg iter mi)
    (hg : ∀ s H C cl fp, DG (Blk X scope s H C cl fp) tg js g) (ht : ∀ s H C cl fp, DTs (Blk X scope s H C cl fp) ifs tt) (he : ∀ s H C cl fp, DE (Blk X scope s H C cl fp) elt me)
    (hs : ∀ x, foldedSetIterable iter X.env x = pure x := by intro _; rfl) :
    PS X (.Assign [.Name y py] (.ListComp elt [⟨tg, iter, ifs, 0⟩] scope pos) spos) (tAsg (tLc (TIn X.K mi) (TGn X.K js g) (TB X.K tt) (TD X.K me) (own.map (·.2))) (gName i)) :=
  ps_setLc (tt := TB X.K tt) hc hN hy hyl hsw hi.can ok (fun s H C cl fp => (hg s H C cl fp).can) (fun s H C cl fp => ht s H C cl fp) (fun s H C cl fp => (he s H C cl fp).can) hs
theorem ds_setLc {i : Nat} {y : Str} (own : List (Str × Nat)) (hc : X.calm = true) (hN : X.N.Nodup) (hy : X.N[i]? = some y) (hyl : X.env.scope.names.lookup y = some .local)
    (hsw : swapsWith (.ListComp elt [⟨tg, iter, ifs, 0⟩] scope pos) (some (.Name y py)) spos.line X.env = pure true) (ok : BlkOk X.N X.env.scope scope own) (hi : DI X tg iter mi)
    (hg : ∀ s H C cl fp, DG (Blk X scope s H C cl fp) tg js g) (ht : ∀ s H C cl fp, DTs (Blk X scope s H C cl fp) ifs tt) (he : ∀ s H C cl fp, DE (Blk X scope s H C cl fp) elt me)
    (hj : ∀ i ∈ js, i ∈ own.map (·.2) := by decide) (hs : ∀ x, foldedSetIterable iter X.env x = pure x := by intro _; rfl) :
    DS X (.Assign [.Name y py] (.ListComp elt [⟨tg, iter, ifs, 0⟩] scope pos) spos) (mSet i (mLc mi g tt me (own.map (·.2)))) :=
  ⟨_, ps_lcTo own hc hN hy hyl hsw ok hi hg ht he hs, evs_set (evd_lc evi_TI evg_TG evb_TB evd_TD hj)⟩
theorem ds_setLcO {i : Nat} {y : Str} (own : List (Str × Nat)) (hc : X.calm = true) (hN : X.N.Nodup) (hy : X.N[i]? = some y) (hyl : X.env.scope.names.lookup y = some .local)
    (hsw : swapsWith (.ListComp elt [⟨tg, iter, ifs, 0⟩] scope pos) (some (.Name y py)) spos.line X.env = pure true) (ok : BlkOk X.N X.env.scope scope own) (hi : DI X tg iter mi)
    (hg : ∀ s H C cl fp, DG (Blk X scope s H C cl fp) tg js g) (ht : ∀ s H C cl fp, DTs (Blk X scope s H C cl fp) ifs tt) (he : ∀ s H C cl fp, DE (Blk X scope s H C cl fp) elt me)
    (hj : ∀ i ∈ js, i ∈ own.map (·.2) := by decide) (hs : ∀ x, foldedSetIterable iter X.env x = pure x := by intro _; rfl) :
    DS X (.Assign [.Name y py] (.ListComp elt [⟨tg, iter, ifs, 0⟩] scope pos) spos) (mSetO i (mLc mi g tt me (own.map (·.2)))) :=
  ⟨_, ps_lcTo own hc hN hy hyl hsw ok hi hg ht he hs, evs_setO (evd_lc evi_TI evg_TG evb_TB evd_TD hj)⟩
end
end DL

set_option Elab.async false
set_option linter.all false
set_option maxRecDepth 100000
set_option maxHeartbeats 4000000
set_option autoImplicit false
/-! DL9: operators on data. -/
namespace DL
open PySem PySem.Spec L2 Evl PyProof.Rows

/-! ### texts that may stand -/
theorem sOk_iff {x : Str} : PyData.strOk x = true ↔ ∀ c ∈ x.cps.toList, c < 0x110000 := by
  unfold PyData.strOk
  rw [Array.all_eq_true']
  simp
theorem sOk_append {x y : Str} (h : PyData.strOk x = true) (k : PyData.strOk y = true) : PyData.strOk (x ++ y) = true := by
  rw [sOk_iff] at *
  intro c m
  have m' : c ∈ (x.cps ++ y.cps).toList := m
  rw [Array.toList_append, List.mem_append] at m'
  exact m'.elim (h c) (k c)
theorem sOk_sub {x y : Str} (h : PyData.strOk x = true) (k : ∀ c ∈ y.cps.toList, c ∈ x.cps.toList) : PyData.strOk y = true := by
  rw [sOk_iff] at *
  exact fun c m => h c (k c m)
theorem sOk_cut {x : Str} {lo hi : Option Int} (h : PyData.strOk x = true) : PyData.strOk (cutS x lo hi) = true := by
  refine sOk_sub h fun c m => ?_
  unfold cutS at m
  rw [show (⟨((x.cps.toList.drop (HT.sIx x.length 0 lo)).take (HT.sIx x.length x.length hi - HT.sIx x.length 0 lo)).toArray⟩ : Str).cps.toList = (x.cps.toList.drop (HT.sIx x.length 0 lo)).take (HT.sIx x.length x.length hi - HT.sIx x.length 0 lo) from by simp] at m
  exact List.mem_of_mem_drop (List.mem_of_mem_take m)

section
variable {X : Cx} {K : PySem.W.Frag}

/-! ### + - * // % ** << >> & -/
@[simp] def aAdd (d e : D) (R : RV → Prop) : Prop := match d, e with
  | .int i, .int j => R (.vl (.int (i + j)))
  | .str s, .str t => s.length + t.length ≤ sizeLine ∧ R (.vl (.str (s ++ t)))
  | .lst xs, .lst ys => xs.length + ys.length ≤ 100000 ∧ R (.tm (.lst (xs ++ ys)))
  | .tup xs, .tup ys => xs ≠ [] ∧ ys ≠ [] ∧ xs.length + ys.length ≤ 100000 ∧ R (.vl (.tup (xs ++ ys)))
  | _, _ => False
def rAddD (K : PySem.W.Frag) : R2 := fun x y H Q => (∃ i j, x = .int i ∧ y = .int j ∧ Q (.int (i + j)) H) ∨ (∃ i j, x = .str i ∧ y = .str j ∧ i.length + j.length ≤ sizeLine ∧ Q (.str (i ++ j)) H) ∨ rCat x y H Q ∨ rCatT K x y H Q
theorem op_addD : OpR X (binaryOp .Add) (rAddD X.K) := by
  intro pins s σ H x y v u Q I rx ry h
  rcases h with h | h | h | h
  · exact op_add pins s σ H x y v u Q I rx ry h
  · exact op_add_str pins s σ H x y v u Q I rx ry h
  · exact op_cat pins s σ H x y v u Q I rx ry h
  · exact op_catT pins s σ H x y v u Q I rx ry h
theorem o2_add : Op2 K (rAddD K) aAdd := by
  intro C F env σ H v w d e R Q I s1 s2 h g
  unfold aAdd at h
  split at h
  · exact Or.inl ⟨_, _, s1.int, s2.int, g.int I h⟩
  · exact Or.inr (Or.inl ⟨_, _, s1.str.1, s2.str.1, h.1, g.str I (sOk_append s1.str.2 s2.str.2) h.2⟩)
  · obtain ⟨p, vs, rfl, e1, r1⟩ := s1.lst I.sub
    obtain ⟨q, ws, rfl, e2, r2⟩ := s2.lst I.sub
    exact Or.inr (Or.inr (Or.inl ⟨p, q, vs, ws, rfl, rfl, e1, e2, by rw [r1.length, r2.length]; exact sz_of h.1, fun a ha => g.lst I h.2 (r1.append r2) a ha⟩))
  · obtain ⟨p, vs, rfl, e1, r1⟩ := s1.tup
    obtain ⟨q, ws, rfl, e2, r2⟩ := s2.tup
    have n1 : vs ≠ [] := fun z => by subst z; cases r1; exact h.1 rfl
    have n2 : ws ≠ [] := fun z => by subst z; cases r2; exact h.2.1 rfl
    exact Or.inr (Or.inr (Or.inr ⟨p, q, vs, ws, rfl, rfl, ex_t I.sub e1, ex_t I.sub e2, n1, by rw [r1.length, r2.length]; exact sz_of h.2.2.1, fun z => absurd z n2, fun _ a ha => g.tup I h.2.2.2 (r1.append r2) a ha⟩))
  · exact h.elim
@[simp] def aInt (f : Int → Int → Int) (c : Int → Int → Prop) (d e : D) (R : RV → Prop) : Prop := match d, e with
  | .int i, .int j => c i j ∧ R (.vl (.int (f i j)))
  | _, _ => False
theorem o2_int {f : Int → Int → Int} {c c' : Int → Int → Prop} (hc : ∀ i j, c i j → c' i j) : Op2 K (rI c' fun i j => .int (f i j)) (aInt f c) := by
  intro C F env σ H v w d e R Q I s1 s2 h g
  unfold aInt at h
  split at h
  · exact ⟨_, _, s1.int, s2.int, hc _ _ h.1, g.int I h.2⟩
  · exact h.elim
theorem o2_int0 {f : Int → Int → Int} : Op2 K (rI0 fun i j => .int (f i j)) (aInt f fun _ _ => True) := by
  intro C F env σ H v w d e R Q I s1 s2 h g
  unfold aInt at h
  split at h
  · exact ⟨_, _, s1.int, s2.int, g.int I h.2⟩
  · exact h.elim
abbrev aSub := aInt (· - ·) fun _ _ => True
abbrev aFdiv := aInt (· / ·) fun i j => 0 < j ∧ j.natAbs.log2 < 9000
abbrev aMod := aInt (· % ·) fun i j => 0 < j
abbrev aPow := aInt (fun i j => i ^ j.toNat) CPow
abbrev aShl := aInt (fun i j => i * 2 ^ j.toNat) CPow
abbrev aShr := aInt (fun i j => i / 2 ^ j.toNat) fun i j => 0 ≤ j
abbrev aAnd := aInt (fun i j => Builtin.bitAnd i j) fun _ _ => True
theorem o2_sub : Op2 K (rI0 fun i j => .int (i - j)) aSub := o2_int0
theorem o2_fdiv : Op2 K (rI CDivW fun i j => .int (i / j)) aFdiv := o2_int fun _ _ h => h
theorem o2_mod : Op2 K (rI (fun _ j => 0 < j) fun i j => .int (i % j)) aMod := o2_int fun _ _ h => h
theorem o2_pow : Op2 K (rI CPow fun i j => .int (i ^ j.toNat)) aPow := o2_int fun _ _ h => h
theorem o2_shl : Op2 K (rI CPow fun i j => .int (i * 2 ^ j.toNat)) aShl := o2_int fun _ _ h => h
theorem o2_shr : Op2 K (rI (fun _ j => 0 ≤ j) fun i j => .int (i / 2 ^ j.toNat)) aShr := o2_int fun _ _ h => h
theorem o2_and : Op2 K (rI0 fun i j => .int (Builtin.bitAnd i j)) aAnd := o2_int0
@[simp] def aMul (d e : D) (R : RV → Prop) : Prop := match d, e with
  | .int i, .int j => CMulW i j ∧ R (.vl (.int (i * j)))
  | .lst xs, .int k => 0 ≤ k ∧ k ≤ 100000 ∧ xs.length * k.toNat ≤ 100000 ∧ R (.tm (.lst (List.flatten (List.replicate k.toNat xs))))
  | _, _ => False
def rMulD : R2 := fun x y H Q => rI CMulW (fun i j => .int (i * j)) x y H Q ∨ rRep x y H Q
theorem op_mulD : OpR X (binaryOp .Mult) rMulD := by
  intro pins s σ H x y v u Q I rx ry h
  rcases h with h | h
  · exact op_mulW pins s σ H x y v u Q I rx ry h
  · exact op_rep pins s σ H x y v u Q I rx ry h

/-! ### < <= > >= : numbers, texts -/
@[simp] def aOrd (f : Int → Int → Bool) (g : List Nat → List Nat → Bool) (d e : D) (R : RV → Prop) : Prop := match d, e with
  | .int i, .int j => R (.vl (.bl (f i j)))
  | .str s, .str t => R (.vl (.bl (g s.cps.toList t.cps.toList)))
  | _, _ => False
def rOrd (f : Int → Int → Bool) (g : List Nat → List Nat → Bool) : R2 := fun x y H Q => (∃ i j, x = .int i ∧ y = .int j ∧ Q (.bl (f i j)) H) ∨ ∃ i j : Str, x = .str i ∧ y = .str j ∧ Q (.bl (g i.cps.toList j.cps.toList)) H
theorem o2_ord {f : Int → Int → Bool} {k : List Nat → List Nat → Bool} : Op2 K (rOrd f k) (aOrd f k) := by
  intro C F env σ H v w d e R Q I s1 s2 h g
  unfold aOrd at h
  split at h
  · exact Or.inl ⟨_, _, s1.int, s2.int, g.bl I h⟩
  · exact Or.inr ⟨_, _, s1.str.1, s2.str.1, g.bl I h⟩
  · exact h.elim
abbrev aLt := aOrd (fun i j => decide (i < j)) fun s t => decide (s < t)
abbrev aLe := aOrd (fun i j => decide (i ≤ j)) fun s t => !decide (t < s)
abbrev aGt := aOrd (fun i j => decide (j < i)) fun s t => decide (t < s)
abbrev aGe := aOrd (fun i j => decide (j ≤ i)) fun s t => !decide (s < t)
theorem op_ltD : OpR X (compareOp .Lt) (rOrd (fun i j => decide (i < j)) fun s t => decide (s < t)) := by
  intro pins s σ H x y v u Q I rx ry h
  rcases h with h | h
  · exact op_lt pins s σ H x y v u Q I rx ry h
  · exact op_lt_str pins s σ H x y v u Q I rx ry h
theorem op_leD : OpR X (compareOp .LtE) (rOrd (fun i j => decide (i ≤ j)) fun s t => !decide (t < s)) := by
  intro pins s σ H x y v u Q I rx ry h
  rcases h with h | h
  · exact op_le pins s σ H x y v u Q I rx ry h
  · exact op_le_str pins s σ H x y v u Q I rx ry h
theorem op_gtD : OpR X (compareOp .Gt) (rOrd (fun i j => decide (j < i)) fun s t => decide (t < s)) := by
  intro pins s σ H x y v u Q I rx ry h
  rcases h with h | h
  · exact op_gt pins s σ H x y v u Q I rx ry h
  · exact op_gt_str pins s σ H x y v u Q I rx ry h
theorem op_geD : OpR X (compareOp .GtE) (rOrd (fun i j => decide (j ≤ i)) fun s t => !decide (s < t)) := by
  intro pins s σ H x y v u Q I rx ry h
  rcases h with h | h
  · exact op_ge pins s σ H x y v u Q I rx ry h
  · exact op_ge_str pins s σ H x y v u Q I rx ry h

/-! ### ==, != -/
mutual
@[simp] def D.py : D → PyData
  | .non => .none
  | .bl b => .bool b
  | .int i => .int i
  | .str s => .str s
  | .lst xs => .list (D.pyL xs)
  | .tup xs => .tuple (D.pyL xs)
  | .dic _ => .dict []
  | .scr _ => .dict []
  | .fn _ => .dict []
  | .obj _ _ => .dict []
  | .exc _ _ _ => .dict []
@[simp] def D.pyL : List D → List PyData
  | [] => []
  | d :: ds => D.py d :: D.pyL ds
end
@[simp] def D.lvl : Nat → D → Bool
  | _, .non => true
  | _, .bl _ => true
  | _, .int _ => true
  | _, .str _ => true
  | n + 1, .lst xs => xs.all (D.lvl n)
  | n + 1, .tup xs => xs.all (D.lvl n)
  | _, _ => false
def deq (d e : D) : Bool := PyData.eqv d.py e.py
theorem pyL_map : ∀ xs : List D, D.pyL xs = xs.map D.py
  | [] => rfl
  | x :: xs => by simp [pyL_map xs]
mutual
theorem lay_of {F : Hp} : ∀ (d : D) (v : V), Rep K F v d → ∀ n, D.lvl n d = true → d.py.canLay0 = true ∧ d.py.depth ≤ n ∧ Dp K F v d.py
  | .non, _, .non, n, _ => ⟨rfl, Nat.zero_le _, .non⟩
  | .bl b, _, .bl _, n, _ => ⟨rfl, Nat.zero_le _, .bl b⟩
  | .int i, _, .int _, n, _ => ⟨rfl, Nat.zero_le _, .int i⟩
  | .str s, _, .str _ h, n, _ => ⟨h, Nat.zero_le _, .str s⟩
  | .lst ds, _, .lst e r, 0, h => by simp [D.lvl] at h
  | .lst ds, _, .lst e r, n + 1, h => by
    have h' : ds.all (D.lvl n) = true := by simpa [D.lvl] using h
    obtain ⟨a, b, c⟩ := layL_of ds _ r n h'
    exact ⟨by simpa [PyData.canLay0] using a, by simpa [PyData.depth] using b, .lst (sq_of e) c⟩
  | .tup ds, _, .tup e r, 0, h => by simp [D.lvl] at h
  | .tup ds, _, .tup e r, n + 1, h => by
    have h' : ds.all (D.lvl n) = true := by simpa [D.lvl] using h
    obtain ⟨a, b, c⟩ := layL_of ds _ r n h'
    exact ⟨by simpa [PyData.canLay0] using a, by simpa [PyData.depth] using b, .tup e c⟩
  | .dic _, _, _, 0, h => by simp [D.lvl] at h
  | .dic _, _, _, n + 1, h => by simp [D.lvl] at h
  | .scr _, _, _, 0, h => by simp [D.lvl] at h
  | .scr _, _, _, n + 1, h => by simp [D.lvl] at h
  | .fn _, _, _, 0, h => by simp [D.lvl] at h
  | .fn _, _, _, n + 1, h => by simp [D.lvl] at h
  | .obj _ _, _, _, 0, h => by simp [D.lvl] at h
  | .obj _ _, _, _, n + 1, h => by simp [D.lvl] at h
  | .exc _ _ _, _, _, 0, h => by simp [D.lvl] at h
  | .exc _ _ _, _, _, n + 1, h => by simp [D.lvl] at h
theorem layL_of {F : Hp} : ∀ (ds : List D) (vs : List V), RepL K F vs ds → ∀ n, ds.all (D.lvl n) = true → PyData.canLayAll0 (D.pyL ds) = true ∧ PyData.depthAll (D.pyL ds) ≤ n ∧ DpAll K F vs (D.pyL ds)
  | [], _, .nil, n, _ => ⟨rfl, Nat.zero_le _, .nil⟩
  | d :: ds, _, .cons x r, n, h => by
    simp only [List.all_cons, Bool.and_eq_true] at h
    obtain ⟨a1, b1, c1⟩ := lay_of d _ x n h.1
    obtain ⟨a2, b2, c2⟩ := layL_of ds _ r n h.2
    exact ⟨by simp [PyData.canLayAll0, a1, a2], by simp [PyData.depthAll]; omega, .cons c1 c2⟩
end
mutual
theorem Dp.up {F H : Hp} (e : Ex F H) : ∀ {v : V} {d : PyData}, Dp K F v d → Dp K H v d
  | _, _, .non => .non
  | _, _, .bl b => .bl b
  | _, _, .int i => .int i
  | _, _, .str s => .str s
  | _, _, .lst h r => .lst (ex_l e h) (DpAll.up e r)
  | _, _, .tup h r => .tup (ex_t e h) (DpAll.up e r)
theorem DpAll.up {F H : Hp} (e : Ex F H) : ∀ {vs : List V} {ds : List PyData}, DpAll K F vs ds → DpAll K H vs ds
  | _, _, .nil => .nil
  | _, _, .cons a r => .cons (Dp.up e a) (DpAll.up e r)
end
theorem See.lay {F H : Hp} {v : V} {d : D} (x : Ex F H) (s : See K F H v d) (h : D.lvl 60 d = true) : SeqAt.shaped d.py = true ∧ Dp K H v d.py := by
  have main : d.py.canLay0 = true ∧ d.py.depth ≤ 60 ∧ Dp K H v d.py := by
    cases s with
    | rep r =>
      obtain ⟨a, b, c⟩ := lay_of d v r 60 h
      exact ⟨a, b, Dp.up x c⟩
    | obj e r =>
      unfold RepO at r
      split at r
      · rename_i vs ds
        have h' : ds.all (D.lvl 59) = true := by simpa [D.lvl] using h
        obtain ⟨a, b, c⟩ := layL_of ds vs r 59 h'
        exact ⟨by simpa [PyData.canLay0] using a, by simpa [PyData.depth] using b, .lst (sq_of e) (DpAll.up x c)⟩
      · simp [D.lvl] at h
      · exact r.elim
  refine ⟨?_, main.2.2⟩
  unfold SeqAt.shaped
  rw [main.1, Bool.true_and]
  exact decide_eq_true (by omega)
@[simp] def aEq (d e : D) (R : RV → Prop) : Prop := D.lvl 60 d = true ∧ D.lvl 60 e = true ∧ R (.vl (.bl (deq d e)))
@[simp] def aNe (d e : D) (R : RV → Prop) : Prop := D.lvl 60 d = true ∧ D.lvl 60 e = true ∧ R (.vl (.bl (!deq d e)))
theorem o2_eq : Op2 K (rEqD K) aEq := by
  intro C F env σ H v w d e R Q I s1 s2 h g
  obtain ⟨h1, h2, h3⟩ := h
  obtain ⟨a1, a2⟩ := s1.lay I.sub h1
  obtain ⟨b1, b2⟩ := s2.lay I.sub h2
  exact ⟨_, _, a2, b2, a1, b1, g.bl I h3⟩
theorem o2_ne : Op2 K (rNeD K) aNe := by
  intro C F env σ H v w d e R Q I s1 s2 h g
  obtain ⟨h1, h2, h3⟩ := h
  obtain ⟨a1, a2⟩ := s1.lay I.sub h1
  obtain ⟨b1, b2⟩ := s2.lay I.sub h2
  exact ⟨_, _, a2, b2, a1, b1, g.bl I h3⟩
section
@[simp] theorem deq_non : deq .non .non = true := rfl
@[simp] theorem deq_int (i j : Int) : deq (.int i) (.int j) = (i == j) := by simp [deq, PyData.eqv]
@[simp] theorem deq_str (i j : Str) : deq (.str i) (.str j) = (i == j) := by simp [deq, PyData.eqv]
@[simp] theorem deq_bl (i j : Bool) : deq (.bl i) (.bl j) = (i == j) := by simp [deq, PyData.eqv]
@[simp] theorem deq_non_int (j : Int) : deq .non (.int j) = false := by simp [deq, PyData.eqv]
@[simp] theorem deq_non_str (j : Str) : deq .non (.str j) = false := by simp [deq, PyData.eqv]
@[simp] theorem deq_non_lst (j : List D) : deq .non (.lst j) = false := by simp [deq, PyData.eqv]
@[simp] theorem deq_int_non (j : Int) : deq (.int j) .non = false := by simp [deq, PyData.eqv]
@[simp] theorem deq_str_non (j : Str) : deq (.str j) .non = false := by simp [deq, PyData.eqv]
@[simp] theorem deq_lst_non (j : List D) : deq (.lst j) .non = false := by simp [deq, PyData.eqv]
@[simp] theorem deq_str_int (i : Str) (j : Int) : deq (.str i) (.int j) = false := by simp [deq, PyData.eqv]
@[simp] theorem deq_int_str (i : Int) (j : Str) : deq (.int i) (.str j) = false := by simp [deq, PyData.eqv]
@[simp] theorem deq_nil : deq (.lst []) (.lst []) = true := by simp [deq, PyData.eqv, PyData.eqvAll]
@[simp] theorem deq_nil_cons (x : D) (xs : List D) : deq (.lst []) (.lst (x :: xs)) = false := by simp [deq, PyData.eqv, PyData.eqvAll]
@[simp] theorem deq_cons_nil (x : D) (xs : List D) : deq (.lst (x :: xs)) (.lst []) = false := by simp [deq, PyData.eqv, PyData.eqvAll]
@[simp] theorem deq_cons (x y : D) (xs ys : List D) : deq (.lst (x :: xs)) (.lst (y :: ys)) = (deq x y && deq (.lst xs) (.lst ys)) := by simp [deq, PyData.eqv, PyData.eqvAll]
@[simp] theorem deq_tnil : deq (.tup []) (.tup []) = true := by simp [deq, PyData.eqv, PyData.eqvAll]
@[simp] theorem deq_tcons (x y : D) (xs ys : List D) : deq (.tup (x :: xs)) (.tup (y :: ys)) = (deq x y && deq (.tup xs) (.tup ys)) := by simp [deq, PyData.eqv, PyData.eqvAll]
@[simp] theorem deq_tnil_cons (x : D) (xs : List D) : deq (.tup []) (.tup (x :: xs)) = false := by simp [deq, PyData.eqv, PyData.eqvAll]
@[simp] theorem deq_tcons_nil (x : D) (xs : List D) : deq (.tup (x :: xs)) (.tup []) = false := by simp [deq, PyData.eqv, PyData.eqvAll]
end

/-! ### is None, is True -/
@[simp] def D.isNon : D → Bool
  | .non => true
  | _ => false
@[simp] def aIs (d e : D) (R : RV → Prop) : Prop := match e with
  | .non => R (.vl (.bl d.isNon))
  | .bl b => match d with
    | .bl a => R (.vl (.bl (decide (a = b))))
    | _ => False
  | _ => False
@[simp] def aIsN (d e : D) (R : RV → Prop) : Prop := match e with
  | .non => R (.vl (.bl (!d.isNon)))
  | .bl b => match d with
    | .bl a => R (.vl (.bl (!decide (a = b))))
    | _ => False
  | _ => False
theorem See.isNon {F H : Hp} {v : V} {d : D} (s : See K F H v d) : decide (v = .non) = d.isNon := by
  cases s with
  | rep r => cases r <;> simp
  | obj e r =>
    unfold RepO at r
    split at r
    · simp
    · simp
    · exact r.elim
def rIsD (neg : Bool) : R2 := fun x y H Q => (y = .non ∧ Q (.bl (neg ^^ decide (x = .non))) H) ∨ ∃ a b : Bool, x = .bl a ∧ y = .bl b ∧ Q (.bl (neg ^^ decide (a = b))) H
theorem o2_is : Op2 K (rIsD false) aIs := by
  intro C F env σ H v w d e R Q I s1 s2 h g
  unfold aIs at h
  split at h
  · exact Or.inl ⟨s2.non, by rw [s1.isNon]; exact g.bl I (by simpa using h)⟩
  · split at h
    · exact Or.inr ⟨_, _, s1.bl, s2.bl, g.bl I (by simpa using h)⟩
    · exact h.elim
  · exact h.elim
theorem o2_isN : Op2 K (rIsD true) aIsN := by
  intro C F env σ H v w d e R Q I s1 s2 h g
  unfold aIsN at h
  split at h
  · exact Or.inl ⟨s2.non, by rw [s1.isNon]; exact g.bl I (by simpa using h)⟩
  · split at h
    · exact Or.inr ⟨_, _, s1.bl, s2.bl, g.bl I (by simpa using h)⟩
    · exact h.elim
  · exact h.elim
end
end DL

set_option Elab.async false
set_option linter.all false
set_option maxRecDepth 100000
set_option maxHeartbeats 4000000
set_option autoImplicit false
/-! DL10: in, subscripts, slices, built-ins, methods over data. -/
namespace DL
open PySem PySem.Spec L2 Evl PyProof.Rows

section
variable {X : Cx} {K : PySem.W.Frag} {pos : Pos}
theorem op_isD : OpR X (compareOp .Is) (rIsD false) := by
  intro pins s σ H x y v u Q I rx ry h
  rcases h with ⟨h1, h2⟩ | ⟨a, b, h1, h2, h3⟩
  · exact op_isN pins s σ H x y v u Q I rx ry ⟨h1, by simpa using h2⟩
  · exact op_isBl pins s σ H x y v u Q I rx ry ⟨a, b, h1, h2, by simpa using h3⟩
theorem op_isND : OpR X (compareOp .IsNot) (rIsD true) := by
  intro pins s σ H x y v u Q I rx ry h
  rcases h with ⟨h1, h2⟩ | ⟨a, b, h1, h2, h3⟩
  · exact op_notN pins s σ H x y v u Q I rx ry ⟨h1, by simpa using h2⟩
  · exact op_notBl pins s σ H x y v u Q I rx ry ⟨a, b, h1, h2, by simpa using h3⟩

/-! ### in -/
@[simp] def D.flat : D → Bool
  | .non => true
  | .bl _ => true
  | .int _ => true
  | .str _ => true
  | _ => false
@[simp] def feq : D → D → Bool
  | .non, .non => true
  | .bl a, .bl b => a == b
  | .bl a, .int b => (if a then 1 else 0) == b
  | .int a, .bl b => a == (if b then 1 else 0)
  | .int a, .int b => a == b
  | .str a, .str b => a == b
  | _, _ => false
@[simp] def inD (d : D) (xs : List D) : Bool := xs.any fun y => feq y d
@[simp] def inStr (s t : Str) : Bool := match s.cps.toList with
  | [c] => decide (c ∈ t.cps.toList)
  | _ => !(Builtin.Str.occurrences t s 0 t.length 1).isEmpty
@[simp] def aInB (n : Bool) (d e : D) (R : RV → Prop) : Prop := match e with
  | .lst xs => d.flat = true ∧ xs.all D.flat = true ∧ R (.vl (.bl (n ^^ inD d xs)))
  | .tup xs => d.flat = true ∧ xs.all D.flat = true ∧ R (.vl (.bl (n ^^ inD d xs)))
  | .str t => match d with
    | .str s => R (.vl (.bl (n ^^ inStr s t)))
    | _ => False
  | _ => False
abbrev aIn := aInB false
abbrev aNotIn := aInB true
def rInB (K : PySem.W.Frag) (n : Bool) : R2 := fun x y H Q => rIn K n x y H Q ∨ ∃ i j : Str, x = .str i ∧ y = .str j ∧ Q (.bl (n ^^ inStr i j)) H
theorem op_inB : OpR X (compareOp .In) (rInB X.K false) := by
  intro pins s σ H x y v u Q I rx ry h
  rcases h with h | ⟨i, j, h1, h2, h3⟩
  · exact op_in_seq pins s σ H x y v u Q I rx ry h
  · unfold inStr at h3
    split at h3
    · rename_i c e
      have ei : i = ⟨#[c]⟩ := by
        cases i with | mk a => simp at e; cases a; simp at e; simp [e]
      exact op_in_sign pins s σ H x y v u Q I rx ry ⟨c, j, by rw [h1, ei], h2, by simpa using h3⟩
    · exact op_in_str pins s σ H x y v u Q I rx ry ⟨i, j, h1, h2, by simpa using h3⟩
theorem op_notInB : OpR X (compareOp .NotIn) (rInB X.K true) := by
  intro pins s σ H x y v u Q I rx ry h
  rcases h with h | ⟨i, j, h1, h2, h3⟩
  · exact op_notIn_seq pins s σ H x y v u Q I rx ry h
  · unfold inStr at h3
    split at h3
    · rename_i c e
      have ei : i = ⟨#[c]⟩ := by
        cases i with | mk a => simp at e; cases a; simp at e; simp [e]
      exact op_notIn_sign pins s σ H x y v u Q I rx ry ⟨c, j, by rw [h1, ei], h2, by simpa using h3⟩
    · exact op_notIn_str pins s σ H x y v u Q I rx ry ⟨i, j, h1, h2, by simpa using h3⟩
theorem Rep.flat {F : Hp} {v : V} {d : D} (r : Rep K F v d) (h : d.flat = true) : flatV v = true := by
  cases r <;> first | rfl | (simp at h)
theorem Rep.eqV {F G : Hp} {v w : V} {d e : D} (r : Rep K F v d) (s : Rep K G w e) (h : d.flat = true) (k : e.flat = true) : L2.eqV v w = feq d e := by
  cases r <;> cases s <;> first | rfl | (simp at h) | (simp at k)
theorem RepL.flat {F : Hp} : ∀ {vs : List V} {ds : List D}, RepL K F vs ds → ds.all D.flat = true → vs.all flatV = true
  | _, _, .nil, _ => rfl
  | _, _, .cons a r, h => by
    simp only [List.all_cons, Bool.and_eq_true] at h ⊢
    exact ⟨a.flat h.1, RepL.flat r h.2⟩
theorem RepL.inV {F G : Hp} {v : V} {d : D} (r : Rep K F v d) (h : d.flat = true) : ∀ {vs : List V} {ds : List D}, RepL K G vs ds → ds.all D.flat = true → L2.inV v vs = inD d ds
  | _, _, .nil, _ => rfl
  | _, _, .cons a s, k => by
    simp only [List.all_cons, Bool.and_eq_true] at k
    have e := RepL.inV r h s k.2
    unfold L2.inV inD at e ⊢
    rw [List.any_cons, List.any_cons, a.eqV r k.1 h, e]
theorem See.flat {F H : Hp} {v : V} {d : D} (s : See K F H v d) (h : d.flat = true) : Rep K F v d := by
  cases s with
  | rep r => exact r
  | obj e r =>
    unfold RepO at r
    split at r
    · simp at h
    · simp at h
    · exact r.elim
theorem o2_inB {n : Bool} : Op2 K (rInB K n) (aInB n) := by
  intro C F env σ H v w d e R Q I s1 s2 h g
  have bx : ∀ b : Bool, (if n = true then !b else b) = (n ^^ b) := fun b => by cases n <;> cases b <;> rfl
  cases e with
  | lst xs =>
    obtain ⟨p, vs, rfl, e1, r1⟩ := s2.lst I.sub
    have f := s1.flat h.1
    refine Or.inl ⟨p, vs, rfl, Or.inl (sq_of e1), f.flat h.1, r1.flat h.2.1, ?_⟩
    rw [bx, RepL.inV f h.1 r1 h.2.1]
    exact g.bl I h.2.2
  | tup xs =>
    obtain ⟨p, vs, rfl, e1, r1⟩ := s2.tup
    have f := s1.flat h.1
    refine Or.inl ⟨p, vs, rfl, Or.inr (ex_t I.sub e1), f.flat h.1, r1.flat h.2.1, ?_⟩
    rw [bx, RepL.inV f h.1 r1 h.2.1]
    exact g.bl I h.2.2
  | str t =>
    cases d with
    | str s => exact Or.inr ⟨s, t, s1.str.1, s2.str.1, g.bl I h⟩
    | _ => exact h.elim
  | _ => exact h.elim

/-! ### a * b -/
theorem RepL.rep {F : Hp} {vs : List V} {ds : List D} (r : RepL K F vs ds) : ∀ n : Nat, RepL K F (List.flatten (List.replicate n vs)) (List.flatten (List.replicate n ds))
  | 0 => by simp; exact .nil
  | n + 1 => by rw [List.replicate_succ, List.replicate_succ, List.flatten_cons, List.flatten_cons]; exact r.append (RepL.rep r n)

/-! ### subscripts -/
@[simp] def aIx (d e : D) (R : RV → Prop) : Prop := match d, e with
  | .lst xs, .int i => ∃ y, atI xs i = some y ∧ R (.vl y)
  | .tup xs, .int i => ∃ y, atI xs i = some y ∧ R (.vl y)
  | .str s, .int i => s.length ≤ sizeLine ∧ ∃ c, atI s.cps.toList i = some c ∧ R (.vl (.str ⟨#[c]⟩))
  | .scr ns, .int i => ∃ n, atI ns i = some n ∧ R (.vl (.int n))
  | _, _ => False
theorem ixN_lt {n : Nat} {i : Int} {j : Nat} (h : ixN n i = some j) : j < n := by
  unfold ixN at h
  split at h
  · split at h
    · cases h; omega
    · cases h
  · split at h
    · cases h; omega
    · cases h
theorem atI_rep {F : Hp} {vs : List V} {ds : List D} (r : RepL K F vs ds) {i : Int} {y : D} (h : atI ds i = some y) : ∃ v, atI vs i = some v ∧ Rep K F v y := by
  unfold atI at h ⊢
  rw [r.length]
  cases q : ixN ds.length i with
  | none => rw [q] at h; cases h
  | some j =>
    rw [q] at h
    obtain ⟨v, h1, h2⟩ := r.get (show ds[j]? = some y from h)
    exact ⟨v, h1, h2⟩
theorem o2_ix : Op2 K (rIx K) aIx := by
  intro C F env σ H v w d e R Q I s1 s2 h g
  unfold aIx at h
  split at h
  · obtain ⟨y, h1, h2⟩ := h
    obtain ⟨p, vs, rfl, e1, r1⟩ := s1.lst I.sub
    obtain ⟨u, q1, q2⟩ := atI_rep r1 h1
    exact Or.inl ⟨p, vs, _, u, rfl, s2.int, sq_of e1, q1, g.here I h2 q2⟩
  · obtain ⟨y, h1, h2⟩ := h
    obtain ⟨p, vs, rfl, e1, r1⟩ := s1.tup
    obtain ⟨u, q1, q2⟩ := atI_rep r1 h1
    exact Or.inr (Or.inl ⟨p, vs, _, u, rfl, s2.int, ex_t I.sub e1, q1, g.here I h2 q2⟩)
  · obtain ⟨h0, c, h1, h2⟩ := h
    refine Or.inr (Or.inr ⟨_, _, c, s1.str.1, s2.int, h0, h1, g.str I ?_ h2⟩)
    unfold atI at h1
    cases q : ixN _ _ with
    | none => rw [q] at h1; cases h1
    | some j => rw [q] at h1; exact strOk_sign s1.str.2 h1
  · obtain ⟨n, h1, h2⟩ := h
    obtain ⟨p, rfl, e1⟩ := s1.scr
    refine Or.inl ⟨p, _, _, .int n, rfl, s2.int, ex_l I.sub e1, ?_, g.int I h2⟩
    unfold atI at h1 ⊢
    rw [List.length_map]
    cases q : ixN _ _ with
    | none => rw [q] at h1; cases h1
    | some j =>
      rw [q] at h1
      have h1' : (_ : List Int)[j]? = some n := h1
      simp [h1']
  · exact h.elim
theorem dix {a b : Expr} {m1 m2 : DM} (ha : DE X a m1) (hb : DE X b m2) (hs : PlainIx b := by exact fun _ _ => rfl) : DE X (.Subscript a b pos) (mOp2 aIx m1 m2) := by
  obtain ⟨ta, pa, ea⟩ := ha
  obtain ⟨tb, pb, eb⟩ := hb
  exact ⟨_, pe_ix ix_seq pa pb hs, evd_op2 o2_ix ea eb⟩

/-! ### slices -/
abbrev DMO := List Slot → (Option Int → List Slot → Prop) → Prop
def EvO (K : PySem.W.Frag) (m : DMO) (t : TO) : Prop := ∀ C F env σ H R (Q : Option Int → Hp → Prop), Ok K C F env σ H → m env R → (∀ o env' F' H', R o env' → Aft K C F env σ H F' env' H' → Q o H') → t σ H Q
def DO (X : Cx) (e : Option Expr) (m : DMO) : Prop := ∃ t, PO X e t ∧ EvO X.K m t
@[simp] def moNo : DMO := fun env R => R none env
@[simp] def moSo (a : DM) : DMO := fun env R => a env fun x e1 => x.con e1 fun d => match d with
  | .int i => R (some i) e1
  | _ => False
theorem do_none : DO X none moNo := ⟨_, po_none, fun C F env σ H R Q I h k => k none env F H h I.aft⟩
theorem do_some {e : Expr} {m : DM} (h : DE X e m) : DO X (some e) (moSo m) := by
  obtain ⟨t, p, ev⟩ := h
  refine ⟨_, po_some p, ?_⟩
  intro C F env σ H R Q I h k
  refine ev C F env σ H _ _ I h ?_
  intro x e1 F1 v H1 h1 A1 r1
  obtain ⟨d, h3, s1⟩ := A1.ok.see r1 h1
  cases d with
  | int i => exact ⟨i, s1.int, k _ e1 F1 H1 h3 A1⟩
  | _ => exact h3.elim
@[simp] def cutD (xs : List D) (lo hi : Option Int) : List D := (xs.drop (HT.sIx xs.length 0 lo)).take (HT.sIx xs.length xs.length hi - HT.sIx xs.length 0 lo)
@[simp] def aSl (d : D) (lo hi : Option Int) (R : RV → Prop) : Prop := match d with
  | .lst xs => R (.tm (.lst (cutD xs lo hi)))
  | .str s => s.length ≤ sizeLine ∧ R (.vl (.str (cutS s lo hi)))
  | .tup xs => ¬ (HT.sIx xs.length 0 lo = 0 ∧ HT.sIx xs.length xs.length hi = xs.length) ∧ R (.vl (.tup (cutD xs lo hi)))
  | _ => False
@[simp] def mSl (a : DM) (lo hi : DMO) : DM := fun env R => a env fun x e1 => lo e1 fun l e2 => hi e2 fun u e3 => x.con e3 fun d => aSl d l u fun r => R r e3
def rSlD (K : PySem.W.Frag) : V → Option Int → Option Int → Hp → VK → Prop := fun x lo hi H Q => rSlL K x lo hi H Q ∨ rSlS x lo hi H Q ∨ rSlT K x lo hi H Q
theorem sl_any : SlR X (rSlD X.K) := by
  intro pins s σ H x v vl vu lo hi sl Q I rx hs pl pu h
  rcases h with h | h | h
  · exact sl_list pins s σ H x v vl vu lo hi sl Q I rx hs pl pu h
  · exact sl_str pins s σ H x v vl vu lo hi sl Q I rx hs pl pu h
  · exact sl_tup pins s σ H x v vl vu lo hi sl Q I rx hs pl pu h
theorem RepL.cut {F : Hp} {vs : List V} {ds : List D} (r : RepL K F vs ds) (lo hi : Option Int) : RepL K F (cutV vs lo hi) (cutD ds lo hi) := by
  unfold cutV cutD
  rw [r.length]
  exact (r.drop _).take _
theorem dslice {e : Expr} {lo hi : Option Expr} {m : DM} {ml mh : DMO} {p2 : Pos} (h : DE X e m) (hl : DO X lo ml) (hh : DO X hi mh) : DE X (.Subscript e (.Slice lo hi none p2) pos) (mSl m ml mh) := by
  obtain ⟨t, p, ev⟩ := h
  obtain ⟨tl, pl, el⟩ := hl
  obtain ⟨th, ph, eh⟩ := hh
  refine ⟨_, pe_slice sl_any p pl ph, ?_⟩
  intro C F env σ H R Q I h k
  refine ev C F env σ H _ _ I h ?_
  intro x e1 F1 v H1 h1 A1 r1
  refine el C F1 e1 σ H1 _ _ A1.ok h1 ?_
  intro l e2 F2 H2 h2 A2
  refine eh C F2 e2 σ H2 _ _ A2.ok h2 ?_
  intro u e3 F3 H3 h3 A3
  obtain ⟨d, h4, s1⟩ := A3.ok.see ((r1.on A2).on A3) h3
  have A := (A1.trans A2).trans A3
  have g : Gives X.K C F3 e3 σ H3 (fun r => R r e3) Q := fun l F' w H' hl A' r' => k l e3 F' w H' hl (A.trans A') (r'.from fun p => A.back)
  have I3 := A3.ok
  cases d with
  | lst xs =>
    obtain ⟨p, vs, rfl, q1, q2⟩ := s1.lst I3.sub
    exact Or.inl ⟨p, vs, rfl, sq_of q1, fun a ha => g.lst I3 h4 (q2.cut l u) a ha⟩
  | str s => exact Or.inr (Or.inl ⟨s, s1.str.1, h4.1, g.str I3 (sOk_cut s1.str.2) h4.2⟩)
  | tup xs =>
    obtain ⟨p, vs, rfl, q1, q2⟩ := s1.tup
    exact Or.inr (Or.inr ⟨p, vs, rfl, ex_t I3.sub q1, by rw [q2.length]; exact h4.1, fun a ha => g.tup I3 h4.2 (q2.cut l u) a ha⟩)
  | _ => exact h4.elim
@[simp] def mRev (a : DM) : DM := fun env R => a env fun x e1 => x.con e1 fun d => match d with
  | .lst xs => R (.tm (.lst xs.reverse)) e1
  | _ => False

/-! ### calls of built-ins by values -/
abbrev DMA := List Slot → (List RV → List Slot → Prop) → Prop
inductive RVs (K : PySem.W.Frag) (C : Ct) (F : Hp) (env : List Slot) (σ : L2.St) (H0 H : Hp) : List V → List RV → Prop
  | nil : RVs K C F env σ H0 H [] []
  | cons {v : V} {vs : List V} {l : RV} {ls : List RV} : RVOk K C F env σ H0 H v l → RVs K C F env σ H0 H vs ls → RVs K C F env σ H0 H (v :: vs) (l :: ls)
theorem RVs.froms {C : Ct} {F H0 H1 H : Hp} {env : List Slot} {σ : L2.St} (h : ∀ p, H1 p = none → H0 p = none) : ∀ {vs : List V} {ls : List RV}, RVs K C F env σ H1 H vs ls → RVs K C F env σ H0 H vs ls
  | _, _, .nil => .nil
  | _, _, .cons a r => .cons (a.from h) (RVs.froms h r)
def EvA (K : PySem.W.Frag) (m : DMA) (t : TA) : Prop := ∀ C F env σ H R (Q : List V → Hp → Prop), Ok K C F env σ H → m env R →
  (∀ ls env' F' vs H', R ls env' → Aft K C F env σ H F' env' H' → RVs K C F' env' σ H H' vs ls → Q vs H') → t σ H Q
def DA (X : Cx) (es : List Expr) (m : DMA) : Prop := ∃ t, PA X es t ∧ EvA X.K m t
@[simp] def maNil : DMA := fun env R => R [] env
@[simp] def maCons (a : DM) (r : DMA) : DMA := fun env R => a env fun x e1 => r e1 fun ls e2 => R (x :: ls) e2
theorem da_nil : DA X [] maNil := ⟨_, pa_nil, fun C F env σ H R Q I h k => k [] env F [] H h I.aft .nil⟩
theorem da_cons {e : Expr} {es : List Expr} {m : DM} {ma : DMA} (h : DE X e m) (hr : DA X es ma) (hs : starEach (e :: es) X.env = (false, eval e X.env) :: starEach es X.env := by rfl) : DA X (e :: es) (maCons m ma) := by
  obtain ⟨t, p, ev⟩ := h
  obtain ⟨u, q, er⟩ := hr
  refine ⟨_, pa_cons p q hs, ?_⟩
  intro C F env σ H R Q I h k
  refine ev C F env σ H _ _ I h ?_
  intro x e1 F1 v H1 h1 A1 r1
  refine er C F1 e1 σ H1 _ _ A1.ok h1 ?_
  intro ls e3 F3 vs H3 h3 A3 r3
  exact k (x :: ls) e3 F3 (v :: vs) H3 h3 (A1.trans A3) (.cons (r1.on A3) (r3.froms fun p => A1.back))
@[simp] def cons (env : List Slot) : List RV → (List D → Prop) → Prop
  | [], R => R []
  | l :: ls, R => l.con env fun d => cons env ls fun ds => R (d :: ds)
inductive Sees (K : PySem.W.Frag) (F H : Hp) : List V → List D → Prop
  | nil : Sees K F H [] []
  | cons {v : V} {vs : List V} {d : D} {ds : List D} : See K F H v d → Sees K F H vs ds → Sees K F H (v :: vs) (d :: ds)
theorem Ok.sees {C : Ct} {F H0 H : Hp} {env : List Slot} {σ : L2.St} (I : Ok K C F env σ H) : ∀ {vs : List V} {ls : List RV} {R : List D → Prop}, RVs K C F env σ H0 H vs ls → cons env ls R → ∃ ds, R ds ∧ Sees K F H vs ds
  | _, _, R, .nil, h => ⟨[], h, .nil⟩
  | _, _, R, .cons a r, h => by
    obtain ⟨d, h1, s1⟩ := I.see a h
    obtain ⟨ds, h2, s2⟩ := Ok.sees I r h1
    exact ⟨d :: ds, h2, .cons s1 s2⟩
def OpN (K : PySem.W.Frag) (r : List V → Hp → VK → Prop) (f : List D → (RV → Prop) → Prop) : Prop := ∀ (C : Ct) (F : Hp) (env : List Slot) (σ : L2.St) (H : Hp) (vs : List V) (ds : List D) (R : RV → Prop) (Q : VK),
  Ok K C F env σ H → Sees K F H vs ds → f ds R → Gives K C F env σ H R Q → r vs H Q
@[simp] def mFn (f : List D → (RV → Prop) → Prop) (a : DMA) : DM := fun env R => a env fun ls e => cons e ls fun ds => f ds fun l => R l e
theorem evd_fn {r : List V → Hp → VK → Prop} {f : List D → (RV → Prop) → Prop} {m : DMA} {t : TA} (hf : OpN K r f) (ev : EvA K m t) : EvD K (mFn f m) (tCB r t) := by
  intro C F env σ H R Q I h k
  refine ev C F env σ H _ _ I h ?_
  intro ls e1 F1 vs H1 h1 A1 r1
  obtain ⟨ds, h2, s⟩ := A1.ok.sees r1 h1
  exact hf C F1 e1 σ H1 vs ds _ _ A1.ok s h2 fun l F2 u H2 hl A2 r2 => k l e1 F2 u H2 hl (A1.trans A2) (r2.from fun p => A1.back)
theorem dfnB {id : String} {r : List V → Hp → VK → Prop} {f : List D → (RV → Prop) → Prop} {x : Str} {p : Pos} {e : Expr} {es : List Expr} {m : DMA} (hc : CallR X (.builtin id) r) (hf : OpN X.K r f) (hg : Gl X x) (hm : X.mg x = none) (hv : bootBuiltins x = some (.builtin id)) (h : DA X (e :: es) m)
    (hn : x ≠ "__name__" := by decide) (hdb : (x == ("__debug__" : Str)) = false := by decide) (he : starEach (e :: es) X.env = (false, eval e X.env) :: starEach es X.env := by rfl) (hpl : (backTo pos (starEach es X.env)).any (·.1) = false := by rfl) :
    DE X (.Call (.Name x p) (e :: es) [] pos) (mFn f m) := by
  obtain ⟨t, pa, ev⟩ := h
  exact ⟨_, pe_callB hc hg hm hv pa hn hdb he hpl, evd_fn hf ev⟩
theorem dfnT {T : String} {r : List V → Hp → VK → Prop} {f : List D → (RV → Prop) → Prop} {x : Str} {p : Pos} {e : Expr} {es : List Expr} {m : DMA} (hc : CallR X (.type T) r) (hf : OpN X.K r f) (hg : Gl X x) (hm : X.mg x = none) (hv : bootBuiltins x = some (.type T)) (h : DA X (e :: es) m)
    (hn : x ≠ "__name__" := by decide) (hdb : (x == ("__debug__" : Str)) = false := by decide) (he : starEach (e :: es) X.env = (false, eval e X.env) :: starEach es X.env := by rfl) (hpl : (backTo pos (starEach es X.env)).any (·.1) = false := by rfl) :
    DE X (.Call (.Name x p) (e :: es) [] pos) (mFn f m) := by
  obtain ⟨t, pa, ev⟩ := h
  exact ⟨_, pe_callTy hc hg hm hv pa hn hdb he hpl, evd_fn hf ev⟩

@[simp] def aLen : List D → (RV → Prop) → Prop
  | [.lst xs], R => R (.vl (.int (xs.length : Int)))
  | [.tup xs], R => R (.vl (.int (xs.length : Int)))
  | [.scr ns], R => R (.vl (.int (ns.length : Int)))
  | [.str s], R => s.length ≤ sizeLine ∧ R (.vl (.int (s.length : Int)))
  | [.dic ks], R => R (.vl (.int (ks.length : Int)))
  | _, _ => False
def rLenD (K : PySem.W.Frag) : List V → Hp → VK → Prop := fun xs H Q => (∃ x n, xs = [x] ∧ LenV K x H n ∧ Q (.int n) H) ∨ ∃ a kvs, xs = [.ref a] ∧ H a = some (.dK kvs) ∧ Q (.int kvs.length) H
theorem call_lenX : CallR X (.builtin "len") (rLenD X.K) := by
  intro pins s σ H xs us Q I r h
  rcases h with h | h
  · exact call_len pins s σ H xs us Q I r h
  · exact call_lenD pins s σ H xs us Q I r h
theorem on_len : OpN K (rLenD K) aLen := by
  intro C F env σ H vs ds R Q I s h g
  unfold aLen at h
  split at h
  · cases s with
    | cons a r =>
      cases r
      obtain ⟨p, vs, rfl, e1, r1⟩ := a.lst I.sub
      exact Or.inl ⟨_, vs.length, rfl, Or.inl ⟨vs, sq_of e1, rfl⟩, by rw [r1.length]; exact g.int I h⟩
  · cases s with
    | cons a r =>
      cases r
      obtain ⟨p, vs, rfl, e1, r1⟩ := a.tup
      exact Or.inl ⟨_, vs.length, rfl, Or.inr ⟨vs, ex_t I.sub e1, rfl⟩, by rw [r1.length]; exact g.int I h⟩
  · cases s with
    | cons a r =>
      cases r
      obtain ⟨p, rfl, e1⟩ := a.scr
      exact Or.inl ⟨_, _, rfl, Or.inl ⟨_, ex_l I.sub e1, rfl⟩, by rw [List.length_map]; exact g.int I h⟩
  · cases s with
    | cons a r =>
      cases r
      exact Or.inl ⟨_, _, rfl, by rw [a.str.1]; exact ⟨h.1, rfl⟩, g.int I h.2⟩
  · cases s with
    | cons a r =>
      cases r
      obtain ⟨p, kvs, rfl, e1, k1, r1⟩ := a.dic I.sub
      have := congrArg List.length k1
      simp at this
      exact Or.inr ⟨p, kvs, rfl, e1, by rw [this]; exact g.int I h⟩
  · exact h.elim
@[simp] def asInts : List D → Option (List Int)
  | [] => some []
  | .int i :: r => (asInts r).map (i :: ·)
  | _ => none
@[simp] def asBls : List D → Option (List Bool)
  | [] => some []
  | .bl i :: r => (asBls r).map (i :: ·)
  | _ => none
@[simp] def asStrs : List D → Option (List Str)
  | [] => some []
  | .str i :: r => (asStrs r).map (i :: ·)
  | _ => none
theorem asInts_eq : ∀ {ds : List D} {ns : List Int}, asInts ds = some ns → ds = ns.map .int
  | [], ns, h => by simp at h; subst h; rfl
  | d :: ds, ns, h => by
    cases d with
    | int i =>
      simp only [asInts, Option.map_eq_some_iff] at h
      obtain ⟨r, h1, rfl⟩ := h
      rw [asInts_eq h1]; rfl
    | _ => simp at h
theorem asBls_eq : ∀ {ds : List D} {ns : List Bool}, asBls ds = some ns → ds = ns.map .bl
  | [], ns, h => by simp at h; subst h; rfl
  | d :: ds, ns, h => by
    cases d with
    | bl i =>
      simp only [asBls, Option.map_eq_some_iff] at h
      obtain ⟨r, h1, rfl⟩ := h
      rw [asBls_eq h1]; rfl
    | _ => simp at h
theorem asStrs_eq : ∀ {ds : List D} {ns : List Str}, asStrs ds = some ns → ds = ns.map .str
  | [], ns, h => by simp at h; subst h; rfl
  | d :: ds, ns, h => by
    cases d with
    | str i =>
      simp only [asStrs, Option.map_eq_some_iff] at h
      obtain ⟨r, h1, rfl⟩ := h
      rw [asStrs_eq h1]; rfl
    | _ => simp at h
@[simp] theorem asInts_map (ns : List Int) : asInts (ns.map .int) = some ns := by induction ns <;> simp_all
@[simp] theorem asBls_map (ns : List Bool) : asBls (ns.map .bl) = some ns := by induction ns <;> simp_all
@[simp] theorem asStrs_map (ns : List Str) : asStrs (ns.map .str) = some ns := by induction ns <;> simp_all
@[simp] def aSum : List D → (RV → Prop) → Prop
  | [.lst xs], R => ∃ ns, asInts xs = some ns ∧ R (.vl (.int ns.sum))
  | _, _ => False
@[simp] def aMax : List D → (RV → Prop) → Prop
  | [.lst xs], R => ∃ ns, asInts xs = some ns ∧ 0 < ns.length ∧ ∀ m, m ∈ ns → (∀ y, y ∈ ns → y ≤ m) → R (.vl (.int m))
  | [.int i, .int j], R => R (.vl (.int (if j > i then j else i)))
  | _, _ => False
@[simp] def aMin : List D → (RV → Prop) → Prop
  | [.lst xs], R => ∃ ns, asInts xs = some ns ∧ 0 < ns.length ∧ ∀ m, m ∈ ns → (∀ y, y ∈ ns → m ≤ y) → R (.vl (.int m))
  | [.int i, .int j], R => R (.vl (.int (if j < i then j else i)))
  | _, _ => False
@[simp] def aAll : List D → (RV → Prop) → Prop
  | [.lst xs], R => ∃ bs, asBls xs = some bs ∧ R (.vl (.bl (bs.all id)))
  | _, _ => False
@[simp] def aAny : List D → (RV → Prop) → Prop
  | [.lst xs], R => ∃ bs, asBls xs = some bs ∧ R (.vl (.bl (bs.any id)))
  | _, _ => False
theorem Sees.one {F H : Hp} {vs : List V} {d : D} (s : Sees K F H vs [d]) : ∃ v, vs = [v] ∧ See K F H v d := by
  cases s with
  | cons a r => cases r; exact ⟨_, rfl, a⟩
theorem Sees.two {F H : Hp} {vs : List V} {d e : D} (s : Sees K F H vs [d, e]) : ∃ v w, vs = [v, w] ∧ See K F H v d ∧ See K F H w e := by
  cases s with
  | cons a r => obtain ⟨w, rfl, b⟩ := r.one; exact ⟨_, w, rfl, a, b⟩
theorem on_sum : OpN K (rSum K) aSum := by
  intro C F env σ H vs ds R Q I s h g
  unfold aSum at h
  split at h
  · obtain ⟨v, rfl, a⟩ := s.one
    obtain ⟨ns, h1, h2⟩ := h
    obtain ⟨p, ws, rfl, e1, r1⟩ := a.lst I.sub
    rw [asInts_eq h1] at r1
    exact ⟨p, ns, rfl, by rw [r1.ints] at e1; exact sq_of e1, g.int I h2⟩
  · exact h.elim
theorem on_all : OpN K (rAll K) aAll := by
  intro C F env σ H vs ds R Q I s h g
  unfold aAll at h
  split at h
  · obtain ⟨v, rfl, a⟩ := s.one
    obtain ⟨ns, h1, h2⟩ := h
    obtain ⟨p, ws, rfl, e1, r1⟩ := a.lst I.sub
    rw [asBls_eq h1] at r1
    exact ⟨p, ns, rfl, by rw [r1.bls] at e1; exact sq_of e1, g.bl I h2⟩
  · exact h.elim
theorem on_any : OpN K (rAny K) aAny := by
  intro C F env σ H vs ds R Q I s h g
  unfold aAny at h
  split at h
  · obtain ⟨v, rfl, a⟩ := s.one
    obtain ⟨ns, h1, h2⟩ := h
    obtain ⟨p, ws, rfl, e1, r1⟩ := a.lst I.sub
    rw [asBls_eq h1] at r1
    exact ⟨p, ns, rfl, by rw [r1.bls] at e1; exact sq_of e1, g.bl I h2⟩
  · exact h.elim
end
end DL

set_option Elab.async false
set_option linter.all false
set_option maxRecDepth 100000
set_option maxHeartbeats 4000000
set_option autoImplicit false
/-! DL11: more built-ins over data. -/
namespace DL
open PySem PySem.Spec L2 Evl PyProof.Rows

section
variable {X : Cx} {K : PySem.W.Frag} {pos : Pos}
/-! ### max, min -/
def rMaxD2 (K : PySem.W.Frag) : List V → Hp → VK → Prop := fun xs H Q => rMax K xs H Q ∨ ∃ i j, xs = [.int i, .int j] ∧ Q (.int (if j > i then j else i)) H
def rMinD2 (K : PySem.W.Frag) : List V → Hp → VK → Prop := fun xs H Q => rMin K xs H Q ∨ ∃ i j, xs = [.int i, .int j] ∧ Q (.int (if j < i then j else i)) H
theorem call_maxX (hc : X.calm = true) : CallR X (.builtin "max") (rMaxD2 X.K) := by
  intro pins s σ H xs us Q I r h
  rcases h with h | h
  · exact cr_max hc pins s σ H xs us Q I r h
  · exact call_max2 hc pins s σ H xs us Q I r h
theorem call_minX (hc : X.calm = true) : CallR X (.builtin "min") (rMinD2 X.K) := by
  intro pins s σ H xs us Q I r h
  rcases h with h | h
  · exact cr_min hc pins s σ H xs us Q I r h
  · exact call_min2 hc pins s σ H xs us Q I r h
theorem on_max : OpN K (rMaxD2 K) aMax := by
  intro C F env σ H vs ds R Q I s h g
  unfold aMax at h
  split at h
  · obtain ⟨v, rfl, a⟩ := s.one
    obtain ⟨ns, h1, h2, h3⟩ := h
    obtain ⟨p, ws, rfl, e1, r1⟩ := a.lst I.sub
    rw [asInts_eq h1] at r1
    exact Or.inl ⟨p, ns, rfl, by rw [r1.ints] at e1; exact sq_of e1, h2, fun m hm hy => g.int I (h3 m hm hy)⟩
  · obtain ⟨v, w, rfl, a, b⟩ := s.two
    exact Or.inr ⟨_, _, by rw [a.int, b.int], g.int I h⟩
  · exact h.elim
theorem on_min : OpN K (rMinD2 K) aMin := by
  intro C F env σ H vs ds R Q I s h g
  unfold aMin at h
  split at h
  · obtain ⟨v, rfl, a⟩ := s.one
    obtain ⟨ns, h1, h2, h3⟩ := h
    obtain ⟨p, ws, rfl, e1, r1⟩ := a.lst I.sub
    rw [asInts_eq h1] at r1
    exact Or.inl ⟨p, ns, rfl, by rw [r1.ints] at e1; exact sq_of e1, h2, fun m hm hy => g.int I (h3 m hm hy)⟩
  · obtain ⟨v, w, rfl, a, b⟩ := s.two
    exact Or.inr ⟨_, _, by rw [a.int, b.int], g.int I h⟩
  · exact h.elim

/-! ### sorted, list, tuple, ord, int -/
@[simp] def aSorted : List D → (RV → Prop) → Prop
  | [.lst xs], R => match asInts xs with
    | some ns => ∀ ns' : List Int, ns'.Perm ns → ns'.Pairwise (· ≤ ·) → R (.tm (.lst (ns'.map .int)))
    | none => False
  | _, _ => False
theorem on_sorted : OpN K (rSortedI K) aSorted := by
  intro C F env σ H vs ds R Q I s h g
  unfold aSorted at h
  split at h
  · obtain ⟨v, rfl, a⟩ := s.one
    split at h
    · rename_i ns h1
      obtain ⟨p, ws, rfl, e1, r1⟩ := a.lst I.sub
      rw [asInts_eq h1] at r1
      exact ⟨p, ns, rfl, by rw [r1.ints] at e1; exact sq_of e1, fun ns' q hp hs hq => g.lst I (h ns' hp hs) (RepL.ofInts ns') q hq⟩
    · exact h.elim
  · exact h.elim
@[simp] def aList : List D → (RV → Prop) → Prop
  | [.lst xs], R => R (.tm (.lst xs))
  | [.tup xs], R => R (.tm (.lst xs))
  | _, _ => False
@[simp] def aTuple : List D → (RV → Prop) → Prop
  | [.lst xs], R => R (.vl (.tup xs))
  | [.tup xs], R => R (.vl (.tup xs))
  | _, _ => False
theorem on_list : OpN K (fun xs H Q => ∃ p ys, xs = [.ref p] ∧ (SqL K H p ys ∨ SqT K H p ys) ∧ ∀ l, H l = none → Q (.ref l) (upd H l (.lst ys))) aList := by
  intro C F env σ H vs ds R Q I s h g
  unfold aList at h
  split at h
  · obtain ⟨v, rfl, a⟩ := s.one
    obtain ⟨p, ws, rfl, e1, r1⟩ := a.lst I.sub
    exact ⟨p, ws, rfl, Or.inl (sq_of e1), fun q hq => g.lst I h r1 q hq⟩
  · obtain ⟨v, rfl, a⟩ := s.one
    obtain ⟨p, ws, rfl, e1, r1⟩ := a.tup
    exact ⟨p, ws, rfl, Or.inr (ex_t I.sub e1), fun q hq => g.lst I h r1 q hq⟩
  · exact h.elim
theorem See.tupRep {F H : Hp} {v : V} {ds : List D} (s : See K F H v (.tup ds)) : Rep K F v (.tup ds) := by
  cases s with
  | rep r => exact r
  | obj e r =>
    unfold RepO at r
    split at r <;> first | (rename_i q; cases q) | exact r.elim
theorem on_tuple : OpN K (fun xs H Q => ∃ p ys, xs = [.ref p] ∧ ((SqL K H p ys ∧ ∀ l, H l = none → Q (.ref l) (upd H l (.tup ys))) ∨ (SqT K H p ys ∧ Q (.ref p) H))) aTuple := by
  intro C F env σ H vs ds R Q I s h g
  unfold aTuple at h
  split at h
  · obtain ⟨v, rfl, a⟩ := s.one
    obtain ⟨p, ws, rfl, e1, r1⟩ := a.lst I.sub
    exact ⟨p, ws, rfl, Or.inl ⟨sq_of e1, fun q hq => g.tup I h r1 q hq⟩⟩
  · obtain ⟨v, rfl, a⟩ := s.one
    obtain ⟨p, ws, e0, e1, r1⟩ := a.tup
    subst e0
    exact ⟨p, ws, rfl, Or.inr ⟨ex_t I.sub e1, g.here I h a.tupRep⟩⟩
  · exact h.elim
@[simp] def aOrd1 : List D → (RV → Prop) → Prop
  | [.str s], R => s.length = 1 ∧ R (.vl (.int (s.cps.getD 0 0 : Nat)))
  | _, _ => False
theorem on_ord : OpN K (fun xs H Q => ∃ x, xs = [.str x] ∧ x.length = 1 ∧ Q (.int (x.cps.getD 0 0 : Nat)) H) aOrd1 := by
  intro C F env σ H vs ds R Q I s h g
  unfold aOrd1 at h
  split at h
  · obtain ⟨v, rfl, a⟩ := s.one
    exact ⟨_, by rw [a.str.1], h.1, g.int I h.2⟩
  · exact h.elim
@[simp] def aIntOf : List D → (RV → Prop) → Prop
  | [.str s], R => ∃ n, PySem.intText? s = some n ∧ s.length ≤ 640 ∧ R (.vl (.int n))
  | _, _ => False
theorem on_int : OpN K (fun xs H Q => ∃ a n, xs = [.str a] ∧ PySem.intText? a = some n ∧ a.length ≤ 640 ∧ Q (.int n) H) aIntOf := by
  intro C F env σ H vs ds R Q I s h g
  unfold aIntOf at h
  split at h
  · obtain ⟨v, rfl, a⟩ := s.one
    obtain ⟨n, h1, h2, h3⟩ := h
    exact ⟨_, n, by rw [a.str.1], h1, h2, g.int I h3⟩
  · exact h.elim

/-! ### isinstance -/
@[simp] def D.ty : D → String
  | .non => "NoneType"
  | .bl _ => "bool"
  | .int _ => "int"
  | .str _ => "str"
  | .lst _ => "list"
  | .tup _ => "tuple"
  | .dic _ => "dict"
  | .scr _ => "list"
  | .fn _ => "NoneType"
  | .obj _ _ => "NoneType"
  | .exc _ _ _ => "NoneType"
@[simp] def onBi : D → Prop → Prop
  | .fn _, _ => False
  | .obj _ _, _ => False
  | .exc _ _ _, _ => False
  | _, P => P
@[simp] def isTy (d : D) (T : String) : Bool := d.ty == T || (d.ty == "bool" && T == "int")
theorem sqT_ty {H : Hp} {p : Addr} {vs : List V} (h : SqT K H p vs) : TyX K H (.ref p) (.type "tuple") := by
  rcases h with (h | ⟨o, h⟩) | ⟨o, its, n, h, hc, _⟩
  · exact .base (.tup h)
  · exact .fTuple h
  · exact .kTuple h hc
theorem sqL_ty {H : Hp} {p : Addr} {vs : List V} (h : SqL K H p vs) : TyX K H (.ref p) (.type "list") := by
  rcases h with (h | ⟨o, h⟩) | ⟨o, its, n, h, hc, _⟩
  · exact .base (.lst h)
  · exact .base (.frz h)
  · exact .kList h hc
theorem See.ty {F H : Hp} {v : V} {d : D} {P : Prop} (x : Ex F H) (s : See K F H v d) (b : onBi d P) : TyX K H v (.type d.ty) ∧ P := by
  refine ⟨?_, by cases d <;> first | exact b | exact b.elim⟩
  cases d with
  | fn a => exact b.elim
  | obj C fs => exact b.elim
  | exc a dd fs => exact b.elim
  | non => rw [s.non]; exact .base .non
  | bl b' => rw [s.bl]; exact .base (.bl b')
  | int i => rw [s.int]; exact .base (.int i)
  | str y => rw [s.str.1]; exact .base (.str y)
  | lst xs => obtain ⟨p, vs, rfl, e, _⟩ := s.lst x; exact .base (.lst e)
  | tup xs => obtain ⟨p, vs, rfl, e, _⟩ := s.tup; exact sqT_ty (ex_t x e)
  | dic ks => obtain ⟨p, vs, rfl, e, _⟩ := s.dic x; exact .base (.dK e)
  | scr ns => obtain ⟨p, rfl, e⟩ := s.scr; exact sqL_ty (ex_l x e)
@[simp] def mIsi (a : DM) (T : String) : DM := fun env R => a env fun x e1 => x.con e1 fun d => onBi d (R (.vl (.bl (isTy d T))) e1)
theorem disi {e : Expr} {m : DM} {T : String} {x : Str} {p q : Pos} (h : DE X e m) (hg : Gl X "isinstance") (hm : X.mg "isinstance" = none) (hgT : Gl X x) (hmT : X.mg x = none) (hvT : bootBuiltins x = some (.type T))
    (kit : ∀ d : D, PySem.W.kitOne X.K (.type d.ty) (.type T) = some (isTy d T))
    (hn : x ≠ "__name__" := by decide) (hdb : (x == ("__debug__" : Str)) = false := by decide)
    (hs1 : starEach [e, .Name x q] X.env = (false, eval e X.env) :: starEach [.Name x q] X.env := by rfl) (hs2 : starEach [.Name x q] X.env = (false, eval (.Name x q) X.env) :: starEach [] X.env := by rfl)
    (hpl : (backTo pos (starEach [.Name x q] X.env)).any (·.1) = false := by rfl) :
    DE X (.Call (.Name "isinstance" p) [e, .Name x q] [] pos) (mIsi m T) := by
  obtain ⟨t, pe, ev⟩ := h
  have pt : PE X (.Name x q) (tC (.ty T)) := pe_bltn (v := .ty T) hgT hmT hvT rfl hn hdb
  refine ⟨_, pe_callB call_isi hg hm PyProof.Rows.boot_isinstance (pa_cons pe (pa_cons pt pa_nil hs2) hs1) (by decide) (by decide) hs1 hpl, ?_⟩
  intro C F env σ H R Q I h k
  refine ev C F env σ H _ _ I h ?_
  intro y e1 F1 v H1 h1 A1 r1
  obtain ⟨d, h3, s1⟩ := A1.ok.see r1 h1
  exact ⟨v, .ty T, .type d.ty, .type T, isTy d T, rfl, .ty T, (s1.ty A1.ok.sub h3).1, kit d, k _ e1 F1 _ H1 (s1.ty A1.ok.sub h3).2 A1 (Rep.bl _)⟩
@[simp] def mIsi2 (a : DM) (T U : String) : DM := fun env R => a env fun x e1 => x.con e1 fun d => onBi d (R (.vl (.bl (isTy d T || isTy d U))) e1)
theorem disi2 {e : Expr} {m : DM} {T U : String} {x y : Str} {p q q2 qt : Pos} {kk : Nat} (h : DE X e m) (hg : Gl X "isinstance") (hm : X.mg "isinstance" = none)
    (hgT : Gl X x) (hmT : X.mg x = none) (hvT : bootBuiltins x = some (.type T)) (hgU : Gl X y) (hmU : X.mg y = none) (hvU : bootBuiltins y = some (.type U))
    (kit : ∀ d : D, PySem.W.kitAny X.K (.type d.ty) [.type T, .type U] = some (isTy d T || isTy d U))
    (hn : x ≠ "__name__" := by decide) (hdb : (x == ("__debug__" : Str)) = false := by decide) (hn2 : y ≠ "__name__" := by decide) (hdb2 : (y == ("__debug__" : Str)) = false := by decide)
    (ht1 : starEach [.Name x q, .Name y q2] X.env = (false, eval (.Name x q) X.env) :: starEach [.Name y q2] X.env := by rfl) (ht2 : starEach [.Name y q2] X.env = (false, eval (.Name y q2) X.env) :: starEach [] X.env := by rfl)
    (hs1 : starEach [e, .Tuple [.Name x q, .Name y q2] kk qt] X.env = (false, eval e X.env) :: starEach [.Tuple [.Name x q, .Name y q2] kk qt] X.env := by rfl)
    (hs2 : starEach [.Tuple [.Name x q, .Name y q2] kk qt] X.env = (false, eval (.Tuple [.Name x q, .Name y q2] kk qt) X.env) :: starEach [] X.env := by rfl)
    (hpl : (backTo pos (starEach [.Tuple [.Name x q, .Name y q2] kk qt] X.env)).any (·.1) = false := by rfl) :
    DE X (.Call (.Name "isinstance" p) [e, .Tuple [.Name x q, .Name y q2] kk qt] [] pos) (mIsi2 m T U) := by
  obtain ⟨t, pe, ev⟩ := h
  have pt : PE X (.Name x q) (tC (.ty T)) := pe_bltn (v := .ty T) hgT hmT hvT rfl hn hdb
  have pu : PE X (.Name y q2) (tC (.ty U)) := pe_bltn (v := .ty U) hgU hmU hvU rfl hn2 hdb2
  refine ⟨_, pe_callB call_isiT hg hm PyProof.Rows.boot_isinstance (pa_cons pe (pa_cons (pe_tup (pa_cons pt (pa_cons pu pa_nil ht2) ht1)) pa_nil hs2) hs1) (by decide) (by decide) hs1 hpl, ?_⟩
  intro C F env σ H R Q I h k
  refine ev C F env σ H _ _ I h ?_
  intro z e1 F1 v H1 h1 A1 r1
  obtain ⟨d, h3, s1⟩ := A1.ok.see r1 h1
  refine ⟨by show 2 ≤ sizeLine; decide, fun T' hT' => ?_⟩
  have B := A1.ok.tmp hT' (.tup [.ty T, .ty U])
  have s1' : See X.K F1 (upd H1 T' (.tup [.ty T, .ty U])) v d := by
    cases s1 with
    | rep r => exact .rep r
    | obj e r => exact .obj (by rw [upd_ne (ne_of_none e hT')]; exact e) r
  exact ⟨v, T', [.ty T, .ty U], .type d.ty, [.type T, .type U], _, rfl, upd_same, .cons (.ty T) (.cons (.ty U) .nil), (s1'.ty B.ok.sub h3).1, kit d, k _ e1 F1 _ _ (s1'.ty B.ok.sub h3).2 (A1.trans B) (Rep.bl _)⟩
end

/-! ### repr -/
section
theorem toNat_lt (c : Char) : c.toNat < 0x110000 := by
  have h := c.valid
  simp only [UInt32.isValidChar, Nat.isValidChar] at h
  have : c.toNat = c.val.toNat := rfl
  omega
theorem mem_map_toNat {l : List Char} {n : Nat} (h : n ∈ l.map Char.toNat) : n < 0x110000 := by
  obtain ⟨c, _, rfl⟩ := List.mem_map.mp h
  exact toNat_lt c
theorem sOk_ofString (s : String) : PyData.strOk (Str.ofString s) = true := by
  rw [sOk_iff]
  rw [Str.ofString_eq_toList]
  intro c h
  exact mem_map_toNat (by simpa using h)
theorem sOk_join {sep : Str} (h : PyData.strOk sep = true) : ∀ {ts : List Str}, (∀ t ∈ ts, PyData.strOk t = true) → PyData.strOk (Str.join sep ts) = true
  | [], _ => by rw [sOk_iff]; intro c m; exact absurd m (by simp [Str.join, Str.empty])
  | [x], k => k x (by simp)
  | x :: y :: r, k => by
    show PyData.strOk (x ++ sep ++ Str.join sep (y :: r)) = true
    exact sOk_append (sOk_append (k x (by simp)) h) (sOk_join h fun t m => k t (List.mem_cons_of_mem _ m))
theorem sOk_textFrom : ∀ {ts : List Str} {k : Nat} {acc : Str}, PyData.strOk acc = true → (∀ t ∈ ts, PyData.strOk t = true) → PyData.strOk (textFrom k acc ts) = true
  | [], k, acc, h, _ => h
  | t :: r, k, acc, h, q => by
    show PyData.strOk (textFrom (k + 1) (acc ++ (if k > 0 then ", " else "" : String) ++ t) r) = true
    refine sOk_textFrom (sOk_append (sOk_append h (sOk_ofString _)) (q t (by simp))) fun u m => q u (List.mem_cons_of_mem _ m)
theorem reprChar_ok {q c n : Nat} (hc : c < 0x110000) (h : n ∈ Builtin.Str.reprChar q c) : n < 0x110000 := by
  unfold Builtin.Str.reprChar at h
  have hx : ∀ w, n ∈ (List.replicate (w - ((Nat.toDigits 16 c).map Char.toNat).length) 48 ++ (Nat.toDigits 16 c).map Char.toNat) → n < 0x110000 := fun w m => by
    rcases List.mem_append.mp m with m | m
    · have := (List.mem_replicate.mp m).2; omega
    · exact mem_map_toNat m
  have two : ∀ a b : Nat, a < 0x110000 → b < 0x110000 → n ∈ [a, b] → n < 0x110000 := fun a b ha hb m => by
    simp at m; rcases m with rfl | rfl <;> assumption
  dsimp only at h
  split at h
  · exact two _ _ (by omega) hc h
  · split at h
    · exact two _ _ (by omega) (by omega) h
    · split at h
      · exact two _ _ (by omega) (by omega) h
      · split at h
        · exact two _ _ (by omega) (by omega) h
        · split at h
          · simp at h; omega
          · split at h
            · rcases List.mem_append.mp h with h | h
              · exact two _ _ (by omega) (by omega) h
              · exact hx _ h
            · split at h
              · rcases List.mem_append.mp h with h | h
                · exact two _ _ (by omega) (by omega) h
                · exact hx _ h
              · rcases List.mem_append.mp h with h | h
                · exact two _ _ (by omega) (by omega) h
                · exact hx _ h
theorem reprFold_ok {q : Nat} : ∀ {l : List Nat} {acc : Array Nat}, (∀ c ∈ l, c < 0x110000) → (∀ c ∈ acc.toList, c < 0x110000) → ∀ c ∈ (l.foldl (fun out c => out ++ (Builtin.Str.reprChar q c).toArray) acc).toList, c < 0x110000
  | [], acc, _, h => h
  | x :: l, acc, hl, h => by
    refine reprFold_ok (l := l) (fun c m => hl c (List.mem_cons_of_mem _ m)) fun c m => ?_
    rw [Array.toList_append, List.mem_append] at m
    exact m.elim (h c) fun m => reprChar_ok (hl x (by simp)) m
theorem sOk_repr {s : Str} (h : PyData.strOk s = true) : PyData.strOk (reprText s) = true := by
  rw [sOk_iff] at h ⊢
  intro c m
  unfold reprText at m
  have q : reprQuote s < 0x110000 := by unfold reprQuote; split <;> omega
  rw [← Array.foldl_toList] at m
  simp only [Array.toList_push, List.mem_append, List.mem_singleton] at m
  rcases m with m | rfl
  · exact reprFold_ok h (by simpa using q) c m
  · exact q
mutual
theorem sOk_shown : ∀ d : PyData, d.canLay0 = true → PyData.strOk d.shown = true
  | .none, _ => by simp only [PyData.shown]; exact sOk_ofString _
  | .bool b, _ => by simp only [PyData.shown]; split <;> exact sOk_ofString _
  | .int i, _ => by simp only [PyData.shown]; exact sOk_ofString _
  | .str s, h => by simp only [PyData.shown]; exact sOk_repr (by simpa [PyData.canLay0] using h)
  | .list xs, h => by
    simp only [PyData.shown, listText]
    exact sOk_append (sOk_textFrom (sOk_ofString _) (sOk_shownAll xs (by simpa [PyData.canLay0] using h))) (sOk_ofString _)
  | .tuple xs, h => by
    simp only [PyData.shown, tupleText]
    exact sOk_append (sOk_append (sOk_ofString _) (sOk_join (sOk_ofString _) (sOk_shownAll xs (by simpa [PyData.canLay0] using h)))) (sOk_ofString _)
  | .dict _, h => by simp [PyData.canLay0] at h
theorem sOk_shownAll : ∀ ds : List PyData, PyData.canLayAll0 ds = true → ∀ t ∈ PyData.shownAll ds, PyData.strOk t = true
  | [], _, t, m => by simp [PyData.shownAll] at m
  | d :: ds, h, t, m => by
    simp only [PyData.canLayAll0, Bool.and_eq_true] at h
    simp only [PyData.shownAll, List.mem_cons] at m
    rcases m with rfl | m
    · exact sOk_shown d h.1
    · exact sOk_shownAll ds h.2 t m
end
/-! a bound of what repr tells -/
mutual
@[simp] def D.wt : D → Nat
  | .non => 4
  | .bl _ => 5
  | .int _ => 1921
  | .str s => 10 * s.length + 2
  | .lst xs => D.wtL xs + 4
  | .tup xs => D.wtL xs + 4
  | _ => 0
@[simp] def D.wtL : List D → Nat
  | [] => 0
  | d :: ds => D.wt d + 2 + D.wtL ds
end
theorem wtL_append : ∀ xs ys : List D, D.wtL (xs ++ ys) = D.wtL xs + D.wtL ys
  | [], ys => by simp
  | x :: xs, ys => by simp [wtL_append xs ys]; omega
theorem wtL_le {k : Nat} : ∀ {xs : List D}, (∀ d ∈ xs, d.wt ≤ k) → D.wtL xs ≤ xs.length * (k + 2)
  | [], _ => by simp
  | x :: xs, h => by
    have h1 := h x (by simp)
    have h2 := wtL_le (xs := xs) fun d m => h d (List.mem_cons_of_mem _ m)
    simp only [D.wtL, List.length_cons, Nat.add_mul]
    omega
/-! numbers that repr writes -/
mutual
@[simp] def D.shw : D → Bool
  | .int i => decide (i.natAbs.log2 < 1920)
  | .lst xs => D.shwL xs
  | .tup xs => D.shwL xs
  | _ => true
@[simp] def D.shwL : List D → Bool
  | [] => true
  | d :: ds => D.shw d && D.shwL ds
end
theorem shwL_all : ∀ {xs : List D}, (∀ d ∈ xs, d.shw = true) → D.shwL xs = true
  | [], _ => rfl
  | x :: xs, h => by
    simp only [D.shwL, Bool.and_eq_true]
    exact ⟨h x (by simp), shwL_all fun d m => h d (List.mem_cons_of_mem _ m)⟩
theorem reprChar_len {q c : Nat} (hc : c < 0x110000) : (Builtin.Str.reprChar q c).length ≤ 10 := by
  unfold Builtin.Str.reprChar
  have hx : ∀ w, w ≤ 8 → (List.replicate (w - ((Nat.toDigits 16 c).map Char.toNat).length) 48 ++ (Nat.toDigits 16 c).map Char.toNat).length ≤ 8 := fun w h => by
    have := (Nat.length_toDigits_le_iff (b := 16) (n := c) (k := 8) (by decide) (by decide)).mpr (by omega)
    simp only [List.length_append, List.length_replicate, List.length_map]
    omega
  dsimp only
  have h2 := hx 2 (by decide)
  have h4 := hx 4 (by decide)
  have h8 := hx 8 (by decide)
  split
  · simp
  · split
    · simp
    · split
      · simp
      · split
        · simp
        · split
          · simp
          · split
            · rw [List.length_append]; simp only [List.length_cons, List.length_nil]; omega
            · split
              · rw [List.length_append]; simp only [List.length_cons, List.length_nil]; omega
              · rw [List.length_append]; simp only [List.length_cons, List.length_nil]; omega
theorem reprFold_len {q : Nat} : ∀ {l : List Nat} {acc : Array Nat}, (∀ c ∈ l, c < 0x110000) → (l.foldl (fun out c => out ++ (Builtin.Str.reprChar q c).toArray) acc).size ≤ acc.size + 10 * l.length
  | [], acc, _ => by simp
  | x :: l, acc, hl => by
    have h1 := reprFold_len (q := q) (l := l) (acc := acc ++ (Builtin.Str.reprChar q x).toArray) fun c m => hl c (List.mem_cons_of_mem _ m)
    have h2 := reprChar_len (q := q) (hl x (by simp))
    simp only [List.foldl_cons, Array.size_append, List.size_toArray, List.length_cons] at h1 ⊢
    omega
theorem repr_len {s : Str} (h : PyData.strOk s = true) : (reprText s).length ≤ 10 * s.length + 2 := by
  rw [sOk_iff] at h
  unfold reprText
  rw [← Array.foldl_toList]
  have := reprFold_len (q := reprQuote s) (acc := #[reprQuote s]) h
  show (Array.push _ _).size ≤ _
  rw [Array.size_push]
  have e : s.cps.toList.length = s.length := by simp [Str.length]
  rw [e] at this
  have e1 : (#[reprQuote s] : Array Nat).size = 1 := rfl
  rw [e1] at this
  omega
theorem textFrom_size : ∀ (ts : List Str) (k : Nat) (acc : Str), (textFrom k acc ts).length ≤ acc.length + (ts.map fun t => t.length + 2).sum
  | [], k, acc => by show acc.length ≤ _; omega
  | t :: r, k, acc => by
    have h := textFrom_size r (k + 1) (acc ++ (if k > 0 then ", " else "" : String) ++ t)
    have e : (acc ++ (if k > 0 then ", " else "" : String) ++ t).length ≤ acc.length + 2 + t.length := by
      rw [strLen_append, strLen_append]
      split
      · have : Str.length (", " : String) = 2 := rfl
        omega
      · have : Str.length ("" : String) = 0 := rfl
        omega
    show (textFrom (k + 1) _ r).length ≤ _
    simp only [List.map_cons, List.sum_cons]
    omega
theorem join_size : ∀ ts : List Str, (Str.join (", " : String) ts).length ≤ (ts.map fun t => t.length + 2).sum
  | [] => Nat.zero_le _
  | [x] => by show x.length ≤ _; simp
  | x :: y :: r => by
    have h := join_size (y :: r)
    show (x ++ (", " : String) ++ Str.join (", " : String) (y :: r)).length ≤ _
    rw [strLen_append, strLen_append]
    have : Str.length (", " : String) = 2 := rfl
    simp only [List.map_cons, List.sum_cons] at h ⊢
    omega
mutual
theorem shown_size {K : PySem.W.Frag} {F : Hp} : ∀ (d : D) (v : V), Rep K F v d → ∀ n, D.lvl n d = true → d.shw = true → d.py.showable = true ∧ d.py.shown.length ≤ d.wt
  | .non, _, .non, n, _, _ => ⟨rfl, by simp only [D.py, PyData.shown]; exact Nat.le_refl _⟩
  | .bl b, _, .bl _, n, _, _ => ⟨rfl, by cases b <;> simp only [D.py, PyData.shown] <;> decide⟩
  | .int i, _, .int _, n, _, h => by
    have h' : i.natAbs.log2 < 1920 := by simpa using h
    refine ⟨by simpa [PyData.showable] using h', ?_⟩
    simp only [D.py, PyData.shown, D.wt, PySem.ofString_length]
    exact int_text_length_le (by decide) h'
  | .str s, _, .str _ o, n, _, _ => ⟨rfl, by simp only [D.py, PyData.shown, D.wt]; exact repr_len o⟩
  | .lst ds, _, .lst e r, 0, h, _ => by simp [D.lvl] at h
  | .lst ds, _, .lst e r, n + 1, h, k => by
    obtain ⟨a, b⟩ := shownL_size ds _ r n (by simpa [D.lvl] using h) (by simpa using k)
    refine ⟨by simpa [PyData.showable] using a, ?_⟩
    simp only [D.py, PyData.shown, D.wt, listText]
    have := textFrom_size (PyData.shownAll (D.pyL ds)) 0 ("[" : String)
    have e1 : Str.length ("[" : String) = 1 := rfl
    have e2 : Str.length ("]" : String) = 1 := rfl
    rw [strLen_append]
    omega
  | .tup ds, _, .tup e r, 0, h, _ => by simp [D.lvl] at h
  | .tup ds, _, .tup e r, n + 1, h, k => by
    obtain ⟨a, b⟩ := shownL_size ds _ r n (by simpa [D.lvl] using h) (by simpa using k)
    refine ⟨by simpa [PyData.showable] using a, ?_⟩
    simp only [D.py, PyData.shown, D.wt, tupleText]
    have := join_size (PyData.shownAll (D.pyL ds))
    have e1 : Str.length ("(" : String) = 1 := rfl
    rw [strLen_append, strLen_append]
    have e2 : Str.length (if ((PyData.shownAll (D.pyL ds)).length == 1) = true then ",)" else ")" : String) ≤ 2 := by
      split
      · exact Nat.le_refl 2
      · exact (by decide : (1 : Nat) ≤ 2)
    omega
  | .dic _, _, _, 0, h, _ => by simp [D.lvl] at h
  | .dic _, _, _, n + 1, h, _ => by simp [D.lvl] at h
  | .scr _, _, _, 0, h, _ => by simp [D.lvl] at h
  | .scr _, _, _, n + 1, h, _ => by simp [D.lvl] at h
  | .fn _, _, _, 0, h, _ => by simp [D.lvl] at h
  | .fn _, _, _, n + 1, h, _ => by simp [D.lvl] at h
  | .obj _ _, _, _, 0, h, _ => by simp [D.lvl] at h
  | .obj _ _, _, _, n + 1, h, _ => by simp [D.lvl] at h
  | .exc _ _ _, _, _, 0, h, _ => by simp [D.lvl] at h
  | .exc _ _ _, _, _, n + 1, h, _ => by simp [D.lvl] at h
theorem shownL_size {K : PySem.W.Frag} {F : Hp} : ∀ (ds : List D) (vs : List V), RepL K F vs ds → ∀ n, ds.all (D.lvl n) = true → D.shwL ds = true → PyData.showableAll (D.pyL ds) = true ∧ ((PyData.shownAll (D.pyL ds)).map fun t => t.length + 2).sum ≤ D.wtL ds
  | [], _, .nil, n, _, _ => ⟨rfl, by simp [PyData.shownAll]⟩
  | d :: ds, _, .cons x r, n, h, k => by
    simp only [List.all_cons, Bool.and_eq_true] at h
    simp only [D.shwL, Bool.and_eq_true] at k
    obtain ⟨a1, b1⟩ := shown_size d _ x n h.1 k.1
    obtain ⟨a2, b2⟩ := shownL_size ds _ r n h.2 k.2
    refine ⟨by simp [PyData.showableAll, a1, a2], ?_⟩
    simp only [D.pyL, PyData.shownAll, List.map_cons, List.sum_cons, D.wtL]
    omega
end
end
def reprD (d : D) : Str := d.py.shown
@[simp] def aRepr : List D → (RV → Prop) → Prop
  | [d], R => D.lvl 60 d = true ∧ d.shw = true ∧ d.wt ≤ 16000000 ∧ R (.vl (.str (reprD d)))
  | _, _ => False
section
variable {X : Cx} {K : PySem.W.Frag}
theorem See.plain {F H : Hp} {v : V} {d : D} (x : Ex F H) (s : See K F H v d) (h : D.lvl 60 d = true) : ∃ F', Ex F F' ∧ (F' = F ∨ ∃ p o, F' = upd F p o ∧ H p = some o) ∧ Rep K F' v d := by
  cases s with
  | rep r => exact ⟨F, Ex.refl F, Or.inl rfl, r⟩
  | obj e r =>
    rename_i p o
    cases q : F p with
    | none => exact ⟨upd F p o, Ex.new q, Or.inr ⟨p, o, rfl, e⟩, (r.mono (Ex.new q)).rep upd_same⟩
    | some u =>
      have := x p u q
      rw [e] at this; cases this
      exact ⟨F, Ex.refl F, Or.inl rfl, r.rep q⟩
def rRepr (K : PySem.W.Frag) : List V → Hp → VK → Prop := fun xs H Q => ∃ x d, xs = [x] ∧ Dp K H x d ∧ d.canLay0 = true ∧ d.showable = true ∧ d.depth ≤ 60 ∧ d.shown.length ≤ sizeLine ∧ Q (.str d.shown) H
theorem call_repr (hgd : X.A.guards = some []) (hu : X.A.units + 64 < cLine) : CallR X (.builtin "repr") (rRepr X.K) := by
  intro pins s σ H xs us Q I r h
  obtain ⟨x, d, rfl, hd, hl, hs, hp, hz, q⟩ := h
  obtain ⟨u, rfl, rx⟩ := vals1 r
  obtain ⟨as, rd⟩ := Dp.reads I d x u hd rx
  cases hd with
  | non =>
    cases rx
    simp only [PyData.shown] at q
    exact PySem.P.repr_of_none ⟨.str _, H, I.tok _, ⟨_, rfl⟩, q⟩
  | bl b =>
    cases rx
    simp only [PyData.shown] at q
    refine PySem.P.repr_of_bool ⟨.str _, H, I.tok _, ⟨_, rfl⟩, ?_⟩
    exact q
  | int i =>
    obtain ⟨t, rfl⟩ := rx
    simp only [PyData.shown] at q
    exact PySem.P.repr_of_int (by simpa [PyData.showable] using hs) ⟨.str _, H, I.tok _, ⟨_, rfl⟩, q⟩
  | str z =>
    obtain ⟨t, rfl⟩ := rx
    simp only [PyData.shown] at q hz
    exact PySem.P.repr_of_str ⟨.str _, H, I.tok _, ⟨_, rfl⟩, q⟩ hz
  | lst _ _ =>
    cases rx
    refine repr_of_reads' rd hs (fun h => ?_) hgd (by omega) (fun _ _ e => e) (fun h' u tk hk => ⟨.str _, H, I.kept hk, ⟨_, rfl⟩, q⟩) hz
    rw [PyData.hasDict_of_canLay _ hl] at h; cases h
  | tup _ _ =>
    cases rx
    refine repr_of_reads' rd hs (fun h => ?_) hgd (by omega) (fun _ _ e => e) (fun h' u tk hk => ⟨.str _, H, I.kept hk, ⟨_, rfl⟩, q⟩) hz
    rw [PyData.hasDict_of_canLay _ hl] at h; cases h
theorem on_repr : OpN K (rRepr K) aRepr := by
  intro C F env σ H vs ds R Q I s h g
  unfold aRepr at h
  split at h
  · obtain ⟨v, rfl, a⟩ := s.one
    obtain ⟨h1, h2, h3, h4⟩ := h
    obtain ⟨F', ex, hF', rp⟩ := a.plain I.sub h1
    have ex' : Ex F' H := by
      rcases hF' with rfl | ⟨p, o, rfl, hp⟩
      · exact I.sub
      · intro b u e
        by_cases z : b = p
        · subst z; rw [upd_same] at e; cases e; exact hp
        · rw [upd_ne z] at e; exact I.sub b u e
    obtain ⟨a1, a2, a3⟩ := lay_of _ v rp 60 h1
    obtain ⟨b1, b2⟩ := shown_size _ v rp 60 h1 h2
    exact ⟨v, _, rfl, Dp.up ex' a3, a1, b1, a2, by rw [sizeLine_eq]; omega, g.str I (sOk_shown _ a1) h4⟩
  · exact h.elim
end
end DL

set_option Elab.async false
set_option linter.all false
set_option maxRecDepth 100000
set_option maxHeartbeats 4000000
set_option autoImplicit false
/-! DL12: stores, dicts, several targets, methods of texts. -/
namespace DL
open PySem PySem.Spec L2 Evl PyProof.Rows

section
variable {X : Cx} {K : PySem.W.Frag} {pos : Pos}
/-! ### x.append(e), x.extend(e), x[k] = e, of an owned list -/
@[simp] def putOwn (env : List Slot) (i : Nat) (f : D → (D → Prop) → Prop) (R : List Slot → Prop) : Prop := match env[i]? with
  | some (.own b d) => f d fun d' => R (env.set i (.own b d'))
  | _ => False
@[simp] def ownL (env : List Slot) (i : Nat) : Prop := match env[i]? with
  | some (.own _ (.lst _)) => True
  | _ => False
@[simp] def ownD (env : List Slot) (i : Nat) : Prop := match env[i]? with
  | some (.own _ (.dic _)) => True
  | _ => False
@[simp] def mApp (i : Nat) (a : DM) : DStm := fun P env => ownL env i ∧ a env fun x e => x.get e fun d => putOwn e i (fun c R => match c with
  | .lst xs => xs.length < 100000 ∧ R (.lst (xs ++ [d]))
  | _ => False) P.nx
@[simp] def mExt (i : Nat) (a : DM) : DStm := fun P env => ownL env i ∧ a env fun x e => x.con e fun d => putOwn e i (fun c R => match c, d with
  | .lst xs, .lst ys => xs.length + ys.length ≤ 100000 ∧ R (.lst (xs ++ ys))
  | _, _ => False) P.nx
theorem ownL_at {C : Ct} {F H : Hp} {env : List Slot} {σ : L2.St} {i : Nat} (I : Ok K C F env σ H) (h : ownL env i) : ∃ p vs, σ[i]? = some (some (.ref p)) ∧ H p = some (.lst vs) := by
  unfold ownL at h
  split at h
  · rename_i b xs e
    obtain ⟨p, o, h1, h2, h3, _⟩ := I.owns i b _ e
    unfold RepO at h3
    split at h3
    · exact ⟨p, _, h1, h2⟩
    · rename_i z; cases z
    · exact h3.elim
  · exact h.elim
theorem putOwn_at {C : Ct} {F H : Hp} {env : List Slot} {σ : L2.St} {i : Nat} {f : D → (D → Prop) → Prop} {R : List Slot → Prop} (I : Ok K C F env σ H) (h : putOwn env i f R) :
    ∃ p o b d, env[i]? = some (.own b d) ∧ σ[i]? = some (some (.ref p)) ∧ H p = some o ∧ RepO K F o d ∧ F p = none ∧ (f d fun d' => R (env.set i (.own b d'))) ∧
      ∀ o' d', RepO K F o' d' → Ok K C F (env.set i (.own b d')) σ (upd H p o') := by
  unfold putOwn at h
  split at h
  · rename_i b d e
    obtain ⟨p, o, h1, h2, h3, h4, _⟩ := I.owns i b _ e
    exact ⟨p, o, b, d, e, h1, h2, h3, h4, h, fun o' d' r => I.change e h1 r⟩
  · exact h.elim
theorem lst_of {F : Hp} {o : HO} {xs : List D} (h : RepO K F o (.lst xs)) : ∃ vs, o = .lst vs ∧ RepL K F vs xs := by
  unfold RepO at h
  split at h
  · rename_i z; cases z; exact ⟨_, rfl, h⟩
  · rename_i z; cases z
  · exact h.elim
theorem dic_of {F : Hp} {o : HO} {ks : List (Key × D)} (h : RepO K F o (.dic ks)) : ∃ kvs, o = .dK kvs ∧ kvs.map (·.1) = ks.map (·.1) ∧ RepL K F (kvs.map (·.2)) (ks.map (·.2)) := by
  unfold RepO at h
  split at h
  · rename_i z; cases z
  · rename_i z; cases z; exact ⟨_, rfl, h.1, h.2⟩
  · exact h.elim
theorem ds_app (i : Nat) {x : Str} {e : Expr} {m : DM} {px apos cpos : Pos} (hN : X.N[i]? = some x) (hv : Vis X.env.scope x) (h : DE X e m)
    (hd : (x == ("__debug__" : Str)) = false := by decide) (hcd : (x == ("__classdict__" : Str)) = false := by decide)
    (h1 : attributeBase (.Name x px) "append" X.env (eval (.Name x px) X.env) = eval (.Name x px) X.env := by rfl)
    (h2 : ((((backTo cpos (starEach [e] X.env)).all fun x => !x.fst) && (backToKw cpos (keywordEach [] X.env)).all fun x => x.fst.isSome) && decide (([e].length + ([] : List Keyword).length + if ([] : List Keyword).isEmpty = true then 0 else 1) < 30)) = true := by rfl)
    (h3 : (apos.endLine == cpos.line) = true := by rfl) (h4 : starEach [e] X.env = (false, eval e X.env) :: starEach [] X.env := by rfl) (h5 : ((backTo cpos (starEach [] X.env)).any fun x => x.fst) = false := by rfl)
    (hs : swapsWith (.Call (.Attribute (.Name x px) "append" apos) [e] [] cpos) none pos.line X.env = pure false := by rfl) : DS X (.Expr (.Call (.Attribute (.Name x px) "append" apos) [e] [] cpos) pos) (mApp i m) := by
  obtain ⟨t, p, ev⟩ := h
  refine ⟨_, ps_expr (pe_bm PySem.F.plainAttrs_list PySem.F.slot_list_append PySem.F.type_list_append mt_append (pe_var hN hv hd hcd) (pa_cons p pa_nil h4) h1 h2 h3 h4 h5) hs, ?_⟩
  intro C F env σ H D P I h k
  obtain ⟨p0, vs0, q0, q1⟩ := ownL_at I h.1
  refine ⟨.ref p0, q0, Or.inl ⟨rfl, _, sq_of q1⟩, ?_⟩
  refine ev C F env σ H _ _ I h.2 ?_
  intro l e1 F1 v H1 h1 A1 r1
  obtain ⟨F2, d, h2, A2, ex, rp⟩ := A1.keepIt r1 h1
  obtain ⟨p, o, b, c, z1, z2, z3, z4, z5, z6, z7⟩ := putOwn_at A2.ok h2
  rw [q0] at z2; cases z2
  cases c with
  | lst xs =>
    obtain ⟨vs, rfl, rl⟩ := lst_of z4
    exact ⟨p0, vs, v, rfl, rfl, z3, by rw [rl.length]; exact sz_lt z6.1, k.nx F2 _ σ _ (z7 (.lst (vs ++ [v])) (.lst (xs ++ [d])) (rl.append (.cons rp .nil))) z6.2⟩
  | _ => exact z6.elim
theorem ds_ext (i : Nat) {x : Str} {e : Expr} {m : DM} {px apos cpos : Pos} (hN : X.N[i]? = some x) (hv : Vis X.env.scope x) (h : DE X e m)
    (hd : (x == ("__debug__" : Str)) = false := by decide) (hcd : (x == ("__classdict__" : Str)) = false := by decide)
    (h1 : attributeBase (.Name x px) "extend" X.env (eval (.Name x px) X.env) = eval (.Name x px) X.env := by rfl)
    (h2 : ((((backTo cpos (starEach [e] X.env)).all fun x => !x.fst) && (backToKw cpos (keywordEach [] X.env)).all fun x => x.fst.isSome) && decide (([e].length + ([] : List Keyword).length + if ([] : List Keyword).isEmpty = true then 0 else 1) < 30)) = true := by rfl)
    (h3 : (apos.endLine == cpos.line) = true := by rfl) (h4 : starEach [e] X.env = (false, eval e X.env) :: starEach [] X.env := by rfl) (h5 : ((backTo cpos (starEach [] X.env)).any fun x => x.fst) = false := by rfl)
    (hs : swapsWith (.Call (.Attribute (.Name x px) "extend" apos) [e] [] cpos) none pos.line X.env = pure false := by rfl) : DS X (.Expr (.Call (.Attribute (.Name x px) "extend" apos) [e] [] cpos) pos) (mExt i m) := by
  obtain ⟨t, p, ev⟩ := h
  refine ⟨_, ps_expr (pe_bm PySem.F.plainAttrs_list PySem.F.slot_list_extend PySem.F.type_list_extend mt_extend (pe_var hN hv hd hcd) (pa_cons p pa_nil h4) h1 h2 h3 h4 h5) hs, ?_⟩
  intro C F env σ H D P I h k
  obtain ⟨p0, vs0, q0, q1⟩ := ownL_at I h.1
  refine ⟨.ref p0, q0, Or.inl ⟨rfl, _, sq_of q1⟩, ?_⟩
  refine ev C F env σ H _ _ I h.2 ?_
  intro l e1 F1 v H1 h1 A1 r1
  obtain ⟨d, h2, s1⟩ := A1.ok.see r1 h1
  obtain ⟨p, o, b, c, z1, z2, z3, z4, z5, z6, z7⟩ := putOwn_at A1.ok h2
  rw [q0] at z2; cases z2
  cases c with
  | lst xs =>
    cases d with
    | lst ys =>
      obtain ⟨vs, rfl, rl⟩ := lst_of z4
      obtain ⟨q, ws, rfl, e2, r2⟩ := s1.lst A1.ok.sub
      exact ⟨p0, q, vs, ws, rfl, rfl, z3, e2, by rw [rl.length, r2.length]; exact sz_of z6.1, k.nx F1 _ σ _ (z7 (.lst (vs ++ ws)) (.lst (xs ++ ys)) (rl.append r2)) z6.2⟩
    | _ => exact z6.elim
  | _ => exact z6.elim
@[simp] def mSetIx (i : Nat) (mk mv : DM) : DStm := fun P env => mv env fun x e1 => x.get e1 fun d => ownL e1 i ∧ mk e1 fun y e2 => y.con e2 fun kd => putOwn e2 i (fun c R => match c, kd with
  | .lst xs, .int j => ∃ n, ixN xs.length j = some n ∧ R (.lst (xs.set n d))
  | _, _ => False) P.nx
theorem ds_setIx (i : Nat) {x : Str} {ek ev : Expr} {mk mv : DM} {px ps : Pos} (hN : X.N[i]? = some x) (hv : Vis X.env.scope x) (hk : DE X ek mk) (hw : DE X ev mv)
    (hd : (x == ("__debug__" : Str)) = false := by decide) (hcd : (x == ("__classdict__" : Str)) = false := by decide)
    (ha : ∀ v, assign (.Subscript (.Name x px) ek ps) X.env v = (do
      let ov ← holding [v] (eval (.Name x px) X.env)
      let iv ← holding [v, ov] (eval ek X.env)
      standAt ps
      holding [v, ov, iv] (setItem ov iv v)
      release [v, ov, iv] []) := by intro _; rfl)
    (hs : swapsWithSole [.Subscript (.Name x px) ek ps] ev pos.line X.env = pure false := by rfl) (hw2 : swappedStores [.Subscript (.Name x px) ek ps] ev X.env = pure none := by rfl)
    (h1 : (assignEach [.Subscript (.Name x px) ek ps] X.env).map (·.2) = [assign (.Subscript (.Name x px) ek ps) X.env] := by rfl) : DS X (.Assign [.Subscript (.Name x px) ek ps] ev pos) (mSetIx i mk mv) := by
  obtain ⟨tk, pk, evk⟩ := hk
  obtain ⟨tv, pv', evv⟩ := hw
  refine ⟨_, ps_asg pv' (pg_sub (pe_var hN hv hd hcd) pk set_list ha) hs hw2 h1, ?_⟩
  intro C F env σ H D P I h k
  refine evv C F env σ H _ _ I h ?_
  intro l e1 F1 v H1 h1 A1 r1
  obtain ⟨F2, d, h2, A2, ex, rp⟩ := A1.keepIt r1 h1
  obtain ⟨p0, vs0, q0, q1⟩ := ownL_at A2.ok h2.1
  refine ⟨.ref p0, q0, ?_⟩
  refine evk C F2 e1 σ H1 _ _ A2.ok h2.2 ?_
  intro l2 e2 F3 w H3 h3 A3 r3
  obtain ⟨kd, h4, s3⟩ := A3.ok.see r3 h3
  obtain ⟨p, o, b, c, z1, z2, z3, z4, z5, z6, z7⟩ := putOwn_at A3.ok h4
  rw [q0] at z2; cases z2
  cases c with
  | lst xs =>
    cases kd with
    | int j =>
      obtain ⟨n, y1, y2⟩ := z6
      obtain ⟨vs, rfl, rl⟩ := lst_of z4
      exact ⟨p0, vs, j, n, rfl, s3.int, z3, by rw [rl.length]; exact y1, k.nx F3 _ σ _ (z7 (.lst (vs.set n v)) (.lst (xs.set n d)) (rl.set (rp.mono A3.ex) n)) y2⟩
    | _ => exact z6.elim
  | _ => exact z6.elim

/-! ### x op= e, of things -/
@[simp] def aAug (f : D → D → (RV → Prop) → Prop) (j : Nat) (a : DM) : DStm := fun P env => match env[j]? with
  | some (.val d) => a env fun x e => x.con e fun y => f d y fun l => l.get e fun z => Free e j ∧ P.nx (e.set j (.val z))
  | _ => False
def rAugAdd : TIp := fun x y H Q => (∃ i j, x = .int i ∧ y = .int j ∧ Q (.int (i + j)) H) ∨ ∃ i j, x = .str i ∧ y = .str j ∧ i.length + j.length ≤ sizeLine ∧ Q (.str (i ++ j)) H
theorem ip_addD : PIp X .Add rAugAdd := by
  intro pins s σ H x y v u Q I rx ry h
  rcases h with h | h
  · exact ip_add pins s σ H x y v u Q I rx ry h
  · exact iop_add_str pins s σ H x y v u Q I rx ry h
@[simp] def bAdd (d e : D) (R : RV → Prop) : Prop := match d, e with
  | .int i, .int j => R (.vl (.int (i + j)))
  | .str s, .str t => s.length + t.length ≤ sizeLine ∧ R (.vl (.str (s ++ t)))
  | _, _ => False
@[simp] def bSub (d e : D) (R : RV → Prop) : Prop := match d, e with
  | .int i, .int j => R (.vl (.int (i - j)))
  | _, _ => False
def Ip2 (K : PySem.W.Frag) (r : TIp) (f : D → D → (RV → Prop) → Prop) : Prop := ∀ (C : Ct) (F : Hp) (env : List Slot) (σ : L2.St) (H : Hp) (v w : V) (d e : D) (R : RV → Prop) (Q : VK),
  Ok K C F env σ H → See K F H v d → See K F H w e → f d e R → Gives K C F env σ H R Q → r v w H Q
theorem i2_add : Ip2 K rAugAdd bAdd := by
  intro C F env σ H v w d e R Q I s1 s2 h g
  unfold bAdd at h
  split at h
  · exact Or.inl ⟨_, _, s1.int, s2.int, g.int I h⟩
  · exact Or.inr ⟨_, _, s1.str.1, s2.str.1, h.1, g.str I (sOk_append s1.str.2 s2.str.2) h.2⟩
  · exact h.elim
theorem i2_sub : Ip2 K (ipI fun i j => i - j) bSub := by
  intro C F env σ H v w d e R Q I s1 s2 h g
  unfold bSub at h
  split at h
  · exact ⟨_, _, s1.int, s2.int, g.int I h⟩
  · exact h.elim
theorem ds_aug (j : Nat) {x : Str} {e : Expr} {m : DM} {op : Operator} {r : TIp} {f : D → D → (RV → Prop) → Prop} {pos' : Pos} (hN : X.N.Nodup) (hi : X.N[j]? = some x) (hx : Loc X.env.scope x) (ho : PIp X op r) (hf : Ip2 X.K r f) (h : DE X e m)
    (hfn : X.fn x = true ∨ X.env.scope.names.lookup x = some .local := by first | exact .inl rfl | exact .inr rfl | assumption) : DS X (.AugAssign (.Name x pos') op e pos) (aAug f j m) := by
  obtain ⟨t, p, ev⟩ := h
  refine ⟨_, ps_aug hN hi hx p ho hfn, ?_⟩
  intro C F env σ H D P I h k
  unfold aAug at h
  split at h
  · rename_i d e0
    obtain ⟨v, q1, q2⟩ := I.vals j d e0
    refine ⟨v, q1, ?_⟩
    refine ev C F env σ H _ _ I h ?_
    intro l e1 F1 w H1 h1 A1 r1
    obtain ⟨y, h2, s1⟩ := A1.ok.see r1 h1
    refine hf C F1 e1 σ H1 v w d y _ _ A1.ok (.rep (q2.mono A1.ex)) s1 h2 ?_
    intro l2 F2 u H2 h3 A2 r2
    obtain ⟨F3, z, h4, A3, ex, rp⟩ := A2.keepIt r2 h3
    exact k.nx F3 _ _ H2 (A3.ok.setVal h4.1 rp) h4.2
  · exact h.elim

/-! ### several targets -/
@[simp] def mUn (n : Nat) (gs : DTgs) (a : DM) : DStm := fun P env => a env fun x e => x.get e fun d => match d with
  | .tup ds => ds.length = n ∧ gs ds e P.nx
  | _ => False
theorem ds_un {es : List Expr} {e : Expr} {js : List Nat} {gs : DTgs} {m : DM} {kk : Nat} {pt : Pos} {n : Nat} (hc : X.calm = true) (hg : DGs X es js gs) (h : DE X e m) (hn : (assignEach es X.env).length = n := by rfl) (hst : (assignEach es X.env).findIdx? (·.1) = none := by rfl)
    (hs : swapsWithSole [.Tuple es kk pt] e pos.line X.env = pure false := by rfl) (hw : swappedStores [.Tuple es kk pt] e X.env = pure none := by rfl) (h1 : (assignEach [.Tuple es kk pt] X.env).map (·.2) = [assign (.Tuple es kk pt) X.env] := by rfl) :
    DS X (.Assign [.Tuple es kk pt] e pos) (mUn n gs m) := by
  obtain ⟨tg, pg, eg⟩ := hg
  obtain ⟨t, p, ev⟩ := h
  refine ⟨_, ps_asg p (pg_tup hc pg hn hst) hs hw h1, ?_⟩
  intro C F env σ H D P I h k
  refine ev C F env σ H _ _ I h ?_
  intro l e1 F1 v H1 h1 A1 r1
  obtain ⟨F2, d, h2, A2, ex, rp⟩ := A1.keepIt r1 h1
  cases rp with
  | tup s r =>
    refine ⟨_, _, rfl, ex_t A2.ok.sub s, r.length.trans h2.1, ?_⟩
    exact eg C F2 e1 σ H1 _ _ _ _ A2.ok r h2.2 fun env' σ' q I' kp => k.nx F2 env' σ' H1 I' q
  | _ => exact h2.elim
@[simp] def mUnL (n : Nat) (gs : DTgs) (a : DM) : DStm := fun P env => a env fun x e => x.get e fun d => match d with
  | .lst ds => ds.length = n ∧ gs ds e P.nx
  | _ => False
theorem ds_unL {es : List Expr} {e : Expr} {js : List Nat} {gs : DTgs} {m : DM} {kk : Nat} {pt : Pos} {n : Nat} (hc : X.calm = true) (hg : DGs X es js gs) (h : DE X e m) (hn : (assignEach es X.env).length = n := by rfl) (hst : (assignEach es X.env).findIdx? (·.1) = none := by rfl)
    (hs : swapsWithSole [.Tuple es kk pt] e pos.line X.env = pure false := by rfl) (hw : swappedStores [.Tuple es kk pt] e X.env = pure none := by rfl) (h1 : (assignEach [.Tuple es kk pt] X.env).map (·.2) = [assign (.Tuple es kk pt) X.env] := by rfl) :
    DS X (.Assign [.Tuple es kk pt] e pos) (mUnL n gs m) := by
  obtain ⟨tg, pg, eg⟩ := hg
  obtain ⟨t, p, ev⟩ := h
  refine ⟨_, ps_asg p (pg_unl hc pg hn hst) hs hw h1, ?_⟩
  intro C F env σ H D P I h k
  refine ev C F env σ H _ _ I h ?_
  intro l e1 F1 v H1 h1 A1 r1
  obtain ⟨F2, d, h2, A2, ex, rp⟩ := A1.keepIt r1 h1
  cases rp with
  | lst s r =>
    refine ⟨_, _, rfl, sq_of (A2.ok.sub _ _ s), r.length.trans h2.1, ?_⟩
    exact eg C F2 e1 σ H1 _ _ _ _ A2.ok r h2.2 fun env' σ' q I' kp => k.nx F2 env' σ' H1 I' q
  | _ => exact h2.elim
@[simp] def mPar2 (i j : Nat) (a : DML) : DStm := fun P env => a env fun ds e => match ds with
  | [d, d'] => Free e i ∧ Free (e.set i (.val d)) j ∧ P.nx ((e.set i (.val d)).set j (.val d'))
  | _ => False
theorem ds_par2 {i j : Nat} {x y : Str} {a b : Expr} {m : DML} {px py pt : Pos} {kt k2 pt2} (hc : X.calm = true) (hN : X.N.Nodup) (hi : X.N[i]? = some x) (hj : X.N[j]? = some y) (hij : i ≠ j)
    (hx : X.env.scope.names.lookup x = some .local) (hy : X.env.scope.names.lookup y = some .local) (h : DL X [a, b] m)
    (hw : swappedStores [.Tuple [.Name x px, .Name y py] kt pt] (.Tuple [a, b] k2 pt2) X.env = pure (some [x, y]))
    (hs : swapsWithSole [.Tuple [.Name x px, .Name y py] kt pt] (.Tuple [a, b] k2 pt2) pos.line X.env = pure false := by rfl) :
    DS X (.Assign [.Tuple [.Name x px, .Name y py] kt pt] (.Tuple [a, b] k2 pt2) pos) (mPar2 i j m) := by
  obtain ⟨t, p, ev⟩ := h
  refine ⟨_, ps_par hc hN hi hj hij hx hy p hw hs, ?_⟩
  intro C F env σ H D P I h k
  refine ev C F env σ H _ _ I h ?_
  intro ds e1 F1 vs H1 h1 A1 r1
  cases r1 with
  | cons ra r =>
    cases r with
    | cons rb r =>
      cases r with
      | nil => exact ⟨_, _, rfl, k.nx F1 _ _ H1 ((A1.ok.setVal h1.1 ra).setVal h1.2.1 rb) h1.2.2⟩
      | cons _ _ => exact h1.elim
    | nil => exact h1.elim
  | nil => exact h1.elim
@[simp] def mPar3 (i j l : Nat) (a : DML) : DStm := fun P env => a env fun ds e => match ds with
  | [d, d', d''] => Free e i ∧ Free (e.set i (.val d)) j ∧ Free ((e.set i (.val d)).set j (.val d')) l ∧ P.nx (((e.set i (.val d)).set j (.val d')).set l (.val d''))
  | _ => False
theorem ds_par3 {i j l : Nat} {x y z : Str} {a b c : Expr} {m : DML} {px py pz pt : Pos} {kt k2 pt2} (hc : X.calm = true) (hN : X.N.Nodup) (hi : X.N[i]? = some x) (hj : X.N[j]? = some y) (hl : X.N[l]? = some z) (hij : i ≠ j) (hil : i ≠ l) (hjl : j ≠ l)
    (hx : X.env.scope.names.lookup x = some .local) (hy : X.env.scope.names.lookup y = some .local) (hz : X.env.scope.names.lookup z = some .local) (h : DL X [a, b, c] m)
    (hw : swappedStores [.Tuple [.Name x px, .Name y py, .Name z pz] kt pt] (.Tuple [a, b, c] k2 pt2) X.env = pure (some [x, y, z]))
    (hs : swapsWithSole [.Tuple [.Name x px, .Name y py, .Name z pz] kt pt] (.Tuple [a, b, c] k2 pt2) pos.line X.env = pure false := by rfl) :
    DS X (.Assign [.Tuple [.Name x px, .Name y py, .Name z pz] kt pt] (.Tuple [a, b, c] k2 pt2) pos) (mPar3 i j l m) := by
  obtain ⟨t, p, ev⟩ := h
  refine ⟨_, ps_par3 hc hN hi hj hl hij hil hjl hx hy hz p hw hs, ?_⟩
  intro C F env σ H D P I h k
  refine ev C F env σ H _ _ I h ?_
  intro ds e1 F1 vs H1 h1 A1 r1
  cases r1 with
  | cons ra r =>
    cases r with
    | cons rb r =>
      cases r with
      | cons rc r =>
        cases r with
        | nil => exact ⟨_, _, _, rfl, k.nx F1 _ _ H1 (((A1.ok.setVal h1.1 ra).setVal h1.2.1 rb).setVal h1.2.2.1 rc) h1.2.2.2⟩
        | cons _ _ => exact h1.elim
      | nil => exact h1.elim
    | nil => exact h1.elim
  | nil => exact h1.elim

/-! ### dicts with keys that are numbers or texts -/
@[simp] def keyOf : D → Option Key
  | .int i => some (.inl i)
  | .str s => some (.inr s)
  | _ => none
@[simp] def dGet (ks : List (Key × D)) (k : Key) : Option D := (ks.find? fun p => decide (p.1 = k)).map (·.2)
def dPut (ks : List (Key × D)) (k : Key) (v : D) : List (Key × D) :=
  if (ks.any fun p => decide (p.1 = k)) = true then ks.map (fun p => if p.1 = k then (p.1, v) else p) else ks ++ [(k, v)]
theorem keyOf_V {F H : Hp} {v : V} {d : D} {k : Key} (s : See K F H v d) (h : keyOf d = some k) : v = kV k := by
  cases d with
  | int i => cases h; exact s.int
  | str i => cases h; exact s.str.1
  | _ => cases h
@[simp] def mDNew : DM := fun env R => R (.tm (.dic [])) env
theorem ddnew : DE X (.Dict [] [] pos) mDNew := by
  refine ⟨_, pe_dnewK, ?_⟩
  intro C F env σ H R Q I h k p hp
  exact k _ env F _ _ h (I.tmp hp (.dK [])) ⟨p, .dK [], rfl, upd_same, ⟨rfl, .nil⟩, I.fnone hp, I.gnone hp, I.unowned hp, hp⟩
theorem find_rep {F : Hp} : ∀ {kvs : List (Key × V)} {ks : List (Key × D)}, kvs.map (·.1) = ks.map (·.1) → RepL K F (kvs.map (·.2)) (ks.map (·.2)) → ∀ k : Key,
    (∃ v d, valV kvs k = some v ∧ dGet ks k = some d ∧ Rep K F v d) ∨ (valV kvs k = none ∧ dGet ks k = none)
  | [], [], _, _, k => Or.inr ⟨rfl, rfl⟩
  | [], _ :: _, h, _, _ => by simp at h
  | _ :: _, [], h, _, _ => by simp at h
  | p :: kvs, q :: ks, h, r, k => by
    simp only [List.map_cons, List.cons.injEq] at h
    cases r with
    | cons a r =>
      by_cases e : q.1 = k
      · refine Or.inl ⟨p.2, q.2, ?_, ?_, a⟩
        · unfold valV; rw [List.find?_cons, decide_eq_true (h.1.trans e)]; rfl
        · simp [e]
      · have e' : ¬ p.1 = k := fun z => e (h.1.symm.trans z)
        have ih := find_rep h.2 r k
        have e1 : valV (p :: kvs) k = valV kvs k := by unfold valV; rw [List.find?_cons, decide_eq_false e']
        have e2 : dGet (q :: ks) k = dGet ks k := by simp [e]
        rw [e1, e2]; exact ih
@[simp] def aDIn (n : Bool) (d e : D) (R : RV → Prop) : Prop := match e, keyOf d with
  | .dic ks, some k => R (.vl (.bl (n ^^ (dGet ks k).isSome)))
  | _, _ => False
def rDIn (n : Bool) : R2 := fun y x H Q => ∃ a o, x = .ref a ∧ DGet H a y o ∧ Q (.bl (n ^^ o.isSome)) H
theorem o2_din {n : Bool} : Op2 K (rDIn n) (aDIn n) := by
  intro C F env σ H v w d e R Q I s1 s2 h g
  unfold aDIn at h
  split at h
  · rename_i ks k hk
    obtain ⟨p, kvs, rfl, e1, k1, r1⟩ := s2.dic I.sub
    have hv := keyOf_V s1 hk
    refine ⟨p, valV kvs k, rfl, by rw [hv]; exact DGet.k e1, ?_⟩
    rcases find_rep k1 r1 k with ⟨a, b, q1, q2, _⟩ | ⟨q1, q2⟩
    · rw [q1]; rw [q2] at h; exact g.bl I h
    · rw [q1]; rw [q2] at h; exact g.bl I h
  · exact h.elim
theorem ddin {a b : Expr} {m1 m2 : DM} (hu : X.A.units + 1 < cLine) (ha : DE X a m1) (hb : DE X b m2) (h1 : behindInMarks .In b = false := by first | exact nobehind _ (by decide) (by decide) | rfl | with_unfolding_all rfl) : DE X (.Compare a [.In] [b] pos) (mOp2 (aDIn false) m1 m2) := by
  obtain ⟨ta, pa, ea⟩ := ha
  obtain ⟨tb, pb, eb⟩ := hb
  refine ⟨_, pe_cmp (pc_din hu pa pb) h1, ?_⟩
  have := evd_op2 (o2_din (n := false)) ea eb
  intro C F env σ H R Q I h k
  have q := this C F env σ H R Q I h k
  simpa [tOp, tDIn, rDIn] using q
theorem ddnotin {a b : Expr} {m1 m2 : DM} (hu : X.A.units + 1 < cLine) (ha : DE X a m1) (hb : DE X b m2) (h1 : behindInMarks .NotIn b = false := by first | exact nobehind _ (by decide) (by decide) | rfl | with_unfolding_all rfl) : DE X (.Compare a [.NotIn] [b] pos) (mOp2 (aDIn true) m1 m2) := by
  obtain ⟨ta, pa, ea⟩ := ha
  obtain ⟨tb, pb, eb⟩ := hb
  refine ⟨_, pe_cmp (pc_dnotin hu pa pb) h1, ?_⟩
  have := evd_op2 (o2_din (n := true)) ea eb
  intro C F env σ H R Q I h k
  have q := this C F env σ H R Q I h k
  simpa [tOp, tDNotIn, rDIn] using q
@[simp] def aDIx (d e : D) (R : RV → Prop) : Prop := match d, keyOf e with
  | .dic ks, some k => ∃ y, dGet ks k = some y ∧ R (.vl y)
  | _, _ => False
def rDIx : R2 := fun x y H Q => ∃ a v, x = .ref a ∧ DGet H a y (some v) ∧ Q v H
theorem o2_dix : Op2 K rDIx aDIx := by
  intro C F env σ H v w d e R Q I s1 s2 h g
  unfold aDIx at h
  split at h
  · rename_i ks k hk
    obtain ⟨y, h1, h2⟩ := h
    obtain ⟨p, kvs, rfl, e1, k1, r1⟩ := s1.dic I.sub
    have hv := keyOf_V s2 hk
    rcases find_rep k1 r1 k with ⟨a, b, q1, q2, q3⟩ | ⟨q1, q2⟩
    · rw [h1] at q2; cases q2
      exact ⟨p, a, rfl, by rw [hv, ← q1]; exact DGet.k e1, g.here I h2 q3⟩
    · rw [h1] at q2; cases q2
  · exact h.elim
theorem ddix {a b : Expr} {m1 m2 : DM} (hu : X.A.units + 1 < cLine) (ha : DE X a m1) (hb : DE X b m2) (hs : NoSl b := by exact fun _ _ => rfl) : DE X (.Subscript a b pos) (mOp2 aDIx m1 m2) := by
  obtain ⟨ta, pa, ea⟩ := ha
  obtain ⟨tb, pb, eb⟩ := hb
  exact ⟨_, pe_dget hu pa pb hs, evd_op2 o2_dix ea eb⟩
theorem keys_any {k : Key} : ∀ {kvs : List (Key × V)} {ks : List (Key × D)}, kvs.map (·.1) = ks.map (·.1) → (kvs.any fun p => decide (p.1 = k)) = ks.any fun p => decide (p.1 = k)
  | [], [], _ => rfl
  | [], _ :: _, h => by simp at h
  | _ :: _, [], h => by simp at h
  | p :: kvs, q :: ks, h => by
    simp only [List.map_cons, List.cons.injEq] at h
    rw [List.any_cons, List.any_cons, keys_any h.2, h.1]
theorem put_map {F : Hp} {v : V} {d : D} (a : Rep K F v d) (k : Key) : ∀ {kvs : List (Key × V)} {ks : List (Key × D)}, kvs.map (·.1) = ks.map (·.1) → RepL K F (kvs.map (·.2)) (ks.map (·.2)) →
    (kvs.map fun p => if p.1 = k then (p.1, v) else p).map (·.1) = (ks.map fun p => if p.1 = k then (p.1, d) else p).map (·.1) ∧ RepL K F ((kvs.map fun p => if p.1 = k then (p.1, v) else p).map (·.2)) ((ks.map fun p => if p.1 = k then (p.1, d) else p).map (·.2))
  | [], [], _, _ => ⟨rfl, .nil⟩
  | [], _ :: _, h, _ => by simp at h
  | _ :: _, [], h, _ => by simp at h
  | p :: kvs, q :: ks, h, r => by
    simp only [List.map_cons, List.cons.injEq] at h
    cases r with
    | cons b r =>
      obtain ⟨h1, h2⟩ := put_map a k h.2 r
      rw [List.map_cons, List.map_cons, List.map_cons, List.map_cons, List.map_cons, List.map_cons, h1]
      by_cases e : q.1 = k
      · have e' : p.1 = k := h.1.trans e
        rw [if_pos e, if_pos e']
        exact ⟨by rw [h.1], .cons a h2⟩
      · have e' : ¬ p.1 = k := fun z => e (h.1.symm.trans z)
        rw [if_neg e, if_neg e']
        exact ⟨by rw [h.1], .cons b h2⟩
theorem put_rep {F : Hp} {v : V} {d : D} (a : Rep K F v d) (k : Key) {kvs : List (Key × V)} {ks : List (Key × D)} (h : kvs.map (·.1) = ks.map (·.1)) (r : RepL K F (kvs.map (·.2)) (ks.map (·.2))) :
    (putK kvs k v).map (·.1) = (dPut ks k d).map (·.1) ∧ RepL K F ((putK kvs k v).map (·.2)) ((dPut ks k d).map (·.2)) := by
  unfold putK dPut
  rw [keys_any h]
  split
  · exact put_map a k h r
  · rw [List.map_append, List.map_append, List.map_append, List.map_append, h]
    exact ⟨rfl, r.append (.cons a .nil)⟩
@[simp] def mDPut (i : Nat) (mk mv : DM) : DStm := fun P env => mv env fun x e1 => x.get e1 fun d => ownD e1 i ∧ mk e1 fun y e2 => y.con e2 fun kd => putOwn e2 i (fun c R => match c, keyOf kd with
  | .dic ks, some k => ks.length < 100000 ∧ R (.dic (dPut ks k d))
  | _, _ => False) P.nx
theorem ownD_at {C : Ct} {F H : Hp} {env : List Slot} {σ : L2.St} {i : Nat} (I : Ok K C F env σ H) (h : ownD env i) : ∃ p vs, σ[i]? = some (some (.ref p)) ∧ H p = some (.dK vs) := by
  unfold ownD at h
  split at h
  · rename_i b xs e
    obtain ⟨p, o, h1, h2, h3, _⟩ := I.owns i b _ e
    obtain ⟨kvs, rfl, _⟩ := dic_of h3
    exact ⟨p, _, h1, h2⟩
  · exact h.elim
theorem ds_dput (i : Nat) {x : Str} {ek ev : Expr} {mk mv : DM} {px ps : Pos} (hu : X.A.units + 1 < cLine) (hN : X.N[i]? = some x) (hv : Vis X.env.scope x) (hk : DE X ek mk) (hw : DE X ev mv)
    (hd : (x == ("__debug__" : Str)) = false := by decide) (hcd : (x == ("__classdict__" : Str)) = false := by decide)
    (hs : swapsWith ev (some (.Subscript (.Name x px) ek ps)) pos.line X.env = pure false := by rfl) : DS X (.Assign [.Subscript (.Name x px) ek ps] ev pos) (mDPut i mk mv) := by
  obtain ⟨tk, pk, evk⟩ := hk
  obtain ⟨tv, pv', evv⟩ := hw
  refine ⟨_, ps_dput hu (pe_var hN hv hd hcd) pk pv' hs, ?_⟩
  intro C F env σ H D P I h k
  refine evv C F env σ H _ _ I h ?_
  intro l e1 F1 v H1 h1 A1 r1
  obtain ⟨F2, d, h2, A2, ex, rp⟩ := A1.keepIt r1 h1
  obtain ⟨p0, vs0, q0, q1⟩ := ownD_at A2.ok h2.1
  refine ⟨.ref p0, q0, ?_⟩
  refine evk C F2 e1 σ H1 _ _ A2.ok h2.2 ?_
  intro l2 e2 F3 w H3 h3 A3 r3
  obtain ⟨kd, h4, s3⟩ := A3.ok.see r3 h3
  obtain ⟨p, o, b, c, z1, z2, z3, z4, z5, z6, z7⟩ := putOwn_at A3.ok h4
  rw [q0] at z2; cases z2
  split at z6
  · rename_i ks kk hkk
    obtain ⟨kvs, rfl, y1, y2⟩ := dic_of z4
    have hv := keyOf_V s3 hkk
    obtain ⟨g1, g2⟩ := put_rep (rp.mono A3.ex) kk y1 y2
    have hl : kvs.length = ks.length := by simpa using congrArg List.length y1
    exact ⟨p0, _, rfl, by rw [hv]; exact DPut.k z3 (by rw [hl]; exact sz_lt z6.1), k.nx F3 _ σ _ (z7 (.dK (putK kvs kk v)) (.dic (dPut ks kk d)) ⟨g1, g2⟩) z6.2⟩
  · exact z6.elim

/-! ### methods of texts -/
theorem sOk_list {l : List Nat} (h : ∀ c ∈ l, c < 0x110000) : PyData.strOk ⟨l.toArray⟩ = true := by
  rw [sOk_iff]; simpa using h
@[simp] def mM1 (f : D → D → (RV → Prop) → Prop) (a b : DM) : DM := fun env R => a env fun x e1 => x.con e1 fun d => match d with
  | .str _ => b e1 fun y e2 => y.con e2 fun e => f d e fun l => R l e2
  | _ => False
def Mt1 (K : PySem.W.Frag) (r : V → List V → Hp → VK → Prop) (f : D → D → (RV → Prop) → Prop) : Prop := ∀ (C : Ct) (F : Hp) (env : List Slot) (σ : L2.St) (H : Hp) (s : Str) (w : V) (e : D) (R : RV → Prop) (Q : VK),
  Ok K C F env σ H → PyData.strOk s = true → See K F H w e → f (.str s) e R → Gives K C F env σ H R Q → r (.str s) [w] H Q
theorem evd_m1 {K : PySem.W.Frag} {r : V → List V → Hp → VK → Prop} {f : D → D → (RV → Prop) → Prop} {m1 m2 : DM} {ta tb : TE} (hf : Mt1 K r f) (ha : EvD K m1 ta) (hb : EvD K m2 tb) : EvD K (mM1 f m1 m2) (tM1 r ta tb) := by
  intro C F env σ H R Q I h k
  refine ha C F env σ H _ _ I h ?_
  intro x e1 F1 v H1 h1 A1 r1
  obtain ⟨d, h2, s1⟩ := A1.ok.see r1 h1
  cases d with
  | str s =>
    have hv := s1.str
    refine ⟨⟨s, hv.1⟩, ?_⟩
    refine hb C F1 e1 σ H1 _ _ A1.ok h2 ?_
    intro y e2 F2 w H2 h3 A2 r2
    obtain ⟨e, h4, s2⟩ := A2.ok.see r2 h3
    rw [hv.1]
    have A := A1.trans A2
    exact hf C F2 e2 σ H2 s w e _ _ A2.ok hv.2 s2 h4 fun l F3 u H3 hl A3 r3 => k l e2 F3 u H3 hl (A.trans A3) (r3.from fun p => A.back)
  | _ => exact h2.elim
@[simp] def aJoin (d e : D) (R : RV → Prop) : Prop := match d, e with
  | .str s, .lst xs => ∃ ys, asStrs xs = some ys ∧ (ys.map (·.length)).sum + ys.length * s.length ≤ 16777216 ∧ R (.vl (.str (Txt.join s ys)))
  | _, _ => False
end
end DL

set_option Elab.async false
set_option linter.all false
set_option maxRecDepth 100000
set_option maxHeartbeats 4000000
set_option autoImplicit false
/-! DL13: more of texts; the law's own call. -/
namespace DL
open PySem PySem.Spec L2 Evl PyProof.Rows

section
variable {X : Cx} {K : PySem.W.Frag} {pos : Pos}
theorem djoin {o e : Expr} {m1 m2 : DM} {apos : Pos} (ho : DE X o m1) (he : DE X e m2) (hs : starEach [e] X.env = [(false, eval e X.env)] := by rfl) (hb : attributeBase o "join" X.env (eval o X.env) = eval o X.env := by rfl) (hl : (apos.endLine == pos.line) = true := by rfl) :
    DE X (.Call (.Attribute o "join" apos) [e] [] pos) (mM1 aJoin m1 m2) := by
  obtain ⟨t, p, ev⟩ := ho
  obtain ⟨u, q, ev2⟩ := he
  refine ⟨_, pe_join p q hs hb hl, evd_m1 ?_ ev ev2⟩
  intro C F env σ H s w e R Q I hs s2 h g
  unfold aJoin at h
  split at h
  · rename_i xs e1
    cases e1
    obtain ⟨ys, h1, h2, h3⟩ := h
    obtain ⟨p, vs, rfl, q1, q2⟩ := s2.lst I.sub
    rw [asStrs_eq h1] at q2
    refine ⟨_, p, ys, rfl, rfl, Or.inl (by rw [q2.strs] at q1; exact sq_of q1), h2, g.str I ?_ h3⟩
    rw [TL.join_eq]
    exact sOk_join hs fun t m => RepL.sOk q2 t m
  · exact h.elim
@[simp] def aSplit (d e : D) (R : RV → Prop) : Prop := match d, e with
  | .str s, .str t => (t.length == 0) = false ∧ s.length + 2 ≤ sizeLine ∧ (∀ x ∈ Txt.split s t, PyData.strOk x = true) ∧ R (.tm (.lst ((Txt.split s t).map .str)))
  | _, _ => False
theorem dsplit {o e : Expr} {m1 m2 : DM} {apos : Pos} (ho : DE X o m1) (he : DE X e m2) (hs : starEach [e] X.env = [(false, eval e X.env)] := by rfl) (hb : attributeBase o "split" X.env (eval o X.env) = eval o X.env := by rfl) (hl : (apos.endLine == pos.line) = true := by rfl) :
    DE X (.Call (.Attribute o "split" apos) [e] [] pos) (mM1 aSplit m1 m2) := by
  obtain ⟨t, p, ev⟩ := ho
  obtain ⟨u, q, ev2⟩ := he
  refine ⟨_, pe_split p q hs hb hl, evd_m1 ?_ ev ev2⟩
  intro C F env σ H s w e R Q I hs s2 h g
  unfold aSplit at h
  split at h
  · rename_i t e1
    cases e1
    exact ⟨_, _, rfl, by rw [s2.str.1], h.1, h.2.1, fun q hq => g.lst I h.2.2.2 (RepL.ofStrs _ h.2.2.1) q hq⟩
  · exact h.elim
theorem drev {e : Expr} {m : DM} {k : Nat} {p1 p2 p3 : Pos} (he : DE X e m) : DE X (.Subscript e (.Slice none none (some (.UnaryOp .USub (.Constant (.int 1) k p1) p2)) p3) pos) (mRev m) := by
  obtain ⟨t, p, ev⟩ := he
  refine ⟨_, pe_revL p, ?_⟩
  intro C F env σ H R Q I h k
  refine ev C F env σ H _ _ I h ?_
  intro x e1 F1 v H1 h1 A1 r1
  obtain ⟨d, h2, s1⟩ := A1.ok.see r1 h1
  cases d with
  | lst xs =>
    obtain ⟨p, vs, rfl, q1, q2⟩ := s1.lst A1.ok.sub
    refine ⟨p, vs, rfl, sq_of q1, fun q hq => ?_⟩
    have g : Gives X.K C F1 e1 σ H1 (fun r => R r e1) Q := fun l F' w H' hl A' r' => k l e1 F' w H' hl (A1.trans A') (r'.from fun p => A1.back)
    exact g.lst A1.ok h2 q2.reverse q hq
  | _ => exact h2.elim
/-! ### unary minus -/
@[simp] def mNeg (a : DM) : DM := fun env R => a env fun x e1 => x.con e1 fun d => match d with
  | .int i => R (.vl (.int (-i))) e1
  | _ => False
theorem dneg {e : Expr} {m : DM} (he : DE X e m) : DE X (.UnaryOp .USub e pos) (mNeg m) := by
  obtain ⟨t, p, ev⟩ := he
  refine ⟨_, pe_un un_neg p, ?_⟩
  intro C F env σ H R Q I h k
  refine ev C F env σ H _ _ I h ?_
  intro x e1 F1 v H1 h1 A1 r1
  obtain ⟨d, h2, s1⟩ := A1.ok.see r1 h1
  cases d with
  | int i => exact ⟨i, s1.int, k _ e1 F1 _ H1 h2 A1 (Rep.int _)⟩
  | _ => exact h2.elim
end

/-! ### calls with keywords -/
section
variable {X : Cx} {CX : CXT} {k : Nat} {f : Addr} {fd : FuncData} {ps ks : List Str} {sp : Sp} {sd : DSpec} {E : XK} {x : Str} {p pos : Pos} {e : Expr} {es : List Expr} {t tk : TA} {kws : List Keyword}
theorem pe_callG0 {g : List Value → List Value → List Value} {gV : List V → List V → List V} (F : FnG X.prog X.w X.K X.mg X.base CX k f fd ps sp) (hgd : X.A.guards = some []) (hr : Room k X.A) (hg : Gl X x) (hm : X.mg x = some (.ref f)) (hk : PySem.W.keepIn X.K (.ref f) = true) (hb : KBinds X.K fd ps ks g gV) (hx : Passes CX X E)
    (hkw : PK X kws tk) (hall : (backToKw pos (keywordEach kws X.env)).all (·.1.isSome) = true := by rfl) (hks : (backToKw pos (keywordEach kws X.env)).filterMap (·.1) = ks := by rfl)
    (hdb : (x == ("__debug__" : Str)) = false := by decide) (hpl : ((backTo pos (starEach [] X.env)).any (·.1) || (backToKw pos (keywordEach kws X.env)).any (·.1.isNone)) = false := by rfl) : PE X (.Call (.Name x p) [] kws pos) (tCallK sp gV E tNil tk) := by
  constructor
  intro pins s σ H Q I h
  apply wpAny_Call_Name_kw
  apply ld_glob I hg hm _ hdb
  apply PySem.W.callWith_KW0 (h₀ := X.base) I.ok.mod.kin hk hall _ hpl
  apply thn (hkw.run pos pins s σ H _ I h)
  rintro ws s2 ⟨zs, H2, I2, rz, q2⟩
  refine ⟨I2.kIn, ?_⟩
  rw [hks]
  have r2 := hb.rel (vs := []) (us := []) .nil rz
  have hl : (g [] ws).length = ps.length := r2.length.symm.trans (F.len _ _ _ _ q2)
  exact run_g (args := ⟨[], ks.zip ws⟩) (binds := []) F hgd hr (hb.to s2 [] ws I2.kIn hl) hx I2 r2 q2
def ArrC (gV : List V → List V → List V) (gC : List CA → List CA → List CA) : Prop := ∀ (K : PySem.W.Frag) (F : Hp) (σ : L2.St) (vs zs : List V) (as bs : List CA), CAs K F σ vs as → CAs K F σ zs bs → CAs K F σ (gV vs zs) (gC as bs)
@[simp] def mCallK (sd : DSpec) (gC : List CA → List CA → List CA) (a b : DMC) : DM := fun env R => a env fun as e => b e fun bs e2 => apart e2 (gC as bs) = true ∧ sd ((gC as bs).map (resolve e2)) fun r ss => R r (putB (gC as bs) ss e2)
theorem evd_callK {K : PySem.W.Frag} {gV : List V → List V → List V} {gC : List CA → List CA → List CA} {mc mk : DMC} {t tk : TA} (hA : ArrC gV gC) (ev : EvC K mc t) (ek : EvC K mk tk) : EvD K (mCallK sd gC mc mk) (tCallK (spD K sd) gV E0 t tk) := by
  intro C F env σ H R Q I h k
  refine ev C F env σ H _ _ I h ?_
  intro as e1 F1 vs H1 h1 A1 r1
  refine ek C F1 e1 σ H1 _ _ A1.ok h1 ?_
  intro bs e2 F2 zs H2 h2 A2 r2
  exact call_core (A1.trans A2) (hA K F2 σ vs zs as bs (r1.mono A2.ex) r2) h2.1 h2.2 fun r ss F' v H' hR A3 r3 => k r _ F' v H' hR A3 r3
theorem dcallK {g : List Value → List Value → List Value} {gV : List V → List V → List V} (gC : List CA → List CA → List CA) (F : FnG X.prog X.w X.K X.mg X.base CX0 k f fd ps (spD X.K sd)) (hgd : X.A.guards = some []) (hr : Room k X.A) (hg : Gl X x) (hm : X.mg x = some (.ref f)) (hk : PySem.W.keepIn X.K (.ref f) = true) (hb : KBinds X.K fd ps ks g gV)
    (hA : ArrC gV gC) {mc mk : DMC} (h : DC X (e :: es) mc) (h2 : DK X kws mk) (hall : (backToKw pos (keywordEach kws X.env)).all (·.1.isSome) = true := by rfl) (hks : (backToKw pos (keywordEach kws X.env)).filterMap (·.1) = ks := by rfl)
    (hdb : (x == ("__debug__" : Str)) = false := by decide) (he : starEach (e :: es) X.env = (false, eval e X.env) :: starEach es X.env := by rfl)
    (hpl : ((backTo pos (starEach (e :: es) X.env)).any (·.1) || (backToKw pos (keywordEach kws X.env)).any (·.1.isNone)) = false := by rfl) : DE X (.Call (.Name x p) (e :: es) kws pos) (mCallK sd gC mc mk) := by
  obtain ⟨t, pa, ev⟩ := h
  obtain ⟨tk, pk, ek⟩ := h2
  exact ⟨_, pe_callGK (E := E0) F hgd hr hg hm hk hb pass0 pa pk hall hks hdb he hpl, evd_callK hA ev ek⟩
theorem dcallK0 {g : List Value → List Value → List Value} {gV : List V → List V → List V} (gC : List CA → List CA → List CA) (F : FnG X.prog X.w X.K X.mg X.base CX0 k f fd ps (spD X.K sd)) (hgd : X.A.guards = some []) (hr : Room k X.A) (hg : Gl X x) (hm : X.mg x = some (.ref f)) (hk : PySem.W.keepIn X.K (.ref f) = true) (hb : KBinds X.K fd ps ks g gV)
    (hA : ArrC gV gC) {mk : DMC} (h2 : DK X kws mk) (hall : (backToKw pos (keywordEach kws X.env)).all (·.1.isSome) = true := by rfl) (hks : (backToKw pos (keywordEach kws X.env)).filterMap (·.1) = ks := by rfl)
    (hdb : (x == ("__debug__" : Str)) = false := by decide) (hpl : ((backTo pos (starEach [] X.env)).any (·.1) || (backToKw pos (keywordEach kws X.env)).any (·.1.isNone)) = false := by rfl) : DE X (.Call (.Name x p) [] kws pos) (mCallK sd gC mcNil mk) := by
  obtain ⟨tk, pk, ek⟩ := h2
  exact ⟨_, pe_callG0 (E := E0) F hgd hr hg hm hk hb pass0 pk hall hks hdb hpl, evd_callK hA evc_nil ek⟩
end

/-! ### the law's own call -/
theorem law_callG {P : Program} {w : World} {K : PySem.W.Frag} {mg mb : Str → Option Value} {k : Nat} {fa a : Addr} {fd : FuncData} {x : Str} {sd : DSpec} {s₁ : Shared} {vs : List Value} {ns : List Int}
    (KX : K.In s₁.heap) (hns : s₁.heap.Ns mainGlobals mg) (hb : s₁.heap.Ns builtinsNs mb) (hbb : ∀ x : Str, x ≠ "__name__" → mb x = bootBuiltins x) (hlim : s₁.heap.NoLimit) (hg : s₁.gens = #[])
    (ha : s₁.heap.get? a = some { cls := .type "list", data := .seq vs.toArray }) (hi : IntsAre vs ns) (hl : ns.length ≤ sizeLine) (hr : Room k callerA)
    (F : ∀ base : Heap, K.In base → base.Ns mainGlobals mg → FnG P w K mg base CX0 k fa fd [x] (spD K sd)) (hbind : ∀ (s : Shared) (u : Value), BindsTo s fd ⟨[u], []⟩ [(x, u)])
    (hsd : sd [.val (.scr ns)] fun r _ => r = .vl (.bl true)) :
    codeAny (model P w) callerA (.call (.ref fa) ⟨[.ref a], []⟩) (fun r s' => r = .ok (.ret (.bool true)) ∧ OldK s₁.heap s'.heap ∧ s'.os = s₁.os ∧ AllBare s'.gens) s₁ := by
  have lenV := hi.length
  -- H tells nothing, or of the script alone
  have main : ∀ H : Hp, (∀ b u, H b = some u → b = a ∧ u = .frz { cls := .type "list", data := .seq vs.toArray } (.lst (ns.map V.int))) → SqL K H a (ns.map V.int) → HOk P w H s₁.heap → (H a ≠ none → K.lookup a = none) →
      codeAny (model P w) callerA (.call (.ref fa) ⟨[.ref a], []⟩) (fun r s' => r = .ok (.ret (.bool true)) ∧ OldK s₁.heap s'.heap ∧ s'.os = s₁.os ∧ AllBare s'.gens) s₁ := by
    intro H hO hS ok nK
    have plainD : ∀ {b : Addr} {o : Obj} {es : Array DictEntry} {ep : Nat}, s₁.heap.get? b = some o → o.data = .dict es ep → H b = none := by
      intro b o es ep e d
      match q : H b with
      | none => rfl
      | some u =>
        obtain ⟨rfl, _⟩ := hO b u q
        rw [ha] at e
        cases e
        exact nomatch d
    have carry : ∀ {b : Addr} {m : Str → Option Value}, s₁.heap.Ns b m → (hidT s₁.heap H).Ns b m := by
      rintro b m ⟨o, es, ep, e, d, r⟩
      exact ⟨o, es, ep, hidT_get e (plainD e d), d, r⟩
    have inB : K.In (hidT s₁.heap H) := by
      intro b o e
      refine hidT_get (KX b o e) ?_
      match q : H b with
      | none => rfl
      | some u =>
        obtain ⟨rfl, _⟩ := hO b u q
        rw [nK (by rw [q]; exact fun z => nomatch z)] at e
        cases e
    obtain ⟨ml, hl1, hl2⟩ := hlim
    have e0 : Env0 P w K mg (hidT s₁.heap H) callerA [] s₁ H := {
      frames := rfl
      mod := ⟨inB, carry hns, ⟨mb, carry hb, hbb⟩, ⟨ml, carry hl1, hl2⟩⟩
      bs := fun b o e => of_hidT e
      bsz := Nat.le_of_eq (hidT_size _ _)
      funs := trivial
      frf := fun b hb => nomatch (show b ∈ ([] : List Addr) from hb)
      hok := ok
      bare := .of_eq hg }
    have hsp : spD K sd [.ref a] H (fun v _ => v = .bl true) E0 := by
      refine ⟨H, [.val (.scr ns)], _, ?_, ?_, hsd, ?_⟩
      · exact {
          len := rfl, sub := Ex.refl H, keep := fun b o e _ => e, all := fun b e => e, new := fun b _ e => e, bas := Ex.refl H
          vals := fun i d e => by
            match i, e with
            | 0, e => cases e; exact ⟨.ref a, rfl, .scr hS⟩
          owns := fun i b d e => by
            match i, e with
            | 0, e => cases e
          sep := fun i j p ⟨b, d, e, _⟩ _ => by
            match i, e with
            | 0, e => cases e
          pins := fun i ⟨b, d, e⟩ => by
            match i, e with
            | 0, e => cases e }
      · intro i d e
        match i, e with
        | 0, e => cases e
      · rintro r args' F' v H' rfl dn
        have := dn.res
        cases (show Rep K F' v (.bl true) from this)
        rfl
    apply codeAny_mono ((F _ inB (carry hns)).run callerA [] s₁ H ⟨[.ref a], []⟩ [.ref a] [.ref a] _ _ rfl hr e0 (hbind s₁ (.ref a)) (.cons rfl .nil) hsp)
    intro r s' h
    match r, h with
    | .error e, h => exact h.elim
    | .ok .next, h => exact False.elim h
    | .ok .brk, h => exact False.elim h
    | .ok .cont, h => exact False.elim h
    | .ok (.ret u), h =>
      obtain ⟨v, H', os, bare, un, ok', rv, rfl⟩ := h
      cases (show u = Value.bool true from rv)
      refine ⟨rfl, OldK.of_keep ?_, os, bare⟩
      intro b o e
      match q : H b with
      | none => exact un.keep b o e q (fun z => nomatch z) (fun z => nomatch z)
      | some u =>
        obtain ⟨rfl, rfl⟩ := hO b u q
        obtain ⟨e1, _⟩ := ok b _ q
        obtain ⟨e2, _⟩ := ok' b _ (un.frzs b _ _ q)
        rw [e] at e1
        cases e1
        exact e2
  have rv := vals_ints hi
  match hk : K.lookup a with
  | some o =>
    have e := KX a o hk
    rw [ha] at e
    cases e
    refine main (fun _ => none) (fun b u z => nomatch z) (Or.inr ⟨_, vs.toArray, _, hk, rfl, rfl, rfl, ?_, ?_⟩) (fun b u z => nomatch z) (fun z => absurd rfl z)
    · rw [List.size_toArray, lenV]; exact hl
    · simpa using rv
  | none =>
    refine main (fun b => if b = a then some (.frz { cls := .type "list", data := .seq vs.toArray } (.lst (ns.map V.int))) else none) ?_ (Or.inl (Or.inr ⟨_, if_pos rfl⟩)) ?_ fun _ => hk
    · intro b u z
      by_cases hb : b = a
      · have z' := (if_pos hb).symm.trans z
        cases z'; exact ⟨hb, rfl⟩
      · have z' := (if_neg hb).symm.trans z
        cases z'
    · intro b u z
      by_cases hb : b = a
      · have z' := (if_pos hb).symm.trans z
        cases z'
        subst hb
        exact ⟨ha, by rw [List.length_map]; exact hl, vs, _, rv, ha⟩
      · have z' := (if_neg hb).symm.trans z
        cases z'

theorem walkG {l : PySem.W.OpenLaw} {n k : Nat} {q : Program} {loose : List Str} {XP : (Str → Option Value) → Heap → Prop} {YP : World → Heap → Prop} {d : DefRec} {K : Params → PySem.W.Frag} {sd : DSpec} {x : Str}
    (hn : l.most = some n) (hn2 : n ≤ sizeLine) (hdf : d.params.defaults = []) (hr : Room k callerA) (hY : ∀ (w : World) (h : Heap), YP w h → (K w.params).In h)
    (F : ∀ (w : World) (mg : Str → Option Value) (fa : Addr) (h : Heap), (K w.params).In h → h.Ns mainGlobals mg → mg d.name = some (.ref fa) →
      ∃ fd : FuncData, (∀ (s : Shared) (u : Value), BindsTo s fd ⟨[u], []⟩ [(x, u)]) ∧ ∀ base : Heap, (K w.params).In base → base.Ns mainGlobals mg → FnG l.prog w (K w.params) mg base CX0 k fa fd [x] (spD (K w.params) sd))
    (hsd : ∀ ns : List Int, ns.length ≤ n → sd [.val (.scr ns)] fun r _ => r = .vl (.bl true)) :
    PySem.W.WalkO q loose XP YP l.row.toRowW d [] (fun f vs => PySem.call f vs) := by
  apply Att.attach_call hn hdf
  intro w s₀ s₁ mg mb fa o pm cd doc a vs ns G Y ho hd hcd hmg hobj hints hlen hg
  obtain ⟨fd, hb, hF⟩ := F w mg fa _ (hY w _ Y) G.T.g hmg
  exact law_callG (hY w _ Y) G.T.g G.T.b G.T.builtins G.T.nolimit hg hobj hints (Nat.le_trans hlen hn2) hr hF hb (hsd ns hlen)
end DL

set_option Elab.async false
set_option linter.all false
set_option maxRecDepth 100000
set_option maxHeartbeats 4000000
set_option autoImplicit false
/-! DL14: words for printed derivations. -/
namespace DL
open PySem PySem.Spec L2 Evl PyProof.Rows

section
variable {X : Cx} {pos : Pos}
theorem dgintE {x : Str} {i : Int} (hg : Gl X x) (h : ∃ u, X.mg x = some u ∧ RelV (.int i) u) (hd : (x == ("__debug__" : Str)) = false := by decide) : DE X (.Name x pos) (mC (.int i)) := by
  obtain ⟨u, h1, h2⟩ := h
  exact dgint hg h1 h2 hd
theorem dgstrE {x : Str} {i : Str} (hg : Gl X x) (h : ∃ u, X.mg x = some u ∧ RelV (.str i) u) (ho : PyData.strOk i = true := by decide +kernel) (hd : (x == ("__debug__" : Str)) = false := by decide) : DE X (.Name x pos) (mC (.str i)) := by
  obtain ⟨u, h1, h2⟩ := h
  exact dgstr hg h1 h2 ho hd
structure Cal (P : Program) (w : World) (K : PySem.W.Frag) (mg : Str → Option Value) (base : Heap) (x : Str) (st : Stmt) (k : Nat) (ps : List Str) (sd : DSpec) : Prop where
  ex : ∃ f fd, Fun K x x st f fd ∧ FnG P w K mg base CX0 k f fd ps (spD K sd) ∧ mg x = some (.ref f) ∧ Binds K fd ps []
variable {k : Nat} {st : Stmt} {ps ks : List Str} {sd : DSpec} {x : Str} {p : Pos} {e : Expr} {es : List Expr} {kws : List Keyword}
theorem dcallC (c : Cal X.prog X.w X.K X.mg X.base x st k ps sd) (hgd : X.A.guards = some []) (hr : Room k X.A) (hg : Gl X x) {mc : DMC} (h : DC X (e :: es) mc)
    (hdb : (x == ("__debug__" : Str)) = false := by decide) (he : starEach (e :: es) X.env = (false, eval e X.env) :: starEach es X.env := by rfl) (hpl : (backTo pos (starEach es X.env)).any (·.1) = false := by rfl) :
    DE X (.Call (.Name x p) (e :: es) [] pos) (mCall sd [] mc) := by
  obtain ⟨f, fd, F, G, hm, hb⟩ := c.ex
  exact dcall G hgd hr hg hm F.kp hb h hdb he hpl
def arr {α : Type} (perm : List Nat) (us ws : List α) : List α := perm.filterMap fun i => (us ++ ws)[i]?
theorem arr_vals {perm : List Nat} : ∀ {vs : List V} {us : List Value} {zs : List V} {ws : List Value}, Vals vs us → Vals zs ws → Vals (arr perm vs zs) (arr perm us ws) := by
  intro vs us zs ws r1 r2
  have r := r1.append r2
  unfold arr
  induction perm with
  | nil => exact .nil
  | cons i l ih =>
    rw [List.filterMap_cons, List.filterMap_cons]
    cases q : (vs ++ zs)[i]? with
    | none => rw [r.none_of q]; exact ih
    | some v =>
      obtain ⟨u, hu, ru⟩ := r.get q
      rw [hu]
      exact .cons ru ih
theorem arr_ca {perm : List Nat} : ArrC (arr perm) (arr perm) := by
  intro K F σ vs zs as bs r1 r2
  have r := r1.append r2
  unfold arr
  induction perm with
  | nil => exact .nil
  | cons i l ih =>
    rw [List.filterMap_cons, List.filterMap_cons]
    cases q : (as ++ bs)[i]? with
    | none =>
      have q' : (vs ++ zs)[i]? = none := by
        rw [List.getElem?_eq_none_iff] at q ⊢
        rw [r.length]; exact q
      rw [q']; exact ih
    | some a =>
      obtain ⟨v, hv, rv⟩ := r.get q
      rw [hv]
      exact .cons rv ih
def arrN {α : Type} (n m : Nat) (perm : List Nat) (us ws : List α) : List α := if us.length = n ∧ ws.length = m then arr perm us ws else []
theorem arrN_vals {n m : Nat} {perm : List Nat} : ∀ {vs : List V} {us : List Value} {zs : List V} {ws : List Value}, Vals vs us → Vals zs ws → Vals (arrN n m perm vs zs) (arrN n m perm us ws) := by
  intro vs us zs ws r1 r2
  unfold arrN
  rw [r1.length, r2.length]
  split
  · exact arr_vals r1 r2
  · exact .nil
theorem arrN_ca {n m : Nat} {perm : List Nat} : ArrC (arrN n m perm) (arrN n m perm) := by
  intro K F σ vs zs as bs r1 r2
  unfold arrN
  rw [r1.length, r2.length]
  split
  · exact arr_ca K F σ vs zs as bs r1 r2
  · exact .nil
theorem kbinds_of {K : PySem.W.Frag} {y qual : Str} {f : Addr} {fd : FuncData} (F : Fun K y qual st f fd) (n m : Nat) (perm : List Nat) (hp : ps ≠ [])
    (h : ∀ (kV doc pm : Value) (an : Option Addr) (cdv ct : Value) (us ws : List Value), us.length = n → ws.length = m → bindArgs (PySem.W.fnOf y qual (defArgs st) (defBody st) (defScope st) .none kV doc pm an cdv ct) ⟨us, ks.zip ws⟩ = pure (ps.zip (arr perm us ws))) :
    KBinds K fd ps ks (arrN n m perm) (arrN n m perm) := by
  obtain ⟨oc, od, kV, doc, pm, an, cdv, ct, osl, rfl, lk, hcd⟩ := F.ex
  refine ⟨fun s us ws _ hl => .of_eq ?_, arrN_vals⟩
  unfold arrN at hl ⊢
  split at hl
  · rename_i hc
    rw [if_pos hc]
    exact h kV doc pm an cdv ct us ws hc.1 hc.2
  · exact absurd (List.length_eq_zero_iff.mp hl.symm) hp
theorem dcallKC (c : Cal X.prog X.w X.K X.mg X.base x st k ps sd) (n m : Nat) (perm : List Nat) (hgd : X.A.guards = some []) (hr : Room k X.A) (hg : Gl X x) (hp : ps ≠ [])
    (hb : ∀ (kV doc pm : Value) (an : Option Addr) (cdv ct : Value) (us ws : List Value), us.length = n → ws.length = m → bindArgs (PySem.W.fnOf x x (defArgs st) (defBody st) (defScope st) .none kV doc pm an cdv ct) ⟨us, ks.zip ws⟩ = pure (ps.zip (arr perm us ws)))
    {mc mk : DMC} (h : DC X (e :: es) mc) (h2 : DK X kws mk) (hall : (backToKw pos (keywordEach kws X.env)).all (·.1.isSome) = true := by rfl) (hks : (backToKw pos (keywordEach kws X.env)).filterMap (·.1) = ks := by rfl)
    (hdb : (x == ("__debug__" : Str)) = false := by decide) (he : starEach (e :: es) X.env = (false, eval e X.env) :: starEach es X.env := by rfl)
    (hpl : ((backTo pos (starEach (e :: es) X.env)).any (·.1) || (backToKw pos (keywordEach kws X.env)).any (·.1.isNone)) = false := by rfl) : DE X (.Call (.Name x p) (e :: es) kws pos) (mCallK sd (arrN n m perm) mc mk) := by
  obtain ⟨f, fd, F, G, hm, _⟩ := c.ex
  exact dcallK (arrN n m perm) G hgd hr hg hm F.kp (kbinds_of F n m perm hp hb) arrN_ca h h2 hall hks hdb he hpl
theorem dcallKC0 (c : Cal X.prog X.w X.K X.mg X.base x st k ps sd) (m : Nat) (perm : List Nat) (hgd : X.A.guards = some []) (hr : Room k X.A) (hg : Gl X x) (hp : ps ≠ [])
    (hb : ∀ (kV doc pm : Value) (an : Option Addr) (cdv ct : Value) (us ws : List Value), us.length = 0 → ws.length = m → bindArgs (PySem.W.fnOf x x (defArgs st) (defBody st) (defScope st) .none kV doc pm an cdv ct) ⟨us, ks.zip ws⟩ = pure (ps.zip (arr perm us ws)))
    {mk : DMC} (h2 : DK X kws mk) (hall : (backToKw pos (keywordEach kws X.env)).all (·.1.isSome) = true := by rfl) (hks : (backToKw pos (keywordEach kws X.env)).filterMap (·.1) = ks := by rfl)
    (hdb : (x == ("__debug__" : Str)) = false := by decide)
    (hpl : ((backTo pos (starEach [] X.env)).any (·.1) || (backToKw pos (keywordEach kws X.env)).any (·.1.isNone)) = false := by rfl) : DE X (.Call (.Name x p) [] kws pos) (mCallK sd (arrN 0 m perm) mcNil mk) := by
  obtain ⟨f, fd, F, G, hm, _⟩ := c.ex
  exact dcallK0 (arrN 0 m perm) G hgd hr hg hm F.kp (kbinds_of F 0 m perm hp hb) arrN_ca h2 hall hks hdb hpl
end
end DL

set_option Elab.async false
set_option linter.all false
set_option maxRecDepth 100000
set_option maxHeartbeats 4000000
set_option autoImplicit false
/-! DL15: times; a dict's names as tests; enumerate of tuples; range with a step. -/
namespace DL
open PySem PySem.Spec L2 Evl PyProof.Rows

section
variable {X : Cx} {K : PySem.W.Frag} {pos : Pos}
theorem o2_mul : Op2 K rMulD aMul := by
  intro C F env σ H v w d e R Q I s1 s2 h g
  unfold aMul at h
  split at h
  · exact Or.inl ⟨_, _, s1.int, s2.int, h.1, g.int I h.2⟩
  · rename_i xs k
    obtain ⟨p, vs, rfl, e1, r1⟩ := s1.lst I.sub
    obtain ⟨h0, h1, h2, h3⟩ := h
    exact Or.inr ⟨p, k, vs, rfl, s2.int, e1, by omega, by omega, by rw [r1.length]; exact sz_of h2, fun q hq => g.lst I h3 (r1.rep _) q hq⟩
  · exact h.elim
theorem dtdin {a b : Expr} {m1 m2 : DM} (hu : X.A.units + 1 < cLine) (ha : DE X a m1) (hb : DE X b m2) (h1 : behindInMarks .In b = false := by first | exact nobehind _ (by decide) (by decide) | rfl | with_unfolding_all rfl) : DT X (.Compare a [.In] [b] pos) (mB (mOp2 (aDIn false) m1 m2)) := by
  obtain ⟨ta, pa, ea⟩ := ha
  obtain ⟨tb, pb, eb⟩ := hb
  refine ⟨_, pt_cmp (pc_din hu pa pb) h1, ?_⟩
  have := evb_of (evd_op2 (o2_din (n := false)) ea eb)
  intro C F env σ H R Q I h k
  have q := this C F env σ H R Q I h k
  simpa [tOp, tDIn, rDIn, tB, tTest] using q
theorem dtdnotin {a b : Expr} {m1 m2 : DM} (hu : X.A.units + 1 < cLine) (ha : DE X a m1) (hb : DE X b m2) (h1 : behindInMarks .NotIn b = false := by first | exact nobehind _ (by decide) (by decide) | rfl | with_unfolding_all rfl) : DT X (.Compare a [.NotIn] [b] pos) (mB (mOp2 (aDIn true) m1 m2)) := by
  obtain ⟨ta, pa, ea⟩ := ha
  obtain ⟨tb, pb, eb⟩ := hb
  refine ⟨_, pt_cmp (pc_dnotin hu pa pb) h1, ?_⟩
  have := evb_of (evd_op2 (o2_din (n := true)) ea eb)
  intro C F env σ H R Q I h k
  have q := this C F env σ H R Q I h k
  simpa [tOp, tDNotIn, rDIn, tB, tTest] using q
end

/-! ### enumerate of a tuple, of a text -/
theorem enum_new1 {v : Value} {o : Obj} {H : Heap → Prop} (B : Begins v o H) :
    Meets (Builtin.«enumerate.__new__» ⟨[.type "enumerate", v], []⟩) (fun _ R s => H s.heap ∧
      R (.ok (.ret (.ref (s.heap.push o).objs.size))) { s with heap := (s.heap.push o).push { cls := .type "enumerate", data := .fields #[.none, .bool false, .ref s.heap.objs.size, rawInt 0, .none, .none] } }) :=
  .of_wp fun prog w A R s h => by
    obtain ⟨hp, g, d, tk, os⟩ := s; obtain ⟨h1, h⟩ := h
    have hsub := sub_enumerate
    have q1 : ∀ {A' : Around} {E : Value → Shared → Prop} {Q : Value → Shared → Prop}, Q (.ref hp.objs.size) ⟨hp.push o, g, d, tk, os⟩ → wpAny (model prog w) A' (pyIter v) Q E ⟨hp, g, d, tk, os⟩ :=
      fun q => B.iter prog w _ _ ⟨hp, g, d, tk, os⟩ _ h1 q
    wp_walk using q1
    refine wpAny_stack_any fun st => wpAny_pure ?_
    split
    · rename_i c _ _ _ _ _
      cases (c == Value.type "enumerate")
      · wp_walk using q1
        exact ⟨_, rfl, h⟩
      · wp_walk using q1
        exact ⟨_, rfl, h⟩
    · wp_walk using q1
      exact ⟨_, rfl, h⟩
section
variable {prog : Program} {w : World} {A : Around} {E : Value → Shared → Prop} {s : Shared}
theorem enum_begins1 {v : Value} {o : Obj} {H : Heap → Prop} {Q : Value → Shared → Prop} (B : Begins v o H) (h1 : H s.heap)
    (h : ∀ h', IsEnum h' (s.heap.objs.size + 1) s.heap.objs.size 0 .none → h'.get? s.heap.objs.size = some o → h'.objs.size = s.heap.objs.size + 2 →
      (∀ b o, s.heap.get? b = some o → h'.get? b = some o) → Q (.ref (s.heap.objs.size + 1)) { s with heap := h' }) :
    wpAny (model prog w) A (call (.type "enumerate") [v]) Q E s := by
  refine callType_new F.called_enumerate (by decide) (F.typeCall_enumerate_1 _) (F.newCall_enumerate_1 _) (fun obj => F.args_object_init_2 obj _) F.entry_enumerate_new
    (enum_new1 B) ⟨h1, ?_⟩
  have hz : (s.heap.push o).objs.size = s.heap.objs.size + 1 := Heap.size_push ..
  show _ ∧ _
  rw [hz]
  have he : IsEnum ((s.heap.push o).push { cls := .type "enumerate", data := .fields #[.none, .bool false, .ref s.heap.objs.size, rawInt 0, .none, .none] }) (s.heap.objs.size + 1) s.heap.objs.size 0 .none := by
    have := Heap.get?_push_size (s.heap.push o) (o := { cls := .type "enumerate", data := .fields #[.none, .bool false, .ref s.heap.objs.size, rawInt 0, .none, .none] }) rfl
    rw [hz] at this; exact this
  refine ⟨⟨_, he, rfl⟩, h _ he (Heap.get?_push_of_some _ (Heap.get?_push_size _ B.free)) (by rw [Heap.size_push, hz]) fun b o x => Heap.get?_push_of_some _ (Heap.get?_push_of_some _ x)⟩
end
def Iten (K : PySem.W.Frag) (a : Addr) : It :=
  ⟨fun i H => ∃ (xs : List V) (x : V), SqT K H a xs ∧ xs[i]? = some x, fun i H v H' => ∃ T x, v = .ref T ∧ H T = none ∧ H' = upd H T (.tup [.int (i : Nat), x]) ∧ ∀ xs, SqT K H a xs → xs[i]? = some x, fun i H => ∃ xs : List V, SqT K H a xs ∧ xs.length ≤ i⟩
theorem turn_enumT {P : Program} {w : World} {K : PySem.W.Frag} {elts : List Expr} {kk : Nat} {tpos : Pos} (a e it : Addr) :
    Turn P w K (.Tuple elts kk tpos) (Iten K a) [e, it] e (fun i h => (∃ old, IsEnum h e it ((i : Nat) : Int) old) ∧ h.IsTupleIter it a i ∧ e ≠ it ∧ a ≠ it ∧ e ≠ a) where
  mem := by simp
  obj := fun i h st b hb => by
    obtain ⟨⟨old, he⟩, ⟨o, ho, hc, hd⟩, _⟩ := st
    have e' : b = e ∨ b = it := by simpa using hb
    rcases e' with z | z
    · rw [z]; exact ⟨_, he, fun v q => nomatch q⟩
    · rw [z]; exact ⟨o, ho, fun v q => by rw [hd] at q; cases q⟩
  keep := fun i h h' st k => let ⟨⟨old, he⟩, hi, hne⟩ := st; ⟨⟨old, k e (by simp) _ he⟩, hi.at fun o q => k it (by simp) o q, hne⟩
  item := by
    intro X hP hw hK hc i pins s σ H E I hf st hg
    subst hP hw hK
    obtain ⟨⟨old, he⟩, hit, hne, hai, hea⟩ := st
    obtain ⟨xs, x, hq, hx⟩ := hg
    obtain ⟨its, rv, p, hz⟩ := I.tuple hq
    obtain ⟨u, hu, ru⟩ := rv.get hx
    have hel : e < s.heap.objs.size := Heap.lt_size he
    have hil : it < s.heap.objs.size := by obtain ⟨_, q, _⟩ := hit; exact Heap.lt_size q
    have hi : i < its.toArray.size := by
      rcases Nat.lt_or_ge i its.length with z | z
      · simpa using z
      · rw [List.getElem?_eq_none (by simpa using z)] at hu; cases hu
    refine wpAny_pyNext_enum_itemD (Draws.tuple (A := X.A.in1) (I.ok.hd hc) it a hai its.toArray) he ⟨hit, show s.heap.IsTuple a its.toArray from p⟩ hi hne (by simp [hne, hea]) fun v h' tk hP ho hst hT hsz hk => ?_
    have hv : v = u := by
      have h1 : its[i]? = some v := by simpa using hP
      rw [hu] at h1; cases h1; rfl
    subst hv
    refine ⟨_, rfl, wpAny_letOwnedTupleGo_enum (s := { s with heap := h', toks := tk + 1 }) ho fun h'' he' sb => ?_⟩
    have hT2 : h''.get? s.heap.objs.size = some { cls := .type "tuple", data := .seq #[.int i tk, v] } := (sb.2 _ (Nat.ne_of_gt hel)).trans hT
    have new : ObjOk X.prog X.w (upd H s.heap.objs.size (.tup [.int (i : Nat), x])) h'' s.heap.objs.size (.tup [.int (i : Nat), x]) :=
      ⟨by show 2 ≤ sizeLine; decide, [.int i tk, v], .cons ⟨_, rfl⟩ (.cons ru .nil), ⟨_, hT2, rfl, _, rfl⟩⟩
    have I1 : Inv X pins σ (upd H s.heap.objs.size (.tup [.int (i : Nat), x])) { s with heap := h'', toks := tk + 1 } :=
      I.turnedNew (ch := [e, it]) (fun b ob hb q => (sb.2 b (fun z => hb (by simp [z]))).trans (hk b ob (fun z => hb (by simp [z])) (fun z => hb (by simp [z])) q)) hf (Nat.le_refl _) new
    refine ⟨.ref s.heap.objs.size, _, I1, rfl, ⟨_, x, rfl, I.hok.fresh (Nat.le_refl _), rfl, fun ys hy => by rw [I.tuple_inj hy hq]; exact hx⟩, ⟨⟨v, ?_⟩, hst.1.at fun o q => (sb.2 it (Ne.symm hne)).trans q, hne, hai, hea⟩, fun b hb => ?_⟩
    · have e1 : ((i + 1 : Nat) : Int) = (i : Int) + 1 := by omega
      rw [e1]; exact he'
    · have hb' : b < s.heap.objs.size := by
        have e' : b = e ∨ b = it := by simpa using hb
        rcases e' with z | z
        · rw [z]; exact hel
        · rw [z]; exact hil
      rw [upd_ne (Nat.ne_of_lt hb')]
      exact (hf b hb).1
  done := by
    intro X hP hw hK hc i pins s σ H E I hf st hg
    subst hP hw hK
    obtain ⟨⟨old, he⟩, hit, hne, hai, hea⟩ := st
    obtain ⟨xs, hq, hx⟩ := hg
    obtain ⟨its, rv, p, hz⟩ := I.tuple hq
    obtain ⟨f0, f1, f2, f3, f4, f5⟩ := hf it (by simp)
    have hl := rv.length
    have D : Draws X.prog X.w X.A.in1 it [it, a] i (fun _ _ => True) (fun j h => j = i ∧ h.IsTupleIter it a i ∧ h.IsTuple a its.toArray) := {
      live := fun _ _ st => let ⟨o, ho, _⟩ := st.2.1; ⟨o, ho⟩
      frame := fun _ _ _ st hk => ⟨st.1, st.2.1.at fun o e => hk it (by simp) o e, st.2.2.at fun o e => hk a (by simp) o e⟩
      item := fun j s Q E hj st hQ => absurd st.1 (Nat.ne_of_lt hj)
      done := fun s Q E st hE => wpAny_nextOf_tuple_end (A := X.A.in1) (I.ok.hd hc) st.2.1 st.2.2 (by simp; omega) hE }
    exact wpAny_pyNext_enum_endD D he ⟨rfl, hit, show s.heap.IsTuple a its.toArray from p⟩ fun h' eb => ⟨rfl, I.turned (t' := s.toks) (fun b o hb q => eb b o hb q) f0 f1 f3 f4 f5⟩
  self := fun A i s Q E st h => let ⟨⟨_, he⟩, _⟩ := st; wpAny_pyIter_enum he h
def iEnumA (K : PySem.W.Frag) (ta : TA) : TI := fun σ H R => ta σ H fun vs H1 => ∃ a, vs = [.ref a] ∧ ((∃ xs, SqL K H1 a xs ∧ R (Ite K a) H1) ∨ ∃ xs, SqT K H1 a xs ∧ R (Iten K a) H1)
theorem pi_enumA {X : Cx} {e : Expr} {ta : TA} {p pos tpos : Pos} {elts : List Expr} {kk : Nat} (hg : Gl X "enumerate") (hm : X.mg "enumerate" = none) (ha : PA X [e] ta) (hs : starEach [e] X.env = [(false, eval e X.env)] := by rfl) :
    PI X (.Tuple elts kk tpos) (.Call (.Name "enumerate" p) [e] [] pos) (iEnumA X.K ta) := by
  refine ⟨fun pins s σ H R I h => ?_⟩
  refine Call_ (ld_blt I hg hm boot_enumerate (PyProof.Rows.callWith_type1 (thn (ha.run pos pins s σ H _ I h) fun us s1 ⟨vs, H1, I1, r1, q1⟩ => ?_) hs rfl))
  obtain ⟨a, ex, q1⟩ := q1
  subst ex
  cases r1 with
  | cons r rr =>
    cases rr
    cases r
    have fo : ∀ b ∈ [s1.heap.objs.size + 1, s1.heap.objs.size], FpOk X pins H1 b := fun b hb => by
      have e' : b = s1.heap.objs.size + 1 ∨ b = s1.heap.objs.size := by simpa using hb
      have hle : s1.heap.objs.size ≤ b := by
        rcases e' with z | z
        · rw [z]; exact Nat.le_add_right _ _
        · rw [z]; exact Nat.le_refl _
      exact I1.fpOk hle (I1.hok.fresh hle)
    rcases q1 with ⟨xs, hq, q⟩ | ⟨xs, hq, q⟩
    · obtain ⟨its, rv, p', hz⟩ := I1.list hq
      refine call_enumerate_list p'.isList fun h' he hit hsz hk => wpAny_pyIter_enum he ?_
      have I2 : Inv X pins σ H1 { s1 with heap := h' } := I1.kept (t' := s1.toks) hk
      exact ⟨s1.heap.objs.size + 1, [s1.heap.objs.size + 1, s1.heap.objs.size], _, _, H1, rfl, I2, turn_enum a (s1.heap.objs.size + 1) s1.heap.objs.size, ⟨⟨.none, he⟩, hit, Nat.succ_ne_self _⟩, fo, q⟩
    · obtain ⟨its, rv, p', hz⟩ := I1.tuple hq
      have pt : s1.heap.IsTuple a its.toArray := p'
      have hal : a < s1.heap.objs.size := by obtain ⟨_, z, _⟩ := pt; exact Heap.lt_size z
      refine enum_begins1 (begins_tuple a its.toArray) pt fun h' he hit hsz hk => wpAny_pyIter_enum he ?_
      have I2 : Inv X pins σ H1 { s1 with heap := h' } := I1.kept (t' := s1.toks) hk
      exact ⟨s1.heap.objs.size + 1, [s1.heap.objs.size + 1, s1.heap.objs.size], _, _, H1, rfl, I2, turn_enumT a (s1.heap.objs.size + 1) s1.heap.objs.size, ⟨⟨.none, he⟩, ⟨_, hit, rfl, rfl⟩, Nat.succ_ne_self _, Nat.ne_of_lt hal, Nat.ne_of_gt (Nat.lt_succ_of_lt hal)⟩, fo, q⟩
theorem it_enumT {K : PySem.W.Frag} {C : Ct} {F0 : Hp} {σ0 : L2.St} {a : Addr} {ds : List D} {hold : Holds} (n : NowT K C F0 σ0 a ds hold) : IterOk K C F0 σ0 (Iten K a) (enumD 0 ds) hold := by
  intro i F env σ H I e h s
  obtain ⟨vs, q, r⟩ := n F env σ H I e h s
  rw [enumD_length]
  refine ⟨fun hi => ?_, fun hi => ⟨vs, q, by rw [r.length]; exact hi⟩⟩
  obtain ⟨v, h1, h2⟩ := r.get (List.getElem?_eq_getElem hi)
  refine ⟨⟨vs, v, q, h1⟩, fun x H' y => ?_⟩
  obtain ⟨T, x', rfl, hT, rfl, y⟩ := y
  have := y vs q
  rw [h1] at this; cases this
  obtain ⟨F', B, rp⟩ := lay_pair I hT (Rep.int (i : Int)) h2
  refine ⟨F', _, ?_, B, rp⟩
  rw [enumD_get, List.getElem?_eq_getElem hi, Nat.zero_add]
  rfl
@[simp] def sqOf (l : RV) (env : List Slot) (R : List D → Holds → Prop) : Prop := match l with
  | .vl (.lst ds) => R ds []
  | .vl (.tup ds) => R ds []
  | .tm (.lst ds) => R ds []
  | .sl i => match env[i]? with
    | some (.val (.lst ds)) => R ds []
    | some (.val (.tup ds)) => R ds []
    | some (.own _ (.lst ds)) => R ds [(i, ds)]
    | _ => False
  | _ => False
theorem nowA_of {K : PySem.W.Frag} {C : Ct} {F F' H H' : Hp} {env env' : List Slot} {σ : L2.St} {v : V} {l : RV} (A : Aft K C F env σ H F' env' H') (r : RVOk K C F' env' σ H H' v l) {R : List D → Holds → Prop}
    (h : sqOf l env' R) : ∃ F2 a ds hold, v = .ref a ∧ R ds hold ∧ Aft K C F env σ H F2 env' H' ∧ Ex F' F2 ∧ holdE hold env' ∧ ((NowL K C F2 σ a ds hold ∧ ∃ vs, H' a = some (.lst vs)) ∨ (NowT K C F2 σ a ds hold ∧ ∃ vs, SqT K H' a vs)) := by
  have ls : lsOf l env' R → ∃ F2 a ds hold, v = .ref a ∧ R ds hold ∧ Aft K C F env σ H F2 env' H' ∧ Ex F' F2 ∧ holdE hold env' ∧ ((NowL K C F2 σ a ds hold ∧ ∃ vs, H' a = some (.lst vs)) ∨ (NowT K C F2 σ a ds hold ∧ ∃ vs, SqT K H' a vs)) := fun h => by
    obtain ⟨F2, a, ds, hold, e, hR, A2, ex, nw, hh, hv⟩ := now_of A r h
    exact ⟨F2, a, ds, hold, e, hR, A2, ex, hh, Or.inl ⟨nw, hv⟩⟩
  have tp : ∀ ds, l.get env' (fun d => d = .tup ds) → R ds [] → ∃ F2 a ds hold, v = .ref a ∧ R ds hold ∧ Aft K C F env σ H F2 env' H' ∧ Ex F' F2 ∧ holdE hold env' ∧ ((NowL K C F2 σ a ds hold ∧ ∃ vs, H' a = some (.lst vs)) ∨ (NowT K C F2 σ a ds hold ∧ ∃ vs, SqT K H' a vs)) := fun ds hd hR => by
    obtain ⟨F2, d, rfl, A2, ex, rp⟩ := A.keepIt r hd
    cases rp with
    | tup e q => exact ⟨F2, _, ds, [], rfl, hR, A2, ex, trivial, Or.inr ⟨fun F env σ H I x _ _ => ⟨_, ex_t I.sub (ex_t x e), q.mono x⟩, _, ex_t A2.ok.sub e⟩⟩
  cases l with
  | vl d =>
    cases d with
    | lst ds => exact ls h
    | tup ds => exact tp ds rfl h
    | _ => exact h.elim
  | tm d =>
    cases d with
    | lst ds => exact ls h
    | _ => exact h.elim
  | sl i =>
    have h' : (match env'[i]? with | some (.val (.lst ds)) => R ds [] | some (.val (.tup ds)) => R ds [] | some (.own _ (.lst ds)) => R ds [(i, ds)] | _ => False) := h
    split at h'
    · rename_i ds e; exact ls (by simp [e]; exact h')
    · rename_i ds e; exact tp ds (by simp [e]) h'
    · rename_i b ds e; exact ls (by simp [e]; exact h')
    · exact h'.elim
@[simp] def mSq (m : DM) : DMI := fun env R => m env fun x e1 => sqOf x e1 fun ds hold => R ds hold e1
@[simp] def mEnumA (m : DM) : DMI := fun env R => mSq m env fun ds hold e1 => R (enumD 0 ds) hold e1
theorem di_enumA {X : Cx} {e : Expr} {p pos tpos : Pos} {elts : List Expr} {kk : Nat} {m : DM} (hg : Gl X "enumerate") (hm : X.mg "enumerate" = none) (h : DE X e m) (hs : starEach [e] X.env = [(false, eval e X.env)] := by rfl) (hs' : starEach [e] X.env = (false, eval e X.env) :: starEach [] X.env := by rfl) : DI X (.Tuple elts kk tpos) (.Call (.Name "enumerate" p) [e] [] pos) (mEnumA m) := by
  obtain ⟨t, q, ev⟩ := h
  refine ⟨_, pi_enumA hg hm (pa_cons q pa_nil hs') hs, ?_⟩
  intro C F env σ H R Q I h k
  refine ev C F env σ H _ _ I h ?_
  intro x e1 F1 v H1 h1 A1 r1
  obtain ⟨F2, a, ds, hold, rfl, hR, A2, ex, hh, nw⟩ := nowA_of A1 r1 (R := fun ds hold => R (enumD 0 ds) hold e1) h1
  rcases nw with ⟨nw, vs, hv⟩ | ⟨nw, vs, hv⟩
  · exact ⟨a, rfl, Or.inl ⟨vs, sq_of hv, k _ _ e1 F2 H1 _ hR A2 (it_enum nw) hh⟩⟩
  · exact ⟨a, rfl, Or.inr ⟨vs, hv, k _ _ e1 F2 H1 _ hR A2 (it_enumT nw) hh⟩⟩

/-! ### what isinstance tells of built-in types -/
section
variable {K : PySem.W.Frag}
theorem kt_int : ∀ d : D, PySem.W.kitOne K (.type d.ty) (.type "int") = some (isTy d "int")
  | .non => by rfl
  | .bl _ => by rfl
  | .int _ => by rfl
  | .str _ => by rfl
  | .lst _ => by rfl
  | .tup _ => by rfl
  | .dic _ => by rfl
  | .scr _ => by rfl
  | .fn _ => by rfl
  | .obj _ _ => by rfl
  | .exc _ _ _ => by rfl
theorem kt_bool : ∀ d : D, PySem.W.kitOne K (.type d.ty) (.type "bool") = some (isTy d "bool")
  | .non => by rfl
  | .bl _ => by rfl
  | .int _ => by rfl
  | .str _ => by rfl
  | .lst _ => by rfl
  | .tup _ => by rfl
  | .dic _ => by rfl
  | .scr _ => by rfl
  | .fn _ => by rfl
  | .obj _ _ => by rfl
  | .exc _ _ _ => by rfl
theorem kt_str : ∀ d : D, PySem.W.kitOne K (.type d.ty) (.type "str") = some (isTy d "str")
  | .non => by rfl
  | .bl _ => by rfl
  | .int _ => by rfl
  | .str _ => by rfl
  | .lst _ => by rfl
  | .tup _ => by rfl
  | .dic _ => by rfl
  | .scr _ => by rfl
  | .fn _ => by rfl
  | .obj _ _ => by rfl
  | .exc _ _ _ => by rfl
theorem kt_list : ∀ d : D, PySem.W.kitOne K (.type d.ty) (.type "list") = some (isTy d "list")
  | .non => by rfl
  | .bl _ => by rfl
  | .int _ => by rfl
  | .str _ => by rfl
  | .lst _ => by rfl
  | .tup _ => by rfl
  | .dic _ => by rfl
  | .scr _ => by rfl
  | .fn _ => by rfl
  | .obj _ _ => by rfl
  | .exc _ _ _ => by rfl
theorem kt_tuple : ∀ d : D, PySem.W.kitOne K (.type d.ty) (.type "tuple") = some (isTy d "tuple")
  | .non => by rfl
  | .bl _ => by rfl
  | .int _ => by rfl
  | .str _ => by rfl
  | .lst _ => by rfl
  | .tup _ => by rfl
  | .dic _ => by rfl
  | .scr _ => by rfl
  | .fn _ => by rfl
  | .obj _ _ => by rfl
  | .exc _ _ _ => by rfl
theorem kt_dict : ∀ d : D, PySem.W.kitOne K (.type d.ty) (.type "dict") = some (isTy d "dict")
  | .non => by rfl
  | .bl _ => by rfl
  | .int _ => by rfl
  | .str _ => by rfl
  | .lst _ => by rfl
  | .tup _ => by rfl
  | .dic _ => by rfl
  | .scr _ => by rfl
  | .fn _ => by rfl
  | .obj _ _ => by rfl
  | .exc _ _ _ => by rfl
theorem kt2 {T U : String} (h1 : ∀ d : D, PySem.W.kitOne K (.type d.ty) (.type T) = some (isTy d T)) (h2 : ∀ d : D, PySem.W.kitOne K (.type d.ty) (.type U) = some (isTy d U)) (d : D) :
    PySem.W.kitAny K (.type d.ty) [.type T, .type U] = some (isTy d T || isTy d U) := by
  unfold PySem.W.kitAny
  rw [h1 d]
  cases isTy d T
  · unfold PySem.W.kitAny
    rw [h2 d]
    cases isTy d U <;> rfl
  · rfl
end
end DL

set_option Elab.async false
set_option linter.all false
set_option maxRecDepth 100000
set_option maxHeartbeats 4000000
set_option autoImplicit false
/-! DL16: pairs of results; two names given new things at once; a loop over two names that changes what they hold for the last time. -/
namespace DL
open PySem PySem.Spec L2 Evl PyProof.Rows

section
variable {K : PySem.W.Frag} {C : Ct} {F F' H H0 H' : Hp} {env env' : List Slot} {σ : L2.St} {u w : V}
@[simp] def putR (j : Nat) (x : RV) (env : List Slot) (R : List Slot → Prop) : Prop := match x with
  | .vl d => Free env j ∧ R (env.set j (.val d))
  | .tm d => Free env j ∧ R (env.set j (.own false d))
  | .sl _ => False
theorem ok_put {j : Nat} {x : RV} {R : List Slot → Prop} (I : Ok K C F env σ H) (r : RVOk K C F env σ H0 H u x) (h : putR j x env R) :
    ∃ env', R env' ∧ Ok K C F env' (σ.set j (some u)) H ∧ ∀ y, RVOk K C F env σ H0 H w y → (∀ i, y ≠ .sl i) → ((∃ d, x = .tm d) → (∃ d, y = .tm d) → u ≠ w) → RVOk K C F env' (σ.set j (some u)) H0 H w y := by
  cases x with
  | vl d =>
    refine ⟨_, h.2, I.setVal h.1 r, fun y ry ns _ => ?_⟩
    cases y with
    | vl e => exact ry
    | tm e =>
      obtain ⟨p, o, rfl, g1, g2, g3, g4, g5, g6⟩ := ry
      refine ⟨p, o, rfl, g1, g2, g3, g4, fun i ⟨b, d1, e1, s1⟩ => ?_, g6⟩
      by_cases q : j = i
      · subst q
        rw [List.getElem?_set] at e1
        split at e1
        · split at e1 <;> cases e1
        · exact absurd rfl ‹¬ _›
      · rw [List.getElem?_set_ne q] at e1 s1
        exact g5 i ⟨b, d1, e1, s1⟩
    | sl i => exact absurd rfl (ns i)
  | tm d =>
    obtain ⟨p, o, rfl, f1, f2, f3, f4, f5, f6⟩ := r
    refine ⟨_, h.2, I.setOwn h.1 f1 f2 f3 f4 f5, fun y ry ns ne => ?_⟩
    cases y with
    | vl e => exact ry
    | tm e =>
      obtain ⟨p', o', rfl, g1, g2, g3, g4, g5, g6⟩ := ry
      refine ⟨p', o', rfl, g1, g2, g3, g4, fun i ⟨b, d1, e1, s1⟩ => ?_, g6⟩
      by_cases q : j = i
      · subst q
        rw [List.getElem?_set] at s1
        split at s1
        · split at s1
          · have := ne ⟨_, rfl⟩ ⟨_, rfl⟩
            cases s1
            exact this rfl
          · cases s1
        · exact absurd rfl ‹¬ _›
      · rw [List.getElem?_set_ne q] at e1 s1
        exact g5 i ⟨b, d1, e1, s1⟩
    | sl i => exact absurd rfl (ns i)
  | sl i => exact h.elim
@[simp] def put2 (i j : Nat) (x y : RV) (env : List Slot) (R : List Slot → Prop) : Prop := putR i x env fun e => putR j y e R
theorem put_ns {j : Nat} {y : RV} {R : List Slot → Prop} (h : putR j y env R) : ∀ i, y ≠ .sl i := by
  rintro i rfl
  exact h
end

section
variable {X : Cx} {pos : Pos}
@[simp] def mPar2X (i j : Nat) (a b : DM) : DStm := fun P env => a env fun x e1 => b e1 fun y e2 => (∀ k, y ≠ .sl k) ∧ put2 i j x y e2 P.nx
theorem ds_par2X {i j : Nat} {x y : Str} {a b : Expr} {m1 m2 : DM} {px py pt : Pos} {kt k2 pt2} (hc : X.calm = true) (hN : X.N.Nodup) (hi : X.N[i]? = some x) (hj : X.N[j]? = some y) (hij : i ≠ j)
    (hx : X.env.scope.names.lookup x = some .local) (hy : X.env.scope.names.lookup y = some .local) (h1 : DE X a m1) (h2 : DE X b m2)
    (hw : swappedStores [.Tuple [.Name x px, .Name y py] kt pt] (.Tuple [a, b] k2 pt2) X.env = pure (some [x, y]))
    (hs : swapsWithSole [.Tuple [.Name x px, .Name y py] kt pt] (.Tuple [a, b] k2 pt2) pos.line X.env = pure false := by rfl)
    (hs1 : starEach (a :: [b]) X.env = (false, eval a X.env) :: starEach [b] X.env := by rfl) (hs2 : starEach (b :: []) X.env = (false, eval b X.env) :: starEach [] X.env := by rfl) :
    DS X (.Assign [.Tuple [.Name x px, .Name y py] kt pt] (.Tuple [a, b] k2 pt2) pos) (mPar2X i j m1 m2) := by
  obtain ⟨t, p, ev⟩ := h1
  obtain ⟨t', p', ev'⟩ := h2
  refine ⟨_, ps_par hc hN hi hj hij hx hy (pa_cons p (pa_cons p' pa_nil hs2) hs1) hw hs, ?_⟩
  intro C F env σ H D P I h k
  refine ev C F env σ H _ _ I h ?_
  intro x e1 F1 v H1 h1 A1 r1
  refine ev' C F1 e1 σ H1 _ _ A1.ok h1 ?_
  intro y e2 F2 w H2 h2 A2 r2
  refine ⟨v, w, rfl, ?_⟩
  have ns := h2.1
  obtain ⟨e3, h3, I3, more⟩ := ok_put (H0 := H) A2.ok (r1.on A2) h2.2
  have r2' := more y (r2.from fun p => A1.back) ns (by
    rintro ⟨d, rfl⟩ ⟨d', rfl⟩ rfl
    obtain ⟨q, o, rfl, g1, _⟩ := r1
    obtain ⟨q', o', e, _, _, _, _, _, z⟩ := r2
    cases e
    rw [g1] at z; cases z)
  obtain ⟨e4, h4, I4, _⟩ := ok_put (H0 := H) (w := .non) I3 r2' h3
  exact k.nx F2 e4 _ H2 I4 h4
@[simp] def rv1 (x : RV) (e : List Slot) (R : RV → Prop) : Prop := match x with
  | .vl d => R (.vl d)
  | .tm d => R (.tm d)
  | .sl i => match e[i]? with
    | some (.val d) => R (.vl d)
    | some (.own false d) => R (.tm d)
    | _ => False
@[simp] def mRet2 (a b : DM) : DStm := fun P env => a env fun x e1 => b e1 fun y e2 => x ≠ y ∧ rv1 x e2 fun x' => rv1 y e2 fun y' => P.r2 x' y' e2
theorem rv1_ok {K : PySem.W.Frag} {C : Ct} {F H H0 : Hp} {env : List Slot} {σ : L2.St} {v : V} {x : RV} {R : RV → Prop} (I : Ok K C F env σ H) (r : RVOk K C F env σ H0 H v x) (h : rv1 x env R) :
    ∃ x', R x' ∧ RetOk K C F H v x' ∧ ((∃ d, x' = .tm d) → (∃ p, v = .ref p ∧ ((∃ d, x = .tm d) ∨ ∃ i, x = .sl i ∧ Owns env σ i p))) := by
  cases x with
  | vl d => exact ⟨.vl d, h, r, fun ⟨_, e⟩ => by cases e⟩
  | tm d =>
    obtain ⟨p, o, e, g1, g2, g3, g4, _⟩ := r
    exact ⟨.tm d, h, ⟨p, o, e, g1, g2, g3, g4⟩, fun _ => ⟨p, e, Or.inl ⟨d, rfl⟩⟩⟩
  | sl i =>
    have h' : (match env[i]? with | some (.val d) => R (.vl d) | some (.own false d) => R (.tm d) | _ => False) := h
    have r' : σ[i]? = some (some v) := r
    split at h'
    · rename_i d e
      obtain ⟨w, q1, q2⟩ := I.vals i d e
      rw [r'] at q1; cases q1
      exact ⟨.vl d, h', q2, fun ⟨_, e⟩ => by cases e⟩
    · rename_i d e
      obtain ⟨q, o, q1, q2, q3, q4, q5, _⟩ := I.owns i false d e
      rw [r'] at q1; cases q1
      exact ⟨.tm d, h', ⟨q, o, rfl, q2, q3, q4, q5 rfl⟩, fun _ => ⟨q, rfl, Or.inr ⟨i, rfl, false, d, e, r'⟩⟩⟩
    · exact h'.elim
theorem RetOk.tmp {K : PySem.W.Frag} {C : Ct} {F H : Hp} {v : V} {x : RV} {T : Addr} {o : HO} (hT : H T = none) (r : RetOk K C F H v x) : RetOk K C F (upd H T o) v x := by
  cases x with
  | vl d => exact r
  | tm d =>
    obtain ⟨p, u, e, g1, g2, g3, g4⟩ := r
    exact ⟨p, u, e, by rw [upd_ne (ne_of_none g1 hT)]; exact g1, g2, g3, g4⟩
  | sl i => exact r
theorem ds_ret2 {a b : Expr} {m1 m2 : DM} {kt : _} {pt : Pos} (h1 : DE X a m1) (h2 : DE X b m2) (hs1 : starEach (a :: [b]) X.env = (false, eval a X.env) :: starEach [b] X.env := by rfl) (hs2 : starEach (b :: []) X.env = (false, eval b X.env) :: starEach [] X.env := by rfl) :
    DS X (.Return (some (.Tuple [a, b] kt pt)) pos) (mRet2 m1 m2) := by
  obtain ⟨t, p, ev⟩ := h1
  obtain ⟨t', p', ev'⟩ := h2
  refine ⟨_, ps_ret (pe_tup (pa_cons p (pa_cons p' pa_nil hs2) hs1)), ?_⟩
  intro C F env σ H D P I h k
  refine ev C F env σ H _ _ I h ?_
  intro x e1 F1 v H1 h1 A1 r1
  refine ev' C F1 e1 σ H1 _ _ A1.ok h1 ?_
  intro y e2 F2 w H2 h2 A2 r2
  obtain ⟨nxy, h2⟩ := h2
  refine ⟨by show 2 ≤ sizeLine; decide, fun T hT => ?_⟩
  obtain ⟨x', h3, q1, t1⟩ := rv1_ok A2.ok (r1.on A2) h2
  obtain ⟨y', h4, q2, t2⟩ := rv1_ok A2.ok r2 h3
  have B := A2.ok.tmp hT (.tup [v, w])
  refine k.r2 F2 e2 σ _ (.ref T) x' y' B.ok ⟨T, v, w, rfl, st_of upd_same, q1.tmp hT, q2.tmp hT, fun a b => ?_⟩ h4
  rintro rfl
  obtain ⟨p1, e1', o1⟩ := t1 a
  obtain ⟨p2, e2', o2⟩ := t2 b
  subst e1'
  cases e2'
  rcases o1 with ⟨d1, rfl⟩ | ⟨i, rfl, w1⟩
  · obtain ⟨q, o, e, g1, g2, g3, g4, g5, g6⟩ := r1
    cases e
    rcases o2 with ⟨d2, rfl⟩ | ⟨j, rfl, w2⟩
    · obtain ⟨q', o', e, _, _, _, _, _, z⟩ := r2
      cases e
      rw [g1] at z; cases z
    · exact g5 j (A2.le.owns w2)
  · rcases o2 with ⟨d2, rfl⟩ | ⟨j, rfl, w2⟩
    · obtain ⟨q', o', e, _, _, _, _, z, _⟩ := r2
      cases e
      exact z i w1
    · exact nxy (by rw [A2.ok.sep i j _ w1 w2])

/-! ### a def that gives a pair -/
abbrev DSpec2 := List Slot → (RV → RV → List Slot → Prop) → Prop
def Res1 (K : PySem.W.Frag) (F' H H' : Hp) (v : V) : RV → Prop
  | .vl d => Rep K F' v d
  | .tm d => ∃ p o, v = .ref p ∧ H' p = some o ∧ RepO K F' o d ∧ F' p = none ∧ H p = none
  | .sl _ => False
def spD2 (K : PySem.W.Frag) (sd : DSpec2) : Sp := fun vs H Q _ => ∃ F args R, ArgsOk K F args vs H ∧ (∀ (i : Nat) (d : D), args[i]? ≠ some (.own false d)) ∧ sd args R ∧
  ∀ x y args' F' T u w H', R x y args' → Done K F args vs H (.vl .non) args' F' .non H' → SqT K H' T [u, w] → Res1 K F' H H' u x → Res1 K F' H H' w y → ((∃ d, x = .tm d) → (∃ d, y = .tm d) → u ≠ w) → Q (.ref T) H'
theorem FunG.ok2 {P : Program} {w : World} {K : PySem.W.Frag} {mg : Str → Option Value} {base : Heap} {qual : Str} {body : List Stmt} {scope : Scope} {f : Addr} {fd : FuncData} {N ps : List Str} {k : Nat} {sd : DSpec2} {m : DStm}
    (F : FunG K qual body scope f fd) (S : FnScope N ps scope) (len : ∀ args R, sd args R → args.length = ps.length)
    (hbody : ∀ (cdv : Value) (A : Around) (outer : List PySem.Env) (s : Shared) (H : Hp) (E : XK), A.guards = some [] → Room k (A.deeper (envOfC qual scope s.heap.objs.size f cdv)) →
      DB (cxOf CX0 P w K mg base N qual scope f cdv A outer s H E).nox body m)
    (hm : ∀ args R, sd args R → m { nx := fun _ => False, rt := fun _ _ => False, r2 := fun x y e => R x y (outs ps.length e) } (startE N.length args)) :
    FnG P w K mg base CX0 (k + 1) f fd ps (spD2 K sd) := by
  obtain ⟨oc, od, name, params, dV, kV, doc, pm, an, cdv, ct, osl, rfl, lk, hcd⟩ := F.ex
  refine fnG_of lk hcd S ?_ ?_
  · rintro vs H Q E ⟨F, args, R, h1, _, h2, _⟩
    have := h1.len
    rw [List.length_map] at this
    rw [this, len args R h2]
  rintro A outer s H vs Q E hg hr ⟨F0, args, R, h1, np, h2, h3⟩
  obtain ⟨t, ht, ev⟩ := hbody cdv A outer s H E hg hr
  refine ⟨t, ht.nox, ?_⟩
  have hl : args.length = ps.length := len args R h2
  have hv : vs.length = args.length := by have := h1.len; rwa [List.length_map] at this
  have fin : ∀ F' env σ H' v x y, Ok K (ctOf args vs F0 H) F' env σ H' → Ret2 K (ctOf args vs F0 H) F' H' v x y → R x y (outs ps.length env) → Q v H' := by
    intro F' env σ H' v x y I' ro hR
    obtain ⟨T, u, w, rfl, hq, ru, rw', ne⟩ := ro
    refine h3 x y _ F' T u w H' hR ⟨I'.bas, I'.sub, I'.keep, I'.all, I'.new, fun i b d e => ?_, Rep.non⟩ hq (by cases x <;> exact ru) (by cases y <;> exact rw') ne
    cases b with
    | false => exact absurd e (np i d)
    | true =>
      obtain ⟨d', e'⟩ := I'.pins i ⟨true, d, e⟩
      have hi : i < ps.length := by
        rw [← hl]
        rcases Nat.lt_or_ge i args.length with z | z
        · exact z
        · rw [List.getElem?_eq_none (by simpa using z)] at e; cases e
      obtain ⟨p, o, g1, g2, g3, g4, g5, g6⟩ := I'.owns i true d' e'
      obtain ⟨q1, q2, q3⟩ := g6 rfl
      refine ⟨p, o, d', q1, ?_, g2, g3⟩
      unfold outs
      rw [List.getElem?_map, List.getElem?_take_of_lt hi, e']
      rfl
  exact ev (ctOf args vs F0 H) F0 _ _ H _ _ (ok_start N h1 np) (hm args R h2) ⟨fun _ _ _ _ _ z => z.elim, fun _ _ _ _ _ z => z.elim, fun _ _ _ _ _ z => z.elim, fun _ _ _ _ _ _ _ _ z => z.elim, fun F env σ H' v x y I' ro q => fin F env σ H' v x y I' ro q⟩
structure Cal2 (P : Program) (w : World) (K : PySem.W.Frag) (mg : Str → Option Value) (base : Heap) (x : Str) (st : Stmt) (k : Nat) (ps : List Str) (sd : DSpec2) : Prop where
  ex : ∃ f fd, Fun K x x st f fd ∧ FnG P w K mg base CX0 k f fd ps (spD2 K sd) ∧ mg x = some (.ref f) ∧ Binds K fd ps []
@[simp] def mUn2 (i j : Nat) (sd : DSpec2) (a : DMC) : DStm := fun P env => a env fun as e => apart e as = true ∧ sd (as.map (resolve e)) fun x y ss => (∀ k, y ≠ .sl k) ∧ put2 i j x y (putB as ss e) P.nx
theorem ds_un2 {k : Nat} {st : Stmt} {ps : List Str} {sd : DSpec2} {f x y : Str} {p pt px py : Pos} {kt : _} {e : Expr} {es : List Expr} {i j : Nat} (hc : X.calm = true) (c : Cal2 X.prog X.w X.K X.mg X.base f st k ps sd) (hgd : X.A.guards = some []) (hr : Room k X.A) (hg : Gl X f)
    (hN : X.N.Nodup) (hi : X.N[i]? = some x) (hj : X.N[j]? = some y) (hx : Loc X.env.scope x) (hy : Loc X.env.scope y) {mc : DMC} (h : DC X (e :: es) mc)
    (hdb : (f == ("__debug__" : Str)) = false := by decide) (he : starEach (e :: es) X.env = (false, eval e X.env) :: starEach es X.env := by rfl) (hpl : (backTo p (starEach es X.env)).any (·.1) = false := by rfl)
    (hfx : X.fn x = true ∨ X.env.scope.names.lookup x = some .local := by first | exact .inl rfl | exact .inr rfl | assumption) (hfy : X.fn y = true ∨ X.env.scope.names.lookup y = some .local := by first | exact .inl rfl | exact .inr rfl | assumption)
    (hn : (assignEach [.Name x px, .Name y py] X.env).length = 2 := by rfl) (hst : (assignEach [.Name x px, .Name y py] X.env).findIdx? (·.1) = none := by rfl)
    (ha1 : (assignEach [.Name x px, .Name y py] X.env).map (·.2) = assign (.Name x px) X.env :: (assignEach [.Name y py] X.env).map (·.2) := by rfl)
    (ha2 : (assignEach [.Name y py] X.env).map (·.2) = assign (.Name y py) X.env :: (assignEach [] X.env).map (·.2) := by rfl) {pf : Pos}
    (hs : swapsWithSole [.Tuple [.Name x px, .Name y py] kt pt] (.Call (.Name f pf) (e :: es) [] p) pos.line X.env = pure false := by rfl) (hw : swappedStores [.Tuple [.Name x px, .Name y py] kt pt] (.Call (.Name f pf) (e :: es) [] p) X.env = pure none := by rfl)
    (h1 : (assignEach [.Tuple [.Name x px, .Name y py] kt pt] X.env).map (·.2) = [assign (.Tuple [.Name x px, .Name y py] kt pt) X.env] := by rfl) :
    DS X (.Assign [.Tuple [.Name x px, .Name y py] kt pt] (.Call (.Name f pf) (e :: es) [] p) pos) (mUn2 i j sd mc) := by
  obtain ⟨fa, fd, Fn, G, hm, hb⟩ := c.ex
  obtain ⟨t, pa, ev⟩ := h
  refine ⟨_, ps_asg (pe_callG (E := E0) G hgd hr hg hm Fn.kp hb .nil pass0 pa hdb he hpl) (pg_tup hc (pgs_cons (pg_name hN hi hx hfx) (pgs_cons (pg_name hN hj hy hfy) pgs_nil ha2) ha1) hn hst) hs hw h1, ?_⟩
  intro C F env σ H D P I h k
  refine ev C F env σ H _ _ I h ?_
  intro as e1 F1 vs H1 h1 A1 r1
  obtain ⟨ap, h1⟩ := h1
  obtain ⟨c1, c2, c3⟩ := call_parts A1.ok r1 ap
  rw [List.append_nil]
  refine ⟨F1, as.map (resolve e1), _, c1, c2, h1, ?_⟩
  intro x y ss F' T u w H' hR dn hq ru rw' ne
  obtain ⟨B, no⟩ := c3 _ ss F' _ H' dn
  have A := A1.trans B
  have conv : ∀ (v : V) (z : RV), Res1 X.K F' H1 H' v z → RVOk X.K C F' (putB as ss e1) σ H1 H' v z := fun v z rz => by
    cases z with
    | vl d => exact rz
    | tm d =>
      obtain ⟨p, o, e, g1, g2, g3, g4⟩ := rz
      exact ⟨p, o, e, g1, g2, g3, A1.ok.gnone g4, no p g4, g4⟩
    | sl i => exact rz.elim
  refine ⟨T, [u, w], rfl, hq, rfl, u, [w], rfl, ?_⟩
  obtain ⟨ns, hR⟩ := hR
  obtain ⟨e3, h3, I3, more⟩ := ok_put (H0 := H1) A.ok (conv u x ru) hR
  refine ⟨w, [], rfl, rfl, ?_⟩
  obtain ⟨e4, h4, I4, _⟩ := ok_put (H0 := H1) (w := .non) I3 (more y (conv w y rw') ns ne) h3
  exact k.nx F' e4 _ H' I4 h4
end
end DL

set_option Elab.async false
set_option linter.all false
set_option maxRecDepth 100000
set_option maxHeartbeats 4000000
set_option autoImplicit false
/-! DL17: for z in (x, y): if z is not None: z.append(..), x and y never asked again. -/
namespace DL
open PySem PySem.Spec L2 Evl PyProof.Rows

section
variable {K : PySem.W.Frag} {C : Ct} {F H : Hp} {env : List Slot} {σ σ' : L2.St} {k : Nat}
theorem no_get {i : Nat} {s : Slot} (h : (env.set k .no)[i]? = some s) (n : s ≠ .no) : k ≠ i ∧ env[i]? = some s := by
  by_cases q : k = i
  · subst q
    rw [List.getElem?_set] at h
    split at h
    · split at h
      · cases h; exact absurd rfl n
      · cases h
    · exact absurd rfl ‹¬ _›
  · rw [List.getElem?_set_ne q] at h
    exact ⟨q, h⟩
theorem Ok.drop (h : Ok K C F env σ H) (f : Free env k) (hl : σ'.length = σ.length) (hs : ∀ n, n ≠ k → σ'[n]? = σ[n]?) : Ok K C F (env.set k .no) σ' H where
  len := by rw [hl, List.length_set]; exact h.len
  sub := h.sub
  keep := h.keep
  all := h.all
  new := h.new
  bas := h.bas
  vals := fun i d e => by
    obtain ⟨q, e'⟩ := no_get e (by simp)
    rw [hs i (Ne.symm q)]
    exact h.vals i d e'
  owns := fun i b d e => by
    obtain ⟨q, e'⟩ := no_get e (by simp)
    rw [hs i (Ne.symm q)]
    exact h.owns i b d e'
  sep := fun i j p ⟨b, d, e1, s1⟩ ⟨b2, d2, e2, s2⟩ => by
    obtain ⟨q1, e1'⟩ := no_get e1 (by simp)
    obtain ⟨q2, e2'⟩ := no_get e2 (by simp)
    rw [hs i (Ne.symm q1)] at s1
    rw [hs j (Ne.symm q2)] at s2
    exact h.sep i j p ⟨b, d, e1', s1⟩ ⟨b2, d2, e2', s2⟩
  pins := fun i q => Free.pins f (h.pins i q)
theorem Ok.poke (h : Ok K C F env σ H) {p : Addr} {o o' : HO} (hp : H p = some o) (hF : F p = none) (hG : C.G p = none) (hn : ∀ i, ¬ Owns env σ i p) : Ok K C F env σ (upd H p o') where
  len := h.len
  sub := fun a u e => by rw [upd_ne (ne_of_none e hF)]; exact h.sub a u e
  keep := fun a u e n => by rw [upd_ne (ne_of_none e hG)]; exact h.keep a u e n
  all := fun a e => by
    by_cases q : a = p
    · subst q; rw [upd_same]; exact fun z => nomatch z
    · rw [upd_ne q]; exact h.all a e
  new := h.new
  bas := h.bas
  vals := h.vals
  owns := fun i b d e => by
    obtain ⟨q, u, h1, h2, h3, h4, h5, h6⟩ := h.owns i b d e
    refine ⟨q, u, h1, ?_, h3, h4, h5, h6⟩
    rw [upd_ne]
    · exact h2
    · rintro rfl
      exact hn i ⟨b, d, e, h1⟩
  sep := h.sep
  pins := h.pins
end
@[simp] def lateOk (env : List Slot) (i : Nat) : Prop := match env[i]? with
  | some (.own false (.lst xs)) => xs.length < 90000
  | some (.val .non) => True
  | _ => False
@[simp] def mForLate (i j k : Nat) : DStm := fun P env => lateOk env i ∧ lateOk env j ∧ Free env k ∧ P.nx (((env.set i .no).set j .no).set k .no)
def LateV (C : Ct) (F : Hp) (env : List Slot) (σ : L2.St) (H : Hp) (n : Nat) (v : V) : Prop := v = .non ∨ ∃ p vs, v = .ref p ∧ H p = some (.lst vs) ∧ vs.length ≤ 90000 + n ∧ F p = none ∧ C.G p = none ∧ ∀ i, ¬ Owns env σ i p
theorem late_of {K : PySem.W.Frag} {C : Ct} {F H : Hp} {env : List Slot} {σ : L2.St} {i : Nat} (I : Ok K C F env σ H) (h : lateOk env i) : Free env i ∧ ∃ v, σ[i]? = some (some v) ∧ (v = .non ∨ ∃ p vs, v = .ref p ∧ H p = some (.lst vs) ∧ vs.length ≤ 90000 ∧ F p = none ∧ C.G p = none ∧ Owns env σ i p) := by
  unfold lateOk at h
  split at h
  · rename_i xs e
    obtain ⟨p, o, h1, h2, h3, h4, h5, h6⟩ := I.owns i false _ e
    obtain ⟨vs, rfl, r⟩ := lst_of h3
    exact ⟨by unfold Free; rw [e]; trivial, _, h1, Or.inr ⟨p, vs, rfl, h2, by rw [r.length]; omega, h4, h5 rfl, false, _, e, h1⟩⟩
  · rename_i e
    obtain ⟨v, h1, h2⟩ := I.vals i _ e
    cases h2
    exact ⟨by unfold Free; rw [e]; trivial, _, h1, Or.inl rfl⟩
  · exact h.elim
section
variable {X : Cx} {pos : Pos}
theorem ds_forLate {i j k : Nat} {x y z : Str} {s : Str} {js jn : Nat} {p1 p2 p3 p4 p5 p6 p7 p8 ap cp sp ip tp : Pos} {kt : _} (hp : PassesOwn (model X.prog X.w) X.A X.env X.xe) (hc : X.calm = true) (hNd : X.N.Nodup)
    (hi : X.N[i]? = some x) (hj : X.N[j]? = some y) (hk : X.N[k]? = some z) (vi : Vis X.env.scope x) (vj : Vis X.env.scope y) (vk : Vis X.env.scope z) (lk : Loc X.env.scope z) (hij : i ≠ j) (hik : i ≠ k) (hjk : j ≠ k)
    (dx : (x == ("__debug__" : Str)) = false := by decide) (dy : (y == ("__debug__" : Str)) = false := by decide) (dz : (z == ("__debug__" : Str)) = false := by decide)
    (cx : (x == ("__classdict__" : Str)) = false := by decide) (cy : (y == ("__classdict__" : Str)) = false := by decide) (cz : (z == ("__classdict__" : Str)) = false := by decide)
    (t1 : starEach [.Name x p1, .Name y p2] X.env = (false, eval (.Name x p1) X.env) :: starEach [.Name y p2] X.env := by rfl) (t2 : starEach [.Name y p2] X.env = (false, eval (.Name y p2) X.env) :: starEach [] X.env := by rfl)
    (hm : behindInMarks .IsNot (.Constant .none jn p5) = false := by first | exact nomark _ | rfl | with_unfolding_all rfl)
    (h1 : attributeBase (.Name z p6) "append" X.env (eval (.Name z p6) X.env) = eval (.Name z p6) X.env := by rfl)
    (h2 : ((((backTo cp (starEach [.Constant (.str s) js p7] X.env)).all fun x => !x.fst) && (backToKw cp (keywordEach [] X.env)).all fun x => x.fst.isSome) && decide (([(.Constant (.str s) js p7 : Expr)].length + ([] : List Keyword).length + if ([] : List Keyword).isEmpty = true then 0 else 1) < 30)) = true := by rfl)
    (h3 : (ap.endLine == cp.line) = true := by rfl) (h4 : starEach [.Constant (.str s) js p7] X.env = (false, eval (.Constant (.str s) js p7) X.env) :: starEach [] X.env := by rfl) (h5 : ((backTo cp (starEach [] X.env)).any fun x => x.fst) = false := by rfl)
    (hs : swapsWith (.Call (.Attribute (.Name z p6) "append" ap) [.Constant (.str s) js p7] [] cp) none sp.line X.env = pure false := by rfl)
    (hf : X.fn z = true ∨ X.env.scope.names.lookup z = some .local := by first | exact .inl rfl | exact .inr rfl | assumption)
    (hfo : ∀ q, foldedSetIterable (.Tuple [.Name x p1, .Name y p2] kt tp) X.env q = pure q := by intro _; rfl) :
    DS X (.For (.Name z p3) (.Tuple [.Name x p1, .Name y p2] kt tp) [.If (.Compare (.Name z p4) [.IsNot] [.Constant .none jn p5] p8) [.Expr (.Call (.Attribute (.Name z p6) "append" ap) [.Constant (.str s) js p7] [] cp) sp] [] ip] [] pos) (mForLate i j k) := by
  have pz : ∀ q, PE X (.Name z q) (tVar k) := fun q => pe_var hk vk dz cz
  have body := pss_one (ps_if (pos := ip) (pt_cmpR (pos := p8) op_isND (pz p4) (pe_non (j := jn) (pos := p5)) hm)
    (pss_one (ps_expr (pos := sp) (pe_bm PySem.F.plainAttrs_list PySem.F.slot_list_append PySem.F.type_list_append mt_append (pz p6) (pa_cons (pe_str (x := s) (j := js) (pos := p7)) pa_nil h4) h1 h2 h3 h4 h5) hs)) pss_nil)
  refine ⟨_, ps_for hp hc (pi_tup (pe_tup (x1 := kt) (pos := tp) (pa_cons (pe_var hi vi dx cx) (pa_cons (pe_var hj vj dy cy) pa_nil t2) t1))) (pg_name hNd hk lk hf) body hfo, ?_⟩
  intro C F env σ H D P I h kn
  obtain ⟨l1, l2, fk, h⟩ := h
  obtain ⟨f1, v1, s1, w1⟩ := late_of I l1
  obtain ⟨f2, v2, s2, w2⟩ := late_of I l2
  refine ⟨v1, s1, v2, s2, ?_⟩
  refine ⟨by show 2 ≤ sizeLine; decide, fun T hT => ?_⟩
  have B := I.lay hT (.tup [v1, v2])
  have Iq := B.ok
  have hnT : ∀ {p : Addr} {o : HO}, H p = some o → p ≠ T := fun e q => by subst q; rw [hT] at e; cases e
  -- the slots are told nothing of
  have f2' : Free (env.set i .no) j := by
    unfold Free at f2 ⊢
    rw [List.getElem?_set_ne hij]; exact f2
  have fk' : Free ((env.set i .no).set j .no) k := by
    unfold Free at fk ⊢
    rw [List.getElem?_set_ne hjk, List.getElem?_set_ne hik]; exact fk
  have J0 := ((Iq.drop f1 rfl fun _ _ => rfl).drop f2' rfl fun _ _ => rfl)
  have own0 : ∀ n p, Owns ((env.set i .no).set j .no) σ n p → Owns env σ n p ∧ n ≠ i ∧ n ≠ j := fun n p ⟨b, d, e, s⟩ => by
    obtain ⟨q1, e1⟩ := no_get e (by simp)
    obtain ⟨q2, e2⟩ := no_get e1 (by simp)
    exact ⟨⟨b, d, e2, s⟩, Ne.symm q2, Ne.symm q1⟩
  have mk : ∀ (n : Nat) (v : V), σ[n]? = some (some v) → (n = i ∨ n = j) → (v = .non ∨ ∃ p vs, v = .ref p ∧ H p = some (.lst vs) ∧ vs.length ≤ 90000 ∧ F p = none ∧ C.G p = none ∧ Owns env σ n p) →
      v = .non ∨ ∃ p vs, v = .ref p ∧ (upd H T (.tup [v1, v2])) p = some (.lst vs) ∧ vs.length ≤ 90000 ∧ (upd F T (.tup [v1, v2])) p = none ∧ C.G p = none ∧ ∀ m, ¬ Owns ((env.set i .no).set j .no) σ m p := fun n v hs hn hv => by
    rcases hv with hv | ⟨p, vs, e, g1, g2, g3, g4, g5⟩
    · exact Or.inl hv
    · refine Or.inr ⟨p, vs, e, by rw [upd_ne (hnT g1)]; exact g1, g2, by rw [upd_ne (hnT g1)]; exact g3, g4, fun m q => ?_⟩
      obtain ⟨q1, q2, q3⟩ := own0 m p q
      have := I.sep m n p q1 g5
      rcases hn with rfl | rfl
      · exact q2 this
      · exact q3 this
  have lv1 := mk i v1 s1 (Or.inl rfl) w1
  have lv2 := mk j v2 s2 (Or.inr rfl) w2
  refine ⟨T, rfl, ⟨[v1, v2], st_of upd_same⟩, ?_⟩
  -- the turns
  let E2 := ((env.set i .no).set j .no).set k .no
  have ownk : ∀ (σ' : L2.St) n p, (∀ n, n ≠ k → σ'[n]? = σ[n]?) → Owns E2 σ' n p → Owns ((env.set i .no).set j .no) σ n p := fun σ' n p hs ⟨b, d, e, s⟩ => by
    obtain ⟨q1, e1⟩ := no_get e (by simp)
    exact ⟨b, d, e1, by rw [← hs n (Ne.symm q1)]; exact s⟩
  refine ⟨fun t m σ' H' => m = 2 - t ∧ t ≤ 2 ∧ σ'.length = σ.length ∧ (∀ n, n ≠ k → σ'[n]? = σ[n]?) ∧ Ok X.K C (upd F T (.tup [v1, v2])) E2 σ' H' ∧
    (∀ v, v = v1 ∨ v = v2 → v = .non ∨ ∃ p vs, v = .ref p ∧ H' p = some (.lst vs) ∧ vs.length ≤ 90000 + t ∧ (upd F T (.tup [v1, v2])) p = none ∧ C.G p = none ∧ ∀ m, ¬ Owns ((env.set i .no).set j .no) σ m p),
    ⟨2, rfl, by decide, rfl, fun _ _ => rfl, J0.drop fk' rfl fun _ _ => rfl, fun v hv => ?_⟩, ?_⟩
  · rcases hv with rfl | rfl
    · exact lv1
    · exact lv2
  rintro t m σ' H' ⟨rfl, ht, hl, hsame, J, late⟩
  have hqT : SqT X.K H' T [v1, v2] := ex_t J.sub (st_of upd_same)
  by_cases h2 : t < 2
  · have hx : ∃ v, [v1, v2][t]? = some v ∧ (v = v1 ∨ v = v2) := by
      match t, h2 with
      | 0, _ => exact ⟨v1, rfl, Or.inl rfl⟩
      | 1, _ => exact ⟨v2, rfl, Or.inr rfl⟩
    obtain ⟨v, hv, hor⟩ := hx
    refine Or.inr ⟨⟨[v1, v2], v, hqT, hv⟩, fun σ'' H'' => σ''.length = σ.length ∧ (∀ n, n ≠ k → σ''[n]? = σ[n]?) ∧ Ok X.K C (upd F T (.tup [v1, v2])) E2 σ'' H'' ∧
      (∀ v, v = v1 ∨ v = v2 → v = .non ∨ ∃ p vs, v = .ref p ∧ H'' p = some (.lst vs) ∧ vs.length ≤ 90000 + (t + 1) ∧ (upd F T (.tup [v1, v2])) p = none ∧ C.G p = none ∧ ∀ m, ¬ Owns ((env.set i .no).set j .no) σ m p),
      fun σ'' H'' q => ⟨2 - (t + 1), by omega, rfl, by omega, q⟩, fun xv H3 yl => ?_⟩
    obtain ⟨rfl, yl⟩ := yl
    have := yl _ hqT
    rw [hv] at this; cases this
    have hkl : k < σ'.length := by
      rcases Nat.lt_or_ge k σ'.length with z | z
      · exact z
      · exfalso
        unfold Free at fk
        rw [List.getElem?_eq_none (by rw [← I.len, ← hl]; exact z)] at fk
        exact fk
    have sk : (σ'.set k (some v))[k]? = some (some v) := List.getElem?_set_self hkl
    have hl' : (σ'.set k (some v)).length = σ.length := by rw [List.length_set]; exact hl
    have hsame' : ∀ n, n ≠ k → (σ'.set k (some v))[n]? = σ[n]? := fun n q => by rw [List.getElem?_set_ne (Ne.symm q)]; exact hsame n q
    have fE : Free E2 k := by
      have hkE : k < ((env.set i .no).set j .no).length := by rw [List.length_set, List.length_set, ← I.len, ← hl]; exact hkl
      show Free (((env.set i .no).set j .no).set k .no) k
      unfold Free
      rw [List.getElem?_set_self hkE]
      trivial
    have eE : E2.set k .no = E2 := by
      show (((env.set i .no).set j .no).set k .no).set k .no = _
      rw [List.set_set]
    have J' : Ok X.K C (upd F T (.tup [v1, v2])) E2 (σ'.set k (some v)) H3 := by
      have := J.drop (σ' := σ'.set k (some v)) fE (by rw [List.length_set]) fun n q => by rw [List.getElem?_set_ne (Ne.symm q)]
      rwa [eE] at this
    refine ⟨v, sk, Or.inl ⟨rfl, _, rfl, ?_⟩⟩
    rcases late v hor with rfl | ⟨p, vs, rfl, g1, g2, g3, g4, g5⟩
    · refine ⟨hl', hsame', J', fun u hu => ?_⟩
      rcases late u hu with z | ⟨p, vs, e, g1, g2, g3⟩
      · exact Or.inl z
      · exact Or.inr ⟨p, vs, e, g1, by omega, g3⟩
    · refine ⟨.ref p, sk, Or.inl ⟨rfl, _, sq_of g1⟩, p, vs, .str s, rfl, rfl, g1, sz_lt (by omega), ?_⟩
      refine ⟨hl', hsame', J'.poke g1 g3 g4 fun n q => g5 n (ownk _ n p hsame' q), fun u hu => ?_⟩
      rcases late u hu with z | ⟨p', vs', e, q1, q2, q3⟩
      · exact Or.inl z
      · by_cases q : p' = p
        · subst q
          rw [g1] at q1; cases q1
          exact Or.inr ⟨p', _, e, upd_same, by rw [List.length_append]; simp; omega, q3⟩
        · exact Or.inr ⟨p', vs', e, by rw [upd_ne q]; exact q1, by omega, q3⟩
  · have : t = 2 := by omega
    subst this
    exact Or.inl ⟨⟨[v1, v2], hqT, Nat.le_refl 2⟩, kn.nx _ E2 σ' H' J h⟩
@[simp] def mSetX (j : Nat) (a : DM) : DStm := fun P env => a env fun x e => putR j x e P.nx
theorem ds_setX {j : Nat} {x : Str} {e : Expr} {m : DM} {pos' : Pos} (hN : X.N.Nodup) (hi : X.N[j]? = some x) (hx : Loc X.env.scope x) (h : DE X e m) (hs : swapsWith e (some (.Name x pos')) pos.line X.env = pure false := by rfl) (hf : X.fn x = true ∨ X.env.scope.names.lookup x = some .local := by first | exact .inl rfl | exact .inr rfl | assumption) :
    DS X (.Assign [.Name x pos'] e pos) (mSetX j m) := by
  obtain ⟨t, p, ev⟩ := h
  refine ⟨_, ps_set hN hi hx p hs hf, ?_⟩
  intro C F env σ H D P I h k
  refine ev C F env σ H _ _ I h ?_
  intro l e1 F1 v H1 h1 A1 r1
  obtain ⟨e2, h2, I2, _⟩ := ok_put (H0 := H) (w := .non) A1.ok r1 h1
  exact k.nx F1 e2 _ H1 I2 h2
end
end DL

set_option Elab.async false
set_option linter.all false
set_option maxRecDepth 100000
set_option maxHeartbeats 4000000
set_option autoImplicit false
/-! DL18: how readings are walked: one obligation at a time; loops and comprehensions by invariants. -/
namespace DL
open PySem L2

theorem ex_i {α : Type} {a : Option α} {y : α} {K : α → Prop} (h : a = some y) (k : K y) : ∃ y, a = some y ∧ K y := ⟨y, h, k⟩
theorem an_i {a b : Prop} (h : a) (k : b) : a ∧ b := ⟨h, k⟩
theorem ite_i {c : Prop} [Decidable c] {a b : Prop} (h1 : c → a) (h2 : ¬ c → b) : ite c a b := by
  split
  · exact h1 ‹_›
  · exact h2 ‹_›
theorem ite_t {c : Prop} [Decidable c] {a b : Prop} (h : c) (h1 : a) : ite c a b := by rw [if_pos h]; exact h1
theorem ite_f {c : Prop} [Decidable c] {a b : Prop} (h : ¬ c) (h1 : b) : ite c a b := by rw [if_neg h]; exact h1

def cStep (g : DTg) (tt : DMB) (me : DM) (vs : List Nat) (env : List Slot) (x : D) (K : Option D → List Slot → Prop) : Prop :=
  g x (wipeE env vs) fun e => tt e fun b e2 => if b = true then me e2 fun y e3 => y.get e3 fun d => K (some d) (unwipe env e3 vs) else K none (unwipe env e2 vs)
theorem compW_inv {hold : Holds} {g : DTg} {tt : DMB} {me : DM} {vs : List Nat} {R : List D → List Slot → Prop} (I : Nat → List D → List Slot → Prop) : ∀ (items : List D) (i : Nat) (acc : List D) (env : List Slot),
    I i acc env → (∀ j acc env, I j acc env → holdE hold env ∧ acc.length < 100000) →
    (∀ j x acc env, items[j]? = some x → I (i + j) acc env → ∀ K : Option D → List Slot → Prop, (∀ o e, I (i + j + 1) (acc ++ o.toList) e → K o e) → cStep g tt me vs env x K) →
    (∀ acc env, I (i + items.length) acc env → R acc env) → compW hold g tt me vs items acc env R
  | [], i, acc, env, h, hh, st, fin => ⟨(hh _ _ _ h).1, fin _ _ h⟩
  | x :: xs, i, acc, env, h, hh, st, fin => by
    refine ⟨(hh _ _ _ h).1, ?_⟩
    have ih : ∀ acc env, I (i + 1) acc env → compW hold g tt me vs xs acc env R := fun acc env h' => by
      refine compW_inv I xs (i + 1) acc env h' hh (fun j x acc env e q => ?_) (fun acc env q => fin acc env (by rw [List.length_cons]; rwa [show i + (xs.length + 1) = i + 1 + xs.length by omega]))
      rw [show i + 1 + j = i + (j + 1) by omega] at q ⊢
      exact st (j + 1) x acc env (by simpa using e) q
    exact st 0 x acc env rfl h (fun o e => match o with
      | some d => acc.length < 100000 ∧ compW hold g tt me vs xs (acc ++ [d]) e R
      | none => compW hold g tt me vs xs acc e R) (fun o e q => by
        cases o with
        | some d => exact ⟨(hh _ _ _ h).2, ih _ _ q⟩
        | none => exact ih _ _ (by simpa using q))
theorem compW_pure {hold : Holds} {g : DTg} {tt : DMB} {me : DM} {vs : List Nat} {R : List D → List Slot → Prop} {env : List Slot} (f : D → Option D) (hh : holdE hold env) : ∀ (items acc : List D), acc.length + items.length ≤ 100000 →
    (∀ x ∈ items, ∀ K : Option D → List Slot → Prop, K (f x) env → cStep g tt me vs env x K) → R (acc ++ items.filterMap f) env → compW hold g tt me vs items acc env R
  | [], acc, hl, st, fin => ⟨hh, by simpa using fin⟩
  | x :: xs, acc, hl, st, fin => by
    rw [List.length_cons] at hl
    refine ⟨hh, st x (by simp) (fun o e => match o with
      | some d => acc.length < 100000 ∧ compW hold g tt me vs xs (acc ++ [d]) e R
      | none => compW hold g tt me vs xs acc e R) ?_⟩
    cases q : f x with
    | some d =>
      exact ⟨by omega, compW_pure f hh xs (acc ++ [d]) (by simp; omega) (fun y m => st y (List.mem_cons_of_mem _ m)) (by simpa [q, List.filterMap_cons] using fin)⟩
    | none => exact compW_pure f hh xs acc (by omega) (fun y m => st y (List.mem_cons_of_mem _ m)) (by simpa [q, List.filterMap_cons] using fin)
theorem forW_inv {hold : Holds} {g : DTg} {mb : DStm} {P : Post} (I : Nat → List Slot → Prop) : ∀ (items : List D) (i : Nat) (env : List Slot),
    I i env → (∀ j env, I j env → pinE hold env) →
    (∀ j x env, items[j]? = some x → I (i + j) env → ∀ N : List Slot → Prop, (∀ e, I (i + j + 1) e → N e) → g x env fun e => mb { P with nx := N, ct := N, bk := P.nx } e) →
    (∀ env, I (i + items.length) env → P.nx env) → forW hold g mb P items env
  | [], i, env, h, hh, st, fin => ⟨hh _ _ h, fin _ h⟩
  | x :: xs, i, env, h, hh, st, fin => by
    refine ⟨hh _ _ h, st 0 x env rfl h _ fun e q => ?_⟩
    refine forW_inv I xs (i + 1) e q hh (fun j x env ee qq => ?_) (fun env qq => fin env (by rw [List.length_cons]; rwa [show i + (xs.length + 1) = i + 1 + xs.length by omega]))
    rw [show i + 1 + j = i + (j + 1) by omega] at qq ⊢
    exact st (j + 1) x env (by simpa using ee) qq
theorem while_inv {t : DMB} {mb : DStm} {P : Post} (I : Nat → List Slot → Prop)
    (st : ∀ n env, I n env → ∀ N : List Slot → Prop, (∀ m e, m < n → I m e → N e) → t env fun b e => if b = true then mb { P with nx := N, ct := N, bk := P.nx } e else P.nx e) :
    ∀ (n : Nat) (env : List Slot), I n env → whN t mb (n + 1) P env := by
  have mono : True := trivial
  have key : ∀ (k n : Nat) (env : List Slot), n ≤ k → I n env → ∀ f, k < f → whN t mb f P env := by
    intro k
    induction k with
    | zero =>
      intro n env hn h f hf
      cases f with
      | zero => omega
      | succ f => exact st n env h _ fun m e hm q => by omega
    | succ k ih =>
      intro n env hn h f hf
      cases f with
      | zero => omega
      | succ f => exact st n env h _ fun m e hm q => ih m e (by omega) q f (by omega)
  exact fun n env h => key n n env (Nat.le_refl _) h (n + 1) (Nat.lt_succ_self _)
theorem while_i {t : DMB} {mb : DStm} {P : Post} {env : List Slot} (n : Nat) (h : whN t mb n P env) : mWhile t mb P env := mWhile_iff.mpr ⟨n, h⟩
theorem compI_range {hold : Holds} {g : DTg} {tt : DMB} {me : DM} {vs : List Nat} {R : List D → List Slot → Prop} {env : List Slot} {n : Nat} (f : Nat → Option D) (hh : holdE hold env) (hn : n ≤ 100000)
    (st : ∀ k, k < n → ∀ K : Option D → List Slot → Prop, K (f k) env → cStep g tt me vs env (.int (k : Int)) K) (fin : R ((List.range n).filterMap f) env) : compI hold g tt me vs (rangeD 0 n) [] env R := by
  rw [compI_iff]
  let f' : D → Option D := fun d => match d with
    | .int i => f i.toNat
    | _ => none
  have e : (rangeD 0 n).filterMap f' = (List.range n).filterMap f := by
    unfold rangeD
    rw [List.filterMap_map]
    refine congrFun (congrArg _ (funext fun k => ?_)) _
    show f (0 + (k : Int)).toNat = f k
    rw [Int.zero_add]; rfl
  refine compW_pure f' hh _ [] (by simp [rangeD]; exact hn) (fun x hx K hK => ?_) (by rw [e]; exact fin)
  obtain ⟨k, hk, rfl⟩ := List.mem_map.mp hx
  rw [Int.zero_add] at hK ⊢
  exact st k (List.mem_range.mp hk) K hK
theorem compI_list {hold : Holds} {g : DTg} {tt : DMB} {me : DM} {vs : List Nat} {R : List D → List Slot → Prop} {env : List Slot} {items : List D} (f : D → Option D) (hh : holdE hold env) (hn : items.length ≤ 100000)
    (st : ∀ x ∈ items, ∀ K : Option D → List Slot → Prop, K (f x) env → cStep g tt me vs env x K) (fin : R (items.filterMap f) env) : compI hold g tt me vs items [] env R := by
  rw [compI_iff]
  exact compW_pure f hh items [] (by simpa using hn) st (by simpa using fin)
theorem compI_inv {hold : Holds} {g : DTg} {tt : DMB} {me : DM} {vs : List Nat} {R : List D → List Slot → Prop} {env : List Slot} {items : List D} (I : Nat → List D → List Slot → Prop) (h : I 0 [] env) (hh : ∀ j acc env, I j acc env → holdE hold env ∧ acc.length < 100000)
    (st : ∀ j x acc env, items[j]? = some x → I j acc env → ∀ K : Option D → List Slot → Prop, (∀ o e, I (j + 1) (acc ++ o.toList) e → K o e) → cStep g tt me vs env x K)
    (fin : ∀ acc env, I items.length acc env → R acc env) : compI hold g tt me vs items [] env R := by
  rw [compI_iff]
  refine compW_inv I items 0 [] env h hh (fun j x acc env e q => ?_) (fun acc env q => fin acc env (by rwa [Nat.zero_add] at q))
  rw [Nat.zero_add] at q ⊢
  exact st j x acc env e q
theorem forI_inv {hold : Holds} {g : DTg} {mb : DStm} {P : Post} {items : List D} {env : List Slot} (I : Nat → List Slot → Prop) (h : I 0 env) (hh : ∀ j env, I j env → pinE hold env)
    (st : ∀ j x env, items[j]? = some x → I j env → ∀ N : List Slot → Prop, (∀ e, I (j + 1) e → N e) → g x env fun e => mb { P with nx := N, ct := N, bk := P.nx } e)
    (fin : ∀ env, I items.length env → P.nx env) : forI hold g mb P items env := by
  rw [forI_iff]
  refine forW_inv I items 0 env h hh (fun j x env e q => ?_) (fun env q => fin env (by rwa [Nat.zero_add] at q))
  rw [Nat.zero_add] at q ⊢
  exact st j x env e q
theorem nodup_range_map {α : Type} {f : Nat → α} {n : Nat} (h : ∀ i j, i < n → j < n → f i = f j → i = j) : ((List.range n).map f).Nodup := by
  unfold List.Nodup
  rw [List.pairwise_map]
  exact (List.nodup_range (n := n)).imp_of_mem fun ha hb hne e => hne (h _ _ (List.mem_range.mp ha) (List.mem_range.mp hb) e)
theorem compI_rangeE {hold : Holds} {g : DTg} {tt : DMB} {me : DM} {vs : List Nat} {R : List D → List Slot → Prop} {env : List Slot} {items : List D} {n : Nat} (f : Nat → Option D) (he : items = rangeD 0 n) (hh : holdE hold env) (hn : n ≤ 100000)
    (st : ∀ k, k < n → ∀ K : Option D → List Slot → Prop, K (f k) env → cStep g tt me vs env (.int (k : Int)) K) (fin : R ((List.range n).filterMap f) env) : compI hold g tt me vs items [] env R := by
  subst he
  exact compI_range f hh hn st fin
theorem forI_invE {hold : Holds} {g : DTg} {mb : DStm} {P : Post} {items items' : List D} {env : List Slot} (he : items = items') (I : Nat → List Slot → Prop) (h : I 0 env) (hh : ∀ j env, I j env → pinE hold env)
    (st : ∀ j x env, items'[j]? = some x → I j env → ∀ N : List Slot → Prop, (∀ e, I (j + 1) e → N e) → g x env fun e => mb { P with nx := N, ct := N, bk := P.nx } e)
    (fin : ∀ env, I items'.length env → P.nx env) : forI hold g mb P items env := by
  subst he
  exact forI_inv I h hh st fin
theorem rangeD_get {lo : Int} {n j : Nat} {x : D} (h : (rangeD lo n)[j]? = some x) : j < n ∧ x = .int (lo + (j : Int)) := by
  unfold rangeD at h
  rw [List.getElem?_map] at h
  obtain ⟨k, hk, rfl⟩ := Option.map_eq_some_iff.mp h
  have hj : j < n := by
    rcases Nat.lt_or_ge j n with z | z
    · exact z
    · rw [List.getElem?_eq_none (by simpa using z)] at hk; cases hk
  rw [List.getElem?_range hj] at hk
  cases hk
  exact ⟨hj, rfl⟩
theorem rangeD_len (lo : Int) (n : Nat) : (rangeD lo n).length = n := by simp [rangeD]
end DL

set_option Elab.async false
set_option linter.all false
set_option maxRecDepth 100000
set_option maxHeartbeats 4000000
set_option autoImplicit false
/-! X1: own exception classes whose __init__ is B.__init__(self, text); self.f = e, B an own class over ValueError. -/
namespace DL
open PySem PySem.Spec L2 Evl PyProof.Rows

def veB (K : PySem.W.Frag) (C : Addr) : Bool := match K.lookup C with
  | some ⟨.type "type", _, .cls cd, sl⟩ => (match cd.mro, sl.toList with
    | .ref C' :: bm, [_, _, _, _, some (.builtin n), _] => C' == C && (n == "ValueError.__new__" && (cd.hasDict && (!cd.hasDel && HandSPX.refsVE bm)))
    | _, _ => false)
  | _ => false
theorem veB_ok {K : PySem.W.Frag} {C : Addr} (h : veB K C = true) : ∃ nm q N bs bm sn sub ab col dd k0 k1 k2 k3 k5, K.lookup C = some (excClassObj nm q C N bs bm true sn sub ab col dd k0 k1 k2 k3 k5 "ValueError.__new__") ∧ HandSPX.refsVE bm = true := by
  unfold veB at h
  split at h
  · rename_i dd cd sl ho
    split at h
    · rename_i C' bm k0 k1 k2 k3 n k5 hm hs
      rw [Bool.and_eq_true, Bool.and_eq_true, Bool.and_eq_true, Bool.and_eq_true, beq_iff_eq, beq_iff_eq, Bool.not_eq_true'] at h
      obtain ⟨e1, e2, e3, e4, e5⟩ := h
      cases cd with
      | mk nm bs mro N q hd sn sub ab col del =>
        cases sl with
        | mk l =>
          have hm' : mro = .ref C' :: bm := hm
          have hs' : l = [k0, k1, k2, k3, some (.builtin n), k5] := hs
          have e3' : hd = true := e3
          have e4' : del = false := e4
          subst e1; subst e2; subst hm'; subst hs'; subst e3'; subst e4'
          exact ⟨nm, q, N, bs, bm, sn, sub, ab, col, dd, k0, k1, k2, k3, k5, ho, e5⟩
    · exact absurd h Bool.false_ne_true
  · exact absurd h Bool.false_ne_true
structure XBase (K : PySem.W.Frag) (Ba : Addr) : Prop where
  rd : PySem.W.readsIn K Ba (.type "type") = true
  ga : PySem.W.specialIn K (.ref Ba) "__getattribute__" = some (some (.builtin "type.__getattribute__"))
  at_ : PySem.W.findCls K (.ref Ba) (.type "type") "__init__" = some (.val (.builtin "ValueError.__init__"))
section
variable {X : Cx} {e : Expr} {es : List Expr} {ta : TA} {x : Str} {p1 p2 pos : Pos} {Ba : Addr}
theorem pe_xinit (hb : XBase X.K Ba) (hg : Gl X x) (hm : X.mg x = some (.ref Ba)) (ha : PA X (e :: es) ta) (hdb : (x == ("__debug__" : Str)) = false := by decide) {pl : Sem Bool}
    (hc : eval (.Call (.Attribute (.Name x p1) "__init__" p2) (e :: es) [] pos) X.env = (do
      let ov ← eval (.Name x p1) X.env
      standAt p2.atName
      let (f, first) ← holding [ov] (getMethod ov "__init__" pl)
      callWith pos f first (backTo pos (starEach (e :: es) X.env)) (backToKw pos (keywordEach [] X.env))) := by rfl)
    (he : starEach (e :: es) X.env = (false, eval e X.env) :: starEach es X.env := by rfl) (hpl : (backTo pos (starEach es X.env)).any (·.1) = false := by rfl) :
    PE X (.Call (.Attribute (.Name x p1) "__init__" p2) (e :: es) [] pos) (tVeI X.K ta) := by
  constructor
  intro pins s σ H Q I h
  apply PySem.W.methodCall_KW (ld_glob I hg hm _ hdb) hc
  apply PySem.W.method_cls I.kIn hb.ga
  apply PySem.W.cls_value I.kIn hb.rd hb.at_ (by decide +kernel)
  refine PyProof.Rows.callWith_method1 (thn (ha.run pos pins _ σ H _ (I.tok _) h) ?_) he hpl
  rintro us s1 ⟨vs, H1, I1, r1, a, C, ws, ev, hl, T, ea, q⟩
  subst ev
  obtain ⟨u0, ur, rfl, ra, rw'⟩ : ∃ u0 ur, us = u0 :: ur ∧ RelV (.ref a) u0 ∧ Vals ws ur := by
    cases r1 with
    | cons ra rw' => exact ⟨_, _, rfl, ra, rw'⟩
  have eu : u0 = Value.ref a := ra
  subst eu
  have hn : ur.length ≤ sizeLine := by
    have := Paired.length rw'
    have z := sizeLine_eq
    omega
  exact oinit_ok T I1 ea hn fun s' J => ⟨.non, H1, J, rfl, q⟩
end

def spXi (K : PySem.W.Frag) (C : Addr) (f : Str) : Sp := fun vs H Q _ => ∃ (a : Addr) (v : V), vs = [.ref a, v] ∧ OexC K C ∧ PySem.W.findIn K (.ref C) f = some none ∧ H a = some (exo a C none) ∧
  ∀ d, H d = none → d ≠ a → Q .non (upd (upd H d (exd d [(f, v)])) a (exo a C (some d)))
section
variable {P : Program} {w : World} {K : PySem.W.Frag} {mg : Str → Option Value} {base : Heap}
theorem xinit_fn {qual p f m : Str} {st : Stmt} {fI C : Addr} {fd : FuncData} (F : Fun K "__init__" qual st fI fd) (S : FnScope ["self", p] ["self", p] (defScope st))
    (hbody : ∀ (cdv : Value) (A : Around) (outer : List PySem.Env) (s : Shared) (H : Hp) (E : XK),
      PSs (cxOf (L2.CX P w) P w K mg base ["self", p] qual (defScope st) fI cdv A outer s H E) (defBody st) (tSeq (tDrop (tVeI K (tCons (tVar 0) (tCons (tC (.str m)) tNil)))) (tOst K f (tVar 0) (tVar 1)))) :
    FnOk P w K mg base (L2.CX P w) 1 fI fd ["self", p] (spXi K C f) := by
  refine Fun.okX F S ?_ ?_
  · rintro vs H Q E ⟨a, v, rfl, _⟩; rfl
  · rintro cdv A outer s H vs Q E hr ⟨a, v, rfl, T, hno, ea, h⟩
    refine ⟨_, hbody cdv A outer s H E, ?_⟩
    refine ⟨.ref a, rfl, ?_⟩
    refine ⟨a, C, [.str m], rfl, Nat.le_of_ble_eq_true rfl, T, ea, ?_⟩
    refine ⟨v, rfl, .ref a, rfl, a, C, rfl, T, hno, Or.inl ⟨ea, fun d hd ne => ?_⟩⟩
    exact h d hd ne
end
def tMk1 (C : Addr) (f : Str) (t : TE) : L2.St → Hp → XK → Prop := fun σ H Q => t σ H fun v H1 => ∀ dx, H1 dx = none → Q (.ref C) (some dx) (upd H1 dx (.xd [(f, v)]))
structure XCl (P : Program) (w : World) (K : PySem.W.Frag) (mg : Str → Option Value) (base : Heap) (x f : Str) (C : Addr) : Prop where
  hm : mg x = some (.ref C)
  xf : XfC K C
  no : PySem.W.findIn K (.ref C) f = some none
  made : ∀ (X : Cx) (e : Expr) (m : DM) (p pos : Pos), X.prog = P → X.w = w → X.K = K → X.mg = mg → X.base = base → Room 2 X.A → Gl X x → PE X e (TD K m) → starEach (e :: []) X.env = (false, eval e X.env) :: starEach [] X.env → PMk X (.Call (.Name x p) [e] [] pos) (tMk1 C f (TD K m))
theorem exo_out {H : Hp} {a dx C : Addr} {f : Str} {v : V} (ha : H a = none) (hd : H dx = none) (ne : dx ≠ a) :
    upd (L2.del (upd (upd (upd H a (exo a C none)) dx (exd dx [(f, v)])) a (exo a C (some dx))) a) dx (.xd [(f, v)]) = upd H dx (.xd [(f, v)]) := by
  funext b
  by_cases h1 : b = dx
  · subst h1; rw [upd_same, upd_same]
  · rw [upd_ne h1, upd_ne h1]
    by_cases h2 : b = a
    · subst h2; rw [del_same, ha]
    · rw [del_ne h2, upd_ne h2, upd_ne h1, upd_ne h2]
theorem td_mono {K : PySem.W.Frag} {m : DM} {σ : L2.St} {H : Hp} {Q Q' : VK} (h : ∀ v H1, Q v H1 → Q' v H1) (q : TD K m σ H Q) : TD K m σ H Q' := by
  obtain ⟨C, F, env, R, h1, h2, h3⟩ := q
  exact ⟨C, F, env, R, h1, h2, fun l env' F' v H' a b c => h v H' (h3 l env' F' v H' a b c)⟩
theorem xcl_VE {P : Program} {w : World} {K : PySem.W.Frag} {mg : Str → Option Value} {base : Heap} {x f p : Str} {C fI : Addr} {fd : FuncData} (hm : mg x = some (.ref C)) (T : OexC K C) (xf : XfC K C) (no : PySem.W.findIn K (.ref C) f = some none) (iC : PySem.W.findIn K (.ref C) "__init__" = some (some (.ref fI)))
    (tI : PySem.W.typeIn K (.ref fI) = some (.type "function")) (F1 : FnOk P w K mg base (L2.CX P w) 1 fI fd ["self", p] (spXi K C f)) (hb : Binds K fd ["self", p] []) (hdb : (x == ("__debug__" : Str)) = false) : XCl P w K mg base x f C := by
  refine ⟨hm, xf, no, ?_⟩
  rintro X e m px pos rfl rfl rfl rfl rfl hr hg pe he pins s σ H Q I h
  refine pmk_oex T iC tI F1 hr hb .nil passL hg hm (pa_cons pe pa_nil he) hdb he rfl pins s σ H Q I ?_
  refine td_mono (fun v H1 q => ?_) h
  refine ⟨by show 1 ≤ 1000; decide, fun a ha => ⟨a, v, rfl, T, no, upd_same, fun dx hd ne => ?_⟩⟩
  have hd1 : H1 dx = none := by rw [upd_ne ne] at hd; exact hd
  refine ⟨rfl, dx, [(f, v)], upd_same, ?_, hd1, ?_⟩
  · rw [upd_ne ne, upd_same]
  · rw [exo_out ha hd1 ne]
    exact q dx hd1
end DL

set_option Elab.async false
set_option linter.all false
set_option maxRecDepth 100000
set_option maxHeartbeats 4000000
set_option autoImplicit false
/-! X2: defs that may raise, over data. An exception is told by the number of its class (cm: the classes' values) and its fields. -/
namespace DL
open PySem PySem.Spec L2 Evl PyProof.Rows

abbrev XP := Nat → List (Str × D) → List Slot → Prop
abbrev DSpecX := List Slot → (RV → List Slot → Prop) → XP → Prop
@[simp] def noX (sd : DSpecX) : DSpec := fun args R => sd args R fun _ _ _ => False
structure XOk (K : PySem.W.Frag) (cm : Nat → Value) (F H : Hp) (x : Nat) (fs : List (Str × D)) (cls : Value) (dd : Addr) : Prop where
  cls : cls = cm x
  at_ : ∃ kvs, H dd = some (.xd kvs) ∧ kvs.map (·.1) = fs.map (·.1) ∧ RepL K F (kvs.map (·.2)) (fs.map (·.2))
  new : F dd = none
def spX (K : PySem.W.Frag) (cm : Nat → Value) (sd : DSpecX) : Sp := fun vs H Q E => ∃ F args R RX, ArgsOk K F args vs H ∧ (∀ (i : Nat) (d : D), args[i]? ≠ some (.own false d)) ∧ sd args R RX ∧
  (∀ r args' F' v H', R r args' → Done K F args vs H r args' F' v H' → Q v H') ∧
  ∀ x fs args' F' H' cls dd, RX x fs args' → Done K F args vs H (.vl .non) args' F' .non H' → XOk K cm F' H' x fs cls dd → H dd = none → E cls (some dd) H'
structure ConnX (K : PySem.W.Frag) (cm : Nat → Value) (W : WX) (C : Ct) (PX : XP) : Prop where
  go : ∀ F env σ H x fs cls dd, Ok K C F env σ H → XOk K cm F H x fs cls dd → C.G dd = none → (∀ i, ¬ Owns env σ i dd) → PX x fs env → W cls (some dd) σ H
def EvSx (K : PySem.W.Frag) (cm : Nat → Value) (W : WX) (m : DStm) (t : TS) : Prop := ∀ C F env σ H D P, Ok K C F env σ H → m P env → Conn K C D P → ConnX K cm W C P.ex → t D σ H
def DSx (X : Cx) (cm : Nat → Value) (st : Stmt) (m : DStm) : Prop := ∀ W, Takes X W → ∃ t, PS X st t ∧ EvSx X.K cm W m t
def DBx (X : Cx) (cm : Nat → Value) (sts : List Stmt) (m : DStm) : Prop := ∀ W, Takes X W → ∃ t, PSs X sts t ∧ EvSx X.K cm W m t
def EvDx (K : PySem.W.Frag) (cm : Nat → Value) (W : WX) (m : XP → DM) (t : TE) : Prop := ∀ C F env σ H (PX : XP) R Q, Ok K C F env σ H → m PX env R → ConnX K cm W C PX →
  (∀ l env' F' v H', R l env' → Aft K C F env σ H F' env' H' → RVOk K C F' env' σ H H' v l → Q v H') → t σ H Q
def DEx (X : Cx) (cm : Nat → Value) (e : Expr) (m : XP → DM) : Prop := ∀ W, Takes X W → ∃ t, PE X e t ∧ EvDx X.K cm W m t
section
variable {X : Cx} {cm : Nat → Value} {pos : Pos}
theorem dsx_of {st : Stmt} {m : DStm} (h : DS X st m) : DSx X cm st m := fun W _ => by
  obtain ⟨t, p, e⟩ := h
  exact ⟨t, p, fun C F env σ H D P I hm k _ => e C F env σ H D P I hm k⟩
theorem dbx_of {st : List Stmt} {m : DStm} (h : DB X st m) : DBx X cm st m := fun W _ => by
  obtain ⟨t, p, e⟩ := h
  exact ⟨t, p, fun C F env σ H D P I hm k _ => e C F env σ H D P I hm k⟩
theorem dex_of {e : Expr} {m : DM} (h : DE X e m) : DEx X cm e (fun _ => m) := fun W _ => by
  obtain ⟨t, p, ev⟩ := h
  exact ⟨t, p, fun C F env σ H PX R Q I hm _ k => ev C F env σ H R Q I hm k⟩
theorem dbx_nil : DBx X cm [] mSkip := dbx_of db_nil
theorem dbx_cons {st : Stmt} {rest : List Stmt} {a b : DStm} (ha : DSx X cm st a) (hb : DBx X cm rest b) : DBx X cm (st :: rest) (mSeq a b) := fun W tk => by
  obtain ⟨t, p, ea⟩ := ha W tk
  obtain ⟨u, q, eb⟩ := hb W tk
  refine ⟨_, pss_cons p q, ?_⟩
  intro C F env σ H D P I h k kx
  exact ea C F env σ H { D with nx := u D } { P with nx := b P } I h ⟨fun F env σ H I h => eb C F env σ H D P I h k kx, k.bk, k.ct, k.rt, k.r2⟩ kx
theorem dbx_one {st : Stmt} {a : DStm} (ha : DSx X cm st a) : DBx X cm [st] a := fun W tk => by
  obtain ⟨t, p, ea⟩ := ha W tk
  exact ⟨_, pss_one p, ea⟩
theorem dsx_frz (i : Nat) {st : Stmt} {a : DStm} (ha : DSx X cm st a) : DSx X cm st (mFrz i a) := fun W tk => by
  obtain ⟨t, p, ea⟩ := ha W tk
  refine ⟨t, p, ?_⟩
  intro C F env σ H D P I h k kx
  obtain ⟨F', _, I'⟩ := I.freeze i
  exact ea C F' _ σ H D P I' h k kx
theorem dsx_if {c : Expr} {a b : List Stmt} {t : DMB} {m1 m2 : DStm} (hc : DT X c t) (ha : DBx X cm a m1) (hb : DBx X cm b m2) : DSx X cm (.If c a b pos) (mIfS t m1 m2) := fun W tk => by
  obtain ⟨tc, pc, ec⟩ := hc
  obtain ⟨ta, pa, ea⟩ := ha W tk
  obtain ⟨tb, pb, eb⟩ := hb W tk
  refine ⟨_, ps_if pc pa pb, ?_⟩
  intro C F env σ H D P I h k kx
  refine ec C F env σ H _ _ I h ?_
  intro x e1 F1 H1 h1 A1
  cases x with
  | true =>
    have h1' : m1 P e1 := by simpa using h1
    show (if true = true then ta D σ H1 else tb D σ H1)
    rw [if_pos rfl]
    exact ea C F1 e1 σ H1 D P A1.ok h1' k kx
  | false =>
    have h1' : m2 P e1 := by simpa using h1
    show (if false = true then ta D σ H1 else tb D σ H1)
    rw [if_neg Bool.false_ne_true]
    exact eb C F1 e1 σ H1 D P A1.ok h1' k kx
@[simp] def wX (k : DM → DStm) (m : XP → DM) : DStm := fun P env => k (m P.ex) P env
theorem dsx_expr {e : Expr} {m : XP → DM} (h : DEx X cm e m) (hs : swapsWith e none pos.line X.env = pure false := by rfl) : DSx X cm (.Expr e pos) (wX mDrop m) := fun W tk => by
  obtain ⟨t, p, ev⟩ := h W tk
  refine ⟨_, ps_expr p hs, ?_⟩
  intro C F env σ H D P I h k kx
  exact ev C F env σ H P.ex _ _ I h kx fun l e1 F1 v H1 h1 A1 r1 => k.nx F1 e1 σ H1 A1.ok h1
theorem dsx_set {j : Nat} {x : Str} {e : Expr} {m : XP → DM} {pos' : Pos} (hN : X.N.Nodup) (hi : X.N[j]? = some x) (hx : Loc X.env.scope x) (h : DEx X cm e m) (hs : swapsWith e (some (.Name x pos')) pos.line X.env = pure false := by rfl) (hf : X.fn x = true ∨ X.env.scope.names.lookup x = some .local := by first | exact .inl rfl | exact .inr rfl | assumption) :
    DSx X cm (.Assign [.Name x pos'] e pos) (wX (mSet j) m) := fun W tk => by
  obtain ⟨t, p, ev⟩ := h W tk
  refine ⟨_, ps_set hN hi hx p hs hf, ?_⟩
  intro C F env σ H D P I h k kx
  refine ev C F env σ H P.ex _ _ I h kx ?_
  intro l e1 F1 v H1 h1 A1 r1
  obtain ⟨F2, d, h2, A2, ex, rp⟩ := A1.keepIt r1 h1
  exact k.nx F2 _ _ H1 (A2.ok.setVal h2.1 rp) h2.2
theorem dsx_setO {j : Nat} {x : Str} {e : Expr} {m : XP → DM} {pos' : Pos} (hN : X.N.Nodup) (hi : X.N[j]? = some x) (hx : Loc X.env.scope x) (h : DEx X cm e m) (hs : swapsWith e (some (.Name x pos')) pos.line X.env = pure false := by rfl) (hf : X.fn x = true ∨ X.env.scope.names.lookup x = some .local := by first | exact .inl rfl | exact .inr rfl | assumption) :
    DSx X cm (.Assign [.Name x pos'] e pos) (wX (mSetO j) m) := fun W tk => by
  obtain ⟨t, p, ev⟩ := h W tk
  refine ⟨_, ps_set hN hi hx p hs hf, ?_⟩
  intro C F env σ H D P I h k kx
  refine ev C F env σ H P.ex _ _ I h kx ?_
  intro l e1 F1 v H1 h1 A1 r1
  cases l with
  | tm d =>
    obtain ⟨p, o, rfl, g1, g2, g3, g4, g5, g6⟩ := r1
    exact k.nx F1 _ _ H1 (A1.ok.setOwn h1.1 g1 g2 g3 g4 g5) h1.2
  | _ => exact h1.elim
theorem dsx_ret {e : Expr} {m : XP → DM} (h : DEx X cm e m) : DSx X cm (.Return (some e) pos) (wX mRet m) := fun W tk => by
  obtain ⟨t, p, ev⟩ := h W tk
  refine ⟨_, ps_ret p, ?_⟩
  intro C F env σ H D P I h k kx
  refine ev C F env σ H P.ex _ _ I h kx ?_
  intro l e1 F1 v H1 h1 A1 r1
  cases l with
  | vl d => exact k.rt F1 e1 σ H1 v (.vl d) A1.ok r1 h1
  | tm d =>
    obtain ⟨p, o, g0, g1, g2, g3, g4, g5, g6⟩ := r1
    exact k.rt F1 e1 σ H1 v (.tm d) A1.ok ⟨p, o, g0, g1, g2, g3, g4⟩ h1
  | sl i =>
    have h1' : (match e1[i]? with | some (.val d) => P.rt (.vl d) e1 | some (.own false d) => P.rt (.tm d) e1 | _ => False) := h1
    have r1' : σ[i]? = some (some v) := r1
    split at h1'
    · rename_i d e
      obtain ⟨w, q1, q2⟩ := A1.ok.vals i d e
      rw [r1'] at q1; cases q1
      exact k.rt F1 e1 σ H1 v (.vl d) A1.ok q2 h1'
    · rename_i d e
      obtain ⟨q, o, q1, q2, q3, q4, q5, _⟩ := A1.ok.owns i false d e
      rw [r1'] at q1; cases q1
      exact k.rt F1 e1 σ H1 _ (.tm d) A1.ok ⟨q, o, rfl, q2, q3, q4, q5 rfl⟩ h1'
    · exact h1'.elim
end

/-! ### a call that may raise -/
section
variable {X : Cx} {k : Nat} {f : Addr} {fd : FuncData} {ps ks : List Str} {x : Str} {p pos : Pos} {e : Expr} {es : List Expr} {t tk : TA} {kws : List Keyword} {CX : CXT} {sp : Sp}
theorem run_gS {E : L2.St → XK} {pins : List (Addr × Obj)} {σ : L2.St} {H : Hp} {s : Shared} {Q : VK} {us : List Value} {vs : List V} {args : Args} (F : FnG X.prog X.w X.K X.mg X.base CX k f fd ps sp) (hgd : X.A.guards = some []) (hr : Room k X.A)
    (hb : BindsTo s fd args (ps.zip us)) (hx : PassesAt CX X σ (E σ)) (I : Inv X pins σ H s) (r : Vals vs us) (h : sp vs H Q (E σ)) : wpAny (model X.prog X.w) X.A (call (.ref f) args.pos args.kw) (EP X pins σ Q) X.xe s := by
  apply wpAny_call
  apply codeAny_mono (F.run X.A X.stack s H args us vs Q (E σ) hgd hr I.env0 hb r h)
  intro r s' hq
  match r, hq with
  | .error er, hq => exact hx pins H s er s' I hq
  | .ok (.ret u), hq => exact I.after hq
  | .ok .next, hq => exact False.elim hq
  | .ok .brk, hq => exact False.elim hq
  | .ok .cont, hq => exact False.elim hq
theorem pe_callGS {E : L2.St → XK} (F : FnG X.prog X.w X.K X.mg X.base CX k f fd ps sp) (hgd : X.A.guards = some []) (hr : Room k X.A) (hg : Gl X x) (hm : X.mg x = some (.ref f)) (hk : PySem.W.keepIn X.K (.ref f) = true) (hb : Binds X.K fd ps []) (hx : ∀ σ, PassesAt CX X σ (E σ))
    (ha : PA X (e :: es) t) (hdb : (x == ("__debug__" : Str)) = false := by decide) (he : starEach (e :: es) X.env = (false, eval e X.env) :: starEach es X.env := by rfl) (hpl : (backTo pos (starEach es X.env)).any (·.1) = false := by rfl) :
    PE X (.Call (.Name x p) (e :: es) [] pos) (tCallS sp E t) := by
  constructor
  intro pins s σ H Q I h
  apply wpAny_Call_Name_kw
  apply ld_glob I hg hm _ hdb
  apply PySem.W.callWith_K (h₀ := X.base) I.ok.mod.kin hk _ he hpl
  apply thn (ha.run pos pins s σ H _ I h)
  rintro us s1 ⟨vs, H1, I1, r, q⟩
  refine ⟨I1.kIn, ?_⟩
  have hl : us.length = ps.length := r.length.symm.trans (F.len _ _ _ _ q)
  have b := hb s1 us I1.kIn (by simpa using hl)
  rw [List.append_nil] at b
  exact run_gS (args := ⟨us, []⟩) F hgd hr b (hx σ) I1 r q
def tCallKS (sp : Sp) (gV : List V → List V → List V) (E : L2.St → XK) (t tk : TA) : TE := fun σ H Q => t σ H fun vs H1 => tk σ H1 fun zs H2 => sp (gV vs zs) H2 Q (E σ)
theorem pe_callGKS {E : L2.St → XK} {g : List Value → List Value → List Value} {gV : List V → List V → List V} (F : FnG X.prog X.w X.K X.mg X.base CX k f fd ps sp) (hgd : X.A.guards = some []) (hr : Room k X.A) (hg : Gl X x) (hm : X.mg x = some (.ref f)) (hk : PySem.W.keepIn X.K (.ref f) = true) (hb : KBinds X.K fd ps ks g gV) (hx : ∀ σ, PassesAt CX X σ (E σ))
    (ha : PA X (e :: es) t) (hkw : PK X kws tk) (hall : (backToKw pos (keywordEach kws X.env)).all (·.1.isSome) = true := by rfl) (hks : (backToKw pos (keywordEach kws X.env)).filterMap (·.1) = ks := by rfl)
    (hdb : (x == ("__debug__" : Str)) = false := by decide) (he : starEach (e :: es) X.env = (false, eval e X.env) :: starEach es X.env := by rfl)
    (hpl : ((backTo pos (starEach (e :: es) X.env)).any (·.1) || (backToKw pos (keywordEach kws X.env)).any (·.1.isNone)) = false := by rfl) : PE X (.Call (.Name x p) (e :: es) kws pos) (tCallKS sp gV E t tk) := by
  constructor
  intro pins s σ H Q I h
  apply wpAny_Call_Name_kw
  apply ld_glob I hg hm _ hdb
  apply PySem.W.callWith_KW (h₀ := X.base) I.ok.mod.kin hk hall _ hpl he
  apply thn (ha.run pos pins s σ H _ I h)
  rintro us s1 ⟨vs, H1, I1, r, q⟩
  apply thn (hkw.run pos pins s1 σ H1 _ I1 q)
  rintro ws s2 ⟨zs, H2, I2, rz, q2⟩
  refine ⟨I2.kIn, ?_⟩
  rw [hks]
  have r2 := hb.rel r rz
  have hl : (g us ws).length = ps.length := r2.length.symm.trans (F.len _ _ _ _ q2)
  exact run_gS (args := ⟨us, ks.zip ws⟩) F hgd hr (hb.to s2 us ws I2.kIn hl) (hx σ) I2 r2 q2
theorem pe_callGKS0 {E : L2.St → XK} {g : List Value → List Value → List Value} {gV : List V → List V → List V} (F : FnG X.prog X.w X.K X.mg X.base CX k f fd ps sp) (hgd : X.A.guards = some []) (hr : Room k X.A) (hg : Gl X x) (hm : X.mg x = some (.ref f)) (hk : PySem.W.keepIn X.K (.ref f) = true) (hb : KBinds X.K fd ps ks g gV) (hx : ∀ σ, PassesAt CX X σ (E σ))
    (hkw : PK X kws tk) (hall : (backToKw pos (keywordEach kws X.env)).all (·.1.isSome) = true := by rfl) (hks : (backToKw pos (keywordEach kws X.env)).filterMap (·.1) = ks := by rfl)
    (hdb : (x == ("__debug__" : Str)) = false := by decide) (hpl : ((backTo pos (starEach [] X.env)).any (·.1) || (backToKw pos (keywordEach kws X.env)).any (·.1.isNone)) = false := by rfl) : PE X (.Call (.Name x p) [] kws pos) (tCallKS sp gV E tNil tk) := by
  constructor
  intro pins s σ H Q I h
  apply wpAny_Call_Name_kw
  apply ld_glob I hg hm _ hdb
  apply PySem.W.callWith_KW0 (h₀ := X.base) I.ok.mod.kin hk hall _ hpl
  apply thn (hkw.run pos pins s σ H _ I h)
  rintro ws s2 ⟨zs, H2, I2, rz, q2⟩
  refine ⟨I2.kIn, ?_⟩
  rw [hks]
  have r2 := hb.rel (vs := []) (us := []) .nil rz
  have hl : (g [] ws).length = ps.length := r2.length.symm.trans (F.len _ _ _ _ q2)
  exact run_gS (args := ⟨[], ks.zip ws⟩) F hgd hr (hb.to s2 [] ws I2.kIn hl) (hx σ) I2 r2 q2
end
section
variable {K : PySem.W.Frag} {C : Ct} {F0 F H0 H : Hp} {env0 env : List Slot} {σ : L2.St} {cm : Nat → Value}
theorem call_coreX {sd : DSpecX} {vs : List V} {as : List CA} {R : RV → List Slot → Prop} {PX : XP} {Q : VK} {W : WX} (A : Aft K C F0 env0 σ H0 F env H) (ca : CAs K F σ vs as) (ap : apart env as = true)
    (h : sd (as.map (resolve env)) R fun x fs ss => PX x fs (putB as ss env)) (kx : ConnX K cm W C PX)
    (k : ∀ r ss F' v H', R r ss → Aft K C F0 env0 σ H0 F' (putB as ss env) H' → RVOk K C F' (putB as ss env) σ H0 H' v r → Q v H') : spX K cm sd vs H Q (WE W σ) := by
  obtain ⟨h1, h2, h3⟩ := call_parts A.ok ca ap
  refine ⟨F, as.map (resolve env), R, _, h1, h2, h, ?_, ?_⟩
  · intro r ss F' v H' hR dn
    obtain ⟨B, no⟩ := h3 r ss F' v H' dn
    refine k r ss F' v H' hR (A.trans B) ?_
    have rs := dn.res
    cases r with
    | vl d => exact rs
    | tm d =>
      obtain ⟨p, o, rfl, g1, g2, g3, g4⟩ := rs
      exact ⟨p, o, rfl, g1, g2, g3, A.ok.gnone g4, no p g4, A.back g4⟩
    | sl i => exact rs.elim
  · intro x fs ss F' H' cls dd hR dn xo hn
    obtain ⟨B, no⟩ := h3 _ ss F' _ H' dn
    exact kx.go F' _ σ H' x fs cls dd B.ok xo (A.ok.gnone hn) (no dd hn) hR
end
@[simp] def mCallX (sd : DSpecX) (a : DMC) : XP → DM := fun PX env R => a env fun as e => apart e as = true ∧ sd (as.map (resolve e)) (fun r ss => R r (putB as ss e)) fun x fs ss => PX x fs (putB as ss e)
@[simp] def mCallKX (sd : DSpecX) (gC : List CA → List CA → List CA) (a b : DMC) : XP → DM := fun PX env R => a env fun as e => b e fun bs e2 => apart e2 (gC as bs) = true ∧ sd ((gC as bs).map (resolve e2)) (fun r ss => R r (putB (gC as bs) ss e2)) fun x fs ss => PX x fs (putB (gC as bs) ss e2)
structure CalX (P : Program) (w : World) (K : PySem.W.Frag) (mg : Str → Option Value) (cm : Nat → Value) (base : Heap) (x : Str) (st : Stmt) (k : Nat) (ps : List Str) (sd : DSpecX) : Prop where
  ex : ∃ f fd, Fun K x x st f fd ∧ FnG P w K mg base (L2.CX P w) k f fd ps (spX K cm sd) ∧ mg x = some (.ref f) ∧ Binds K fd ps []
theorem CalX.cal {P : Program} {w : World} {K : PySem.W.Frag} {mg : Str → Option Value} {cm : Nat → Value} {base : Heap} {x : Str} {st : Stmt} {k : Nat} {ps : List Str} {sd : DSpecX} (c : CalX P w K mg cm base x st k ps sd) : Cal P w K mg base x st k ps (noX sd) := by
  obtain ⟨f, fd, h1, h2, h3, h4⟩ := c.ex
  have up : ∀ vs H Q E, spD K (noX sd) vs H Q E → spX K cm sd vs H Q fun _ _ _ => False := by
    rintro vs H Q E ⟨F, args, R, a1, a2, a3, a4⟩
    exact ⟨F, args, R, _, a1, a2, a3, a4, fun _ _ _ _ _ _ _ z => z.elim⟩
  refine ⟨f, fd, h1, ⟨fun vs H Q E q => h2.len vs H Q _ (up vs H Q E q), fun A outer s H args us vs Q E hg hr he hb hv hs => ?_⟩, h3, h4⟩
  apply codeAny_mono (h2.run A outer s H args us vs Q _ hg hr he hb hv (up vs H Q E hs))
  intro r s' hq
  match r, hq with
  | .error er, hq =>
    obtain ⟨_, _, _, _, _, _, _, _, _, _, _, _, z⟩ := hq
    exact z.elim
  | .ok (.ret u), hq => exact hq
  | .ok .next, hq => exact False.elim hq
  | .ok .brk, hq => exact False.elim hq
  | .ok .cont, hq => exact False.elim hq
section
variable {X : Cx} {cm : Nat → Value} {k : Nat} {st : Stmt} {ps ks : List Str} {sd : DSpecX} {x : Str} {p pos : Pos} {e : Expr} {es : List Expr} {kws : List Keyword}
theorem dex_call (c : CalX X.prog X.w X.K X.mg cm X.base x st k ps sd) (hgd : X.A.guards = some []) (hr : Room k X.A) (hg : Gl X x) {mc : DMC} (h : DC X (e :: es) mc)
    (hdb : (x == ("__debug__" : Str)) = false := by decide) (he : starEach (e :: es) X.env = (false, eval e X.env) :: starEach es X.env := by rfl) (hpl : (backTo pos (starEach es X.env)).any (·.1) = false := by rfl) :
    DEx X cm (.Call (.Name x p) (e :: es) [] pos) (mCallX sd mc) := fun W tk => by
  obtain ⟨f, fd, F, G, hm, hb⟩ := c.ex
  obtain ⟨t, pa, ev⟩ := h
  refine ⟨_, pe_callGS G hgd hr hg hm F.kp hb (passAt tk) pa hdb he hpl, ?_⟩
  intro C F env σ H PX R Q I h kx k
  refine ev C F env σ H _ _ I h ?_
  intro as e1 F1 vs H1 h1 A1 r1
  exact call_coreX A1 r1 h1.1 h1.2 kx fun r ss F' v H' hR A2 r2 => k r _ F' v H' hR A2 r2
theorem dex_callK (c : CalX X.prog X.w X.K X.mg cm X.base x st k ps sd) (n m : Nat) (perm : List Nat) (hgd : X.A.guards = some []) (hr : Room k X.A) (hg : Gl X x) (hp : ps ≠ [])
    (hb : ∀ (kV doc pm : Value) (an : Option Addr) (cdv ct : Value) (us ws : List Value), us.length = n → ws.length = m → bindArgs (PySem.W.fnOf x x (defArgs st) (defBody st) (defScope st) .none kV doc pm an cdv ct) ⟨us, ks.zip ws⟩ = pure (ps.zip (arr perm us ws)))
    {mc mk : DMC} (h : DC X (e :: es) mc) (h2 : DK X kws mk) (hall : (backToKw pos (keywordEach kws X.env)).all (·.1.isSome) = true := by rfl) (hks : (backToKw pos (keywordEach kws X.env)).filterMap (·.1) = ks := by rfl)
    (hdb : (x == ("__debug__" : Str)) = false := by decide) (he : starEach (e :: es) X.env = (false, eval e X.env) :: starEach es X.env := by rfl)
    (hpl : ((backTo pos (starEach (e :: es) X.env)).any (·.1) || (backToKw pos (keywordEach kws X.env)).any (·.1.isNone)) = false := by rfl) : DEx X cm (.Call (.Name x p) (e :: es) kws pos) (mCallKX sd (arrN n m perm) mc mk) := fun W tk => by
  obtain ⟨f, fd, F, G, hm, _⟩ := c.ex
  obtain ⟨t, pa, ev⟩ := h
  obtain ⟨t2, pk, ek⟩ := h2
  refine ⟨_, pe_callGKS G hgd hr hg hm F.kp (kbinds_of F n m perm hp hb) (passAt tk) pa pk hall hks hdb he hpl, ?_⟩
  intro C F env σ H PX R Q I h kx k
  refine ev C F env σ H _ _ I h ?_
  intro as e1 F1 vs H1 h1 A1 r1
  refine ek C F1 e1 σ H1 _ _ A1.ok h1 ?_
  intro bs e2 F2 zs H2 h2 A2 r2
  exact call_coreX (A1.trans A2) (arrN_ca _ F2 σ vs zs as bs (r1.mono A2.ex) r2) h2.1 h2.2 kx fun r ss F' v H' hR A3 r3 => k r _ F' v H' hR A3 r3
theorem dex_callK0 (c : CalX X.prog X.w X.K X.mg cm X.base x st k ps sd) (m : Nat) (perm : List Nat) (hgd : X.A.guards = some []) (hr : Room k X.A) (hg : Gl X x) (hp : ps ≠ [])
    (hb : ∀ (kV doc pm : Value) (an : Option Addr) (cdv ct : Value) (us ws : List Value), us.length = 0 → ws.length = m → bindArgs (PySem.W.fnOf x x (defArgs st) (defBody st) (defScope st) .none kV doc pm an cdv ct) ⟨us, ks.zip ws⟩ = pure (ps.zip (arr perm us ws)))
    {mk : DMC} (h2 : DK X kws mk) (hall : (backToKw pos (keywordEach kws X.env)).all (·.1.isSome) = true := by rfl) (hks : (backToKw pos (keywordEach kws X.env)).filterMap (·.1) = ks := by rfl)
    (hdb : (x == ("__debug__" : Str)) = false := by decide)
    (hpl : ((backTo pos (starEach [] X.env)).any (·.1) || (backToKw pos (keywordEach kws X.env)).any (·.1.isNone)) = false := by rfl) : DEx X cm (.Call (.Name x p) [] kws pos) (mCallKX sd (arrN 0 m perm) mcNil mk) := fun W tk => by
  obtain ⟨f, fd, F, G, hm, _⟩ := c.ex
  obtain ⟨t2, pk, ek⟩ := h2
  refine ⟨_, pe_callGKS0 G hgd hr hg hm F.kp (kbinds_of F 0 m perm hp hb) (passAt tk) pk hall hks hdb hpl, ?_⟩
  intro C F env σ H PX R Q I h kx k
  refine evc_nil C F env σ H _ _ I h ?_
  intro as e1 F1 vs H1 h1 A1 r1
  refine ek C F1 e1 σ H1 _ _ A1.ok h1 ?_
  intro bs e2 F2 zs H2 h2 A2 r2
  exact call_coreX (A1.trans A2) (arrN_ca _ F2 σ vs zs as bs (r1.mono A2.ex) r2) h2.1 h2.2 kx fun r ss F' v H' hR A3 r3 => k r _ F' v H' hR A3 r3
@[simp] def mTupX (a : DM) (b : XP → DM) : XP → DM := fun PX env R => a env fun x e1 => x.get e1 fun d => b PX e1 fun y e2 => y.get e2 fun d2 => R (.vl (.tup [d, d2])) e2
theorem dex_tup2 {a b : Expr} {x1 : _} {m1 : DM} {m2 : XP → DM} (ha : DE X a m1) (hb : DEx X cm b m2) (hs : starEach (a :: [b]) X.env = (false, eval a X.env) :: starEach [b] X.env := by rfl) (hs2 : starEach (b :: []) X.env = (false, eval b X.env) :: starEach [] X.env := by rfl) :
    DEx X cm (.Tuple [a, b] x1 pos) (mTupX m1 m2) := fun W tk => by
  obtain ⟨t, p, ev⟩ := ha
  obtain ⟨u, q, er⟩ := hb W tk
  refine ⟨_, pe_tup (pa_cons p (pa_cons q pa_nil hs2) hs), ?_⟩
  intro C F env σ H PX R Q I h kx k
  refine ev C F env σ H _ _ I h ?_
  intro x e1 F1 v H1 h1 A1 r1
  obtain ⟨F2, d, h2, A2, ex, rp⟩ := A1.keepIt r1 h1
  refine er C F2 e1 σ H1 PX _ _ A2.ok h2 kx ?_
  intro y e3 F3 w H3 h3 A3 r3
  obtain ⟨F4, d2, h4, A4, ex4, rp4⟩ := (A2.trans A3).keepIt (r3.from fun p => A2.back) h3
  refine ⟨by show 2 ≤ sizeLine; decide, fun q hq => ?_⟩
  have B := A4.ok.lay hq (.tup [v, w])
  exact k _ e3 _ _ _ h4 (A4.trans B) (Rep.tup (st_of upd_same) (.cons (((rp.mono A3.ex).mono ex4).mono B.ex) (.cons (rp4.mono B.ex) .nil)))
end

/-! ### raise C(e) -/
@[simp] def mRaise (x : Nat) (f : Str) (m : DM) : DStm := fun P env => m env fun l e1 => l.get e1 fun d => P.ex x [(f, d)] e1
section
variable {X : Cx} {cm : Nat → Value} {pos cp px : Pos} {x f : Str} {e : Expr} {i : Nat}
theorem dsx_raise {m : DM} {Ca : Addr} (i : Nat) (hc : X.calm = true) (c : XCl X.prog X.w X.K X.mg X.base x f Ca) (hcm : cm i = .ref Ca) (hr : Room 2 X.A) (hg : Gl X x) (h : DE X e m) (he : starEach (e :: []) X.env = (false, eval e X.env) :: starEach [] X.env := by rfl) :
    DSx X cm (.Raise (some (.Call (.Name x px) [e] [] cp)) none pos) (mRaise i f m) := fun W tk => by
  refine ⟨_, ps_raise hc tk (c.made X e m px cp rfl rfl rfl rfl rfl hr hg h.can he), ?_⟩
  intro C F env σ H D P I hm k kx
  refine ⟨C, F, env, _, I, hm, ?_⟩
  intro l e1 F1 v H1 h1 A1 r1 dx hd1
  obtain ⟨F2, d, h2, A2, ex, rp⟩ := A1.keepIt r1 h1
  have B := A2.ok.tmp hd1 (.xd [(f, v)])
  exact kx.go F2 e1 σ _ i [(f, d)] _ dx B.ok ⟨hcm.symm, ⟨[(f, v)], upd_same, rfl, .cons rp .nil⟩, A2.ok.fnone hd1⟩ (A2.ok.gnone hd1) (fun j => A2.ok.unowned hd1 j) h2
end
end DL

set_option Elab.async false
set_option linter.all false
set_option maxRecDepth 100000
set_option maxHeartbeats 4000000
set_option autoImplicit false
/-! X3: loops whose bodies may raise; the rule for a def that may raise. -/
namespace DL
open PySem PySem.Spec L2 Evl PyProof.Rows
section
variable {X : Cx} {cm : Nat → Value} {pos : Pos}
theorem dsx_for {tg iter : Expr} {body : List Stmt} {js : List Nat} {mi : DMI} {g : DTg} {mb : DStm} (hp : PassesOwn (model X.prog X.w) X.A X.env X.xe) (hc : X.calm = true) (hi : DI X tg iter mi) (hg : DG X tg js g) (hb : DBx X cm body mb)
    (hs : ∀ x, foldedSetIterable iter X.env x = pure x := by intro _; rfl) : DSx X cm (.For tg iter body [] pos) (mFor mi g mb) := fun W tk => by
  obtain ⟨wi, pi, ei⟩ := hi
  obtain ⟨tg', pg, eg⟩ := hg
  obtain ⟨tb, pb, eb⟩ := hb W tk
  refine ⟨_, ps_for hp hc pi pg pb hs, ?_⟩
  intro C F env σ H D P I h k kx
  refine ei C F env σ H _ _ I h ?_
  intro items hold e1 F1 H1 J h1 A1 io hh
  rw [forI_iff] at h1
  have pin0 := forW_pin h1
  have agree : ∀ F e σ' H, Ok X.K C F e σ' H → pinE hold e → ∀ p ∈ hold, σ'[p.1]? = σ[p.1]? := fun F e σ' H I' q p m => by
    obtain ⟨a, o, g1, _, _, _, _, g6⟩ := I'.owns p.1 true _ (pinE.get q p m)
    obtain ⟨a', o', g1', _, _, _, _, g6'⟩ := A1.ok.owns p.1 true _ (pinE.get pin0 p m)
    have := (g6 rfl).1.symm.trans (g6' rfl).1
    rw [g1, g1']; cases this; rfl
  refine ⟨fun i m σ' H' => m = items.length - i ∧ i ≤ items.length ∧ ∃ F e, Ok X.K C F e σ' H' ∧ Ex F1 F ∧ forW hold g mb P (items.drop i) e, ⟨items.length, by simp, Nat.zero_le _, F1, e1, A1.ok, Ex.refl _, by simpa using h1⟩, ?_⟩
  rintro i m σ' H' ⟨rfl, hi', F2, e2, I2, x2, w2⟩
  have io2 := io i F2 e2 σ' H' I2 x2 (forW_pin w2).hold (agree F2 e2 σ' H' I2 (forW_pin w2))
  by_cases hlt : i < items.length
  · refine Or.inr ⟨(io2.1 hlt).1, fun σ'' H'' => ∃ F e, Ok X.K C F e σ'' H'' ∧ Ex F1 F ∧ forW hold g mb P (items.drop (i + 1)) e, fun σ'' H'' q => ⟨items.length - (i + 1), by omega, rfl, hlt, q⟩, fun x H3 y => ?_⟩
    obtain ⟨F3, d, hd, A3, rp⟩ := (io2.1 hlt).2 x H3 y
    have hdr : items.drop i = d :: items.drop (i + 1) := by
      rw [List.drop_eq_getElem_cons hlt]
      rw [List.getElem?_eq_getElem hlt] at hd
      cases hd; rfl
    rw [hdr] at w2
    refine eg C F3 e2 σ' H3 _ _ _ _ A3.ok rp w2.2 ?_
    intro e4 σ4 h4 I4 k4
    have I4' := A1.ok.rebase I4 (x2.trans A3.ex)
    have back : ∀ F e σ5 H5, Ok X.K { C with F0 := F1 } F e σ5 H5 → forW hold g mb P (items.drop (i + 1)) e → ∃ F e, Ok X.K C F e σ5 H5 ∧ Ex F1 F ∧ forW hold g mb P (items.drop (i + 1)) e :=
      fun F e σ5 H5 I5 q => ⟨F, e, A1.ok.unbase I5, I5.bas, q⟩
    refine eb { C with F0 := F1 } F3 e4 σ4 H3 _ _ I4' h4 ⟨fun F e σ5 H5 I5 q => back F e σ5 H5 I5 q, fun F e σ5 H5 I5 q => k.nx F e σ5 H5 (A1.ok.unbase I5) q, fun F e σ5 H5 I5 q => back F e σ5 H5 I5 q,
      fun F e σ5 H5 v r I5 ro q => k.rt F e σ5 H5 v r (A1.ok.unbase I5) (by cases r <;> exact ro) q,
      fun F e σ5 H5 v x y I5 ro q => k.r2 F e σ5 H5 v x y (A1.ok.unbase I5) (by obtain ⟨T, u, w, a, b, c, d, e⟩ := ro; exact ⟨T, u, w, a, b, by cases x <;> exact c, by cases y <;> exact d, e⟩) q⟩ ?_
    exact ⟨fun F e σ5 H5 y fs cls dd I5 xo hG un q => kx.go F e σ5 H5 y fs cls dd (A1.ok.unbase I5) xo hG un q⟩
  · have e : i = items.length := by omega
    subst e
    rw [List.drop_length] at w2
    exact Or.inl ⟨io2.2 (Nat.le_refl _), k.nx F2 e2 σ' H' I2 w2.2⟩
theorem dsx_while {c : Expr} {body : List Stmt} {t : DMB} {mb : DStm} (hp : PassesOwn (model X.prog X.w) X.A X.env X.xe) (hc : DT X c t) (hb : DBx X cm body mb) : DSx X cm (.While c body [] pos) (mWhile t mb) := fun W tk => by
  obtain ⟨tc, pc, ec⟩ := hc
  obtain ⟨tb, pb, eb⟩ := hb W tk
  refine ⟨_, ps_while hp pc pb, ?_⟩
  intro C F env σ H D P I h k kx
  obtain ⟨n, hn⟩ := mWhile_iff.mp h
  refine ⟨fun m σ' H' => ∃ F e, Ok X.K C F e σ' H' ∧ whN t mb m P e, ⟨n, F, env, I, hn⟩, ?_⟩
  rintro m σ' H' ⟨F1, e1, I1, w1⟩
  cases m with
  | zero => exact w1.elim
  | succ m =>
    refine ec C F1 e1 σ' H' _ _ I1 w1 ?_
    intro b e2 F2 H2 h2 A2
    cases b with
    | true =>
      have h2' : mb { P with nx := fun e => whN t mb m P e, ct := fun e => whN t mb m P e, bk := P.nx } e2 := by simpa using h2
      refine ⟨fun σ'' H'' => ∃ F e, Ok X.K C F e σ'' H'' ∧ whN t mb m P e, fun σ'' H'' q => ⟨m, Nat.lt_succ_self m, q⟩, ?_⟩
      exact eb C F2 e2 σ' H2 _ _ A2.ok h2' ⟨fun F e σ5 H5 I5 q => ⟨F, e, I5, q⟩, fun F e σ5 H5 I5 q => k.nx F e σ5 H5 I5 q, fun F e σ5 H5 I5 q => ⟨F, e, I5, q⟩, k.rt, k.r2⟩ kx
    | false =>
      have h2' : P.nx e2 := by simpa using h2
      exact k.nx F2 e2 σ' H2 A2.ok h2'
end

/-! ### the rule for a def that may raise -/
theorem done_out {K : PySem.W.Frag} {F0 F' H H' : Hp} {args env : List Slot} {vs : List V} {σ : L2.St} {v : V} {r : RV} {n : Nat} (hn : args.length = n) (np : ∀ (i : Nat) (d : D), args[i]? ≠ some (.own false d))
    (I' : Ok K (ctOf args vs F0 H) F' env σ H') (ro : RetOk K (ctOf args vs F0 H) F' H' v r) : Done K F0 args vs H r (outs n env) F' v H' := by
  refine ⟨I'.bas, I'.sub, I'.keep, I'.all, I'.new, fun i b d e => ?_, ?_⟩
  · cases b with
    | false => exact absurd e (np i d)
    | true =>
      obtain ⟨d', e'⟩ := I'.pins i ⟨true, d, e⟩
      have hi : i < n := by
        rw [← hn]
        rcases Nat.lt_or_ge i args.length with z | z
        · exact z
        · rw [List.getElem?_eq_none (by simpa using z)] at e; cases e
      obtain ⟨p, o, g1, g2, g3, g4, g5, g6⟩ := I'.owns i true d' e'
      obtain ⟨q1, q2, q3⟩ := g6 rfl
      refine ⟨p, o, d', q1, ?_, g2, g3⟩
      unfold outs
      rw [List.getElem?_map, List.getElem?_take_of_lt hi, e']
      rfl
  · cases r with
    | vl d => exact ro
    | tm d => exact ro
    | sl i => exact ro.elim
theorem FunG.okX {P : Program} {w : World} {K : PySem.W.Frag} {mg : Str → Option Value} {cm : Nat → Value} {base : Heap} {qual : Str} {body : List Stmt} {scope : Scope} {f : Addr} {fd : FuncData} {N ps : List Str} {k : Nat} {sd : DSpecX} {m : DStm}
    (F : FunG K qual body scope f fd) (S : FnScope N ps scope) (len : ∀ args R E, sd args R E → args.length = ps.length)
    (hbody : ∀ (cdv : Value) (A : Around) (outer : List PySem.Env) (s : Shared) (H : Hp) (E : XK), A.guards = some [] → Room k (A.deeper (envOfC qual scope s.heap.objs.size f cdv)) →
      DBx (cxOf (L2.CX P w) P w K mg base N qual scope f cdv A outer s H E) cm body m)
    (hm : ∀ args R E, sd args R E → m { nx := fun e => R (.vl .non) (outs ps.length e), rt := fun r e => R r (outs ps.length e), ex := fun x fs e => E x fs (outs ps.length e) } (startE N.length args)) :
    FnG P w K mg base (L2.CX P w) (k + 1) f fd ps (spX K cm sd) := by
  obtain ⟨oc, od, name, params, dV, kV, doc, pm, an, cdv, ct, osl, rfl, lk, hcd⟩ := F.ex
  refine fnG_of lk hcd S ?_ ?_
  · rintro vs H Q E ⟨F, args, R, RX, h1, _, h2, _⟩
    have := h1.len
    rw [List.length_map] at this
    rw [this, len args R RX h2]
  rintro A outer s H vs Q E hg hr ⟨F0, args, R, RX, h1, np, h2, h3, h4⟩
  obtain ⟨t, ht, ev⟩ := hbody cdv A outer s H E hg hr _ (takes_of rfl rfl rfl rfl)
  refine ⟨t, ht, ?_⟩
  have hl : args.length = ps.length := len args R RX h2
  refine ev (ctOf args vs F0 H) F0 _ _ H _ _ (ok_start N h1 np) (hm args R RX h2) ⟨fun F env σ H' I' q => ?_, fun _ _ _ _ _ z => z.elim, fun _ _ _ _ _ z => z.elim, fun F env σ H' v r I' ro q => ?_, fun _ _ _ _ _ _ _ _ _ z => z.elim⟩ ⟨fun F env σ H' x fs cls dd I' xo hG un q => ?_⟩
  · exact h3 _ _ F _ H' q (done_out hl np I' Rep.non)
  · exact h3 _ _ F _ H' q (done_out hl np I' ro)
  · exact h4 x fs _ F H' cls dd q (done_out hl np I' Rep.non) xo hG
end DL

set_option Elab.async false
set_option linter.all false
set_option maxRecDepth 100000
set_option maxHeartbeats 4000000
set_option autoImplicit false
/-! X4: try with several clauses, with and without names. -/
namespace DL
open PySem PySem.Spec L2 Evl PyProof.Rows

structure Cls1 where
  c : Value
  i : Option Nat
  ts : Addr → Value → Option Addr → TS
def goneE (i : Nat) (D : Ends) : Ends := { nx := fun σ H => D.nx (σ.set i none) H, rt := D.rt, bk := fun σ H => D.bk (σ.set i none) H, ct := fun σ H => D.ct (σ.set i none) H }
def runCl (k : Cls1) (D : Ends) (a : Addr) (cls : Value) (d : Option Addr) (σ : L2.St) (H : Hp) : Prop := match k.i with
  | none => k.ts a cls d D σ H
  | some i => k.ts a cls d (goneE i D) (σ.set i (some (.ref a))) H
def wMix (K : PySem.W.Frag) (D : Ends) : List Cls1 → WX
  | [] => fun _ _ _ _ => False
  | k :: r => fun cls d σ H => ∃ b, PySem.W.exmOne K cls k.c = some b ∧ (b = true → ∀ a, H a = none → runCl k D a cls d σ H) ∧ (b = false → wMix K D r cls d σ H)
abbrev SuiteOk (X : Cx) (sts : List Stmt) (ts : Addr → Value → Option Addr → TS) : Prop :=
  ∀ (a : Addr) (oe : Obj) (cls : Value) (d : Option Addr) (pn : List (Addr × Obj)), Zc cls d oe → (∃ vs, oe.data = .fields vs) → PSs (X.suite a ((a, oe) :: pn)) sts (ts a cls d)
inductive HdX (X : Cx) : List ExceptHandler → List Cls1 → Prop
  | rest {hs : List ExceptHandler} : HdX X hs []
  | only {x : Str} {c : Value} {ts : Addr → Value → Option Addr → TS} {b₀ : Stmt} {suite : List Stmt} {np pos : Pos} {hs : List ExceptHandler} {l : List Cls1} (hg : Gl X x) (hdb : (x == ("__debug__" : Str)) = false) (hm : X.mg x = some c)
      (hsu : SuiteOk X (b₀ :: suite) ts) (r : HdX X hs l) : HdX X (.ExceptHandler (some (.Name x np)) none (b₀ :: suite) pos :: hs) (⟨c, none, ts⟩ :: l)
  | as_ {x n : Str} {i : Nat} {c : Value} {ts : Addr → Value → Option Addr → TS} {b₀ : Stmt} {suite : List Stmt} {np pos : Pos} {hs : List ExceptHandler} {l : List Cls1} (hg : Gl X x) (hdb : (x == ("__debug__" : Str)) = false) (hm : X.mg x = some c)
      (hi : X.N[i]? = some n) (hln : X.env.kindOf n = some .local) (hsu : SuiteOk X (b₀ :: suite) ts) (r : HdX X hs l) : HdX X (.ExceptHandler (some (.Name x np)) (some n) (b₀ :: suite) pos :: hs) (⟨c, some i, ts⟩ :: l)

structure Caught (X : Cx) (pins : List (Addr × Obj)) (σ : L2.St) (H : Hp) (a : Addr) (cls : Value) (d : Option Addr) (s : Shared) : Prop where
  ex : ∃ (G : Heap) (s0 : Shared), Inv X pins σ H s0 ∧ (∀ b o, s0.heap.get? b = some o → b ∉ frs X.stack → G.get? b = some o) ∧ s0.heap.UpToSlots s.heap ∧ HandSPX.FlyingZ G (X.env :: X.outer) a (Zc cls d) s.heap ∧ s.os = s0.os ∧ AllBare s.gens
  na : H a = none
section
variable {X : Cx} {pins : List (Addr × Obj)} {σ : L2.St} {H : Hp} {a : Addr} {cls : Value} {d : Option Addr} {s : Shared}
theorem Caught.inv (c : Caught X pins σ H a cls d s) : Inv X pins σ H s := by
  obtain ⟨G, s0, I, nb, up, fl, os, ag⟩ := c.ex
  exact I.landed nb fl.1 up os ag
theorem Caught.obj (c : Caught X pins σ H a cls d s) : ∃ oe vs, s.heap.get? a = some oe ∧ Zc cls d oe ∧ oe.data = .fields vs := by
  obtain ⟨G, s0, I, nb, up, fl, os, ag⟩ := c.ex
  exact fl.there
theorem Caught.apart (c : Caught X pins σ H a cls d s) : a ∉ frs (X.env :: X.outer) := by
  obtain ⟨G, s0, I, nb, up, fl, os, ag⟩ := c.ex
  obtain ⟨oe, vs, e1, _, e2⟩ := fl.there
  intro hm
  obtain ⟨_, o, e3, nf⟩ := fl.2.2.1.mem hm
  rw [e1] at e3
  cases e3
  exact nf vs e2
theorem Caught.within (c : Caught X pins σ H a cls d s) (hf : X.env.frame = some X.env.locals) {oe : Obj} {vs : Array Value} (he : s.heap.get? a = some oe) (hd : oe.data = .fields vs) : Inv (X.suite a ((a, oe) :: (X.pn ++ pins))) [] σ H s := by
  have ap := c.apart
  refine c.inv.suite he hd c.na ?_ ?_
  · rintro rfl
    exact ap (by simp [frs, hf])
  · intro hm
    obtain ⟨e, h1, h2⟩ := List.mem_filterMap.mp hm
    exact ap (List.mem_filterMap.mpr ⟨e, List.mem_cons_of_mem _ h1, h2⟩)
theorem Caught.again (c : Caught X pins σ H a cls d s) {M : Model} {A : Around} {E : Value → Shared → Prop} {Q : Unit → Shared → Prop} (h : ∀ s', Caught X pins σ H a cls d s' → Q () s') : wpAny M A (setFlight (.ref a) none) Q E s := by
  obtain ⟨G, s0, I, nb, up, fl, os, ag⟩ := c.ex
  exact HandSPX.lands_againZ fl fun h' fl' up' => h _ ⟨⟨G, s0, I, nb, up.trans up', fl', os, ag⟩, c.na⟩
theorem Caught.test (c : Caught X pins σ H a cls d s) (hf : X.env.frame = some X.env.locals) {x : Str} {np : Pos} {v : Value} {b : Bool} (hg : Gl X x) (hdb : (x == ("__debug__" : Str)) = false) (hm : X.mg x = some v) (hx : PySem.W.exmOne X.K cls v = some b)
    {Q : Bool → Shared → Prop} {E E' : Value → Shared → Prop} (h : Q b s) : wpAny (model X.prog X.w) (X.A.mark (some (.ref a))) (eval (.Name x np) X.env) (fun u s' => wpAny (model X.prog X.w) (X.A.mark (some (.ref a))) (excMatches (.ref a) u) Q E' s') E s := by
  obtain ⟨oe, vs, e1, e2, e3⟩ := c.obj
  have tl : PySem.W.Looks (model X.prog X.w) s.heap (typeOf (.ref a)) cls := fun A Q E s' k q => wpAny_typeOf_ref (k _ _ e1) (e2.1.symm ▸ q)
  exact ld_glob (X := X.suite a ((a, oe) :: (X.pn ++ pins))) (c.within hf e1 e3) hg hm ((PySem.W.exm_one c.inv.kIn tl hx).here h) hdb
end
section
variable {X : Cx} {pins : List (Addr × Obj)} {σ : L2.St} {H : Hp} {a : Addr} {cls : Value} {d : Option Addr} {s : Shared} {D : Ends}
theorem suite_run (c : Caught X pins σ H a cls d s) (hf : X.env.frame = some X.env.locals) {ts : Addr → Value → Option Addr → TS} {sts : List Stmt} (hsu : SuiteOk X sts ts) (h : ts a cls d D σ H) {R : Flow → Shared → Prop} {E : Value → Shared → Prop}
    (k : ∀ f s', SP X pins D f s' → R f s') : wpAny (model X.prog X.w) (X.A.mark (some (.ref a))) (execs sts X.env) R E s := by
  obtain ⟨oe, vs, e1, e2, e3⟩ := c.obj
  have ok := c.inv.ok
  refine wpAny_mono ((hsu a oe cls d (X.pn ++ pins) e2 ⟨vs, e3⟩).run [] s σ H D (c.within hf e1 e3) h) (fun f s' z => k f s' ?_) fun _ _ z => False.elim z
  match f, z with
  | .next, ⟨σ', H', I', q⟩ => exact ⟨σ', H', I'.unsuite ok, q⟩
  | .brk, ⟨σ', H', I', q⟩ => exact ⟨σ', H', I'.unsuite ok, q⟩
  | .cont, ⟨σ', H', I', q⟩ => exact ⟨σ', H', I'.unsuite ok, q⟩
  | .ret u, ⟨v, σ', H', I', r, q⟩ => exact ⟨v, σ', H', I'.unsuite ok, r, q⟩
theorem suite_runAs (c : Caught X pins σ H a cls d s) (hf : X.env.frame = some X.env.locals) (hN : X.N.Nodup) {n : Str} {i : Nat} (hi : X.N[i]? = some n) (hln : X.env.kindOf n = some .local) {ts : Addr → Value → Option Addr → TS} {sts : List Stmt} (hsu : SuiteOk X sts ts)
    (h : ts a cls d (goneE i D) (σ.set i (some (.ref a))) H) {pos : Pos} {E : Value → Shared → Prop} {E2 : Value → Shared → Prop} :
    wpAny (model X.prog X.w) (X.A.mark (some (.ref a))) (storeName X.env n (.ref a)) (fun _ s2 => wpAny (model X.prog X.w) (X.A.mark (some (.ref a))) (execs sts X.env) (fun f s3 => wpAny (model X.prog X.w) X.A (do bindName X.env n .none; unbindBehindTheSuite X.env n pos) (fun _ s4 => SP X pins D f s4) X.xe s3) E s2) E2 s := by
  obtain ⟨oe, vs, e1, e2, e3⟩ := c.obj
  have ok := c.inv.ok
  refine store_ok (X := X.suite a ((a, oe) :: (X.pn ++ pins))) (v := .ref a) (c.within hf e1 e3) hN hi (.inl hln) rfl (fun s5 I5 => ?_) (.inr hln)
  refine wpAny_mono ((hsu a oe cls d (X.pn ++ pins) e2 ⟨vs, e3⟩).run [] s5 _ H _ I5 h) (fun f s' z => ?_) fun _ _ z => False.elim z
  match f, z with
  | .next, ⟨σ', H', I', q⟩ => exact gone_ok (I'.unsuite ok) hN hi hln fun s7 J => ⟨_, H', J, q⟩
  | .brk, ⟨σ', H', I', q⟩ => exact gone_ok (I'.unsuite ok) hN hi hln fun s7 J => ⟨_, H', J, q⟩
  | .cont, ⟨σ', H', I', q⟩ => exact gone_ok (I'.unsuite ok) hN hi hln fun s7 J => ⟨_, H', J, q⟩
  | .ret u, ⟨v, σ', H', I', r, q⟩ => exact gone_ok (I'.unsuite ok) hN hi hln fun s7 J => ⟨v, _, H', J, r, q⟩
theorem handle_ok (hf : X.env.frame = some X.env.locals) (hN : X.N.Nodup) : ∀ {hs : List ExceptHandler} {l : List Cls1}, HdX X hs l → ∀ {s : Shared}, Caught X pins σ H a cls d s → wMix X.K D l cls d σ H →
    wpAny (model X.prog X.w) X.A (handleBy (.ref a) X.env hs) (SP X pins D) X.xe s := by
  intro hs l hh
  induction hh with
  | rest => intro s c w; exact w.elim
  | only hg hdb hm hsu r ih =>
    rintro s c ⟨b, hb, h1, h2⟩
    refine wpAny_handleBy_cons (codeAny_handlers_test (c.test hf hg hdb hm hb ?_)) (fun q => nomatch q)
    cases b with
    | true => exact codeAny_handlers_suite (c.again fun s' c' => suite_run c' hf hsu (h1 rfl a c.na) fun f s2 z => z)
    | false => exact ih c (h2 rfl)
  | as_ hg hdb hm hi hln hsu r ih =>
    rintro s c ⟨b, hb, h1, h2⟩
    refine wpAny_handleBy_cons (codeAny_handlers_test (c.test hf hg hdb hm hb ?_)) (fun q => nomatch q)
    cases b with
    | true => exact codeAny_handlers_suite_as (c.again fun s' c' => suite_runAs c' hf hN hi hln hsu (h1 rfl a c.na))
    | false => exact ih c (h2 rfl)
end
section
variable {X : Cx} {body : List Stmt} {h₀ : ExceptHandler} {hds : List ExceptHandler} {l : Ends → List Cls1} {pos : Pos} {tb : WX → TS}
theorem ps_tryX (hs : X.stack = X.env :: X.outer) (hf : X.env.frame = some X.env.locals) (hN : X.N.Nodup) {cs : List Cls1}
    (hb : ∀ (W : WX) (pn : List (Addr × Obj)) (xe : Value → Shared → Prop), Takes (X.tr pn xe) W → PassesOwn (model X.prog X.w) X.A X.env xe → PSs (X.tr pn xe) body (tb W))
    (hh : HdX X (h₀ :: hds) cs) : PS X (.Try body (h₀ :: hds) [] [] pos) (fun D σ H => tb (wMix X.K D cs) D σ H) := by
  constructor
  intro pins s σ H D I h
  have ok := I.ok
  have fr : X.A.frames = some (X.env :: X.outer) := ok.frames.trans (congrArg some hs)
  apply wpAny_Try_except
  have main := hb (wMix X.K D cs) (X.pn ++ pins) (fun e s1 => wpAny (model X.prog X.w) X.A (noteFrame e X.env) (fun _ s2 => wpAny (model X.prog X.w) X.A (setFlight e none) (fun _ s3 => wpAny (model X.prog X.w) X.A (handleBy e X.env (h₀ :: hds)) (SP X pins D) X.xe s3) X.xe s2) X.xe s1) ?_ PassesOwn.looking
  · refine wpAny_mono (main.run [] s σ H D (I.toTry _) h) (fun f s1 z => ?_) fun _ _ z => z
    match f, z with
    | .next, ⟨σ', H', J, q⟩ => exact wpAny_execs_nil ⟨σ', H', J.ofTry ok, q⟩
    | .brk, ⟨σ', H', J, q⟩ => exact ⟨σ', H', J.ofTry ok, q⟩
    | .cont, ⟨σ', H', J, q⟩ => exact ⟨σ', H', J.ofTry ok, q⟩
    | .ret u, ⟨v, σ', H', J, r, q⟩ => exact ⟨v, σ', H', J.ofTry ok, r, q⟩
  · rintro u s' ⟨a, G, s0, pins', σ', H', cls, d, rfl, J, nb, up, sky, na, os, ag, w⟩
    have sky' : Sky G (X.env :: X.outer) a (Zc cls d) X.env.locals s'.heap := hs ▸ sky
    exact Sky.land Zc.steady fr hf sky' fun h3 fl up3 => handle_ok hf hN hh ⟨⟨G, s0, J.ofTry ok, nb, up.trans up3, fl, os, ag⟩, na⟩ w
end
end DL

set_option Elab.async false
set_option linter.all false
set_option maxRecDepth 100000
set_option maxHeartbeats 4000000
set_option autoImplicit false
/-! X5: try over data. -/
namespace DL
open PySem PySem.Spec L2 Evl PyProof.Rows

def TSd (K : PySem.W.Frag) (m : DStm) : TS := fun D σ H => ∃ C F env P, Ok K C F env σ H ∧ m P env ∧ Conn K C D P
def TSdx (K : PySem.W.Frag) (cm : Nat → Value) (W : WX) (m : DStm) : TS := fun D σ H => ∃ C F env P, Ok K C F env σ H ∧ m P env ∧ Conn K C D P ∧ ConnX K cm W C P.ex
theorem pss_sem {X : Cx} {sts : List Stmt} {m : DStm} (h : DB X sts m) : PSs X sts (TSd X.K m) := by
  obtain ⟨t, p, e⟩ := h
  exact ⟨fun pins s σ H D I ⟨C, F, env, P, h1, h2, h3⟩ => p.run pins s σ H D I (e C F env σ H D P h1 h2 h3)⟩
theorem pss_semX {X : Cx} {cm : Nat → Value} {W : WX} {sts : List Stmt} {m : DStm} (h : DBx X cm sts m) (tk : Takes X W) : PSs X sts (TSdx X.K cm W m) := by
  obtain ⟨t, p, e⟩ := h W tk
  exact ⟨fun pins s σ H D I ⟨C, F, env, P, h1, h2, h3, h4⟩ => p.run pins s σ H D I (e C F env σ H D P h1 h2 h3 h4)⟩
theorem Ok.setNo {K : PySem.W.Frag} {C : Ct} {F H : Hp} {env : List Slot} {σ : L2.St} {j : Nat} {o : Option V} (h : Ok K C F env σ H) (f : Free env j) : Ok K C F (env.set j .no) (σ.set j o) H := by
  have ne : ∀ (i : Nat) (s : Slot), (env.set j .no)[i]? = some s → s ≠ .no → j ≠ i ∧ env[i]? = some s := fun i s e ns => by
    by_cases q : j = i
    · subst q
      rw [List.getElem?_set] at e
      simp only [if_true] at e
      split at e
      · cases e; exact absurd rfl ns
      · cases e
    · rw [List.getElem?_set_ne q] at e; exact ⟨q, e⟩
  have ow : ∀ i p, Owns (env.set j .no) (σ.set j o) i p → Owns env σ i p := fun i p ⟨b, d, e, s⟩ => by
    obtain ⟨q, e'⟩ := ne i _ e (fun z => nomatch z)
    rw [List.getElem?_set_ne q] at s
    exact ⟨b, d, e', s⟩
  exact {
    len := by rw [List.length_set, List.length_set]; exact h.len
    sub := h.sub, keep := h.keep, all := h.all, new := h.new, bas := h.bas
    vals := fun i d e => by
      obtain ⟨q, e'⟩ := ne i _ e (fun z => nomatch z)
      rw [List.getElem?_set_ne q]
      exact h.vals i d e'
    owns := fun i b d e => by
      obtain ⟨q, e'⟩ := ne i _ e (fun z => nomatch z)
      rw [List.getElem?_set_ne q]
      exact h.owns i b d e'
    sep := fun i k p h1 h2 => h.sep i k p (ow i p h1) (ow k p h2)
    pins := fun i q => Free.pins f (h.pins i q) }

inductive Hd where
  | only (y : Nat) (m : DStm) | as_ (y i : Nat) (m : Addr → Addr → DStm)
@[simp] def gonePost (i : Nat) (P : Post) : Post := { nx := fun e => Free e i ∧ P.nx (e.set i .no), rt := P.rt, bk := fun e => Free e i ∧ P.bk (e.set i .no), ct := fun e => Free e i ∧ P.ct (e.set i .no), r2 := P.r2 }
@[simp] def disp (isa : Nat → Nat → Option Bool) (P : Post) : List Hd → XP
  | [] => fun _ _ _ => False
  | .only y m :: r => fun x fs env => match isa x y with
    | some true => m P env
    | some false => disp isa P r x fs env
    | none => False
  | .as_ y i m :: r => fun x fs env => match isa x y with
    | some true => x = y ∧ Free env i ∧ ∀ a dd, m a dd (gonePost i P) (env.set i (.val (.exc a dd fs)))
    | some false => disp isa P r x fs env
    | none => False
@[simp] def mTry (isa : Nat → Nat → Option Bool) (mb : DStm) (hs : List Hd) : DStm := fun P env => mb { P with ex := disp isa P hs } env
def isaOk (K : PySem.W.Frag) (cm : Nat → Value) (isa : Nat → Nat → Option Bool) : Prop := ∀ x y b, isa x y = some b → PySem.W.exmOne K (cm x) (cm y) = some b
inductive HdOk (X : Cx) (cm : Nat → Value) : List ExceptHandler → List Hd → Prop
  | rest {hs : List ExceptHandler} : HdOk X cm hs []
  | only {x : Str} {y : Nat} {m : DStm} {b₀ : Stmt} {suite : List Stmt} {np pos : Pos} {hs : List ExceptHandler} {l : List Hd} (hg : Gl X x) (hdb : (x == ("__debug__" : Str)) = false) (hm : X.mg x = some (cm y))
      (hsu : ∀ (a : Addr) (oe : Obj) (pn : List (Addr × Obj)), DB (X.suite a ((a, oe) :: pn)) (b₀ :: suite) m) (r : HdOk X cm hs l) : HdOk X cm (.ExceptHandler (some (.Name x np)) none (b₀ :: suite) pos :: hs) (.only y m :: l)
  | as_ {x n : Str} {y i : Nat} {m : Addr → Addr → DStm} {b₀ : Stmt} {suite : List Stmt} {np pos : Pos} {hs : List ExceptHandler} {l : List Hd} (hg : Gl X x) (hdb : (x == ("__debug__" : Str)) = false) (hm : X.mg x = some (cm y))
      (hi : X.N[i]? = some n) (hln : X.env.kindOf n = some .local) (hsu : ∀ (a dd : Addr) (oe : Obj) (pn : List (Addr × Obj)), Zc (cm y) (some dd) oe → (∃ vs, oe.data = .fields vs) → DB (X.suite a ((a, oe) :: pn)) (b₀ :: suite) (m a dd)) (r : HdOk X cm hs l) :
      HdOk X cm (.ExceptHandler (some (.Name x np)) (some n) (b₀ :: suite) pos :: hs) (.as_ y i m :: l)
def Hd.cl (K : PySem.W.Frag) (cm : Nat → Value) : Hd → Cls1
  | .only y m => ⟨cm y, none, fun _ _ _ => TSd K m⟩
  | .as_ y i m => ⟨cm y, some i, fun a cls d D σ H => ∃ dd, d = some dd ∧ cls = cm y ∧ TSd K (m a dd) D σ H⟩
section
variable {X : Cx} {cm : Nat → Value} {pos : Pos}
theorem HdOk.hdx {hs : List ExceptHandler} {l : List Hd} (h : HdOk X cm hs l) : HdX X hs (l.map (Hd.cl X.K cm)) := by
  induction h with
  | rest => exact .rest
  | only hg hdb hm hsu r ih => exact .only hg hdb hm (fun a oe cls d pn _ _ => pss_sem (hsu a oe pn)) ih
  | @as_ x n y i m b₀ suite np pos hs l hg hdb hm hi hln hsu r ih =>
    refine .as_ hg hdb hm hi hln (fun a oe cls d pn hz hv => ⟨fun pins s σ H D I h => ?_⟩) ih
    obtain ⟨dd, rfl, rfl, h⟩ := h
    exact (pss_sem (hsu a dd oe pn hz hv)).run pins s σ H D I h
theorem disp_ok {K : PySem.W.Frag} {isa : Nat → Nat → Option Bool} {C : Ct} {F H : Hp} {env : List Slot} {σ : L2.St} {Z : Ends} {P : Post} {x : Nat} {fs : List (Str × D)} {cls : Value} {dd : Addr} (hisa : isaOk K cm isa) (k : Conn K C Z P) (I : Ok K C F env σ H) (xo : XOk K cm F H x fs cls dd) (hG : C.G dd = none) (un : ∀ i, ¬ Owns env σ i dd) :
    ∀ l : List Hd, disp isa P l x fs env → wMix K Z (l.map (Hd.cl K cm)) cls (some dd) σ H
  | [], h => h.elim
  | .only y m :: r, h => by
    have h' : (match isa x y with | some true => m P env | some false => disp isa P r x fs env | none => False) := h
    cases q : isa x y with
    | none => rw [q] at h'; exact h'.elim
    | some b =>
      rw [q] at h'
      refine ⟨b, by rw [xo.cls]; exact (hisa x y b q : _), fun e a _ => ?_, fun e => ?_⟩
      · subst e
        exact ⟨C, F, env, P, I, h', k⟩
      · subst e
        exact disp_ok hisa k I xo hG un r h'
  | .as_ y i m :: r, h => by
    have h' : (match isa x y with | some true => x = y ∧ Free env i ∧ ∀ a dd, m a dd (gonePost i P) (env.set i (.val (.exc a dd fs))) | some false => disp isa P r x fs env | none => False) := h
    cases q : isa x y with
    | none => rw [q] at h'; exact h'.elim
    | some b =>
      rw [q] at h'
      refine ⟨b, by rw [xo.cls]; exact (hisa x y b q : _), fun e a _ => ?_, fun e => ?_⟩
      · subst e
        obtain ⟨rfl, fr, h2⟩ := h'
        obtain ⟨kvs, e1, e2, e3⟩ := xo.at_
        have I2 := I.hold e1 xo.new hG un
        have x2 := Ex.new (o := HO.xd kvs) xo.new
        have I3 := I2.setVal (v := .ref a) (d := .exc a dd fs) fr (Rep.exc upd_same e2 (e3.mono x2))
        refine ⟨dd, rfl, xo.cls, C, _, _, gonePost i P, I3, h2 a dd, ?_⟩
        exact ⟨fun F env σ H I q => k.nx F _ _ H (I.setNo q.1) q.2, fun F env σ H I q => k.bk F _ _ H (I.setNo q.1) q.2, fun F env σ H I q => k.ct F _ _ H (I.setNo q.1) q.2, k.rt, k.r2⟩
      · subst e
        exact disp_ok hisa k I xo hG un r h'
theorem dsx_try {body : List Stmt} {h₀ : ExceptHandler} {hds : List ExceptHandler} {isa : Nat → Nat → Option Bool} {mb : DStm} {hs : List Hd} (hst : X.stack = X.env :: X.outer) (hf : X.env.frame = some X.env.locals) (hN : X.N.Nodup) (hisa : isaOk X.K cm isa)
    (hb : ∀ (pn : List (Addr × Obj)) (xe : Value → Shared → Prop), PassesOwn (model X.prog X.w) X.A X.env xe → DBx (X.tr pn xe) cm body mb) (hh : HdOk X cm (h₀ :: hds) hs) : DSx X cm (.Try body (h₀ :: hds) [] [] pos) (mTry isa mb hs) := fun W tk => by
  refine ⟨_, ps_tryX hst hf hN (tb := fun W => TSdx X.K cm W mb) (fun W pn xe tk' hp => pss_semX (hb pn xe hp) tk') hh.hdx, ?_⟩
  intro C F env σ H D P I h k kx
  refine ⟨C, F, env, { P with ex := disp isa P hs }, I, h, ⟨k.nx, k.bk, k.ct, k.rt, k.r2⟩, ⟨fun F env σ H x fs cls dd I' xo hG un q => ?_⟩⟩
  exact disp_ok hisa k I' xo hG un hs q
end
@[simp] def mXf (a dd : Addr) (i : Nat) (f : Str) : DM := fun env R => match env[i]? with
  | some (.val (.exc a' dd' [(g, d)])) => a' = a ∧ dd' = dd ∧ g = f ∧ R (.vl d) env
  | _ => False
theorem dxf {X : Cx} {a dd C : Addr} {oe : Obj} {cls : Value} {pn : List (Addr × Obj)} {n f : Str} {p pos : Pos} {i : Nat} (T : XfC X.K C) (hno : PySem.W.findIn X.K (.ref C) f = some none) (hc : cls = .ref C) (hz : Zc cls (some dd) oe) (hf : ∃ vs, oe.data = .fields vs)
    (hN : X.N[i]? = some n) (hv : Vis X.env.scope n) (hd : (n == ("__debug__" : Str)) = false := by decide) (hcd : (n == ("__classdict__" : Str)) = false := by decide) (hb : attributeBase (.Name n p) f X.env (eval (.Name n p) X.env) = eval (.Name n p) X.env := by rfl) :
    DE (X.suite a ((a, oe) :: pn)) (.Attribute (.Name n p) f pos) (mXf a dd i f) := by
  refine ⟨_, pe_xf (X := X) T hno hz hf (pv i hN hv hd hcd) hb, ?_⟩
  intro C' F env σ H R Q I h k
  unfold mXf at h
  split at h
  · rename_i a' dd' g d e
    obtain ⟨rfl, rfl, rfl, hR⟩ := h
    obtain ⟨v, h1, h2⟩ := I.vals i _ e
    cases h2 with
    | @exc _ _ kvs _ e1 e2 e3 =>
      obtain ⟨v', rfl, rv⟩ : ∃ v', kvs = [(g, v')] ∧ Rep X.K F v' d := by
        cases kvs with
        | nil => simp at e2
        | cons q r =>
          cases r with
          | cons _ _ => simp at e2
          | nil =>
            obtain ⟨g', v'⟩ := q
            have : g' = g := by simpa using e2
            subst this
            cases e3 with
            | cons rv _ => exact ⟨v', rfl, rv⟩
      exact ⟨_, h1, rfl, hc, dd', _, v', rfl, I.sub _ _ e1, by simp [List.lookup], k _ env F v' H hR I.aft rv⟩
  · exact h.elim
theorem dsx_raiseE {X : Cx} {cm : Nat → Value} {pos cp px : Pos} {x f : Str} {e : Expr} {m : DM} (i : Nat) (hc : X.calm = true) (c : ∃ Ca, cm i = .ref Ca ∧ XCl X.prog X.w X.K X.mg X.base x f Ca) (hr : Room 2 X.A) (hg : Gl X x) (h : DE X e m) (he : starEach (e :: []) X.env = (false, eval e X.env) :: starEach [] X.env := by rfl) :
    DSx X cm (.Raise (some (.Call (.Name x px) [e] [] cp)) none pos) (mRaise i f m) := by
  obtain ⟨Ca, h1, h2⟩ := c
  exact dsx_raise i hc h2 h1 hr hg h he
theorem dxfE {X : Cx} {cm : Nat → Value} {a dd : Addr} {oe : Obj} {y : Nat} {pn : List (Addr × Obj)} {x n f : Str} {p pos : Pos} {i : Nat} (c : ∃ Ca, cm y = .ref Ca ∧ XCl X.prog X.w X.K X.mg X.base x f Ca) (hz : Zc (cm y) (some dd) oe) (hf : ∃ vs, oe.data = .fields vs)
    (hN : X.N[i]? = some n) (hv : Vis X.env.scope n) (hd : (n == ("__debug__" : Str)) = false := by decide) (hcd : (n == ("__classdict__" : Str)) = false := by decide) (hb : attributeBase (.Name n p) f X.env (eval (.Name n p) X.env) = eval (.Name n p) X.env := by rfl) :
    DE (X.suite a ((a, oe) :: pn)) (.Attribute (.Name n p) f pos) (mXf a dd i f) := by
  obtain ⟨Ca, h1, h2⟩ := c
  exact dxf h2.xf h2.no h1 hz hf hN hv hd hcd hb
end DL

set_option Elab.async false
set_option linter.all false
set_option maxRecDepth 100000
set_option maxHeartbeats 4000000
set_option autoImplicit false
/-! X6: own exception classes over any base whose __new__ is LookupError's (LookupError, KeyError). -/
namespace DL
open PySem PySem.Spec L2 Evl PyProof.Rows

abbrev tailLE : List Value := [.type "LookupError", .type "Exception", .type "BaseException", .type "object"]
abbrev tailKE : List Value := .type "KeyError" :: tailLE
structure XIni (B initId : String) : Prop where
  slot : PySem.Slot B "__init__" initId
  entry : entryFor table initId = some Builtin.«BaseException.__init__»
  split : splitId initId = some (B, "__init__")
  kind : builtinKind initId = some .slot
  row : Manifest.signature? initId = some ⟨.positional, "*", B, .self, [⟨"args", .varPos, false⟩]⟩
  nostar : (B != "*") = true
theorem xini_LE : XIni "LookupError" "LookupError.__init__" :=
  let F := F.excBase_LookupError
  ⟨F.init, F.initEntry, F.initSplit, F.initKind, F.initRow, F.noStar⟩
theorem xini_KE : XIni "KeyError" "KeyError.__init__" where
  slot := PySem.Slot.of (n := "__init__") (owner := "KeyError")
    (by
      rw [typeLookup_type, builtinLookup_eq_fast]
      kernel_rfl)
    (by decide +kernel) (by decide +kernel) (by decide +kernel)
    (by
      first
      | exact Or.inl (by decide +kernel)
      | exact Or.inr (by decide +kernel))
    (by
      rw [isSubtype_type]
      kernel_rfl)
  entry := by
    refine entryFor_alias (id' := "BaseException.__init__") ?_ ?_ ?_ ?_
    · rw [fastTable_eq_tree]
      kernel_rfl
    · first
      | rfl
      | decide +kernel
    · decide +kernel
    · rw [fastTable_eq_tree]
      kernel_rfl
  split := by kernel_rfl
  kind := by kernel_rfl
  row := by kernel_rfl
  nostar := by decide +kernel
structure XMro (B : String) (bm : List Value) : Prop where
  le : bm.contains (.type "LookupError") = true
  b : bm.contains (.type B) = true
  at_ : bm.contains (.type "AttributeError") = false
  nm : bm.contains (.type "NameError") = false
section
variable {nm q : Str} {C N : Addr} {bs bm : List Value} {hdct : Bool} {sn : List Str} {sub : List Value} {ab : Bool} {col : Option Bool} {dd : Option Addr} {k0 k1 k2 k3 k5 : Option Value} {B initId : String}
variable {prog : Program} {w : World} {M : Model} {A : Around} {E : Value → Shared → Prop} {R : Result → Shared → Prop} {h : Heap} {g : Array GenState} {d : Drawn} {t : Nat} {os : OsState}
abbrev leC (nm q : Str) (C N : Addr) (bs bm : List Value) (hdct : Bool) (sn : List Str) (sub : List Value) (ab : Bool) (col : Option Bool) (dd : Option Addr) (k0 k1 k2 k3 k5 : Option Value) : Obj := excClassObj nm q C N bs bm hdct sn sub ab col dd k0 k1 k2 k3 k5 "LookupError.__new__"
theorem cons_has {x : String} : (Value.ref C :: bm).contains (.type x) = bm.contains (.type x) := by
  rw [List.contains_cons]
  rfl
theorem knew_check (m : XMro B bm) (hC : h.get? C = some (leC nm q C N bs bm hdct sn sub ab col dd k0 k1 k2 k3 k5)) {rest : List Value} {Q : Unit → Shared → Prop} (hq : Q () ⟨h, g, d, t, os⟩) :
    wpAny M A (checkBuiltinCall "LookupError.__new__" ⟨.ref C :: rest, []⟩) Q E ⟨h, g, d, t, os⟩ := by
  have c1 : (Value.ref C :: bm).contains (.type "LookupError") = true := cons_has.trans m.le
  have F := F.excBase_LookupError
  have f0 := F.noStar
  simp only [checkBuiltinCall, F.newSplit, F.newKind, F.newRow]
  repeat
    first
    | refine wpAny_loadPart_at hC ?_
    | (refine wpAny_isSubtype_exc hC ?_
       rw [c1])
    | refine wpAny_staticBase_exc hC ?_
    | refine wpAny_madeBy_exc hC ?_
    | simp only [if_false, Bool.false_eq_true, bne_self_eq_false]
    | wp_step
  exact hq
theorem kini_check (b : XIni B initId) (m : XMro B bm) (hC : h.get? C = some (leC nm q C N bs bm hdct sn sub ab col dd k0 k1 k2 k3 k5)) {e : Addr} {oe : Obj} (he : h.get? e = some oe) (hc : oe.cls = .ref C) {rest : List Value} {Q : Unit → Shared → Prop} (hq : Q () ⟨h, g, d, t, os⟩) :
    wpAny M A (checkBuiltinCall initId ⟨.ref e :: rest, []⟩) Q E ⟨h, g, d, t, os⟩ := by
  have c1 : (Value.ref C :: bm).contains (.type B) = true := cons_has.trans m.b
  have f0 := b.nostar
  simp only [checkBuiltinCall, b.split, b.kind, b.row]
  repeat
    first
    | (with_reducible refine wpAny_loadPart_at he ?_
       rw [hc])
    | with_reducible refine wpAny_loadPart_at hC ?_
    | (with_reducible refine wpAny_isSubtype_exc hC ?_
       rw [c1])
    | wp_step
  apply wpAny_onRaise
  have z : ∀ (a b' : String) (n : Nat) (l : List Str), Bind.check ⟨.positional, "*", B, .self, [⟨"args", .varPos, false⟩]⟩ a b' n (List.map (fun x => x.fst) ({ pos := Value.ref e :: rest } : Args).kw) = pure () := fun _ _ _ _ => check_star_args _ _ _ _ _ _
  rw [z _ _ _ []]
  exact wpAny_pure hq
theorem knew_run (m : XMro B bm) (hC : h.get? C = some (leC nm q C N bs bm hdct sn sub ab col dd k0 k1 k2 k3 k5)) {rest : List Value} (hr : rest.length ≤ sizeLine)
    (hq : R (.ok (.ret (.ref (h.objs.size + 1)))) ⟨(h.push (W.kdv_tup rest)).push (HandSPX.excO C h.objs.size), g, d, t, os⟩) :
    codeAny (model prog w) A (.builtin "LookupError.__new__" ⟨.ref C :: rest, []⟩) R ⟨h, g, d, t, os⟩ := by
  have F := F.excBase_LookupError
  have f0 := F.ends
  have c1 : (Value.ref C :: bm).contains (.type "LookupError") = true := cons_has.trans m.le
  have c2 : (Value.ref C :: bm).contains (.type "AttributeError") = false := cons_has.trans m.at_
  have c3 : (Value.ref C :: bm).contains (.type "NameError") = false := cons_has.trans m.nm
  apply codeAny_builtinAt F.entry
  unfold Builtin.«BaseException.__new__»
  apply PySem.wpAt_bind
  show PySem.wpAt _ _ _ (stack >>= _) _ _ _
  apply PySem.wpAt_bind
  apply PySem.wpAt_stack
  intro p below
  apply PySem.wpAt_of_wpAny
  wp_walk
  apply PySem.wpAt_of_wpAny
  rw [F.owner]
  repeat
    first
    | with_reducible refine wpAny_madeHere_exc F.canon hC ?_
    | with_reducible refine wpAny_loadPart_at hC ?_
    | (with_reducible refine wpAny_isSubtype_exc hC ?_
       first
       | rw [c1]
       | rw [c2]
       | rw [c3])
    | wp_step
  show R _ _
  rw [Heap.size_push]
  exact hq
theorem ktype_call (m : XMro B bm) (hC : h.get? C = some (leC nm q C N bs bm hdct sn sub ab col dd k0 k1 k2 k3 k5)) {rest : List Value} {fI : Addr} {Q : Fin → Shared → Prop} (hr : rest.length ≤ sizeLine)
    (hi : W.Looks (model prog w) h (typeLookup (.ref C) "__init__") (some (.ref fI))) (hb : ∀ self, W.Looks (model prog w) h (bindSpecial (.ref fI) self) (.ref fI, [self]))
    (hq : codeAny (model prog w) A (.call (.ref fI) ⟨.ref (h.objs.size + 1) :: rest, []⟩) (fun r s' => match r with
      | .ok (.ret v) => v = .none ∧ Q (.done (.ret (.ref (h.objs.size + 1)))) s'
      | .ok _ => False
      | .error e => E e s') ⟨(h.push (W.kdv_tup rest)).push (HandSPX.excO C h.objs.size), g, d, t, os⟩) :
    wpAny (model prog w) A (Builtin.«type.__call__» ⟨.ref C :: rest, []⟩) Q E ⟨h, g, d, t, os⟩ := by
  repeat
    first
    | with_reducible refine wpAny_loadPart_at hC ?_
    | with_reducible refine wpAny_madeBy_exc hC ?_
    | wp_step
  apply codeAny_call_builtin_code (Code.quiet_builtin _ F.excBase_LookupError.quiet)
  apply knew_check m hC
  apply knew_run m hC hr
  show wpAny _ _ _ _ _ _
  have kp : ∀ b o, h.get? b = some o → ((h.push (W.kdv_tup rest)).push (HandSPX.excO C h.objs.size)).get? b = some o := by
    intro b o e
    apply Heap.get?_push_of_some
    exact Heap.get?_push_of_some _ e
  have gC := kp _ _ hC
  have gE : ((h.push (W.kdv_tup rest)).push (HandSPX.excO C h.objs.size)).get? (h.objs.size + 1) = some (HandSPX.excO C h.objs.size) := by heap_get
  have self : (Value.ref C :: bm).contains (.ref C) = true := by
    rw [List.contains_cons]
    simp
  have li := hi.keeps kp
  have lb := (hb (.ref (h.objs.size + 1))).keeps kp
  unfold isInstance
  repeat
    first
    | with_reducible refine wpAny_loadPart_at gE ?_
    | (with_reducible refine wpAny_isSubtype_exc gC ?_
       rw [self])
    | wp_step
  show wpAny _ _ (typeLookup (.ref C) _) _ _ _
  apply li.at
  apply wpAny_holding
  apply wpAny_bind
  apply lb.at
  apply wpAny_bind
  apply wpAny_call
  apply codeAny_mono hq
  intro r s' z
  match r, z with
  | .error e, z => exact z
  | .ok .next, z => exact z.elim
  | .ok .brk, z => exact z.elim
  | .ok .cont, z => exact z.elim
  | .ok (.ret v), ⟨e, z⟩ =>
    subst e
    first
    | exact wpAny_pure (wpAny_pure z)
    | (wp_walk
       exact z)
theorem kcall (m : XMro B bm) (hC : h.get? C = some (leC nm q C N bs bm hdct sn sub ab col dd k0 k1 k2 k3 k5)) {rest : List Value} {fI : Addr} (hr : rest.length ≤ sizeLine)
    (hi : W.Looks (model prog w) h (typeLookup (.ref C) "__init__") (some (.ref fI))) (hb : ∀ self, W.Looks (model prog w) h (bindSpecial (.ref fI) self) (.ref fI, [self]))
    (hq : codeAny (model prog w) (A.under (.builtin "type.__call__" ⟨.ref C :: rest, []⟩)) (.call (.ref fI) ⟨.ref (h.objs.size + 1) :: rest, []⟩) (W.InitBack (h.objs.size + 1) R) ⟨(h.push (W.kdv_tup rest)).push (HandSPX.excO C h.objs.size), g, d, t, os⟩) :
    codeAny (model prog w) A (.call (.ref C) ⟨rest, []⟩) R ⟨h, g, d, t, os⟩ := by
  have l1 := tc_lookup
  have l2 := tc_bind (.ref C)
  have ty : (⟨h, g, d, t, os⟩ : Shared).TypeIs (.ref C) "type" := ⟨_, hC, rfl⟩
  apply codeAny_of_tree
  show wpAny _ _ (callAny (.ref C) _) _ _ _
  repeat
    any_goals
      first
      | assumption
      | with_reducible refine wpAny_loadPart_at hC ?_
      | wp_step
  refine ⟨rfl, codeAny_call_builtin_at (Code.quiet_builtin _ (by decide +kernel)) entry_typeCall (wpAny_check_type_call_sub hC ?_)⟩
  apply ktype_call m hC hr hi hb
  apply codeAny_mono hq
  intro r s' z
  match r, z with
  | .error e, z => exact z
  | .ok .next, z => exact z
  | .ok .brk, z => exact z
  | .ok .cont, z => exact z
  | .ok (.ret v), z => exact z
theorem kinit_base (b : XIni B initId) (m : XMro B bm) (hC : h.get? C = some (leC nm q C N bs bm hdct sn sub ab col dd k0 k1 k2 k3 k5)) {e t0 : Addr} (he : h.get? e = some (HandSPX.excO C t0)) {rest : List Value}
    (hq : ∀ h' t1, (∀ b o, b ≠ e → h.get? b = some o → h'.get? b = some o) → h'.get? e = some (HandSPX.excO C t1) → R (.ok (.ret .none)) ⟨h', g, d, t, os⟩) (hr : rest.length ≤ sizeLine) :
    codeAny (model prog w) A (.call (.builtin initId) ⟨.ref e :: rest, []⟩) R ⟨h, g, d, t, os⟩ := by
  apply codeAny_call_builtin b.slot.plain b.entry
  apply kini_check b m hC he rfl
  wp_walk
  apply hq _ h.objs.size
  · intro b' o hb ho
    rw [Heap.get?_update_other _ _ (Ne.symm hb)]
    exact Heap.get?_push_of_some _ ho
  · rw [Heap.get?_update_self _ (Heap.get?_push_of_some _ he) rfl]
    rfl
end
end DL

set_option Elab.async false
set_option linter.all false
set_option maxRecDepth 100000
set_option maxHeartbeats 4000000
set_option autoImplicit false
/-! X7: raising such exceptions. -/
namespace DL
open PySem PySem.Spec L2 Evl PyProof.Rows

theorem store_KE : StoreFacts "KeyError" tailKE "object.__setattr__" "object" where
  mro := by kernel_rfl
  slot := PySem.Slot.of (n := "__setattr__") (owner := "object")
    (by
      rw [typeLookup_type, builtinLookup_eq_fast]
      kernel_rfl)
    (by decide +kernel) (by decide +kernel) (by decide +kernel)
    (by
      first
      | exact Or.inl (by decide +kernel)
      | exact Or.inr (by decide +kernel))
    (by
      rw [isSubtype_type]
      kernel_rfl)
  entry := F.entry_object_sa
  kind := by decide +kernel
  split := by decide +kernel
  hasOwner := by decide +kernel
  args := fun a b c => by
    unfold argsOk
    kernel_rfl
  passes := fun self => by kernel_rfl
structure KBase (B initId : String) (t : List Value) : Prop where
  st : StoreFacts B t "object.__setattr__" "object"
  ini : XIni B initId
theorem kb_LE : KBase "LookupError" "LookupError.__init__" tailLE := ⟨F.store_LookupError, xini_LE⟩
theorem kb_KE : KBase "KeyError" "KeyError.__init__" tailKE := ⟨store_KE, xini_KE⟩
def leB (K : PySem.W.Frag) (C : Addr) (B : String) : Bool := match K.lookup C with
  | some ⟨.type "type", _, .cls cd, sl⟩ => (match cd.mro, sl.toList with
    | .ref C' :: bm, [_, _, _, _, some (.builtin n), _] => C' == C && (n == "LookupError.__new__" && (cd.hasDict && (!cd.hasDel && (bm.contains (.type "LookupError") && (bm.contains (.type B) && (!bm.contains (.type "AttributeError") && !bm.contains (.type "NameError")))))))
    | _, _ => false)
  | _ => false
structure KxC (K : PySem.W.Frag) (C : Addr) (B : String) (t : List Value) : Prop where
  look : leB K C B = true
  ov : PySem.W.excOver K C t = true
  sa : PySem.W.findIn K (.ref C) "__setattr__" = some (some (.builtin "object.__setattr__"))
  exC : PySem.W.subIn K (.ref C) (.type "BaseException") = some true
  tyC : PySem.W.typeIn K (.ref C) = some (.type "type")
  kC : PySem.W.keepIn K (.ref C) = true
theorem leB_ok {K : PySem.W.Frag} {C : Addr} {B : String} (h : leB K C B = true) : ∃ nm q N bs bm sn sub ab col dd k0 k1 k2 k3 k5, K.lookup C = some (leC nm q C N bs bm true sn sub ab col dd k0 k1 k2 k3 k5) ∧ XMro B bm := by
  unfold leB at h
  split at h
  · rename_i dd cd sl ho
    split at h
    · rename_i C' bm k0 k1 k2 k3 n k5 hm hs
      simp only [Bool.and_eq_true, beq_iff_eq, Bool.not_eq_true'] at h
      obtain ⟨e1, e2, e3, e4, e5, e6, e7, e8⟩ := h
      cases cd with
      | mk nm bs mro N q hd sn sub ab col del =>
        cases sl with
        | mk l =>
          have hm' : mro = .ref C' :: bm := hm
          have hs' : l = [k0, k1, k2, k3, some (.builtin n), k5] := hs
          have e3' : hd = true := e3
          have e4' : del = false := e4
          subst e1; subst e2; subst hm'; subst hs'; subst e3'; subst e4'
          exact ⟨nm, q, N, bs, bm, sn, sub, ab, col, dd, k0, k1, k2, k3, k5, ho, e5, e6, e7, e8⟩
    · exact absurd h Bool.false_ne_true
  · exact absurd h Bool.false_ne_true
section
variable {X : Cx} {pins : List (Addr × Obj)} {σ : L2.St} {H : Hp} {a C : Addr} {f : Str} {y : V} {u : Value}
theorem exo_dict {hp h' : Heap} {g : Array GenState} {d : Drawn} {tk tk' : Nat} {os : OsState} {t1 dx : Addr} (I : Inv X pins σ H ⟨hp, g, d, tk, os⟩) (e : H a = some (exo a C none)) (k : ∀ b o, b ≠ a → hp.get? b = some o → h'.get? b = some o) (dn : hp.objs.size ≤ dx) (dne : dx ≠ a)
    (hx : h'.get? a = some ({ cls := .ref C, dict := some dx, data := .fields #[.ref t1, .none, .none, .none, .bool false, .none] } : Obj)) (hn : h'.Ns1 dx fun z => if z = f then some u else none) (ry : RelV y u) :
    Inv X pins σ (upd (upd H dx (exd dx [(f, y)])) a (exo a C (some dx))) ⟨h', g, d, tk', os⟩ := by
  have fresh : H dx = none := I.hok.fresh dn
  have apart : ∀ {b : Addr}, H b = none → b ≠ a := by
    rintro b n rfl
    rw [e] at n
    exact nomatch n
  have below : ∀ {b : Addr} {o : Obj}, hp.get? b = some o → b ≠ dx := by
    rintro b o q rfl
    exact absurd (Heap.lt_size q) (Nat.not_lt.mpr dn)
  have same : ∀ (b : Addr) (o : HO), H b = some o → o ≠ exo a C none → upd (upd H dx (exd dx [(f, y)])) a (exo a C (some dx)) b = some o := by
    intro b o q n
    rw [upd_ne, upd_ne (ne_of_none q fresh)]
    · exact q
    · rintro rfl
      rw [e] at q
      exact n (Option.some.inj q).symm
  refine I.un (t' := tk') ?_ ?_
  · constructor
    · intro b o q n _ _
      exact k b o (apart n) q
    · intro b o q n _ _
      exact ⟨o.slots, k b o (apart n) q⟩
    · intro b o q n _
      rw [upd_ne (apart n), upd_ne (below q)]
      exact n
    · intro b o q _
      by_cases hb : b = a
      · exact ⟨_, hb ▸ hx⟩
      · exact ⟨o, k b o hb q⟩
    · intro b xs q
      exact same b _ q fun z => exo_tup z.symm
    · intro b o v q
      exact same b _ q fun z => exo_frz z.symm
    · intro b ps q
      exact ⟨#[], by rw [same b _ q fun z => exo_tbl z.symm]; simp⟩
  · intro b o q
    by_cases hb : b = a
    · subst hb
      rw [upd_same] at q
      cases q
      exact exo_ok hx
    · rw [upd_ne hb] at q
      by_cases hd : b = dx
      · subst hd
        rw [upd_same] at q
        cases q
        exact exd_ok hn (relO_put (fs := []) ry fun _ => trivial)
      · rw [upd_ne hd] at q
        refine (I.hok b o q).stay ?_ ?_ ?_
        · intro c v hc z
          refine k c v ?_ z
          rcases hc with rfl | hc
          · exact hb
          · exact at_ne e hc exo_own
        · intro c hc
          exact same c _ hc fun z => exo_own z.symm
        · intro c xs hc
          exact same c _ hc fun z => exo_tup z.symm
theorem kst_new {s : Shared} {Q : Unit → Shared → Prop} {E : Value → Shared → Prop} {A : Around} {B initId : String} {t : List Value} (b : KBase B initId t) (T : KxC X.K C B t) (I : Inv X pins σ H s) (e : H a = some (exo a C none)) (hno : PySem.W.findIn X.K (.ref C) f = some none) (ry : RelV y u)
    (h : ∀ dx s', H dx = none → dx ≠ a → Inv X pins σ (upd (upd H dx (exd dx [(f, y)])) a (exo a C (some dx))) s' → Q () s') : wpAny (model X.prog X.w) A (setAttr (.ref a) f u) Q E s := by
  obtain ⟨nm, q, N, bs, bm, sn, sub, ab, col, dd, k0, k1, k2, k3, k5, hC, _⟩ := leB_ok T.look
  obtain ⟨t1, ho⟩ := exo_at I.hok e
  obtain ⟨hp, g, d, tk, os⟩ := s
  have J : PySem.W.InstAt hp a { cls := .ref C, dict := none, data := .fields #[.ref t1, .none, .none, .none, .bool false, .none] } C none := ⟨ho, rfl, rfl, trivial⟩
  refine PySem.W.set_plain I.kIn J T.sa ?_
  have ht : PySem.W.takerIn X.K C f = some none := by
    unfold PySem.W.takerIn
    rw [hno]
    rfl
  refine PySem.W.osa_openX b.st I.kIn J T.ov ht fun bb => ?_
  have lc : PySem.W.Looks (model X.prog X.w) hp (classData C) _ := PySem.W.looks_clsIn I.kIn (by unfold PySem.W.clsIn; rw [hC])
  have apart : a ≠ hp.objs.size := Nat.ne_of_lt (Heap.lt_size ho)
  show wpAny _ _ (Builtin.ObjectAttr.storeInOwnDict (.ref a) (.ref C) _ f u bb) _ _ _
  unfold Builtin.ObjectAttr.storeInOwnDict Builtin.ObjectAttr.ownDictForStores
  repeat
    first
    | with_reducible refine HandSPX.store_in_new ?_ ?_
    | with_reducible refine wpAny_loadPart_at ho ?_
    | with_reducible refine lc.at ?_
    | wp_step
  · have new := Heap.get?_push_at (h := hp) (o := { cls := .type "dict", data := .dict #[] }) (a := hp.objs.size) rfl rfl
    refine ⟨_, #[], _, (Heap.get?_update_ne _ _ _ _ apart.symm).trans new, rfl, ?_, fun _ => rfl⟩
    exact fun _ he => absurd he (by simp)
  · intro h' tk' hn' hs
    have old : (hp.push { cls := .type "dict", data := .dict #[] }).get? a = some ({ cls := .ref C, dict := none, data := .fields #[.ref t1, .none, .none, .none, .bool false, .none] } : Obj) := Heap.get?_push_of_some _ ho
    have hx := (hs.2 a apart).trans (Heap.get?_update_self _ old rfl)
    refine h hp.objs.size _ (I.hok.fresh (Nat.le_refl _)) apart.symm (exo_dict (tk := tk) (tk' := tk') I e ?_ (Nat.le_refl _) apart.symm hx hn' ry)
    intro b' o hb ho'
    rw [hs.2 b' (Nat.ne_of_lt (Heap.lt_size ho')), Heap.get?_update_ne _ _ _ _ hb]
    exact Heap.get?_push_of_some _ ho'
theorem kinit_ok {s : Shared} {us : List Value} {Q : Value → Shared → Prop} {E : Value → Shared → Prop} {A : Around} {B initId : String} {t : List Value} (b : KBase B initId t) (T : KxC X.K C B t) (I : Inv X pins σ H s) (e : H a = some (exo a C none)) (hl : us.length ≤ sizeLine) (h : ∀ s', Inv X pins σ H s' → Q .none s') :
    wpAny (model X.prog X.w) A (call (.builtin initId) (.ref a :: us)) Q E s := by
  obtain ⟨nm, q, N, bs, bm, sn, sub, ab, col, dd, k0, k1, k2, k3, k5, hC, hm⟩ := leB_ok T.look
  obtain ⟨t1, ho⟩ := exo_at I.hok e
  obtain ⟨hp, g, d, tk, os⟩ := s
  refine wpAny_call (kinit_base b.ini hm (I.kIn _ _ hC) ho (fun h' t2 k hx => ?_) hl)
  have J := I.write (x := a) (e := a) (o := exo a C none) (t' := tk) (by rw [e]; trivial) (Or.inl rfl) k ⟨_, hx⟩ (exo_ok hx)
  have same : upd H a (exo a C none) = H := funext fun b' => by
    by_cases hb : b' = a
    · subst hb; rw [upd_same, e]
    · rw [upd_ne hb]
  exact h _ (same ▸ J)
end

/-! ### the statements of such an __init__, the call, raise -/
def tKin (K : PySem.W.Frag) (B : String) (t : List Value) (ta : TA) : TE := fun σ H Q => ta σ H fun vs H1 => ∃ (a C : Addr) (ws : List V), vs = .ref a :: ws ∧ ws.length ≤ 1000 ∧ KxC K C B t ∧ H1 a = some (exo a C none) ∧ Q .non H1
def tKst (K : PySem.W.Frag) (B : String) (t : List Value) (f : Str) (to te : TE) : TS := fun D σ H => te σ H fun y H1 => to σ H1 fun x H2 => ∃ a C : Addr, x = .ref a ∧ KxC K C B t ∧ PySem.W.findIn K (.ref C) f = some none ∧
  H2 a = some (exo a C none) ∧ ∀ dx, H2 dx = none → dx ≠ a → D.nx σ (upd (upd H2 dx (exd dx [(f, y)])) a (exo a C (some dx)))
structure KName (K : PySem.W.Frag) (Ba : Addr) (initId : String) : Prop where
  rd : PySem.W.readsIn K Ba (.type "type") = true
  ga : PySem.W.specialIn K (.ref Ba) "__getattribute__" = some (some (.builtin "type.__getattribute__"))
  at_ : PySem.W.findCls K (.ref Ba) (.type "type") "__init__" = some (.val (.builtin initId))
section
variable {X : Cx} {o e : Expr} {es : List Expr} {to te : TE} {ta : TA} {x f : Str} {p1 p2 p' pos : Pos} {Ba : Addr} {B initId : String} {t : List Value}
theorem pe_kinit (b : KBase B initId t) (hh : PySem.W.handedIn (.builtin initId) = true) (hb : KName X.K Ba initId) (hg : Gl X x) (hm : X.mg x = some (.ref Ba)) (ha : PA X (e :: es) ta) (hdb : (x == ("__debug__" : Str)) = false := by decide) {pl : Sem Bool}
    (hc : eval (.Call (.Attribute (.Name x p1) "__init__" p2) (e :: es) [] pos) X.env = (do
      let ov ← eval (.Name x p1) X.env
      standAt p2.atName
      let (f, first) ← holding [ov] (getMethod ov "__init__" pl)
      callWith pos f first (backTo pos (starEach (e :: es) X.env)) (backToKw pos (keywordEach [] X.env))) := by rfl)
    (he : starEach (e :: es) X.env = (false, eval e X.env) :: starEach es X.env := by rfl) (hpl : (backTo pos (starEach es X.env)).any (·.1) = false := by rfl) :
    PE X (.Call (.Attribute (.Name x p1) "__init__" p2) (e :: es) [] pos) (tKin X.K B t ta) := by
  constructor
  intro pins s σ H Q I h
  apply PySem.W.methodCall_KW (ld_glob I hg hm _ hdb) hc
  apply PySem.W.method_cls I.kIn hb.ga
  apply PySem.W.cls_value I.kIn hb.rd hb.at_ hh
  refine PyProof.Rows.callWith_method1 (thn (ha.run pos pins _ σ H _ (I.tok _) h) ?_) he hpl
  rintro us s1 ⟨vs, H1, I1, r1, a, C, ws, ev, hl, T, ea, q⟩
  subst ev
  obtain ⟨u0, ur, rfl, ra, rw'⟩ : ∃ u0 ur, us = u0 :: ur ∧ RelV (.ref a) u0 ∧ Vals ws ur := by
    cases r1 with
    | cons ra rw' => exact ⟨_, _, rfl, ra, rw'⟩
  have eu : u0 = Value.ref a := ra
  subst eu
  have hn : ur.length ≤ sizeLine := by
    have := Paired.length rw'
    have z := sizeLine_eq
    omega
  exact kinit_ok b T I1 ea hn fun s' J => ⟨.non, H1, J, rfl, q⟩
theorem ps_kst (b : KBase B initId t) (ho : PE X o to) (he : PE X e te) (hs : swapsWith e (some (.Attribute o f p')) pos.line X.env = pure false := by rfl) : PS X (.Assign [.Attribute o f p'] e pos) (tKst X.K B t f to te) := by
  constructor
  intro pins s σ H D I h
  apply plainObj_wpAny_Assign_Attribute _ hs
  apply thn (he.run pins s σ H _ I h)
  rintro v s1 ⟨y, H1, I1, r1, q1⟩
  apply thn (ho.run pins s1 σ H1 _ I1 q1)
  rintro u s2 ⟨z, H2, I2, r2, a, C, ez, T, hno, ea, q⟩
  subst ez
  have eu : u = Value.ref a := r2
  subst eu
  exact kst_new b T I2 ea hno r1 fun dx s' n ne J => ⟨σ, _, J, q dx n ne⟩
end
def tMkK (K : PySem.W.Frag) (C : Addr) (sp : Sp) (ta : TA) : L2.St → Hp → XK → Prop := fun σ H Q => ta σ H fun vs H1 => vs.length ≤ 1000 ∧ ∀ a, H1 a = none → sp (.ref a :: vs) (upd H1 a (exo a C none))
  (fun v H2 => v = .non ∧ ∃ (d : Addr) (fs : List (Str × V)), H2 a = some (exo a C (some d)) ∧ H2 d = some (exd d fs) ∧ H1 d = none ∧ Q (.ref C) (some d) (upd (L2.del H2 a) d (.xd fs))) fun _ _ _ => False
theorem pmk_kex {X : Cx} {e : Expr} {ta : TA} {x : Str} {p pos : Pos} {C fI : Addr} {k : Nat} {fd : FuncData} {ps : List Str} {sp : Sp} {B : String} {t : List Value} (T : KxC X.K C B t) (iC : PySem.W.findIn X.K (.ref C) "__init__" = some (some (.ref fI))) (tI : PySem.W.typeIn X.K (.ref fI) = some (.type "function"))
    (F1 : FnOk X.prog X.w X.K X.mg X.base (L2.CX X.prog X.w) k fI fd ps sp) (hr : Room (k + 1) X.A) (hb : Binds X.K fd ps []) (hg : Gl X x) (hm : X.mg x = some (.ref C)) (ha : PA X [e] ta) (hdb : (x == ("__debug__" : Str)) = false)
    (he : starEach (e :: []) X.env = (false, eval e X.env) :: starEach [] X.env) : PMk X (.Call (.Name x p) [e] [] pos) (tMkK X.K C sp ta) := by
  intro pins s σ H Q I h
  obtain ⟨nm, q, N, bs, bm, sn, sub, ab, col, dd, k0, k1, k2, k3, k5, hC, hx⟩ := leB_ok T.look
  apply wpAny_Call_Name_kw
  apply ld_glob I hg hm _ hdb
  apply PySem.W.callWith_K (h₀ := X.base) I.ok.mod.kin T.kC _ he rfl
  apply thn (ha.run pos pins s σ H _ I h)
  rintro us s1 ⟨vs, H1, I1, r1, hz, q1⟩
  refine ⟨I1.kIn, ?_⟩
  show wpAny _ _ (call (.ref C) us) _ _ _
  obtain ⟨hp, g, dr, tk, os⟩ := s1
  have above : hp.objs.size ≤ hp.objs.size + 1 := Nat.le_succ _
  have hq := q1 (hp.objs.size + 1) (I1.hok.fresh above)
  have kp : ∀ b o, hp.get? b = some o → ((hp.push (PySem.W.kdv_tup us)).push (HandSPX.excO C hp.objs.size)).get? b = some o := by
    intro b o e
    apply Heap.get?_push_of_some
    exact Heap.get?_push_of_some _ e
  have gE : ((hp.push (PySem.W.kdv_tup us)).push (HandSPX.excO C hp.objs.size)).get? (hp.objs.size + 1) = some (HandSPX.excO C hp.objs.size) := by heap_get
  have I2 := I1.laid (a := hp.objs.size + 1) (o := exo (hp.objs.size + 1) C none) (t' := tk) kp above (exo_ok gE)
  have r2 : Vals (V.ref (hp.objs.size + 1) :: vs) (Value.ref (hp.objs.size + 1) :: us) := .cons rfl r1
  have hl : (Value.ref (hp.objs.size + 1) :: us).length = ps.length := r2.length.symm.trans (F1.len _ _ _ _ hq)
  have few : us.length ≤ sizeLine := by
    have e1 := Paired.length r1
    have e2 := sizeLine_eq
    omega
  have bind := hb _ (Value.ref (hp.objs.size + 1) :: us) I2.kIn (by simpa using hl)
  rw [List.append_nil] at bind
  refine wpAny_call (kcall hx (I1.kIn _ _ hC) few (PySem.W.looks_findIn I1.kIn iC) (fun self => PySem.W.bind_fn I1.kIn self tI) (codeAny_mono (F1.run _ X.stack _ _ ⟨Value.ref (hp.objs.size + 1) :: us, []⟩ _ _ _ (fun _ _ _ => False) (hr.make C us []) (I2.env0.make C us []) bind r2 hq) ?_))
  intro r s' z
  match r, z with
  | .error er, z => exact passL pins σ _ _ er s' I2 z
  | .ok .next, z => exact False.elim z
  | .ok .brk, z => exact False.elim z
  | .ok .cont, z => exact False.elim z
  | .ok (.ret u), z =>
    obtain ⟨v, H2, os2, bare2, un2, hok2, rv, ev, d, fs, ea, ed, hd1, q2⟩ := z
    subst ev
    obtain ⟨h2, g2, d2, t2, os'⟩ := s'
    exact ⟨rv, mk_end (raises_own T.exC T.tyC) I1 above kp un2 hok2 os2 bare2 ea ed hd1 q2⟩
def spKi (K : PySem.W.Frag) (C : Addr) (B : String) (t : List Value) (f : Str) : Sp := fun vs H Q _ => ∃ (a : Addr) (v : V), vs = [.ref a, v] ∧ KxC K C B t ∧ PySem.W.findIn K (.ref C) f = some none ∧ H a = some (exo a C none) ∧
  ∀ d, H d = none → d ≠ a → Q .non (upd (upd H d (exd d [(f, v)])) a (exo a C (some d)))
section
variable {P : Program} {w : World} {K : PySem.W.Frag} {mg : Str → Option Value} {base : Heap}
theorem kinit_fn {qual p f m : Str} {st : Stmt} {fI C : Addr} {fd : FuncData} {B : String} {t : List Value} (F : Fun K "__init__" qual st fI fd) (S : FnScope ["self", p] ["self", p] (defScope st))
    (hbody : ∀ (cdv : Value) (A : Around) (outer : List PySem.Env) (s : Shared) (H : Hp) (E : XK),
      PSs (cxOf (L2.CX P w) P w K mg base ["self", p] qual (defScope st) fI cdv A outer s H E) (defBody st) (tSeq (tDrop (tKin K B t (tCons (tVar 0) (tCons (tC (.str m)) tNil)))) (tKst K B t f (tVar 0) (tVar 1)))) :
    FnOk P w K mg base (L2.CX P w) 1 fI fd ["self", p] (spKi K C B t f) := by
  refine Fun.okX F S ?_ ?_
  · rintro vs H Q E ⟨a, v, rfl, _⟩; rfl
  · rintro cdv A outer s H vs Q E hr ⟨a, v, rfl, T, hno, ea, h⟩
    refine ⟨_, hbody cdv A outer s H E, .ref a, rfl, a, C, [.str m], rfl, Nat.le_of_ble_eq_true rfl, T, ea, ?_⟩
    exact ⟨v, rfl, .ref a, rfl, a, C, rfl, T, hno, ea, fun d hd ne => h d hd ne⟩
theorem xcl_KE {x f p : Str} {C fI : Addr} {fd : FuncData} {B : String} {t : List Value} (hm : mg x = some (.ref C)) (T : KxC K C B t) (xf : XfC K C) (no : PySem.W.findIn K (.ref C) f = some none) (iC : PySem.W.findIn K (.ref C) "__init__" = some (some (.ref fI)))
    (tI : PySem.W.typeIn K (.ref fI) = some (.type "function")) (F1 : FnOk P w K mg base (L2.CX P w) 1 fI fd ["self", p] (spKi K C B t f)) (hb : Binds K fd ["self", p] []) (hdb : (x == ("__debug__" : Str)) = false) : XCl P w K mg base x f C := by
  refine ⟨hm, xf, no, ?_⟩
  rintro X e m px pos rfl rfl rfl rfl rfl hr hg pe he pins s σ H Q I h
  refine pmk_kex T iC tI F1 hr hb hg hm (pa_cons pe pa_nil he) hdb he pins s σ H Q I ?_
  refine td_mono (fun v H1 q => ?_) h
  refine ⟨by show 1 ≤ 1000; decide, fun a ha => ⟨a, v, rfl, T, no, upd_same, fun dx hd ne => ?_⟩⟩
  have hd1 : H1 dx = none := by rw [upd_ne ne] at hd; exact hd
  refine ⟨rfl, dx, [(f, v)], upd_same, ?_, hd1, ?_⟩
  · rw [upd_ne ne, upd_same]
  · rw [exo_out ha hd1 ne]
    exact q dx hd1
end
end DL

set_option Elab.async false
set_option linter.all false
set_option maxRecDepth 100000
set_option maxHeartbeats 4000000
set_option autoImplicit false
/-! X8: xs.pop(i), xs.index(y). -/
namespace DL
open PySem PySem.Spec L2 Evl PyProof.Rows
section
variable {X : Cx} {K : PySem.W.Frag}
theorem RepL.eraseIdx {F : Hp} : ∀ {vs : List V} {ds : List D} (n : Nat), RepL K F vs ds → RepL K F (vs.eraseIdx n) (ds.eraseIdx n)
  | _, _, _, .nil => by simp; exact .nil
  | _, _, 0, .cons a r => by simpa using r
  | _, _, n + 1, .cons a r => by simpa using .cons a (RepL.eraseIdx n r)
@[simp] def mPop (j : Nat) (a : DM) : DM := fun env R => ownL env j ∧ a env fun x e => x.con e fun kd => match kd, e[j]? with
  | .int k, some (.own b (.lst xs)) => ∃ n y, seqIndex? k xs.length = some n ∧ Fits62 k ∧ xs[n]? = some y ∧ R (.vl y) (e.set j (.own b (.lst (xs.eraseIdx n))))
  | _, _ => False
theorem dpop (i : Nat) {x : Str} {e : Expr} {m : DM} {px apos cpos : Pos} (hN : X.N[i]? = some x) (hv : Vis X.env.scope x) (h : DE X e m)
    (hd : (x == ("__debug__" : Str)) = false := by decide) (hcd : (x == ("__classdict__" : Str)) = false := by decide)
    (h1 : attributeBase (.Name x px) "pop" X.env (eval (.Name x px) X.env) = eval (.Name x px) X.env := by rfl)
    (h2 : ((((backTo cpos (starEach [e] X.env)).all fun x => !x.fst) && (backToKw cpos (keywordEach [] X.env)).all fun x => x.fst.isSome) && decide (([e].length + ([] : List Keyword).length + if ([] : List Keyword).isEmpty = true then 0 else 1) < 30)) = true := by rfl)
    (h3 : (apos.endLine == cpos.line) = true := by rfl) (h4 : starEach [e] X.env = (false, eval e X.env) :: starEach [] X.env := by rfl) (h5 : ((backTo cpos (starEach [] X.env)).any fun x => x.fst) = false := by rfl) :
    DE X (.Call (.Attribute (.Name x px) "pop" apos) [e] [] cpos) (mPop i m) := by
  obtain ⟨t, p, ev⟩ := h
  refine ⟨_, pe_bm PySem.F.plainAttrs_list PySem.F.slot_list_pop PySem.F.type_list_pop mt_popAt (pe_var hN hv hd hcd) (pa_cons p pa_nil h4) h1 h2 h3 h4 h5, ?_⟩
  intro C F env σ H R Q I h k
  obtain ⟨p0, vs0, q0, q1⟩ := ownL_at I h.1
  refine ⟨.ref p0, q0, Or.inl ⟨rfl, _, sq_of q1⟩, ?_⟩
  refine ev C F env σ H _ _ I h.2 ?_
  intro l e1 F1 v H1 h1 A1 r1
  obtain ⟨d, h2, s1⟩ := A1.ok.see r1 h1
  split at h2
  · rename_i kk b xs he
    obtain ⟨n, y, g1, g2, g3, g4⟩ := h2
    obtain ⟨p1, o, z1, z2, z3, z4, z5, z6⟩ := A1.ok.owns i b _ he
    rw [q0] at z1
    cases z1
    obtain ⟨vs, rfl, rl⟩ := lst_of z3
    obtain ⟨w, w1, w2⟩ := rl.get g3
    have ft : -(2 ^ 62) ≤ kk ∧ kk < 2 ^ 62 := by unfold Fits62 at g2; exact g2
    have own : Owns e1 σ i p0 := ⟨b, _, he, q0⟩
    have I2 := A1.ok.change (o := .lst (vs.eraseIdx n)) (d := .lst (xs.eraseIdx n)) he q0 (rl.eraseIdx n)
    refine ⟨p0, vs, kk, n, w, rfl, by rw [s1.int], z2, by omega, by omega, by rw [rl.length]; exact g1, w1, ?_⟩
    refine k (.vl y) _ F1 w _ g4 (A1.trans ?_) w2
    exact {
      ok := I2, ex := Ex.refl _
      fr := fun a u e nn => by
        rw [upd_ne]
        · exact e
        · rintro rfl; exact nn i own
      nw := fun _ _ e _ => e
      al := fun a e => by
        by_cases q : a = p0
        · subst q; rw [upd_same]; exact fun z => nomatch z
        · rw [upd_ne q]; exact e
      le := fun jj bb dd q => by
        by_cases z : i = jj
        · subst z
          have hj : i < e1.length := by
            rcases Nat.lt_or_ge i e1.length with z | z
            · exact z
            · rw [List.getElem?_eq_none z] at he; cases he
          rw [List.getElem?_set_self hj] at q
          cases q
          exact ⟨_, he⟩
        · rw [List.getElem?_set_ne z] at q
          exact ⟨dd, q⟩ }
  · exact h2.elim
theorem seqIx_nat {n k : Nat} (h : k < n) : seqIndex? (k : Int) n = some k := by
  unfold seqIndex?
  have h1 : ¬ ((k : Int) < 0) := by omega
  have h2 : (0 : Int) ≤ (k : Int) := by omega
  have h3 : (k : Int) < (n : Int) := by omega
  simp [h1, h2, h3]
@[simp] def mIndex (a b : DM) : DM := fun env R => a env fun x e1 => x.con e1 fun d => match d with
  | .lst _ => b e1 fun y e2 => x.con e2 fun d2 => y.con e2 fun dy => match d2 with
    | .lst xs => ∃ j : Nat, dy.flat = true ∧ xs.all D.flat = true ∧ (∃ z, xs[j]? = some z ∧ feq z dy = true) ∧ (∀ (m : Nat) (z : D), m < j → xs[m]? = some z → feq z dy = false) ∧ R (.vl (.int (j : Int))) e2
    | _ => False
  | _ => False
theorem dindex {o e : Expr} {m1 m2 : DM} {apos cpos : Pos} (ho : DE X o m1) (h : DE X e m2)
    (h1 : attributeBase o "index" X.env (eval o X.env) = eval o X.env := by rfl)
    (h2 : ((((backTo cpos (starEach [e] X.env)).all fun x => !x.fst) && (backToKw cpos (keywordEach [] X.env)).all fun x => x.fst.isSome) && decide (([e].length + ([] : List Keyword).length + if ([] : List Keyword).isEmpty = true then 0 else 1) < 30)) = true := by rfl)
    (h3 : (apos.endLine == cpos.line) = true := by rfl) (h4 : starEach [e] X.env = (false, eval e X.env) :: starEach [] X.env := by rfl) (h5 : ((backTo cpos (starEach [] X.env)).any fun x => x.fst) = false := by rfl) :
    DE X (.Call (.Attribute o "index" apos) [e] [] cpos) (mIndex m1 m2) := by
  obtain ⟨ta, pa, ea⟩ := ho
  obtain ⟨tb, pb, eb⟩ := h
  refine ⟨_, pe_bm PySem.F.plainAttrs_list PySem.F.slot_list_index PySem.F.type_list_index mt_index pa (pa_cons pb pa_nil h4) h1 h2 h3 h4 h5, ?_⟩
  intro C F env σ H R Q I h k
  refine ea C F env σ H _ _ I h ?_
  intro x e1 F1 v H1 h1 A1 r1
  obtain ⟨d, h2, s1⟩ := A1.ok.see r1 h1
  split at h2
  · rename_i xs0
    obtain ⟨p, vs0, rfl, q1, _⟩ := s1.lst A1.ok.sub
    refine ⟨Or.inl ⟨rfl, _, sq_of q1⟩, ?_⟩
    refine eb C F1 e1 σ H1 _ _ A1.ok h2 ?_
    intro y e2 F2 w H2 h3 A2 r2
    obtain ⟨d2, h4, s2⟩ := A2.ok.see (r1.on A2) h3
    obtain ⟨dy, h5, s3⟩ := A2.ok.see r2 h4
    split at h5
    · rename_i xs
      obtain ⟨j, g1, g2, ⟨z, g3, g4⟩, g5, g6⟩ := h5
      obtain ⟨p', vs, e0, q2, rl⟩ := s2.lst A2.ok.sub
      cases e0
      obtain ⟨u, u1, u2⟩ := rl.get g3
      have A := A1.trans A2
      have fw := s3.flat g1
      have fl : ∀ (n : Nat) (c : D), xs[n]? = some c → c.flat = true := fun n c e => List.all_eq_true.mp g2 c (List.mem_of_getElem? e)
      refine ⟨_, vs, w, j, u, rfl, rfl, sq_of q2, fw.flat g1, rl.flat g2, u1, ?_, ?_, k _ e2 F2 _ H2 g6 A (Rep.int _)⟩
      · rw [u2.eqV fw (fl j z g3) g1, g4]
      · intro m z' hm hz
        obtain ⟨c, c1, c2⟩ := rl.getV hz
        rw [c2.eqV fw (fl m c c1) g1, g5 m c hm c1]
    · exact h5.elim
  · exact h2.elim
end
end DL

set_option Elab.async false
set_option linter.all false
set_option maxRecDepth 100000
set_option maxHeartbeats 4000000
set_option autoImplicit false
/-! X9: defs as values; calls of a name that holds one of several defs; dict displays with entries. -/
namespace DL
open PySem PySem.Spec L2 Evl PyProof.Rows
section
variable {X : Cx} {cm : Nat → Value} {pos : Pos}
theorem dgfn {x : Str} {f : Addr} (hg : Gl X x) (h : X.mg x = some (.ref f) ∧ PySem.W.keepIn X.K (.ref f) = true) (hd : (x == ("__debug__" : Str)) = false := by decide) : DE X (.Name x pos) (mC (.fn f)) :=
  dglob (v := .ref f) hg h.1 rfl (fun _ => .fn f h.2) hd
end
section
variable {X : Cx} {cm : Nat → Value} {k : Nat} {st : Stmt} {ps ks : List Str} {x : Str} {p pos : Pos} {e : Expr} {es : List Expr} {kws : List Keyword} {t tk : TA}
def tCallV (i : Nat) (S : Addr → Sp → Prop) (E : L2.St → XK) (t : TA) : TE := fun σ H Q => ∃ f sp, σ[i]? = some (some (.ref f)) ∧ S f sp ∧ t σ H fun vs H1 => sp vs H1 Q (E σ)
def CanX (X : Cx) (f : Addr) (sp : Sp) : Prop := ∃ k fd ps, Room k X.A ∧ FnG X.prog X.w X.K X.mg X.base (L2.CX X.prog X.w) k f fd ps sp ∧ PySem.W.keepIn X.K (.ref f) = true ∧ Binds X.K fd ps []
theorem pe_callV {E : L2.St → XK} {S : Addr → Sp → Prop} (i : Nat) (A : ∀ f sp, S f sp → CanX X f sp) (hgd : X.A.guards = some []) (hN : X.N[i]? = some x) (hv : Vis X.env.scope x) (hx : ∀ σ, PassesAt (L2.CX X.prog X.w) X σ (E σ))
    (ha : PA X (e :: es) t) (hdb : (x == ("__debug__" : Str)) = false := by decide) (hcd : (x == ("__classdict__" : Str)) = false := by decide)
    (he : starEach (e :: es) X.env = (false, eval e X.env) :: starEach es X.env := by rfl) (hpl : (backTo pos (starEach es X.env)).any (·.1) = false := by rfl) :
    PE X (.Call (.Name x p) (e :: es) [] pos) (tCallV i S E t) := by
  constructor
  rintro pins s σ H Q I ⟨f, sp, hs, hS, ht⟩
  obtain ⟨k, fd, ps, hr, F, hk, hb⟩ := A f sp hS
  apply wpAny_Call_Name_kw
  apply thn ((pe_var (pos := p) hN hv hdb hcd).run pins s σ H (fun v H1 => v = .ref f ∧ H1 = H) I ⟨.ref f, hs, rfl, rfl⟩)
  rintro u s1 ⟨v, H1, I1, r1, rfl, rfl⟩
  cases r1
  apply PySem.W.callWith_K (h₀ := X.base) I1.ok.mod.kin hk _ he hpl
  apply thn (ha.run pos pins s1 σ _ _ I1 ht)
  rintro us s2 ⟨vs, H2, I2, r, q⟩
  refine ⟨I2.kIn, ?_⟩
  have hl : us.length = ps.length := r.length.symm.trans (F.len _ _ _ _ q)
  have b := hb s2 us I2.kIn (by simpa using hl)
  rw [List.append_nil] at b
  exact run_gS (args := ⟨us, []⟩) F hgd hr b (hx σ) I2 r q
def tCallVK (i : Nat) (S : Addr → Sp → Prop) (gV : List V → List V → List V) (E : L2.St → XK) (tk : TA) : TE := fun σ H Q => ∃ f sp, σ[i]? = some (some (.ref f)) ∧ S f sp ∧ tk σ H fun zs H2 => sp (gV [] zs) H2 Q (E σ)
def CanK (X : Cx) (ks : List Str) (g : List Value → List Value → List Value) (gV : List V → List V → List V) (f : Addr) (sp : Sp) : Prop :=
  ∃ k fd ps, Room k X.A ∧ FnG X.prog X.w X.K X.mg X.base (L2.CX X.prog X.w) k f fd ps sp ∧ PySem.W.keepIn X.K (.ref f) = true ∧ KBinds X.K fd ps ks g gV
theorem pe_callVK {E : L2.St → XK} {S : Addr → Sp → Prop} {g : List Value → List Value → List Value} {gV : List V → List V → List V} (i : Nat) (A : ∀ f sp, S f sp → CanK X ks g gV f sp) (hgd : X.A.guards = some []) (hN : X.N[i]? = some x) (hv : Vis X.env.scope x) (hx : ∀ σ, PassesAt (L2.CX X.prog X.w) X σ (E σ))
    (hkw : PK X kws tk) (hall : (backToKw pos (keywordEach kws X.env)).all (·.1.isSome) = true := by rfl) (hks : (backToKw pos (keywordEach kws X.env)).filterMap (·.1) = ks := by rfl)
    (hdb : (x == ("__debug__" : Str)) = false := by decide) (hcd : (x == ("__classdict__" : Str)) = false := by decide)
    (hpl : ((backTo pos (starEach [] X.env)).any (·.1) || (backToKw pos (keywordEach kws X.env)).any (·.1.isNone)) = false := by rfl) : PE X (.Call (.Name x p) [] kws pos) (tCallVK i S gV E tk) := by
  constructor
  rintro pins s σ H Q I ⟨f, sp, hs, hS, ht⟩
  obtain ⟨k, fd, ps, hr, F, hk, hb⟩ := A f sp hS
  apply wpAny_Call_Name_kw
  apply thn ((pe_var (pos := p) hN hv hdb hcd).run pins s σ H (fun v H1 => v = .ref f ∧ H1 = H) I ⟨.ref f, hs, rfl, rfl⟩)
  rintro u s1 ⟨v, H1, I1, r1, rfl, rfl⟩
  cases r1
  apply PySem.W.callWith_KW0 (h₀ := X.base) I1.ok.mod.kin hk hall _ hpl
  apply thn (hkw.run pos pins s1 σ _ _ I1 ht)
  rintro ws s2 ⟨zs, H2, I2, rz, q2⟩
  refine ⟨I2.kIn, ?_⟩
  rw [hks]
  have r2 := hb.rel (vs := []) (us := []) .nil rz
  have hl : (g [] ws).length = ps.length := r2.length.symm.trans (F.len _ _ _ _ q2)
  exact run_gS (args := ⟨[], ks.zip ws⟩) F hgd hr (hb.to s2 [] ws I2.kIn hl) (hx σ) I2 r2 q2

abbrev Cands := List (Addr × DSpecX)
def CanL (X : Cx) (cm : Nat → Value) (cs : Cands) : Prop := ∀ c ∈ cs, CanX X c.1 (spX X.K cm c.2)
def CanLK (X : Cx) (cm : Nat → Value) (ks : List Str) (n m : Nat) (perm : List Nat) (cs : Cands) : Prop := ∀ c ∈ cs, CanK X ks (arrN n m perm) (arrN n m perm) c.1 (spX X.K cm c.2)
theorem canl_nil : CanL X cm [] := fun c h => nomatch h
theorem canl_cons {sd : DSpecX} {f : Addr} {cs : Cands} (c : CalX X.prog X.w X.K X.mg cm X.base x st k ps sd) (h : X.mg x = some (.ref f) ∧ PySem.W.keepIn X.K (.ref f) = true) (hr : Room k X.A) (r : CanL X cm cs) : CanL X cm ((f, sd) :: cs) := by
  intro z hz
  rcases List.mem_cons.mp hz with rfl | hz
  · obtain ⟨f', fd, F, G, hm, hb⟩ := c.ex
    have e : f' = f := by
      have := hm.symm.trans h.1
      cases this; rfl
    subst e
    exact ⟨k, fd, ps, hr, G, h.2, hb⟩
  · exact r z hz
theorem canlk_nil {n m : Nat} {perm : List Nat} : CanLK X cm ks n m perm [] := fun c h => nomatch h
theorem canlk_cons {n m : Nat} {perm : List Nat} {sd : DSpecX} {f : Addr} {cs : Cands} (c : CalX X.prog X.w X.K X.mg cm X.base x st k ps sd) (h : X.mg x = some (.ref f) ∧ PySem.W.keepIn X.K (.ref f) = true) (hr : Room k X.A) (hp : ps ≠ [])
    (hb : ∀ (kV doc pm : Value) (an : Option Addr) (cdv ct : Value) (us ws : List Value), us.length = n → ws.length = m → bindArgs (PySem.W.fnOf x x (defArgs st) (defBody st) (defScope st) .none kV doc pm an cdv ct) ⟨us, ks.zip ws⟩ = pure (ps.zip (arr perm us ws)))
    (r : CanLK X cm ks n m perm cs) : CanLK X cm ks n m perm ((f, sd) :: cs) := by
  intro z hz
  rcases List.mem_cons.mp hz with rfl | hz
  · obtain ⟨f', fd, F, G, hm, _⟩ := c.ex
    have e : f' = f := by
      have := hm.symm.trans h.1
      cases this; rfl
    subst e
    exact ⟨k, fd, ps, hr, G, h.2, kbinds_of F n m perm hp hb⟩
  · exact r z hz
@[simp] def mCallVX (i : Nat) (cs : Cands) (a : DMC) : XP → DM := fun PX env R => ∃ (n : Nat) (f : Addr) (sd : DSpecX), env[i]? = some (.val (.fn f)) ∧ cs[n]? = some (f, sd) ∧ a env fun as e => apart e as = true ∧ sd (as.map (resolve e)) (fun r ss => R r (putB as ss e)) fun x fs ss => PX x fs (putB as ss e)
@[simp] def mCallVKX (i : Nat) (cs : Cands) (gC : List CA → List CA → List CA) (b : DMC) : XP → DM := fun PX env R => ∃ (n : Nat) (f : Addr) (sd : DSpecX), env[i]? = some (.val (.fn f)) ∧ cs[n]? = some (f, sd) ∧ b env fun bs e2 => apart e2 (gC [] bs) = true ∧ sd ((gC [] bs).map (resolve e2)) (fun r ss => R r (putB (gC [] bs) ss e2)) fun x fs ss => PX x fs (putB (gC [] bs) ss e2)
theorem dex_callV (i : Nat) {cs : Cands} (A : CanL X cm cs) (hgd : X.A.guards = some []) (hN : X.N[i]? = some x) (hv : Vis X.env.scope x) {mc : DMC} (h : DC X (e :: es) mc)
    (hdb : (x == ("__debug__" : Str)) = false := by decide) (hcd : (x == ("__classdict__" : Str)) = false := by decide) (he : starEach (e :: es) X.env = (false, eval e X.env) :: starEach es X.env := by rfl) (hpl : (backTo pos (starEach es X.env)).any (·.1) = false := by rfl) :
    DEx X cm (.Call (.Name x p) (e :: es) [] pos) (mCallVX i cs mc) := fun W tk => by
  obtain ⟨t, pa, ev⟩ := h
  refine ⟨_, pe_callV (S := fun f sp => ∃ n sd, cs[n]? = some (f, sd) ∧ sp = spX X.K cm sd) i (fun f sp => fun ⟨n, sd, hn, hs⟩ => hs ▸ A _ (List.mem_of_getElem? hn)) hgd hN hv (passAt tk) pa hdb hcd he hpl, ?_⟩
  rintro C F env σ H PX R Q I ⟨n, f, sd, hi, hn, h⟩ kx k
  obtain ⟨v, hv, rv⟩ := I.vals i _ hi
  cases rv
  refine ⟨f, _, hv, ⟨n, sd, hn, rfl⟩, ?_⟩
  refine ev C F env σ H _ _ I h ?_
  intro as e1 F1 vs H1 h1 A1 r1
  exact call_coreX A1 r1 h1.1 h1.2 kx fun r ss F' v H' hR A2 r2 => k r _ F' v H' hR A2 r2
theorem dex_callVK (i : Nat) {cs : Cands} (m : Nat) (perm : List Nat) (A : CanLK X cm ks 0 m perm cs) (hgd : X.A.guards = some []) (hN : X.N[i]? = some x) (hv : Vis X.env.scope x) {mk : DMC} (h2 : DK X kws mk)
    (hall : (backToKw pos (keywordEach kws X.env)).all (·.1.isSome) = true := by rfl) (hks : (backToKw pos (keywordEach kws X.env)).filterMap (·.1) = ks := by rfl)
    (hdb : (x == ("__debug__" : Str)) = false := by decide) (hcd : (x == ("__classdict__" : Str)) = false := by decide)
    (hpl : ((backTo pos (starEach [] X.env)).any (·.1) || (backToKw pos (keywordEach kws X.env)).any (·.1.isNone)) = false := by rfl) :
    DEx X cm (.Call (.Name x p) [] kws pos) (mCallVKX i cs (arrN 0 m perm) mk) := fun W tk => by
  obtain ⟨t2, pk, ek⟩ := h2
  refine ⟨_, pe_callVK (gV := arrN 0 m perm) (S := fun f sp => ∃ n sd, cs[n]? = some (f, sd) ∧ sp = spX X.K cm sd) i (fun f sp => fun ⟨n, sd, hn, hs⟩ => hs ▸ A _ (List.mem_of_getElem? hn)) hgd hN hv (passAt tk) pk hall hks hdb hcd hpl, ?_⟩
  rintro C F env σ H PX R Q I ⟨n, f, sd, hi, hn, h⟩ kx k
  obtain ⟨v, hv, rv⟩ := I.vals i _ hi
  cases rv
  refine ⟨f, _, hv, ⟨n, sd, hn, rfl⟩, ?_⟩
  refine ek C F env σ H _ _ I h ?_
  intro bs e2 F2 zs H2 h2 A2 r2
  exact call_coreX A2 (arrN_ca _ F2 σ [] zs [] bs .nil r2) h2.1 h2.2 kx fun r ss F' v H' hR A3 r3 => k r _ F' v H' hR A3 r3
end

/-! ### dict displays of constants -/
section
variable {X : Cx} {pos : Pos}
@[simp] def conD (kvs : List (Str × Str)) : D := .dic (kvs.map fun kv => (.inr kv.1, .str kv.2))
@[simp] def mDCon (kvs : List (Str × Str)) : DM := fun env R => R (.tm (conD kvs)) env
def conV (kvs : List (Str × Str)) : List (Key × V) := kvs.map fun kv => (.inr kv.1, .str kv.2)
theorem pairs_con {σ : L2.St} {H : Hp} : ∀ {kvs : List (Str × Str)} {Q : List (V × V) → Hp → Prop}, Q ((conV kvs).map fun kv => (kV kv.1, kv.2)) H → tPairs (kvs.map fun kv => (tC (.str kv.1), tC (.str kv.2))) σ H Q
  | [], Q, h => h
  | kv :: r, Q, h => pairs_con (kvs := r) (Q := fun ps H3 => Q ((V.str kv.1, V.str kv.2) :: ps) H3) h
theorem rep_con {K : PySem.W.Frag} {F : Hp} : ∀ {kvs : List (Str × Str)}, (∀ kv ∈ kvs, PyData.strOk kv.2 = true) → RepL K F ((conV kvs).map (·.2)) ((kvs.map fun kv => ((.inr kv.1 : Key), D.str kv.2)).map (·.2))
  | [], _ => .nil
  | kv :: r, h => .cons (.str _ (h kv (by simp))) (rep_con (kvs := r) fun x hx => h x (by simp [hx]))
theorem ddcon (kvs : List (Str × Str)) {keys : List (Option Expr)} {values : List Expr} (h : PPs X pos keys values (kvs.map fun kv => (tC (.str kv.1), tC (.str kv.2)))) (ok : ∀ kv ∈ kvs, PyData.strOk kv.2 = true)
    (hm : mergeK [] (conV kvs) = conV kvs) (h15 : keys.length ≤ 15) (hl : keys.length = values.length) (h0 : keys ≠ []) (hk : kvs.length = keys.length) (hall : keys.all (·.isSome) = true) : DE X (.Dict keys values pos) (mDCon kvs) := by
  refine ⟨_, pe_disp h hall hl h0 h15, ?_⟩
  intro C F env σ H R Q I h k p hp
  refine pairs_con ⟨upd_same, conV kvs, rfl, by unfold conV; rw [List.length_map]; omega, ?_⟩
  rw [hm]
  rw [upd_upd]
  exact k _ env F _ _ h (I.tmp hp (.dK (conV kvs))) ⟨p, .dK (conV kvs), rfl, upd_same, ⟨by unfold conV; rw [List.map_map, List.map_map]; rfl, rep_con ok⟩, I.fnone hp, I.gnone hp, I.unowned hp, hp⟩
end
end DL

set_option Elab.async false
set_option linter.all false
set_option maxRecDepth 100000
set_option maxHeartbeats 4000000
set_option autoImplicit false
/-! X10: e[::-1] of lists and texts; range(i, j, -1). -/
namespace DL
open PySem PySem.Spec L2 Evl PyProof.Rows
@[simp] def revS (s : Str) : Str := ⟨s.cps.toList.reverse.toArray⟩
theorem picked_rev (x : Str) (t : Tok) : ((PySem.slicePicked x none none (some (-1, t))).filterMap (x.cps[·]?)).toArray = x.cps.toList.reverse.toArray := by
  unfold PySem.slicePicked
  show ((sliceRange ((x.cps.size : Int) - 1) (-1) (-1)).filterMap (x.cps[·]?)).toArray = _
  rw [PySem.W.krv_sliceRange, PySem.W.krv_range, List.filterMap_reverse, PySem.W.krv_all]
def tRevA (K : PySem.W.Frag) (te : TE) : TE := fun σ H Q => te σ H fun x H1 => (∃ a xs, x = .ref a ∧ SqL K H1 a xs ∧ ∀ p, H1 p = none → Q (.ref p) (upd H1 p (.lst xs.reverse))) ∨ ∃ z, x = .str z ∧ z.length ≤ sizeLine ∧ Q (.str (revS z)) H1
section
variable {X : Cx} {pos : Pos}
theorem pe_revA {e : Expr} {te : TE} {k : Nat} {p1 p2 p3 : Pos} (he : PE X e te) : PE X (.Subscript e (.Slice none none (some (.UnaryOp .USub (.Constant (.int 1) k p1) p2)) p3) pos) (tRevA X.K te) := by
  constructor
  intro pins s σ H Q I h
  apply Subscript_
  apply thn (he.run pins s σ H _ I h)
  rintro v s1 ⟨x, H1, I1, r1, q1⟩
  have hst : PO X (some (.UnaryOp .USub (.Constant (.int 1) k p1) p2)) (tPart (tUn (rU fun i => .int (-i)) (tC (.int 1)))) := po_some (pe_un un_neg pe_int)
  apply wpAny_Slice
  apply thn (po_none.run pins s1 σ H1 (fun o H2 => o = none ∧ H2 = H1) I1 ⟨rfl, rfl⟩)
  rintro vl s2 ⟨l, H2, I2, pl, rfl, rfl⟩
  apply thn (po_none.run pins s2 σ H2 (fun o H3 => o = none ∧ H3 = H2) I2 ⟨rfl, rfl⟩)
  rintro vu s3 ⟨u, H3, I3, pu, rfl, rfl⟩
  apply thn (hst.run pins s3 σ H3 (fun o H4 => o = some (-1) ∧ H4 = H3) I3 ⟨1, rfl, -1, rfl, rfl, rfl⟩)
  rintro vs s4 ⟨o, H4, I4, ps, rfl, rfl⟩
  have I5 : Inv X pins σ H4 { s4 with heap := s4.heap.push { cls := .type "slice", data := .fields #[vl, vu, vs] } } := I4.kept (t' := s4.toks) fun b ob q => Heap.get?_push_of_some _ q
  rcases q1 with ⟨a, xs, rfl, hx, q⟩ | ⟨z, rfl, hz, q⟩
  · cases r1
    obtain ⟨its, r, ht, hl⟩ := I5.list hx
    have hlen := r.length
    show wpAny (model X.prog X.w) X.A (subscriptTail e (.Slice none none (some (.UnaryOp .USub (.Constant (.int 1) k p1) p2)) p3) (.ref a) (.ref s4.heap.objs.size)) _ _ _
    apply tail_any (ops := [.ref a, .ref s4.heap.objs.size]) ht.isList.typeIs PySem.slot_list_getitem.lookup _ (by with_unfolding_all rfl)
    apply wpAny_getItem_list_slice ht.isList (Heap.IsSliceOf.new _ vl vu vs) pl pu ps (by decide) _ (by rw [List.size_toArray]; omega)
    rw [PySem.W.krv_pick]
    exact ⟨.ref _, _, I5.laid (t' := s4.toks) (o := .lst xs.reverse) (fun b ob q => Heap.get?_push_of_some _ q) (Nat.le_refl _) ⟨by rw [List.length_reverse]; exact hl, _, 0, r.reverse, Heap.get?_push_size _ rfl⟩, rfl, q _ (I5.hok.fresh (Nat.le_refl _))⟩
  · obtain ⟨t, rfl⟩ := r1
    obtain ⟨l, rfl, hl⟩ := IsPart.raw pl
    obtain ⟨u, rfl, hu⟩ := IsPart.raw pu
    obtain ⟨w, rfl, hw⟩ := IsPart.raw ps
    cases l with
    | some l => cases hl
    | none =>
    cases u with
    | some u => cases hu
    | none =>
    cases w with
    | none => cases hw
    | some w =>
    obtain ⟨w0, tw⟩ := w
    cases hw
    show wpAny (model X.prog X.w) X.A (subscriptTail e (.Slice none none (some (.UnaryOp .USub (.Constant (.int 1) k p1) p2)) p3) (.str z t) (.ref s4.heap.objs.size)) _ _ _
    apply tail_any (ops := [.str z t, .ref s4.heap.objs.size]) (typeIs_str _ _ _) F.slot_str_getitem.lookup _ (by with_unfolding_all rfl)
    refine wpAny_getItem_str_slice (l := none) (u := none) (st := some (-1, tw)) ⟨_, Heap.get?_push_size _ rfl, rfl, rfl⟩ rfl ?_
    unfold sliceMade
    rw [if_neg (by simp), picked_rev]
    exact ⟨by show z.cps.toList.reverse.toArray.size ≤ _; rw [List.size_toArray, List.length_reverse, Array.length_toList]; exact hz, .str _, H4, I5.tok _, ⟨_, rfl⟩, q⟩
theorem sOk_rev {s : Str} (h : PyData.strOk s = true) : PyData.strOk (revS s) = true := by
  refine sOk_sub h fun c m => ?_
  have m' : c ∈ s.cps.toList.reverse := by simpa using m
  exact List.mem_reverse.mp m'
@[simp] def mRevA (a : DM) : DM := fun env R => a env fun x e1 => x.con e1 fun d => match d with
  | .lst xs => R (.tm (.lst xs.reverse)) e1
  | .str s => s.length ≤ sizeLine ∧ R (.vl (.str (revS s))) e1
  | _ => False
theorem drevA {e : Expr} {m : DM} {k : Nat} {p1 p2 p3 : Pos} (he : DE X e m) : DE X (.Subscript e (.Slice none none (some (.UnaryOp .USub (.Constant (.int 1) k p1) p2)) p3) pos) (mRevA m) := by
  obtain ⟨t, p, ev⟩ := he
  refine ⟨_, pe_revA p, ?_⟩
  intro C F env σ H R Q I h k
  refine ev C F env σ H _ _ I h ?_
  intro x e1 F1 v H1 h1 A1 r1
  obtain ⟨d, h2, s1⟩ := A1.ok.see r1 h1
  have g : Gives X.K C F1 e1 σ H1 (fun r => R r e1) Q := fun l F' w H' hl A' r' => k l e1 F' w H' hl (A1.trans A') (r'.from fun p => A1.back)
  cases d with
  | lst xs =>
    obtain ⟨p, vs, rfl, q1, q2⟩ := s1.lst A1.ok.sub
    exact Or.inl ⟨p, vs, rfl, sq_of q1, fun a ha => g.lst A1.ok h2 q2.reverse a ha⟩
  | str s => exact Or.inr ⟨s, s1.str.1, h2.1, g.str A1.ok (sOk_rev s1.str.2) h2.2⟩
  | _ => exact h2.elim
@[simp] def downD (i : Int) (n : Nat) : List D := (List.range n).map fun (k : Nat) => .int (i - (k : Int))
@[simp] def mRange3 (m1 m2 m3 : DM) : DMI := fun env R => m1 env fun x e1 => m2 e1 fun y e2 => m3 e2 fun z e3 => x.con e3 fun d => y.con e3 fun d' => z.con e3 fun d'' => match d, d', d'' with
  | .int i, .int j, .int c => c = -1 ∧ Fits62 i ∧ Fits62 j ∧ R (downD i (i - j).toNat) [] e3
  | _, _, _ => False
theorem it_down {K : PySem.W.Frag} {C : Ct} {F0 : Hp} {σ0 : L2.St} {lo : Int} {n : Nat} : IterOk K C F0 σ0 (Itc lo (-1) n) (downD lo n) [] := by
  intro i F env σ H I _ _ _
  have hl : (downD lo n).length = n := by simp
  rw [hl]
  refine ⟨fun hi => ⟨hi, fun x H' y => ?_⟩, fun hi => hi⟩
  obtain ⟨rfl, rfl⟩ := y
  refine ⟨F, .int (lo - (i : Int)), by simp [hi], I.aft, ?_⟩
  rw [show lo + (i : Int) * -1 = lo - (i : Int) by omega]
  exact Rep.int _
theorem di_range3 {tg a b c : Expr} {m n l : DM} {p : Pos} (hg : Gl X "range") (hm : X.mg "range" = none) (h : DE X a m) (h2 : DE X b n) (h3 : DE X c l) (hs : starEach [a, b, c] X.env = (false, eval a X.env) :: starEach [b, c] X.env := by rfl)
    (hs2 : starEach [b, c] X.env = (false, eval b X.env) :: starEach [c] X.env := by rfl) (hs3 : starEach [c] X.env = (false, eval c X.env) :: starEach [] X.env := by rfl) (hpl : (backTo pos (starEach [b, c] X.env)).any (·.1) = false := by rfl) :
    DI X tg (.Call (.Name "range" p) [a, b, c] [] pos) (mRange3 m n l) := by
  obtain ⟨t, q, ev⟩ := h
  obtain ⟨u, q2, ev2⟩ := h2
  obtain ⟨w, q3, ev3⟩ := h3
  refine ⟨_, pi_range3 hg hm (pa_cons q (pa_cons q2 (pa_cons q3 pa_nil hs3) hs2) hs) hs hpl, ?_⟩
  intro C F env σ H R Q I h k
  refine ev C F env σ H _ _ I h ?_
  intro x e1 F1 v H1 h1 A1 r1
  refine ev2 C F1 e1 σ H1 _ _ A1.ok h1 ?_
  intro y e2 F2 w H2 h2 A2 r2
  refine ev3 C F2 e2 σ H2 _ _ A2.ok h2 ?_
  intro z e3 F3 o H3 h3 A3 r3
  obtain ⟨d, h4, s1⟩ := A3.ok.see ((r1.on A2).on A3) h3
  obtain ⟨d', h5, s2⟩ := A3.ok.see (r2.on A3) h4
  obtain ⟨d'', h6, s3⟩ := A3.ok.see r3 h5
  have A := (A1.trans A2).trans A3
  split at h6
  · rename_i i j c
    obtain ⟨rfl, f1, f2, h7⟩ := h6
    exact ⟨i, j, -1, _, by rw [s1.int, s2.int, s3.int], RgC.neg f1.lo f1.hi f2.lo f2.hi, k _ [] e3 F3 H3 _ h7 A it_down trivial⟩
  · exact h6.elim
end
end DL
namespace DL
open PySem PySem.Spec L2 Evl PyProof.Rows
/-! ### text * number -/
def repS (s : Str) (k : Nat) : Str := ⟨(List.replicate k s.cps.toList).flatten.toArray⟩
theorem fold_arr {α : Type} (a : Array α) : ∀ (k : Nat) (acc : Array α), (List.replicate k a).foldl (· ++ ·) acc = acc ++ (List.replicate k a.toList).flatten.toArray
  | 0, acc => by simp
  | k + 1, acc => by
    rw [List.replicate_succ, List.foldl_cons, fold_arr a k, List.replicate_succ, List.flatten_cons]
    apply Array.toList_inj.mp
    simp [Array.append_assoc]
def rRepS : R2 := fun x y H Q => ∃ (s : Str) (k : Int), x = .str s ∧ y = .int k ∧ -(2 ^ 62) ≤ k ∧ k < 100000 ∧ s.length * k.toNat ≤ 1000000 ∧ Q (.str (repS s k.toNat)) H
theorem op_repS {X : Cx} : OpR X (binaryOp .Mult) rRepS := by
  intro pins s σ H x y v u Q I rx ry h
  obtain ⟨z, k, rfl, rfl, h1, h2, h3, q⟩ := h
  obtain ⟨t, rfl⟩ := rx
  obtain ⟨t', rfl⟩ := ry
  refine PySem.P.mul_str ?_ (fun a b => ?_) (fun a b => ?_) ?_
  · rw [decide_eq_false (by omega), decide_eq_false (by omega)]; rfl
  · have hk : 1 ≤ k := by omega
    have hk' : k ≠ 1 := fun e => by rw [e] at b; simp at b
    have h4 : (z.length : Int) * k ≤ 1000000 := by
      have : k = ((k.toNat : Nat) : Int) := by omega
      rw [this]
      rw [← Int.natCast_mul]
      omega
    intro h5
    have h6 : (2 ^ 63 - 1) / k * k ≤ 2 ^ 63 - 1 := Int.ediv_mul_le _ (by omega)
    have h7 : (2 ^ 63 - 1 : Int) < ((2 ^ 63 - 1) / k + 1) * k := Int.lt_ediv_add_one_mul_self _ (by omega)
    have h8 : ((2 ^ 63 - 1) / k + 1) * k ≤ (z.length : Int) * k := Int.mul_le_mul_of_nonneg_right (by omega) (by omega)
    omega
  · unfold Builtin.Str.tooLong
    exact decide_eq_false (by have : (1000000 : Nat) ≤ sizeLine := Nat.le_of_ble_eq_true rfl; omega)
  · by_cases c : k < 1
    · rw [if_pos c]
      have e : repS z k.toNat = Str.empty := by unfold repS; rw [show k.toNat = 0 by omega]; rfl
      rw [e] at q
      exact ⟨by decide, .str _, H, I.tok _, ⟨_, rfl⟩, q⟩
    · rw [if_neg c]
      by_cases b : (k == 1 || z.length == 0) = true
      · rw [if_pos b]
        have e : repS z k.toNat = z := by
          have ext : ∀ l : List Nat, l = z.cps.toList → (⟨l.toArray⟩ : Str) = z := fun l e => by subst e; cases z; simp
          refine ext _ ?_
          rcases Bool.or_eq_true _ _ ▸ b with e | e
          · rw [show k = 1 by simpa using e]; simp
          · have : z.cps.toList = [] := by
              have hz : z.length = 0 := by simpa using e
              exact List.length_eq_zero_iff.mp (by rw [Array.length_toList]; exact hz)
            rw [this]; simp
        rw [e] at q
        exact ⟨.str z, H, I, ⟨t, rfl⟩, q⟩
      · rw [if_neg b, fold_arr]
        have e : (#[] ++ (List.replicate k.toNat z.cps.toList).flatten.toArray : Array Nat) = (repS z k.toNat).cps := by simp [repS]
        rw [e]
        refine ⟨?_, .str _, H, I.tok _, ⟨_, rfl⟩, q⟩
        show (repS z k.toNat).cps.size ≤ _
        unfold repS
        rw [List.size_toArray, List.length_flatten]
        have : (1000000 : Nat) ≤ sizeLine := Nat.le_of_ble_eq_true rfl
        have e2 : z.cps.toList.length = z.length := Array.length_toList
        simp only [List.map_replicate, List.sum_replicate_nat, e2]
        rw [Nat.mul_comm]
        omega
section
variable {K : PySem.W.Frag} {X : Cx}
@[simp] def aMulA (d e : D) (R : RV → Prop) : Prop := match d, e with
  | .str s, .int k => -(2 ^ 62) ≤ k ∧ k < 100000 ∧ s.length * k.toNat ≤ 1000000 ∧ R (.vl (.str (repS s k.toNat)))
  | d, e => aMul d e R
def rMulA : R2 := fun x y H Q => rMulD x y H Q ∨ rRepS x y H Q
theorem op_mulA : OpR X (binaryOp .Mult) rMulA := by
  intro pins s σ H x y v u Q I rx ry h
  rcases h with h | h
  · exact op_mulD pins s σ H x y v u Q I rx ry h
  · exact op_repS pins s σ H x y v u Q I rx ry h
theorem sOk_rep {s : Str} {k : Nat} (h : PyData.strOk s = true) : PyData.strOk (repS s k) = true := by
  refine sOk_sub h fun c m => ?_
  have m' : c ∈ (List.replicate k s.cps.toList).flatten := by simpa [repS] using m
  obtain ⟨l, h1, h2⟩ := List.mem_flatten.mp m'
  rwa [(List.mem_replicate.mp h1).2] at h2
theorem o2_mulA : Op2 K rMulA aMulA := by
  intro C F env σ H v w d e R Q I s1 s2 h g
  unfold aMulA at h
  split at h
  · obtain ⟨h1, h2, h3, h4⟩ := h
    exact Or.inr ⟨_, _, s1.str.1, s2.int, h1, h2, h3, g.str I (sOk_rep s1.str.2) h4⟩
  · exact Or.inl (o2_mul C F env σ H v w _ _ R Q I s1 s2 h g)
end
end DL

set_option Elab.async false
set_option linter.all false
set_option maxRecDepth 100000
set_option maxHeartbeats 4000000
set_option autoImplicit false
/-! X11: calls whose first argument may raise. -/
namespace DL
open PySem PySem.Spec L2 Evl PyProof.Rows
abbrev DMCX := XP → DMC
def EvCx (K : PySem.W.Frag) (cm : Nat → Value) (W : WX) (m : DMCX) (t : TA) : Prop := ∀ C F env σ H (PX : XP) R (Q : List V → Hp → Prop), Ok K C F env σ H → m PX env R → ConnX K cm W C PX →
  (∀ as env' F' vs H', R as env' → Aft K C F env σ H F' env' H' → CAs K F' σ vs as → Q vs H') → t σ H Q
def DCx (X : Cx) (cm : Nat → Value) (es : List Expr) (m : DMCX) : Prop := ∀ W, Takes X W → ∃ t, PA X es t ∧ EvCx X.K cm W m t
@[simp] def mcConsX (a : XP → DM) (r : DMC) : DMCX := fun PX env R => a PX env fun x e1 => match x with
  | .vl d => r e1 fun as e2 => R (.vl d :: as) e2
  | .tm d => r e1 fun as e2 => R (.vl d :: as) e2
  | .sl i => r e1 fun as e2 => R (.sl i :: as) e2
section
variable {X : Cx} {cm : Nat → Value} {k : Nat} {st : Stmt} {ps : List Str} {x : Str} {p pos : Pos} {e : Expr} {es : List Expr}
theorem dcx_first {m : XP → DM} {mc : DMC} (h : DEx X cm e m) (hr : DC X es mc) (hs : starEach (e :: es) X.env = (false, eval e X.env) :: starEach es X.env := by rfl) : DCx X cm (e :: es) (mcConsX m mc) := fun W tk => by
  obtain ⟨t, p, ev⟩ := h W tk
  obtain ⟨u, q, er⟩ := hr
  refine ⟨_, pa_cons p q hs, ?_⟩
  intro C F env σ H PX R Q I h kx k
  refine ev C F env σ H PX _ _ I h kx ?_
  intro x e1 F1 v H1 h1 A1 r1
  have kept : ∀ d : D, x.get e1 (fun d' => d' = d) → mc e1 (fun as e2 => R (.vl d :: as) e2) → u σ H1 fun xs H2 => Q (v :: xs) H2 := fun d hd h2 => by
    obtain ⟨F2, d', rfl, A2, ex, rp⟩ := A1.keepIt r1 hd
    refine er C F2 e1 σ H1 _ _ A2.ok h2 ?_
    intro as e3 F3 vs H3 h3 A3 r3
    exact k (.vl d' :: as) e3 F3 (v :: vs) H3 h3 (A2.trans A3) (.cons (rp.mono A3.ex) r3)
  cases x with
  | vl d => exact kept d rfl h1
  | tm d => exact kept d rfl h1
  | sl i =>
    refine er C F1 e1 σ H1 _ _ A1.ok h1 ?_
    intro as e3 F3 vs H3 h3 A3 r3
    exact k (.sl i :: as) e3 F3 (v :: vs) H3 h3 (A1.trans A3) (.cons r1 r3)
@[simp] def mCallA (sd : DSpec) (a : DMCX) : XP → DM := fun PX env R => a PX env fun as e => apart e as = true ∧ sd (as.map (resolve e)) fun r ss => R r (putB as ss e)
theorem dex_callA {sd : DSpec} (c : Cal X.prog X.w X.K X.mg X.base x st k ps sd) (hgd : X.A.guards = some []) (hr : Room k X.A) (hg : Gl X x) {mc : DMCX} (h : DCx X cm (e :: es) mc)
    (hdb : (x == ("__debug__" : Str)) = false := by decide) (he : starEach (e :: es) X.env = (false, eval e X.env) :: starEach es X.env := by rfl) (hpl : (backTo pos (starEach es X.env)).any (·.1) = false := by rfl) :
    DEx X cm (.Call (.Name x p) (e :: es) [] pos) (mCallA sd mc) := fun W tk => by
  obtain ⟨f, fd, F, G, hm, hb⟩ := c.ex
  obtain ⟨t, pa, ev⟩ := h W tk
  refine ⟨_, pe_callG (E := E0) G hgd hr hg hm F.kp hb .nil pass0 pa hdb he hpl, ?_⟩
  intro C F env σ H PX R Q I h kx k
  refine ev C F env σ H PX _ _ I h kx ?_
  intro as e1 F1 vs H1 h1 A1 r1
  have r2 : CAs X.K F1 σ (vs ++ []) as := by rw [List.append_nil]; exact r1
  exact call_core A1 r2 h1.1 h1.2 fun r ss F' v H' hR A2 r2 => k r _ F' v H' hR A2 r2
@[simp] def mCallAX (sd : DSpecX) (a : DMCX) : XP → DM := fun PX env R => a PX env fun as e => apart e as = true ∧ sd (as.map (resolve e)) (fun r ss => R r (putB as ss e)) fun x fs ss => PX x fs (putB as ss e)
theorem dex_callAX {sd : DSpecX} (c : CalX X.prog X.w X.K X.mg cm X.base x st k ps sd) (hgd : X.A.guards = some []) (hr : Room k X.A) (hg : Gl X x) {mc : DMCX} (h : DCx X cm (e :: es) mc)
    (hdb : (x == ("__debug__" : Str)) = false := by decide) (he : starEach (e :: es) X.env = (false, eval e X.env) :: starEach es X.env := by rfl) (hpl : (backTo pos (starEach es X.env)).any (·.1) = false := by rfl) :
    DEx X cm (.Call (.Name x p) (e :: es) [] pos) (mCallAX sd mc) := fun W tk => by
  obtain ⟨f, fd, F, G, hm, hb⟩ := c.ex
  obtain ⟨t, pa, ev⟩ := h W tk
  refine ⟨_, pe_callGS G hgd hr hg hm F.kp hb (passAt tk) pa hdb he hpl, ?_⟩
  intro C F env σ H PX R Q I h kx k
  refine ev C F env σ H PX _ _ I h kx ?_
  intro as e1 F1 vs H1 h1 A1 r1
  exact call_coreX A1 r1 h1.1 h1.2 kx fun r ss F' v H' hR A2 r2 => k r _ F' v H' hR A2 r2
end
end DL

set_option Elab.async false
set_option linter.all false
set_option maxRecDepth 100000
set_option maxHeartbeats 4000000
set_option autoImplicit false
/-! X12: enumerate of a list, a tuple, a text. -/
namespace DL
open PySem PySem.Spec L2 Evl PyProof.Rows
def Ites (x : Str) : It := ⟨fun i _ => i < x.cps.size, fun i H v H' => ∃ T c, v = .ref T ∧ H T = none ∧ x.cps[i]? = some c ∧ H' = upd H T (.tup [.int (i : Nat), .str ⟨#[c]⟩]), fun i _ => x.cps.size ≤ i⟩
def SignP (x : Str) : Nat → Value → Prop := fun i v => ∃ c u, x.cps[i]? = some c ∧ v = .str ⟨#[c]⟩ u
theorem draws_sign {prog : Program} {w : World} {A : Around} (hh : A.handled = none) (it : Addr) (x : Str) (t : Tok) {ty : String} (hty : ty = "str_ascii_iterator" ∨ ty = "str_iterator") :
    Draws prog w A it [it] x.cps.size (SignP x) fun i h => h.IsStrIter it ty x t i := by
  rcases hty with rfl | rfl
  · exact Draws.strAscii hh it x t
  · exact Draws.strWide hh it x t
theorem turn_enumS {P : Program} {w : World} {K : PySem.W.Frag} {elts : List Expr} {kk : Nat} {tpos : Pos} (e it : Addr) (x : Str) (t : Tok) {ty : String} (hty : ty = "str_ascii_iterator" ∨ ty = "str_iterator") :
    Turn P w K (.Tuple elts kk tpos) (Ites x) [e, it] e fun i h => (∃ old, IsEnum h e it ((i : Nat) : Int) old) ∧ h.IsStrIter it ty x t i ∧ e ≠ it where
  mem := by simp
  obj := fun i h st b hb => by
    obtain ⟨⟨old, he⟩, ⟨o, ho, hc, hd⟩, _⟩ := st
    rcases (by simpa using hb : b = e ∨ b = it) with rfl | rfl
    · exact ⟨_, he, fun v q => nomatch q⟩
    · exact ⟨o, ho, fun v q => by rw [hd] at q; cases q⟩
  keep := fun i h h' st k => by
    obtain ⟨⟨old, he⟩, ⟨o, ho, r⟩, hne⟩ := st
    exact ⟨⟨old, k e (by simp) _ he⟩, ⟨o, k it (by simp) o ho, r⟩, hne⟩
  item := by
    rintro X rfl rfl rfl hc i pins s σ H E I hf ⟨⟨old, he⟩, hit, hne⟩ hg
    have hel : e < s.heap.objs.size := Heap.lt_size he
    have hil : it < s.heap.objs.size := by obtain ⟨_, q, _⟩ := hit; exact Heap.lt_size q
    apply wpAny_pyNext_enum_itemD (draws_sign (A := X.A.in1) (I.ok.hd hc) it x t hty) he hit hg hne (by simp [hne])
    rintro v h' tk ⟨c, u, hcx, rfl⟩ ho hst hT hsz hk
    refine ⟨_, rfl, ?_⟩
    apply wpAny_letOwnedTupleGo_enum (s := { s with heap := h', toks := tk + 1 }) ho
    rintro h'' he' sb
    have hT2 : h''.get? s.heap.objs.size = some { cls := .type "tuple", data := .seq #[.int i tk, .str ⟨#[c]⟩ u] } := (sb.2 _ (Nat.ne_of_gt hel)).trans hT
    have new : ObjOk X.prog X.w (upd H s.heap.objs.size (.tup [.int (i : Nat), .str ⟨#[c]⟩])) h'' s.heap.objs.size (.tup [.int (i : Nat), .str ⟨#[c]⟩]) :=
      ⟨by show 2 ≤ sizeLine; decide, [.int i tk, .str ⟨#[c]⟩ u], .cons ⟨_, rfl⟩ (.cons ⟨_, rfl⟩ .nil), ⟨_, hT2, rfl, _, rfl⟩⟩
    have I1 : Inv X pins σ (upd H s.heap.objs.size (.tup [.int (i : Nat), .str ⟨#[c]⟩])) { s with heap := h'', toks := tk + 1 } :=
      I.turnedNew (ch := [e, it]) (fun b ob hb q => (sb.2 b (fun z => hb (by simp [z]))).trans (hk b ob (fun z => hb (by simp [z])) (fun z => hb (by simp [z])) q)) hf (Nat.le_refl _) new
    have up : ((i + 1 : Nat) : Int) = (i : Int) + 1 := by omega
    refine ⟨.ref s.heap.objs.size, _, I1, rfl, ⟨_, c, rfl, I.hok.fresh (Nat.le_refl _), hcx, rfl⟩, ⟨⟨_, by rw [up]; exact he'⟩, ?_, hne⟩, fun b hb => ?_⟩
    · obtain ⟨o, q, r⟩ := hst
      exact ⟨o, (sb.2 it (Ne.symm hne)).trans q, r⟩
    · have lt : b < s.heap.objs.size := by
        rcases (by simpa using hb : b = e ∨ b = it) with rfl | rfl
        · exact hel
        · exact hil
      rw [upd_ne (Nat.ne_of_lt lt)]
      exact (hf b hb).1
  done := by
    rintro X rfl rfl rfl hc i pins s σ H E I hf ⟨⟨old, he⟩, hit, hne⟩ hg
    obtain ⟨f0, f1, f2, f3, f4, f5⟩ := hf it (by simp)
    have hx : x.cps[i]? = none := Array.getElem?_eq_none hg
    have D : Draws X.prog X.w X.A.in1 it [it] i (fun _ _ => True) fun j h => j = i ∧ h.IsStrIter it ty x t i := {
      live := fun _ _ st => by obtain ⟨_, o, q, _⟩ := st; exact ⟨o, q⟩
      frame := fun _ _ _ st hk => by obtain ⟨a, o, q, r⟩ := st; exact ⟨a, o, hk it (by simp) o q, r⟩
      item := fun j s Q E hj st hQ => absurd st.1 (Nat.ne_of_lt hj)
      done := fun s Q E st hE => by
        rcases hty with rfl | rfl
        · exact wpAny_nextOf_ascii_end (A := X.A.in1) (I.ok.hd hc) st.2 hx hE
        · exact wpAny_nextOf_wide_end (A := X.A.in1) (I.ok.hd hc) st.2 hx hE }
    exact wpAny_pyNext_enum_endD D he ⟨rfl, hit⟩ fun h' eb => ⟨rfl, I.turned (t' := s.toks) (fun b o hb q => eb b o hb q) f0 f1 f3 f4 f5⟩
  self := fun A i s Q E st h => by
    obtain ⟨⟨_, he⟩, _⟩ := st
    exact wpAny_pyIter_enum he h
def iEnumB (K : PySem.W.Frag) (ta : TA) : TI := fun σ H R => ta σ H fun vs H1 => (∃ a, vs = [.ref a] ∧ ((∃ xs, SqL K H1 a xs ∧ R (Ite K a) H1) ∨ ∃ xs, SqT K H1 a xs ∧ R (Iten K a) H1)) ∨ ∃ z, vs = [.str z] ∧ R (Ites z) H1
theorem pi_enumB {X : Cx} {e : Expr} {ta : TA} {p pos tpos : Pos} {elts : List Expr} {kk : Nat} (hg : Gl X "enumerate") (hm : X.mg "enumerate" = none) (ha : PA X [e] ta) (hs : starEach [e] X.env = [(false, eval e X.env)] := by rfl) :
    PI X (.Tuple elts kk tpos) (.Call (.Name "enumerate" p) [e] [] pos) (iEnumB X.K ta) := by
  constructor
  intro pins s σ H R I h
  refine Call_ (ld_blt I hg hm boot_enumerate (PyProof.Rows.callWith_type1 (thn (ha.run pos pins s σ H _ I h) ?_) hs rfl))
  rintro us s1 ⟨vs, H1, I1, r1, q1⟩
  have fo : ∀ b ∈ [s1.heap.objs.size + 1, s1.heap.objs.size], FpOk X pins H1 b := fun b hb => by
    have hle : s1.heap.objs.size ≤ b := by
      rcases (by simpa using hb : b = s1.heap.objs.size + 1 ∨ b = s1.heap.objs.size) with rfl | rfl
      · exact Nat.le_succ _
      · exact Nat.le_refl _
    exact I1.fpOk hle (I1.hok.fresh hle)
  rcases q1 with ⟨a, rfl, q1⟩ | ⟨z, rfl, q⟩
  · cases r1 with
    | cons r rr =>
    cases rr
    cases r
    rcases q1 with ⟨xs, hq, q⟩ | ⟨xs, hq, q⟩
    · obtain ⟨its, rv, p', hz⟩ := I1.list hq
      apply call_enumerate_list p'.isList
      rintro h' he hit hsz hk
      apply wpAny_pyIter_enum he
      exact ⟨_, _, _, _, H1, rfl, I1.kept (t' := s1.toks) hk, turn_enum a (s1.heap.objs.size + 1) s1.heap.objs.size, ⟨⟨.none, he⟩, hit, Nat.succ_ne_self _⟩, fo, q⟩
    · obtain ⟨its, rv, p', hz⟩ := I1.tuple hq
      have pt : s1.heap.IsTuple a its.toArray := p'
      have hal : a < s1.heap.objs.size := by obtain ⟨_, y, _⟩ := pt; exact Heap.lt_size y
      apply enum_begins1 (begins_tuple a its.toArray) pt
      rintro h' he hit hsz hk
      apply wpAny_pyIter_enum he
      exact ⟨_, _, _, _, H1, rfl, I1.kept (t' := s1.toks) hk, turn_enumT a (s1.heap.objs.size + 1) s1.heap.objs.size, ⟨⟨.none, he⟩, ⟨_, hit, rfl, rfl⟩, Nat.succ_ne_self _, Nat.ne_of_lt hal, Nat.ne_of_gt (Nat.lt_succ_of_lt hal)⟩, fo, q⟩
  · cases r1 with
    | cons r rr =>
    cases rr
    obtain ⟨t, rfl⟩ := r
    apply call_enumerate_str
    rintro h' he hit hsz hk
    apply wpAny_pyIter_enum he
    have hty : strIterType z = "str_ascii_iterator" ∨ strIterType z = "str_iterator" := by
      unfold strIterType
      split
      · exact Or.inl rfl
      · exact Or.inr rfl
    exact ⟨_, _, _, _, H1, rfl, I1.kept (t' := s1.toks) hk, turn_enumS (s1.heap.objs.size + 1) s1.heap.objs.size z t hty, ⟨⟨.none, he⟩, hit, Nat.succ_ne_self _⟩, fo, q⟩
theorem it_enumS {K : PySem.W.Frag} {C : Ct} {F0 : Hp} {σ0 : L2.St} {z : Str} (hz : PyData.strOk z = true) : IterOk K C F0 σ0 (Ites z) (enumD 0 (signsD z)) [] := by
  intro i F env σ H I e h s
  rw [enumD_length]
  have hl : (signsD z).length = z.cps.size := by simp
  rw [hl]
  refine ⟨fun hi => ⟨hi, fun x H' y => ?_⟩, fun hi => hi⟩
  obtain ⟨T, c, rfl, hT, hc, rfl⟩ := y
  have hc' : z.cps.toList[i]? = some c := by simpa using hc
  obtain ⟨F', B, rp⟩ := lay_pair I hT (Rep.int (i : Int)) (Rep.str _ (strOk_sign hz hc'))
  refine ⟨F', _, ?_, B, rp⟩
  rw [enumD_get, Nat.zero_add]
  simp [hc]
@[simp] def mEnumB (m : DM) : DMI := fun env R => m env fun x e1 => (x.con e1 fun d => match d with
  | .str z => R (enumD 0 (signsD z)) [] e1
  | _ => sqOf x e1 fun ds hold => R (enumD 0 ds) hold e1)
theorem di_enumB {X : Cx} {e : Expr} {p pos tpos : Pos} {elts : List Expr} {kk : Nat} {m : DM} (hg : Gl X "enumerate") (hm : X.mg "enumerate" = none) (h : DE X e m) (hs : starEach [e] X.env = [(false, eval e X.env)] := by rfl) (hs' : starEach [e] X.env = (false, eval e X.env) :: starEach [] X.env := by rfl) :
    DI X (.Tuple elts kk tpos) (.Call (.Name "enumerate" p) [e] [] pos) (mEnumB m) := by
  obtain ⟨t, q, ev⟩ := h
  refine ⟨_, pi_enumB hg hm (pa_cons q pa_nil hs') hs, ?_⟩
  intro C F env σ H R Q I h k
  refine ev C F env σ H _ _ I h ?_
  intro x e1 F1 v H1 h1 A1 r1
  obtain ⟨d, h2, s1⟩ := A1.ok.see r1 h1
  have other : (sqOf x e1 fun ds hold => R (enumD 0 ds) hold e1) → (∃ a, [v] = [V.ref a] ∧ ((∃ xs, SqL X.K H1 a xs ∧ Q (Ite X.K a) H1) ∨ ∃ xs, SqT X.K H1 a xs ∧ Q (Iten X.K a) H1)) ∨ ∃ z, [v] = [.str z] ∧ Q (Ites z) H1 := fun h3 => by
    obtain ⟨F2, a, ds, hold, rfl, hR, A2, ex, hh, nw⟩ := nowA_of A1 r1 (R := fun ds hold => R (enumD 0 ds) hold e1) h3
    rcases nw with ⟨nw, vs, hv⟩ | ⟨nw, vs, hv⟩
    · exact Or.inl ⟨a, rfl, Or.inl ⟨vs, sq_of hv, k _ _ e1 F2 H1 _ hR A2 (it_enum nw) hh⟩⟩
    · exact Or.inl ⟨a, rfl, Or.inr ⟨vs, hv, k _ _ e1 F2 H1 _ hR A2 (it_enumT nw) hh⟩⟩
  split at h2
  · rename_i z
    exact Or.inr ⟨z, by rw [s1.str.1], k _ [] e1 F1 H1 _ h2 A1 (it_enumS s1.str.2) trivial⟩
  · exact other h2
end DL

set_option Elab.async false
set_option linter.all false
set_option maxRecDepth 100000
set_option maxHeartbeats 4000000
set_option autoImplicit false
/-! X13: f(e) of a thing just made, which f may change. -/
namespace DL
open PySem PySem.Spec L2 Evl PyProof.Rows
section
variable {K : PySem.W.Frag} {C : Ct} {F0 F H0 H : Hp} {env0 env : List Slot} {σ : L2.St}
theorem one_ok {p : Addr} {o : HO} {d : D} (s : Ex F H) (hp : H p = some o) (ro : RepO K F o d) (fp : F p = none) : ArgsOk K F [.own true d] [.ref p] H where
  len := rfl
  sub := s
  keep := fun a o e _ => e
  all := fun a e => e
  new := fun a _ e => e
  bas := Ex.refl F
  vals := fun i d e => by
    cases i with
    | zero => cases e
    | succ i => cases e
  owns := fun i b d' e => by
    cases i with
    | zero =>
      cases e
      exact ⟨p, o, rfl, hp, ro, fp, (fun z => by cases z), fun _ => ⟨rfl, ⟨0, true, d, rfl, rfl⟩, by show H p ≠ none; rw [hp]; exact fun z => nomatch z⟩⟩
    | succ i => cases e
  sep := fun i j q a b => by
    obtain ⟨_, _, e, _⟩ := a
    obtain ⟨_, _, e', _⟩ := b
    cases i with
    | succ i => cases e
    | zero =>
      cases j with
      | succ j => cases e'
      | zero => rfl
  pins := fun i ⟨b, d', e⟩ => by
    cases i with
    | zero => cases e; exact ⟨d, rfl⟩
    | succ i => cases e
theorem one_done {p : Addr} {o : HO} {d : D} {r : RV} {ss : List Slot} {F' H' : Hp} {v : V} (A : Aft K C F0 env0 σ H0 F env H) (hp : H p = some o) (gp : C.G p = none) (np : ∀ i, ¬ Owns env σ i p) (h0 : H0 p = none) (dn : Done K F [.own true d] [.ref p] H r ss F' v H') :
    Aft K C F0 env0 σ H0 F' env H' := by
  have I := A.ok
  have nw : ∀ a, a ≠ p → ¬ OwnW [.own true d] [.ref p] a := fun a n ⟨i, _, _, e, s⟩ => by
    cases i with
    | zero => cases s; exact n rfl
    | succ i => cases e
  exact {
    ok := {
      len := I.len
      sub := dn.sub
      keep := fun a o e n => dn.keep a o (I.keep a o e n) (nw a fun z => by rw [z, gp] at e; cases e)
      all := fun a e => dn.all a (I.all a e)
      new := fun a e z => dn.new a (I.all a e) (I.new a e z)
      bas := I.bas.trans dn.ex
      vals := fun i d e => by
        obtain ⟨w, q1, q2⟩ := I.vals i d e
        exact ⟨w, q1, q2.mono dn.ex⟩
      owns := fun i b d e => by
        obtain ⟨q, u, q1, q2, q3, q4, q5, q6⟩ := I.owns i b d e
        exact ⟨q, u, q1, dn.keep q u q2 (nw q fun z => np i ⟨b, d, e, by rw [← z]; exact q1⟩), q3.mono dn.ex, dn.new q (by rw [q2]; exact fun z => nomatch z) q4, q5, q6⟩
      sep := I.sep
      pins := I.pins }
    ex := A.ex.trans dn.ex
    fr := fun a o e n => dn.keep a o (A.fr a o e n) (nw a fun z => by rw [z, h0] at e; cases e)
    nw := fun a e z n => dn.new a (A.al a e) (A.nw a e z n)
    al := fun a e => dn.all a (A.al a e)
    le := A.le }
end
section
variable {X : Cx} {k : Nat} {st : Stmt} {ps : List Str} {x : Str} {p pos : Pos} {e : Expr}
@[simp] def mCallT (sd : DSpec) (m : DM) : DM := fun env R => m env fun x e => match x with
  | .tm d => sd [.own true d] fun r _ => R r e
  | _ => False
theorem dcallT {sd : DSpec} (c : Cal X.prog X.w X.K X.mg X.base x st k ps sd) (hgd : X.A.guards = some []) (hr : Room k X.A) (hg : Gl X x) {m : DM} (h : DE X e m)
    (hdb : (x == ("__debug__" : Str)) = false := by decide) (he : starEach [e] X.env = (false, eval e X.env) :: starEach [] X.env := by rfl) (hpl : (backTo pos (starEach [] X.env)).any (·.1) = false := by rfl) :
    DE X (.Call (.Name x p) [e] [] pos) (mCallT sd m) := by
  obtain ⟨f, fd, F, G, hm, hb⟩ := c.ex
  obtain ⟨t, pa, ev⟩ := h
  refine ⟨_, pe_callG (E := E0) G hgd hr hg hm F.kp hb .nil pass0 (pa_cons pa pa_nil he) hdb he hpl, ?_⟩
  intro C F env σ H R Q I h k
  refine ev C F env σ H _ _ I h ?_
  intro y e1 F1 v H1 h1 A1 r1
  cases y with
  | vl d => exact h1.elim
  | sl i => exact h1.elim
  | tm d =>
    obtain ⟨q, o, rfl, g1, g2, g3, g4, g5, g6⟩ := r1
    refine ⟨F1, [.own true d], _, one_ok A1.ok.sub g1 g2 g3, ?_, h1, ?_⟩
    · intro i d' e
      cases i with
      | zero => cases e
      | succ i => cases e
    · intro r ss F' v H' hR dn
      have B := one_done A1 g1 g4 g5 g6 dn
      refine k r e1 F' v H' hR B ?_
      have rs := dn.res
      cases r with
      | vl d => exact rs
      | tm d =>
        obtain ⟨z, o', rfl, z1, z2, z3, z4⟩ := rs
        have z0 : H z = none := by
          cases hz : H z with
          | none => rfl
          | some u => exact absurd z4 (A1.al z (by rw [hz]; exact fun w => nomatch w))
        exact ⟨z, o', rfl, z1, z2, z3, A1.ok.gnone z4, A1.ok.unowned z4, z0⟩
      | sl i => exact rs.elim
end
end DL

set_option Elab.async false
set_option linter.all false
set_option maxRecDepth 100000
set_option maxHeartbeats 4000000
set_option autoImplicit false
/-! DL19: what most laws draw: numbers out of a box, names. -/
namespace DL
open PySem L2

theorem log2_small {n k : Nat} (hk : 0 < k) (h : n < 2 ^ k) : n.log2 < k := by
  by_cases z : n = 0
  · subst z; simpa using hk
  · exact (Nat.log2_lt z).mpr h
theorem cmul_ok {i j : Int} (h1 : i.natAbs < 2 ^ 4000) (h2 : j.natAbs < 2 ^ 4000) : CMulW i j := by
  have a := log2_small (by decide) h1
  have b := log2_small (by decide) h2
  unfold CMulW
  omega
theorem cmul_s {i j : Int} (h1 : i.natAbs < 18446744073709551616) (h2 : j.natAbs < 18446744073709551616) : CMulW i j :=
  cmul_ok (Nat.lt_of_lt_of_le h1 (by decide +kernel)) (Nat.lt_of_lt_of_le h2 (by decide +kernel))
theorem cpow_s {i j : Int} (h0 : 0 ≤ j) (h1 : j ≤ 1000000) (h2 : i.natAbs < 18446744073709551616) : CPow i j := ⟨h0, h1, h2⟩
theorem clog_s {j : Int} (h : j.natAbs < 18446744073709551616) : j.natAbs.log2 < 9000 := Nat.lt_of_lt_of_le (log2_small (k := 64) (by decide) h) (by decide)

theorem app_list (a b : Str) : (a ++ b).cps.toList = a.cps.toList ++ b.cps.toList := by
  show (a.cps ++ b.cps).toList = _
  simp
theorem len_list (a : Str) : a.length = a.cps.toList.length := by simp [Str.length]
theorem str_ext {a b : Str} (h : a.cps.toList = b.cps.toList) : a = b := by
  cases a; cases b
  simp at h
  simpa using h
section
local macro_rules | `(tactic| k_upd) => `(tactic| (first | exact trivial | exact rfl | ((try dsimp only); first | assumption | exact fits62 (by omega) (by omega) | exact cmul_s (by omega) (by omega) | exact cpow_s (by omega) (by omega) (by omega) | exact And.intro (by omega) (clog_s (by omega)) | exact Nat.le_of_ble_eq_true rfl | decide | omega)))
local macro_rules | `(tactic| k_memK) => `(tactic| first | (refine an_i ?_ ?_; focus k_upd) | refine ex_i rfl ?_ | refine ite_t rfl ?_ | refine ite_f Bool.false_ne_true ?_)
local macro_rules | `(tactic| k_allIn) => `(tactic| repeat k_memK)

def Bx (m : Int) (d : D) : Prop := ∃ a b n : Int, d = .lst [.int a, .int b, .int n] ∧ 0 ≤ a ∧ 0 ≤ b ∧ b < 2147483647 ∧ 0 ≤ n ∧ n ≤ m
theorem Bx.mono {m k : Int} {d : D} (h : Bx m d) (l : m ≤ k) : Bx k d := by
  obtain ⟨a, b, n, h1, h2, h3, h4, h5, h6⟩ := h
  exact ⟨a, b, n, h1, h2, h3, h4, h5, by omega⟩
def takeM (c : Int) : DStm :=
  mSeq (mIfS (mB (mOp2 aGt (mOp2 aIx (mVar 0) (mC (.int 0))) (mC (.int 0)))) (mSeq (mSet 2 (mOp2 aMod (mOp2 aIx (mVar 0) (mC (.int 0))) (mVar 1))) (mSeq (mSetIx 0 (mC (.int 0)) (mOp2 aFdiv (mOp2 aIx (mVar 0) (mC (.int 0))) (mVar 1))) (mRet (mVar 2)))) (mSkip)) (mSeq (mSetIx 0 (mC (.int 2)) (mOp2 aAdd (mOp2 aIx (mVar 0) (mC (.int 2))) (mC (.int 1)))) (mSeq (mSet 3 (mOp2 aMod (mOp2 aPow (mOp2 aAdd (mOp2 aAdd (mOp2 aIx (mVar 0) (mC (.int 1))) (mOp2 aMul (mC (.int 7919)) (mOp2 aIx (mVar 0) (mC (.int 2))))) (mC (.int c))) (mC (.int 5))) (mC (.int 2147483647)))) (mSeq (mSet 4 (mOp2 aMod (mOp2 aPow (mOp2 aAdd (mOp2 aAdd (mOp2 aFdiv (mVar 3) (mC (.int 8))) (mOp2 aMul (mOp2 aMul (mC (.int 96581)) (mOp2 aIx (mVar 0) (mC (.int 2)))) (mOp2 aIx (mVar 0) (mC (.int 2))))) (mC (.int 3))) (mC (.int 3))) (mC (.int 2147483629)))) (mRet (mOp2 aMod (mOp2 aAdd (mOp2 aFdiv (mVar 3) (mC (.int 4))) (mOp2 aMul (mC (.int 536870909)) (mOp2 aFdiv (mVar 4) (mC (.int 4))))) (mVar 1))))))
def sdTake : DSpec := fun args R => ∃ (m many : Int) (d : D), args = [.own true d, .val (.int many)] ∧ Bx m d ∧ m < 900000 ∧ 0 < many ∧ many < 1000000 ∧
  ∀ (k : Int) (d' : D), 0 ≤ k → k < many → Bx (m + 1) d' → R (.vl (.int k)) [.own true d', .no]
theorem take_len : ∀ args R, sdTake args R → args.length = 2 := by
  rintro args R ⟨m, many, d, rfl, _⟩; rfl
theorem take_i {args : List Slot} {R : RV → List Slot → Prop} {m many : Int} {d : D} (B : Bx m d) (hm : m < 900000) (h0 : 0 < many) (h1 : many < 1000000) (e : args = [.own true d, .val (.int many)])
    (k : ∀ (k : Int) (d' : D), 0 ≤ k → k < many → Bx (m + 1) d' → R (.vl (.int k)) [.own true d', .no]) : sdTake args R := ⟨m, many, d, e, B, hm, h0, h1, k⟩
theorem take_spec {c : Int} (hc : c.natAbs < 1000000) : ∀ args R, sdTake args R → takeM c { nx := fun e => R (.vl .non) (outs 2 e), rt := fun r e => R r (outs 2 e) } (startE 5 args) := by
  rintro args R ⟨m, many, d, rfl, ⟨a, b, n, rfl, h3, h4, h5, h6, h7⟩, hm, h1, h2, h8⟩
  have q0 : 0 ≤ 96581 * (n + 1) * (n + 1) := Int.mul_nonneg (by omega) (by omega)
  have q1 : 96581 * (n + 1) * (n + 1) ≤ 96581 * 1000000 * 1000000 := Int.mul_le_mul (by omega) (by omega) (by omega) (by omega)
  k_allIn
  refine ite_i (fun cc => ?_) (fun cc => ?_)
  · k_allIn
    exact h8 _ _ (Int.emod_nonneg _ (by omega)) (Int.emod_lt_of_pos _ h1) ⟨_, b, n, rfl, Int.ediv_nonneg h3 (by omega), h4, h5, h6, by omega⟩
  · k_allIn
    exact h8 _ _ (Int.emod_nonneg _ (by omega)) (Int.emod_lt_of_pos _ h1) ⟨a, b, n + 1, rfl, h3, h4, h5, by omega, by omega⟩
end
end DL

set_option Elab.async false
set_option linter.all false
set_option maxRecDepth 100000
set_option maxHeartbeats 4000000
set_option autoImplicit false
/-! DL20: the drawn names. -/
namespace DL
open PySem L2

def LET : Str := "abcdefghijklmnopqrstuvwxyz"
def okName (s : Str) : Prop := 1 ≤ s.length ∧ s.length ≤ 8 ∧ ∀ c ∈ s.cps.toList, c ∈ LET.cps.toList
structure NamesOk (m : Nat) (l : List Str) : Prop where
  len : l.length = m
  ok : ∀ s ∈ l, okName s
  nd : l.Nodup
def namesM (sd_l_take : DSpec) : DStm :=
  mSeq (mSet 2 (mC (.str "abcdefghijklmnopqrstuvwxyz"))) (mSeq (mUn 2 (gsCons (gN 3) (gsCons (gN 4) (gsNil))) (mTup (mCons (mCall sd_l_take [] (mcCons (mVar 0) (mcCons (mC (.int 3)) (mcNil)))) (mCons (mCall sd_l_take [] (mcCons (mVar 0) (mcCons (mC (.int 26)) (mcNil)))) (mNil))))) (mSeq (mUn 2 (gsCons (gN 5) (gsCons (gN 6) (gsNil))) (mTup (mCons (mOp2 aAdd (mC (.int 1)) (mCall sd_l_take [] (mcCons (mVar 0) (mcCons (mC (.int 8)) (mcNil))))) (mCons (mOp2 aIx (mLst (mCons (mC (.int 1)) (mCons (mC (.int 3)) (mCons (mC (.int 5)) (mCons (mC (.int 7)) (mCons (mC (.int 9)) (mCons (mC (.int 11)) (mCons (mC (.int 15)) (mNil))))))))) (mCall sd_l_take [] (mcCons (mVar 0) (mcCons (mC (.int 7)) (mcNil))))) (mNil))))) (mSeq (mSet 7 (mCall sd_l_take [] (mcCons (mVar 0) (mcCons (mVar 5) (mcNil))))) (mSeq (mSet 8 (mM1 aJoin (mC (.str "")) (mLc (mRange1 (mC (.int 7))) (gN 11) (mYes) (mOp2 aIx (mVar 2) (mCall sd_l_take [] (mcCons (mVar 0) (mcCons (mC (.int 26)) (mcNil))))) [11]))) (mSeq (mIfS (mB (mOp2 aEq (mVar 3) (mC (.int 0)))) (mSeq (mSet 9 (mM1 aSplit (mC (.str "here silent gone top back add begin cut leave stop wrong right lie turn takes gives")) (mC (.str " ")))) (mSeq (mSet 6 (mOp2 aIx (mLst (mCons (mC (.int 1)) (mCons (mC (.int 3)) (mCons (mC (.int 5)) (mCons (mC (.int 7)) (mCons (mC (.int 9)) (mCons (mC (.int 11)) (mCons (mC (.int 13)) (mNil))))))))) (mOp2 aMod (mVar 6) (mC (.int 7))))) (mRet (mLc (mRange1 (mVar 1)) (gN 11) (mYes) (mOp2 aIx (mVar 9) (mOp2 aMod (mOp2 aAdd (mVar 4) (mOp2 aMul (mVar 6) (mVar 11))) (mC (.int 16)))) [11])))) (mSkip)) (mSeq (mIfS (mAndT (mB (mOp2 aEq (mVar 3) (mC (.int 1)))) (mB (mOp2 aLe (mVar 1) (mC (.int 8))))) (mSeq (mSet 8 (mOp2 aAdd (mVar 8) (mOp2 aIx (mVar 2) (mVar 4)))) (mRet (mLc (mRange1 (mVar 1)) (gN 11) (mYes) (mSl (mVar 8) (moNo) (moSo (mOp2 aAdd (mC (.int 1)) (mOp2 aMod (mOp2 aAdd (mVar 7) (mVar 11)) (mC (.int 8)))))) [11]))) (mSkip)) (mSeq (mSet 10 (mLc (mRange1 (mVar 1)) (gN 11) (mYes) (mOp2 aIx (mVar 2) (mOp2 aMod (mOp2 aAdd (mVar 4) (mOp2 aMul (mVar 6) (mVar 11))) (mC (.int 26)))) [11])) (mRet (mLc (mIt (mVar 10)) (gN 12) (mYes) (mOp2 aAdd (mOp2 aAdd (mSl (mVar 8) (moNo) (moSo (mVar 7))) (mVar 12)) (mSl (mVar 8) (moSo (mVar 7)) (moSo (mOp2 aSub (mVar 5) (mC (.int 1)))))) [12])))))))))
def sdNames : DSpec := fun args R => ∃ (m : Int) (many : Nat) (d : D), args = [.own true d, .val (.int many)] ∧ Bx m d ∧ 0 ≤ m ∧ m < 800000 ∧ 1 ≤ many ∧ many ≤ 12 ∧
  ∀ (l : List Str) (d' : D), NamesOk many l → Bx (m + 13) d' → R (.tm (.lst (l.map .str))) [.own true d', .no]
theorem names_len : ∀ args R, sdNames args R → args.length = 2 := by
  rintro args R ⟨m, many, d, rfl, _⟩; rfl
theorem LET_list : LET.cps.toList = (List.range 26).map (· + 97) := by decide +kernel
theorem ixN_nat {n k : Nat} (h : k < n) : ixN n (k : Int) = some k := by
  unfold ixN
  rw [if_pos (by omega)]
  simp [h]
theorem atI_nat {α : Type} {l : List α} {k : Nat} {x : α} (h : l[k]? = some x) : atI l (k : Int) = some x := by
  have hk : k < l.length := by
    rcases Nat.lt_or_ge k l.length with z | z
    · exact z
    · rw [List.getElem?_eq_none z] at h; cases h
  unfold atI
  rw [ixN_nat hk]
  exact h
theorem let_at {k : Nat} (h : k < 26) : atI LET.cps.toList (k : Int) = some (k + 97) := by
  refine atI_nat ?_
  rw [LET_list, List.getElem?_map, List.getElem?_range h]
  rfl
theorem let_mem {k : Nat} (h : k < 26) : k + 97 ∈ LET.cps.toList := by
  rw [LET_list]
  exact List.mem_map.mpr ⟨k, List.mem_range.mpr h, rfl⟩
theorem join_nil_list (l : List Str) : (Txt.join "" l).cps.toList = (l.map fun s => s.cps.toList).flatten := by
  show (Builtin.Str.glued (Str.ofString "") l).cps.toList = _
  rw [StrLaws.glued_eq_join]
  have e : (Str.ofString "").cps.toList = [] := by decide
  induction l with
  | nil => rfl
  | cons a r ih =>
    cases r with
    | nil => simp [Str.join]
    | cons b r =>
      rw [show Str.join (Str.ofString "") (a :: b :: r) = a ++ Str.ofString "" ++ Str.join (Str.ofString "") (b :: r) from rfl, app_list, app_list, ih, e]
      simp
abbrev sg (c : Nat) : Str := ⟨#[c]⟩
def WORDS : List Str := ["here", "silent", "gone", "top", "back", "add", "begin", "cut", "leave", "stop", "wrong", "right", "lie", "turn", "takes", "gives"]
theorem words_split : Txt.split "here silent gone top back add begin cut leave stop wrong right lie turn takes gives" " " = WORDS := by decide +kernel
theorem words_ok : ∀ s ∈ WORDS, okName s := by
  have h : WORDS.all (fun s => decide (1 ≤ s.length) && decide (s.length ≤ 8) && s.cps.toList.all fun c => decide (c ∈ LET.cps.toList)) = true := by decide +kernel
  intro s m
  have := List.all_eq_true.mp h s m
  simp only [Bool.and_eq_true, decide_eq_true_eq, List.all_eq_true] at this
  exact ⟨this.1.1, this.1.2, this.2⟩
theorem words_nd : ∀ i j : Fin 16, WORDS.getD i.val "" = WORDS.getD j.val "" → i = j := by decide +kernel
theorem step_at {st : Int} (h0 : 0 ≤ st) (h1 : st < 7) : ∃ s : Int, atI [D.int 1, .int 3, .int 5, .int 7, .int 9, .int 11, .int 15] st = some (.int s) ∧ (s = 1 ∨ s = 3 ∨ s = 5 ∨ s = 7 ∨ s = 9 ∨ s = 11 ∨ s = 15) := by
  have : st = 0 ∨ st = 1 ∨ st = 2 ∨ st = 3 ∨ st = 4 ∨ st = 5 ∨ st = 6 := by omega
  rcases this with rfl | rfl | rfl | rfl | rfl | rfl | rfl <;> exact ⟨_, rfl, by decide⟩
theorem step_at2 {st : Int} (h0 : 0 ≤ st) (h1 : st < 7) : ∃ s : Int, atI [D.int 1, .int 3, .int 5, .int 7, .int 9, .int 11, .int 13] st = some (.int s) ∧ (s = 1 ∨ s = 3 ∨ s = 5 ∨ s = 7 ∨ s = 9 ∨ s = 11 ∨ s = 13) := by
  have : st = 0 ∨ st = 1 ∨ st = 2 ∨ st = 3 ∨ st = 4 ∨ st = 5 ∨ st = 6 := by omega
  rcases this with rfl | rfl | rfl | rfl | rfl | rfl | rfl <;> exact ⟨_, rfl, by decide⟩
theorem names_range (n : Nat) (nm : Nat → Str) : ((List.range n).filterMap fun k => some (D.str (nm k))) = ((List.range n).map nm).map D.str := by
  rw [List.map_map, ← List.filterMap_eq_map]; rfl
theorem cast_ix (a b k n : Nat) : ((a : Int) + (b : Int) * (k : Int)) % (n : Int) = (((a + b * k) % n : Nat) : Int) := by
  rw [Int.natCast_emod, Int.natCast_add, Int.natCast_mul]
theorem way0_ok {fn sp many : Nat} (hs : sp = 1 ∨ sp = 3 ∨ sp = 5 ∨ sp = 7 ∨ sp = 9 ∨ sp = 11 ∨ sp = 13) (hm : many ≤ 12) : NamesOk many ((List.range many).map fun k => WORDS.getD ((fn + sp * k) % 16) "") := by
  have hl : WORDS.length = 16 := by decide
  have ix : ∀ k, (fn + sp * k) % 16 < WORDS.length := fun k => by rw [hl]; omega
  have gd : ∀ k, WORDS.getD ((fn + sp * k) % 16) "" = WORDS[(fn + sp * k) % 16]'(ix k) := fun k => by rw [List.getD_eq_getElem?_getD, List.getElem?_eq_getElem (ix k)]; rfl
  refine ⟨by simp, fun s m => ?_, nodup_range_map fun i j hi hj e => ?_⟩
  · obtain ⟨k, _, rfl⟩ := List.mem_map.mp m
    rw [gd]
    exact words_ok _ (List.getElem_mem _)
  · have := congrArg Fin.val (words_nd ⟨(fn + sp * i) % 16, by omega⟩ ⟨(fn + sp * j) % 16, by omega⟩ e)
    simp only [] at this
    rcases hs with rfl | rfl | rfl | rfl | rfl | rfl | rfl <;> omega
theorem way1_ok {L : List Nat} {at_ many : Nat} (hL : L.length = 8) (hm : ∀ c ∈ L, c ∈ LET.cps.toList) (h8 : many ≤ 8) : NamesOk many ((List.range many).map fun k => ⟨(L.take (1 + (at_ + k) % 8)).toArray⟩) := by
  refine ⟨by simp, fun s m => ?_, nodup_range_map fun i j hi hj e => ?_⟩
  · obtain ⟨k, _, rfl⟩ := List.mem_map.mp m
    have h : (L.take (1 + (at_ + k) % 8)).length = 1 + (at_ + k) % 8 := by rw [List.length_take, hL]; omega
    refine ⟨?_, ?_, fun c hc => hm c (List.mem_of_mem_take (by simpa using hc))⟩
    · rw [len_list]; simp only []; rw [h]; omega
    · rw [len_list]; simp only []; rw [h]; omega
  · have h := congrArg (fun s : Str => s.cps.toList.length) e
    simp only [List.length_take, hL] at h
    omega
theorem way2_ok {L : List Nat} {at_ z fn sp many : Nat} (hL : L.length = 7) (hm : ∀ c ∈ L, c ∈ LET.cps.toList) (hz : z < 8) (ha : at_ ≤ z) (hs : sp = 1 ∨ sp = 3 ∨ sp = 5 ∨ sp = 7 ∨ sp = 9 ∨ sp = 11 ∨ sp = 15) (hmany : many ≤ 12) :
    NamesOk many ((List.range many).map fun k => ⟨(L.take at_ ++ [(fn + sp * k) % 26 + 97] ++ (L.drop at_).take (z - at_)).toArray⟩) := by
  refine ⟨by simp, fun s m => ?_, nodup_range_map fun i j hi hj e => ?_⟩
  · obtain ⟨k, _, rfl⟩ := List.mem_map.mp m
    have h : (L.take at_ ++ [(fn + sp * k) % 26 + 97] ++ (L.drop at_).take (z - at_)).length = z + 1 := by
      simp only [List.length_append, List.length_take, List.length_drop, List.length_cons, List.length_nil, hL]; omega
    refine ⟨?_, ?_, fun c hc => ?_⟩
    · rw [len_list]; simp only []; rw [h]; omega
    · rw [len_list]; simp only []; rw [h]; omega
    · have hc' : c ∈ L.take at_ ++ [(fn + sp * k) % 26 + 97] ++ (L.drop at_).take (z - at_) := hc
      rcases List.mem_append.mp hc' with q | q
      · rcases List.mem_append.mp q with q | q
        · exact hm c (List.mem_of_mem_take q)
        · rw [List.mem_singleton.mp q]; exact let_mem (Nat.mod_lt _ (by decide))
      · exact hm c (List.mem_of_mem_drop (List.mem_of_mem_take q))
  · have h := congrArg (fun s : Str => s.cps.toList[at_]?) e
    have la : (L.take at_).length = at_ := by rw [List.length_take, hL]; omega
    have g : ∀ c : Nat, (L.take at_ ++ [c] ++ (L.drop at_).take (z - at_))[at_]? = some c := fun c => by
      rw [List.append_assoc, List.getElem?_append_right (by omega), la]; simp
    simp only [g, Option.some.injEq] at h
    rcases hs with rfl | rfl | rfl | rfl | rfl | rfl | rfl <;> omega
section
local macro_rules | `(tactic| k_upd) => `(tactic| (first | exact trivial | exact rfl | ((try dsimp only); first | assumption | exact fits62 (by omega) (by omega) | exact cmul_s (by omega) (by omega) | exact cpow_s (by omega) (by omega) (by omega) | exact And.intro (by omega) (clog_s (by omega)) | exact Nat.le_of_ble_eq_true rfl | decide | omega)))
local macro_rules | `(tactic| k_memK) => `(tactic| first | (refine an_i ?_ ?_; focus k_upd) | refine ex_i rfl ?_ | refine ite_t rfl ?_ | refine ite_f Bool.false_ne_true ?_)
local macro_rules | `(tactic| k_allIn) => `(tactic| repeat k_memK)

set_option pp.deepTerms false
set_option pp.maxSteps 1500
theorem le_line {n : Nat} (h : n ≤ 16000000) : n ≤ sizeLine := Nat.le_trans h (Nat.le_of_ble_eq_true rfl)
theorem cut_list (s : Str) (lo hi : Option Int) : (cutS s lo hi).cps.toList = (s.cps.toList.drop (HT.sIx s.length 0 lo)).take (HT.sIx s.length s.length hi - HT.sIx s.length 0 lo) := by
  unfold cutS; simp
def lastM : DStm :=
  mSeq (mSet 10 (mLc (mRange1 (mVar 1)) (gN 11) mYes (mOp2 aIx (mVar 2) (mOp2 aMod (mOp2 aAdd (mVar 4) (mOp2 aMul (mVar 6) (mVar 11))) (mC (.int 26)))) [11]))
    (mRet (mLc (mIt (mVar 10)) (gN 12) mYes (mOp2 aAdd (mOp2 aAdd (mSl (mVar 8) moNo (moSo (mVar 7))) (mVar 12)) (mSl (mVar 8) (moSo (mVar 7)) (moSo (mOp2 aSub (mVar 5) (mC (.int 1)))))) [12]))
theorem last_ok {R : RV → List Slot → Prop} {many fn sp at_ z : Nat} {d6 : D} {way : Int} {S : Str} (h3 : many ≤ 12) (hf : fn < 26) (hs : sp = 1 ∨ sp = 3 ∨ sp = 5 ∨ sp = 7 ∨ sp = 9 ∨ sp = 11 ∨ sp = 15) (hz : z < 8) (ha : at_ ≤ z) (hS : S.cps.toList.length = 7) (hm : ∀ c ∈ S.cps.toList, c ∈ LET.cps.toList)
    (fin : ∀ l : List Str, NamesOk many l → R (.tm (.lst (l.map .str))) [.own true d6, .no]) :
    lastM { nx := fun e => R (.vl .non) (outs 2 e), rt := fun r e => R r (outs 2 e) } [.own true d6, .val (.int (many : Int)), .val (.str LET), .val (.int way), .val (.int (fn : Int)), .val (.int (1 + (z : Int))), .val (.int (sp : Int)), .val (.int (at_ : Int)), .val (.str S), .no, .no, .no, .no] := by
  have lS : S.length ≤ sizeLine := by rw [len_list, hS]; exact Nat.le_of_ble_eq_true rfl
  k_allIn
  refine compI_range (n := many) (fun k => some (.str (sg ((fn + sp * k) % 26 + 97)))) trivial (by omega) (fun k hk K hK => ?_) ?_
  · k_allIn
    have e : atI LET.cps.toList (((fn : Int) + (sp : Int) * (k : Int)) % 26) = some ((fn + sp * k) % 26 + 97) := by
      rw [show (26 : Int) = ((26 : Nat) : Int) from rfl, cast_ix]
      exact let_at (Nat.mod_lt _ (by decide))
    refine ex_i e ?_
    exact hK
  · rw [names_range]
    k_allIn
    refine compI_list (fun d => match d with
      | .str q => some (.str (cutS S none (some (at_ : Int)) ++ q ++ cutS S (some (at_ : Int)) (some (1 + (z : Int) - 1))))
      | _ => none) trivial (by simp; omega) (fun x hx K hK => ?_) ?_
    · obtain ⟨q, hq, rfl⟩ := List.mem_map.mp hx
      obtain ⟨kk, _, rfl⟩ := List.mem_map.mp hq
      k_allIn
      refine an_i (le_line (by rw [len_list, cut_list, List.length_take, List.length_drop]; show _ + 1 ≤ _; omega)) ?_
      k_allIn
      refine an_i (le_line (by rw [len_list, len_list, app_list, cut_list, cut_list, List.length_append, List.length_take, List.length_drop, List.length_take, List.length_drop]; show _ + 1 + _ ≤ _; omega)) ?_
      exact hK
    · have e : ((((List.range many).map fun k => sg ((fn + sp * k) % 26 + 97)).map D.str).filterMap fun d => match d with
          | .str q => some (.str (cutS S none (some (at_ : Int)) ++ q ++ cutS S (some (at_ : Int)) (some (1 + (z : Int) - 1))))
          | _ => none) = (((List.range many).map fun k => (⟨(S.cps.toList.take at_ ++ [(fn + sp * k) % 26 + 97] ++ (S.cps.toList.drop at_).take (z - at_)).toArray⟩ : Str)).map D.str) := by
        rw [List.map_map, List.filterMap_map, List.map_map, ← List.filterMap_eq_map]
        refine congrFun (congrArg _ (funext fun k => ?_)) _
        show some (D.str _) = some (D.str _)
        refine congrArg some (congrArg D.str (str_ext ?_))
        rw [app_list, app_list, cut_list, cut_list, show (1 + (z : Int) - 1) = ((z : Nat) : Int) by omega]
        simp only [HT.sIx_nat, HT.sIx_none, List.drop_zero, Nat.sub_zero]
        rw [len_list, hS]
        simp only [show min at_ 7 = at_ by omega, show min z 7 = z by omega]
      show R (.tm (.lst (List.filterMap _ _))) _
      refine (congrArg (fun l => R (.tm (.lst l)) [.own true d6, .no]) e).mpr ?_
      exact fin _ (way2_ok hS hm hz ha hs h3)
theorem names_spec : ∀ args R, sdNames args R → namesM sdTake { nx := fun e => R (.vl .non) (outs 2 e), rt := fun r e => R r (outs 2 e) } (startE 13 args) := by
  rintro args R ⟨m, many, d, rfl, B0, h0, h1, h2, h3, fin⟩
  k_allIn
  refine take_i B0 (by omega) (by decide) (by decide) rfl fun way d1 w0 w1 B1 => ?_
  k_allIn
  refine take_i B1 (by omega) (by decide) (by decide) rfl fun first d2 f0 f1 B2 => ?_
  k_allIn
  refine take_i B2 (by omega) (by decide) (by decide) rfl fun size d3 z0 z1 B3 => ?_
  k_allIn
  refine take_i B3 (by omega) (by decide) (by decide) rfl fun st d4 s0 s1 B4 => ?_
  k_allIn
  obtain ⟨step, hs, hstep⟩ := step_at s0 s1
  refine ex_i hs ?_
  k_allIn
  refine take_i B4 (by omega) (by omega) (by omega) rfl fun at_ d5 a0 a1 B5 => ?_
  k_allIn
  refine compI_inv (fun j acc env => j ≤ 7 ∧ ∃ d6, Bx (m + 5 + j) d6 ∧ (∃ L : List Nat, L.length = j ∧ (∀ c ∈ L, c ∈ LET.cps.toList) ∧ acc = L.map fun c => .str (sg c)) ∧
    env = [.own true d6, .val (.int many), .val (.str LET), .val (.int way), .val (.int first), .val (.int (1 + size)), .val (.int step), .val (.int at_), .no, .no, .no, .no, .no]) ?_ ?_ ?_ ?_
  · exact ⟨by omega, d5, B5.mono (by omega), ⟨[], rfl, by simp, rfl⟩, rfl⟩
  · rintro j acc env ⟨hj, d6, B6, ⟨L, hL, hm, rfl⟩, rfl⟩
    exact ⟨trivial, by rw [List.length_map]; omega⟩
  · rintro j x acc env hx ⟨hj, d6, B6, ⟨L, hL, hm, rfl⟩, rfl⟩ K hK
    have hj7 : j < 7 := by
      rcases Nat.lt_or_ge j 7 with z | z
      · exact z
      · rw [List.getElem?_eq_none (by simpa [rangeD] using z)] at hx; cases hx
    k_allIn
    refine take_i B6 (by omega) (by omega) (by omega) rfl fun c d7 c0 c1 B7 => ?_
    k_allIn
    obtain ⟨cn, rfl⟩ : ∃ cn : Nat, c = (cn : Int) := ⟨c.toNat, by omega⟩
    refine ex_i (let_at (show cn < 26 by omega)) ?_
    refine hK _ _ ⟨by omega, d7, B7.mono (by omega), ⟨L ++ [cn + 97], by simp [hL], ?_, ?_⟩, rfl⟩
    · intro z hz
      rcases List.mem_append.mp hz with hz | hz
      · exact hm z hz
      · rw [List.mem_singleton.mp hz]; exact let_mem (by omega)
    · simp
  rintro acc env ⟨_, d6, B6, ⟨L, hL, hm, rfl⟩, rfl⟩
  have hL7 : L.length = 7 := by simpa [rangeD] using hL
  have eL : asStrs (L.map fun c => .str (sg c)) = some (L.map sg) := by
    rw [show (L.map fun c => D.str (sg c)) = (L.map sg).map D.str by rw [List.map_map]; rfl]
    exact asStrs_map _
  have eS : (Txt.join "" (L.map sg)).cps.toList = L := by
    rw [join_nil_list, List.map_map]
    show (L.map fun c => [c]).flatten = L
    clear eL hL7 hL hm
    induction L with
    | nil => rfl
    | cons a r ih => simp [ih]
  refine ex_i eL ?_
  refine an_i (by
    have : ((L.map sg).map (·.length)).sum = L.length := by
      clear eL hL7 hL hm eS
      induction L with
      | nil => rfl
      | cons a r ih => rw [List.map_cons, List.map_cons, List.sum_cons, ih, List.length_cons]; show 1 + _ = _; omega
    rw [this, List.length_map, hL7]
    exact Nat.le_of_ble_eq_true rfl) ?_
  revert eS
  generalize Txt.join "" (L.map sg) = S
  intro eS
  have lS : S.length = 7 := by rw [len_list, eS]; exact hL7
  k_allIn
  obtain ⟨fn, rfl⟩ : ∃ fn : Nat, first = (fn : Int) := ⟨first.toNat, by omega⟩
  refine ite_i (fun cw => ?_) (fun cw => ?_)
  · k_allIn
    refine an_i (by rw [words_split]; decide +kernel) ?_
    have eW : (Txt.split "here silent gone top back add begin cut leave stop wrong right lie turn takes gives" " ").map D.str = WORDS.map D.str := by rw [words_split]
    revert eW
    generalize (Txt.split "here silent gone top back add begin cut leave stop wrong right lie turn takes gives" " ").map D.str = W
    intro eW
    obtain ⟨st2, hs2, hstep2⟩ := step_at2 (st := step % 7) (by omega) (by omega)
    k_allIn
    refine ex_i hs2 ?_
    k_allIn
    obtain ⟨sp, rfl⟩ : ∃ sp : Nat, st2 = (sp : Int) := ⟨st2.toNat, by omega⟩
    refine compI_range (n := many) (fun k => some (.str (WORDS.getD ((fn + sp * k) % 16) ""))) trivial (by omega) (fun k hk K hK => ?_) ?_
    · k_allIn
      have e : atI W (((fn : Int) + (sp : Int) * (k : Int)) % 16) = some (D.str (WORDS.getD ((fn + sp * k) % 16) "")) := by
        rw [eW, show (16 : Int) = ((16 : Nat) : Int) from rfl, cast_ix]
        refine atI_nat ?_
        have hl : (fn + sp * k) % 16 < WORDS.length := by rw [show WORDS.length = 16 by decide]; omega
        rw [List.getElem?_map, List.getElem?_eq_getElem hl, List.getD_eq_getElem?_getD, List.getElem?_eq_getElem hl]
        rfl
      refine ex_i e ?_
      exact hK
    · rw [names_range]
      exact fin _ d6 (way0_ok (by omega) h3) (B6.mono (by simp [rangeD]; omega))
  · obtain ⟨sp, rfl⟩ : ∃ sp : Nat, step = (sp : Int) := ⟨step.toNat, by omega⟩
    obtain ⟨z, rfl⟩ : ∃ z : Nat, size = (z : Int) := ⟨size.toNat, by omega⟩
    obtain ⟨an, rfl⟩ : ∃ an : Nat, at_ = (an : Int) := ⟨at_.toNat, by omega⟩
    have last := last_ok (R := R) (many := many) (fn := fn) (sp := sp) (at_ := an) (z := z) (d6 := d6) (way := way) (S := S) h3 (by omega) (by omega) (by omega) (by omega) (by rw [eS]; exact hL7) (by rw [eS]; exact hm) (fun l hl => fin l d6 hl (B6.mono (by simp [rangeD]; omega)))
    k_allIn
    refine ite_i (fun c1 => ?_) (fun c1 => ?_)
    · k_allIn
      refine ite_i (fun c2 => ?_) (fun c2 => ?_)
      · have hm8 : many ≤ 8 := by
          have := of_decide_eq_true c2
          omega
        have lS1 : (S ++ sg (fn + 97)).length ≤ sizeLine := le_line (by rw [len_list, app_list, List.length_append, eS, hL7]; exact Nat.le_of_ble_eq_true rfl)
        k_allIn
        refine ex_i (let_at (show fn < 26 by omega)) ?_
        k_allIn
        refine an_i (le_line (by rw [lS]; exact Nat.le_of_ble_eq_true rfl)) ?_
        k_allIn
        refine compI_range (n := many) (fun k => some (.str (cutS (S ++ sg (fn + 97)) none (some (1 + ((an : Int) + (k : Int)) % 8))))) trivial (by omega) (fun k hk K hK => ?_) ?_
        · k_allIn
          exact hK
        · rw [names_range]
          have e : ((List.range many).map fun (k : Nat) => cutS (S ++ sg (fn + 97)) none (some (1 + ((an : Int) + (k : Int)) % 8))) = (List.range many).map fun k => (⟨((L ++ [fn + 97]).take (1 + (an + k) % 8)).toArray⟩ : Str) := by
            refine congrFun (congrArg _ (funext fun k => str_ext ?_)) _
            rw [cut_list, show (1 + ((an : Int) + (k : Int)) % 8) = ((1 + (an + k) % 8 : Nat) : Int) by omega, HT.sIx_nat, HT.sIx_none, len_list, app_list, eS]
            simp only [List.drop_zero, Nat.sub_zero]
            rw [show (L ++ (sg (fn + 97)).cps.toList) = L ++ [fn + 97] from rfl, show min (1 + (an + k) % 8) (L ++ [fn + 97]).length = 1 + (an + k) % 8 by rw [List.length_append, hL7]; simp; omega]
          rw [e]
          refine fin _ d6 (way1_ok (by rw [List.length_append, hL7]; rfl) (fun c hc => ?_) hm8) (B6.mono (by simp [rangeD]; omega))
          rcases List.mem_append.mp hc with q | q
          · exact hm c q
          · rw [List.mem_singleton.mp q]; exact let_mem (by omega)
      · exact last
    · exact last
end
end DL

set_option Elab.async false
set_option linter.all false
set_option maxRecDepth 100000
set_option maxHeartbeats 4000000
set_option autoImplicit false
namespace Law
open PySem L2 DL

abbrev cx_PeerError : Nat := 0
abbrev cx_Absent : Nat := 1
abbrev cx_Barred : Nat := 2
abbrev cx_NoText : Nat := 3
def isaTab : List (List (Option Bool)) := [[none, none, none, none],
  [none, none, none, none],
  [none, none, none, none],
  [none, none, none, some true]]
def isaT (x y : Nat) : Option Bool := (isaTab.getD x []).getD y none

def m_is_text  : DStm :=
  mSeq (mIfS (mOrT (mNotT (mTru (mIsi (mVar 0) "str"))) (mB (mOp2 aGt (mFn aLen (maCons (mVar 0) (maNil))) (mC (.int 60))))) (mRet (mC (.bl false))) (mSkip)) (mRet (mFn aAll (maCons (mLc (mIt (mVar 0)) (gN 1) (mYes) (mAndV (mChain aLe aLe (mC (.str " ")) (mVar 1) (mC (.str "~"))) (mOp2 aNe (mFn aOrd1 (maCons (mVar 1) (maNil))) (mC (.int 37)))) [1]) (maNil))))

def m_need_long (sd_is_text : DSpec) : DStm :=
  mIfS (mOrT (mNotT (mTru (mIsi (mVar 0) "str"))) (mOrT (mB (mOp2 aGt (mFn aLen (maCons (mVar 0) (maNil))) (mC (.int 200)))) (mNotT (mTru (mFn aAll (maCons (mLc (mIt (mVar 0)) (gN 1) (mYes) (mCall sd_is_text [] (mcCons (mVar 1) (mcNil))) [1]) (maNil))))))) (mRaise cx_NoText "found" (mVar 0)) (mSkip)

def m_common_table  : DStm :=
  mSeq (mSetO 2 (mLst (mCons (mOp2 aMul (mLst (mCons (mC (.int 0)) (mNil))) (mOp2 aAdd (mFn aLen (maCons (mVar 1) (maNil))) (mC (.int 1)))) (mNil)))) (mSeq (mFor (mIt (mRevA (mVar 0))) (gN 3) (mSeq (mSet 4 (mOp2 aIx (mVar 2) (mNeg (mC (.int 1))))) (mSeq (mSetO 5 (mLst (mCons (mC (.int 0)) (mNil)))) (mSeq (mFor (mRange3 (mOp2 aSub (mFn aLen (maCons (mVar 1) (maNil))) (mC (.int 1))) (mNeg (mC (.int 1))) (mNeg (mC (.int 1)))) (gN 6) (mIfS (mB (mOp2 aEq (mOp2 aIx (mVar 1) (mVar 6)) (mVar 3))) (mApp 5 (mOp2 aAdd (mOp2 aIx (mVar 4) (mOp2 aAdd (mVar 6) (mC (.int 1)))) (mC (.int 1)))) (mApp 5 (mFn aMax (maCons (mOp2 aIx (mVar 5) (mNeg (mC (.int 1)))) (maCons (mOp2 aIx (mVar 4) (mVar 6)) (maNil))))))) (mApp 2 (mRevA (mVar 5))))))) (mRet (mRevA (mVar 2))))

def m_steps_between (sd_common_table : DSpec) : DStm :=
  mSeq (mSet 2 (mCall sd_common_table [] (mcCons (mVar 0) (mcCons (mVar 1) (mcNil))))) (mSeq (mUn 2 (gsCons (gN 3) (gsCons (gN 4) (gsNil))) (mTup (mCons (mC (.int 0)) (mCons (mC (.int 0)) (mNil))))) (mSeq (mSetO 5 (mLst (mNil))) (mSeq (mWhile (mOrT (mB (mOp2 aLt (mVar 3) (mFn aLen (maCons (mVar 0) (maNil))))) (mB (mOp2 aLt (mVar 4) (mFn aLen (maCons (mVar 1) (maNil)))))) (mIfS (mAndT (mB (mOp2 aLt (mVar 3) (mFn aLen (maCons (mVar 0) (maNil))))) (mAndT (mB (mOp2 aLt (mVar 4) (mFn aLen (maCons (mVar 1) (maNil))))) (mB (mOp2 aEq (mOp2 aIx (mVar 0) (mVar 3)) (mOp2 aIx (mVar 1) (mVar 4)))))) (mSeq (mApp 5 (mTup (mCons (mC (.str "keep")) (mCons (mOp2 aIx (mVar 0) (mVar 3)) (mNil))))) (mPar2 3 4 (mCons (mOp2 aAdd (mVar 3) (mC (.int 1))) (mCons (mOp2 aAdd (mVar 4) (mC (.int 1))) (mNil))))) (mIfS (mOrT (mB (mOp2 aEq (mVar 4) (mFn aLen (maCons (mVar 1) (maNil))))) (mAndT (mB (mOp2 aLt (mVar 3) (mFn aLen (maCons (mVar 0) (maNil))))) (mB (mOp2 aGe (mOp2 aIx (mOp2 aIx (mVar 2) (mOp2 aAdd (mVar 3) (mC (.int 1)))) (mVar 4)) (mOp2 aIx (mOp2 aIx (mVar 2) (mVar 3)) (mOp2 aAdd (mVar 4) (mC (.int 1)))))))) (mSeq (mApp 5 (mTup (mCons (mC (.str "cut")) (mCons (mOp2 aIx (mVar 0) (mVar 3)) (mNil))))) (aAug bAdd 3 (mC (.int 1)))) (mSeq (mApp 5 (mTup (mCons (mC (.str "add")) (mCons (mOp2 aIx (mVar 1) (mVar 4)) (mNil))))) (aAug bAdd 4 (mC (.int 1))))))) (mRet (mVar 5)))))

def m_changes (sd_need_long : DSpecX) (sd_steps_between : DSpec) : DStm :=
  mSeq (wX mDrop (mCallX sd_need_long (mcCons (mVar 0) (mcNil)))) (mSeq (wX mDrop (mCallX sd_need_long (mcCons (mVar 1) (mcNil)))) (mSeq (mSetO 2 (mLst (mNil))) (mSeq (mFor (mIt (mCall sd_steps_between [] (mcCons (mVar 0) (mcCons (mVar 1) (mcNil))))) (gT 2 (gsCons (gN 3) (gsCons (gN 4) (gsNil)))) (mIfS (mAndT (mB (mOp2 aNe (mVar 2) (mLst (mNil)))) (mB (mOp2 aEq (mOp2 aIx (mOp2 aIx (mVar 2) (mNeg (mC (.int 1)))) (mC (.int 0))) (mVar 3)))) (mSetIx 2 (mNeg (mC (.int 1))) (mTup (mCons (mVar 3) (mCons (mOp2 aAdd (mOp2 aIx (mOp2 aIx (mVar 2) (mNeg (mC (.int 1)))) (mC (.int 1))) (mVar 4)) (mNil))))) (mApp 2 (mTup (mCons (mVar 3) (mCons (mVar 4) (mNil))))))) (mRet (mVar 2)))))

def m_signs_changed  : DStm :=
  mRet (mFn aSum (maCons (mLc (mIt (mVar 0)) (gT 2 (gsCons (gN 1) (gsCons (gN 2) (gsNil)))) (mB (mOp2 aNe (mVar 1) (mC (.str "keep")))) (mFn aLen (maCons (mVar 2) (maNil))) [1, 2]) (maNil)))

def m_fewest_signs (sd_changes : DSpecX) (sd_signs_changed : DSpec) : DStm :=
  wX mRet (mCallA sd_signs_changed (mcConsX (mCallX sd_changes (mcCons (mVar 0) (mcCons (mVar 1) (mcNil)))) (mcNil)))

def m_is_run  : DStm :=
  mSeq (mIfS (mOrT (mNotT (mTru (mIsi (mVar 0) "tuple"))) (mOrT (mB (mOp2 aNe (mFn aLen (maCons (mVar 0) (maNil))) (mC (.int 2)))) (mNotT (mTru (mIsi (mOp2 aIx (mVar 0) (mC (.int 0))) "str"))))) (mRet (mC (.bl false))) (mSkip)) (mRet (mAndV (mOp2 aIn (mOp2 aIx (mVar 0) (mC (.int 0))) (mTup (mCons (mC (.str "keep")) (mCons (mC (.str "cut")) (mCons (mC (.str "add")) (mNil)))))) (mAndV (mIsi (mOp2 aIx (mVar 0) (mC (.int 1))) "str") (mOp2 aNe (mOp2 aIx (mVar 0) (mC (.int 1))) (mC (.str ""))))))

def m_shows_changes (sd_need_long : DSpecX) (sd_is_run : DSpec) : DStm :=
  mSeq (wX mDrop (mCallX sd_need_long (mcCons (mVar 0) (mcNil)))) (mSeq (wX mDrop (mCallX sd_need_long (mcCons (mVar 1) (mcNil)))) (mSeq (mIfS (mOrT (mNotT (mTru (mIsi2 (mVar 2) "list" "tuple"))) (mNotT (mTru (mFn aAll (maCons (mLc (mIt (mVar 2)) (gN 5) (mYes) (mCall sd_is_run [] (mcCons (mVar 5) (mcNil))) [5]) (maNil)))))) (mRet (mC (.bl false))) (mSkip)) (mSeq (mSet 3 (mM1 aJoin (mC (.str "")) (mLc (mIt (mVar 2)) (gT 2 (gsCons (gN 6) (gsCons (gN 7) (gsNil)))) (mB (mOp2 aNe (mVar 6) (mC (.str "add")))) (mVar 7) [6, 7]))) (mSeq (mSet 4 (mM1 aJoin (mC (.str "")) (mLc (mIt (mVar 2)) (gT 2 (gsCons (gN 6) (gsCons (gN 7) (gsNil)))) (mB (mOp2 aNe (mVar 6) (mC (.str "cut")))) (mVar 7) [6, 7]))) (mRet (mAndV (mOp2 aEq (mVar 3) (mVar 0)) (mOp2 aEq (mVar 4) (mVar 1))))))))

def m_l_truth  : DStm :=
  mRet (mAndV (mIsi (mVar 0) "bool") (mOp2 aEq (mVar 0) (mVar 1)))

def m_l_cell  : DStm :=
  mSeq (mIfS (mB (mOp2 aLt (mVar 1) (mFn aLen (maCons (mVar 0) (maNil))))) (mRet (mOp2 aIx (mVar 0) (mVar 1))) (mSkip)) (mRet (mOp2 aAdd (mOp2 aMul (mC (.int 8111)) (mVar 1)) (mC (.int 96))))

def m_l_box  : DStm :=
  mRet (mLst (mCons (mFn aMax (maCons (mC (.int 0)) (maCons (mOp2 aSub (mVar 0) (mOp2 aPow (mC (.int 10)) (mC (.int 18)))) (maNil)))) (mCons (mOp2 aMod (mVar 0) (mC (.int 2147483629))) (mCons (mC (.int 0)) (mNil)))))

def m_l_take  : DStm :=
  mSeq (mIfS (mB (mOp2 aGt (mOp2 aIx (mVar 0) (mC (.int 0))) (mC (.int 0)))) (mSeq (mSet 2 (mOp2 aMod (mOp2 aIx (mVar 0) (mC (.int 0))) (mVar 1))) (mSeq (mSetIx 0 (mC (.int 0)) (mOp2 aFdiv (mOp2 aIx (mVar 0) (mC (.int 0))) (mVar 1))) (mRet (mVar 2)))) (mSkip)) (mSeq (mSetIx 0 (mC (.int 2)) (mOp2 aAdd (mOp2 aIx (mVar 0) (mC (.int 2))) (mC (.int 1)))) (mSeq (mSet 3 (mOp2 aMod (mOp2 aPow (mOp2 aAdd (mOp2 aAdd (mOp2 aIx (mVar 0) (mC (.int 1))) (mOp2 aMul (mC (.int 7919)) (mOp2 aIx (mVar 0) (mC (.int 2))))) (mC (.int 169))) (mC (.int 5))) (mC (.int 2147483647)))) (mSeq (mSet 4 (mOp2 aMod (mOp2 aPow (mOp2 aAdd (mOp2 aAdd (mOp2 aFdiv (mVar 3) (mC (.int 8))) (mOp2 aMul (mOp2 aMul (mC (.int 96581)) (mOp2 aIx (mVar 0) (mC (.int 2)))) (mOp2 aIx (mVar 0) (mC (.int 2))))) (mC (.int 3))) (mC (.int 3))) (mC (.int 2147483629)))) (mRet (mOp2 aMod (mOp2 aAdd (mOp2 aFdiv (mVar 3) (mC (.int 4))) (mOp2 aMul (mC (.int 536870909)) (mOp2 aFdiv (mVar 4) (mC (.int 4))))) (mVar 1))))))

def m_l_drawn (sd_l_take : DSpec) : DStm :=
  mRet (mM1 aJoin (mC (.str "")) (mLc (mRange1 (mVar 1)) (gN 2) (mYes) (mOp2 aIx (mC (.str "ab=c ")) (mCall sd_l_take [] (mcCons (mVar 0) (mcCons (mOp2 aAdd (mC (.int 2)) (mOp2 aMod (mVar 1) (mC (.int 4)))) (mcNil))))) [2]))

def m_l_changed (sd_l_take : DSpec) : DStm :=
  mSeq (mSetO 2 (mLst (mNil))) (mSeq (mFor (mIt (mVar 1)) (gN 3) (mSeq (mSet 4 (mCall sd_l_take [] (mcCons (mVar 0) (mcCons (mC (.int 6)) (mcNil))))) (mExt 2 (mOp2 aIx (mLst (mCons (mLst (mCons (mVar 3) (mNil))) (mCons (mLst (mCons (mVar 3) (mNil))) (mCons (mLst (mCons (mVar 3) (mNil))) (mCons (mLst (mNil)) (mCons (mLst (mCons (mVar 3) (mCons (mC (.str "x")) (mNil)))) (mCons (mLst (mCons (mC (.str "a")) (mCons (mVar 3) (mNil)))) (mNil)))))))) (mVar 4))))) (mSeq (mSet 5 (mCall sd_l_take [] (mcCons (mVar 0) (mcCons (mOp2 aAdd (mFn aLen (maCons (mVar 2) (maNil))) (mC (.int 1))) (mcNil))))) (mRet (mM1 aJoin (mC (.str "")) (mIf (mB (mOp2 aEq (mCall sd_l_take [] (mcCons (mVar 0) (mcCons (mC (.int 3)) (mcNil)))) (mC (.int 0)))) (mOp2 aAdd (mSl (mVar 2) (moSo (mVar 5)) (moNo)) (mSl (mVar 2) (moNo) (moSo (mVar 5)))) (mVar 2))))))

def m_l_common  : DStm :=
  mSeq (mSet 2 (mOp2 aMul (mLst (mCons (mC (.int 0)) (mNil))) (mOp2 aAdd (mFn aLen (maCons (mVar 1) (maNil))) (mC (.int 1))))) (mSeq (mFor (mIt (mVar 0)) (gN 3) (mSeq (mSetO 4 (mLst (mCons (mC (.int 0)) (mNil)))) (mSeq (mFor (mEnumB (mVar 1)) (gT 2 (gsCons (gN 5) (gsCons (gN 6) (gsNil)))) (mApp 4 (mIf (mB (mOp2 aEq (mVar 3) (mVar 6))) (mOp2 aAdd (mOp2 aIx (mVar 2) (mVar 5)) (mC (.int 1))) (mFn aMax (maCons (mOp2 aIx (mVar 4) (mVar 5)) (maCons (mOp2 aIx (mVar 2) (mOp2 aAdd (mVar 5) (mC (.int 1)))) (maNil))))))) (mFrz 4 (mSet 2 (mVar 4)))))) (mRet (mOp2 aIx (mVar 2) (mNeg (mC (.int 1))))))

def m_l_is_change  : DStm :=
  mSeq (mIfS (mNotT (mTru (mIsi2 (mVar 2) "list" "tuple"))) (mRet (mC (.bl false))) (mSkip)) (mSeq (mUn 2 (gsCons (gN 3) (gsCons (gN 4) (gsNil))) (mTup (mCons (mC (.str "")) (mCons (mC (.str "")) (mNil))))) (mSeq (mFor (mIt (mVar 2)) (gN 5) (mSeq (mIfS (mOrT (mNotT (mTru (mIsi (mVar 5) "tuple"))) (mOrT (mB (mOp2 aNe (mFn aLen (maCons (mVar 5) (maNil))) (mC (.int 2)))) (mOrT (mNotT (mTru (mIsi (mOp2 aIx (mVar 5) (mC (.int 0))) "str"))) (mNotT (mTru (mIsi (mOp2 aIx (mVar 5) (mC (.int 1))) "str")))))) (mRet (mC (.bl false))) (mSkip)) (mSeq (mIfS (mOrT (mB (mOp2 aNotIn (mOp2 aIx (mVar 5) (mC (.int 0))) (mTup (mCons (mC (.str "keep")) (mCons (mC (.str "cut")) (mCons (mC (.str "add")) (mNil))))))) (mB (mOp2 aEq (mOp2 aIx (mVar 5) (mC (.int 1))) (mC (.str ""))))) (mRet (mC (.bl false))) (mSkip)) (mSeq (mSet 3 (mOp2 aAdd (mVar 3) (mIf (mB (mOp2 aNe (mOp2 aIx (mVar 5) (mC (.int 0))) (mC (.str "add")))) (mOp2 aIx (mVar 5) (mC (.int 1))) (mC (.str ""))))) (mSet 4 (mOp2 aAdd (mVar 4) (mIf (mB (mOp2 aNe (mOp2 aIx (mVar 5) (mC (.int 0))) (mC (.str "cut")))) (mOp2 aIx (mVar 5) (mC (.int 1))) (mC (.str ""))))))))) (mRet (mAndV (mOp2 aEq (mVar 3) (mVar 0)) (mOp2 aEq (mVar 4) (mVar 1))))))

def m_l_things (sd_l_take : DSpec) : DStm :=
  mSeq (mSet 4 (mLst (mCons (mTup (mCons (mC (.str "cut")) (mCons (mVar 1) (mNil)))) (mCons (mTup (mCons (mC (.str "add")) (mCons (mVar 2) (mNil)))) (mNil))))) (mSeq (mSet 4 (mLc (mIt (mVar 4)) (gN 8) (mB (mOp2 aNe (mOp2 aIx (mVar 8) (mC (.int 1))) (mC (.str "")))) (mVar 8) [8])) (mSeq (mSet 5 (mCall sd_l_take [] (mcCons (mVar 0) (mcCons (mOp2 aAdd (mFn aLen (maCons (mVar 3) (maNil))) (mC (.int 1))) (mcNil))))) (mSeq (mSet 6 (mLst (mCons (mVar 4) (mCons (mFn aTuple (maCons (mVar 4) (maNil))) (mCons (mRevA (mVar 4)) (mCons (mVar 3) (mCons (mFn aTuple (maCons (mVar 3) (maNil))) (mCons (mOp2 aAdd (mSl (mVar 3) (moNo) (moSo (mVar 5))) (mSl (mVar 3) (moSo (mOp2 aAdd (mVar 5) (mC (.int 1)))) (moNo))) (mCons (mOp2 aAdd (mOp2 aAdd (mSl (mVar 3) (moNo) (moSo (mVar 5))) (mSl (mVar 3) (moSo (mVar 5)) (moSo (mOp2 aAdd (mVar 5) (mC (.int 1)))))) (mSl (mVar 3) (moSo (mVar 5)) (moNo))) (mNil)))))))))) (mSeq (mSet 6 (mOp2 aAdd (mVar 6) (mLst (mCons (mRevA (mVar 3)) (mCons (mOp2 aAdd (mVar 3) (mLst (mCons (mTup (mCons (mC (.str "keep")) (mCons (mC (.str "")) (mNil)))) (mNil)))) (mCons (mOp2 aAdd (mVar 3) (mLst (mCons (mTup (mCons (mC (.str "cut")) (mCons (mC (.str "")) (mNil)))) (mNil)))) (mCons (mOp2 aAdd (mVar 3) (mLst (mCons (mTup (mCons (mC (.str "add")) (mCons (mC (.str "a")) (mNil)))) (mNil)))) (mCons (mOp2 aAdd (mVar 3) (mLst (mCons (mTup (mCons (mC (.str "keep")) (mCons (mC (.str "a")) (mNil)))) (mNil)))) (mCons (mC .non) (mCons (mDNew) (mNil))))))))))) (mSeq (mSet 7 (mLc (mIt (mVar 3)) (gT 2 (gsCons (gN 9) (gsCons (gN 10) (gsNil)))) (mYes) (mTup (mCons (mOp2 aDIx (mDCon [("keep", "keep"), ("cut", "add"), ("add", "cut")]) (mVar 9)) (mCons (mVar 10) (mNil)))) [9, 10])) (mSeq (mSet 6 (mOp2 aAdd (mVar 6) (mLst (mCons (mVar 7) (mCons (mLc (mIt (mVar 3)) (gN 8) (mYes) (mFn aList (maCons (mVar 8) (maNil))) [8]) (mCons (mLc (mIt (mVar 3)) (gN 8) (mYes) (mOp2 aAdd (mVar 8) (mTup (mCons (mC (.str "x")) (mNil)))) [8]) (mCons (mLst (mCons (mTup (mCons (mC (.str "keep")) (mCons (mVar 1) (mNil)))) (mNil))) (mCons (mLst (mCons (mTup (mCons (mC (.str "same")) (mCons (mVar 1) (mNil)))) (mNil))) (mCons (mC (.str "keep")) (mNil)))))))))) (mRet (mOp2 aAdd (mVar 6) (mLst (mCons (mLc (mIt (mVar 3)) (gT 2 (gsCons (gN 9) (gsCons (gN 10) (gsNil)))) (mYes) (mTup (mCons (mVar 9) (mCons (mSl (mVar 10) (moNo) (moSo (mC (.int 1)))) (mNil)))) [9, 10]) (mCons (mOp2 aAdd (mVar 3) (mLst (mCons (mC .non) (mNil)))) (mCons (mOp2 aAdd (mVar 3) (mLst (mCons (mTup (mCons (mC (.str "add")) (mCons (mC .non) (mNil)))) (mNil)))) (mCons (mLst (mNil)) (mCons (mTup (mNil)) (mNil)))))))))))))))

def m_l_right (sd_changes : DSpecX) (sd_fewest_signs : DSpecX) (sd_shows_changes : DSpecX) (sd_l_truth : DSpec) (sd_l_common : DSpec) (sd_l_is_change : DSpec) (sd_l_things : DSpec) : DStm :=
  mSeq (mSetO 3 (mCall (noX sd_changes) [] (mcCons (mVar 1) (mcCons (mVar 2) (mcNil))))) (mSeq (mIfS (mOrT (mNotT (mTru (mIsi (mVar 3) "list"))) (mOrT (mNotT (mTru (mCall sd_l_is_change [] (mcCons (mVar 1) (mcCons (mVar 2) (mcCons (mVar 3) (mcNil))))))) (mNotT (mTru (mIsi (mCall (noX sd_fewest_signs) [] (mcCons (mVar 1) (mcCons (mVar 2) (mcNil)))) "int"))))) (mRet (mC (.bl false))) (mSkip)) (mSeq (mIfS (mB (mOp2 aNe (mLc (mZip (mVar 3) (mSl (mVar 3) (moSo (mC (.int 1))) (moNo))) (gT 2 (gsCons (gN 8) (gsCons (gN 9) (gsNil)))) (mB (mOp2 aEq (mOp2 aIx (mVar 8) (mC (.int 0))) (mOp2 aIx (mVar 9) (mC (.int 0))))) (mC (.int 1)) [8, 9]) (mLst (mNil)))) (mRet (mC (.bl false))) (mSkip)) (mSeq (mSet 4 (mOp2 aSub (mOp2 aAdd (mFn aLen (maCons (mVar 1) (maNil))) (mFn aLen (maCons (mVar 2) (maNil)))) (mOp2 aMul (mC (.int 2)) (mCall sd_l_common [] (mcCons (mVar 1) (mcCons (mVar 2) (mcNil))))))) (mSeq (mIfS (mOrT (mB (mOp2 aNe (mFn aSum (maCons (mLc (mIt (mVar 3)) (gT 2 (gsCons (gN 10) (gsCons (gN 11) (gsNil)))) (mB (mOp2 aNe (mVar 10) (mC (.str "keep")))) (mFn aLen (maCons (mVar 11) (maNil))) [10, 11]) (maNil))) (mVar 4))) (mB (mOp2 aNe (mCallK (noX sd_fewest_signs) (arrN 0 2 [0, 1]) mcNil (mcCons (mVar 1) (mcCons (mVar 2) (mcNil)))) (mVar 4)))) (mRet (mC (.bl false))) (mSkip)) (mSeq (mFor (mIt (mCall sd_l_things [] (mcCons (mVar 0) (mcCons (mVar 1) (mcCons (mVar 2) (mcCons (mFn aList (maCons (mVar 3) (maNil))) (mcNil))))))) (gN 5) (mSeq (mSet 6 (mCall sd_l_is_change [] (mcCons (mVar 1) (mcCons (mVar 2) (mcCons (mVar 5) (mcNil)))))) (mIfS (mNotT (mTru (mCall sd_l_truth [] (mcCons (mCall (noX sd_shows_changes) [] (mcCons (mVar 1) (mcCons (mVar 2) (mcCons (mVar 5) (mcNil))))) (mcCons (mVar 6) (mcNil)))))) (mRet (mC (.bl false))) (mSkip)))) (mSeq (mSet 7 (mFn aRepr (maCons (mVar 3) (maNil)))) (mSeq (mApp 3 (mC (.str "late"))) (mRet (mOp2 aEq (mFn aRepr (maCons (mCallK (noX sd_changes) (arrN 0 2 [0, 1]) mcNil (mcCons (mVar 1) (mcCons (mVar 2) (mcNil)))) (maNil))) (mVar 7))))))))))

def m_l_refused (fa : Nat → Addr) (sd_changes : DSpecX) (sd_fewest_signs : DSpecX) (sd_shows_changes : DSpecX) (sd_l_take : DSpec) : DStm :=
  mSeq (mSet 1 (mOp2 aIx (mLst (mCons (mC .non) (mCons (mC (.int 7)) (mCons (mOp2 aMulA (mC (.str "a")) (mC (.int 201))) (mCons (mLst (mCons (mC (.str "a")) (mNil))) (mCons (mC (.str "a\nb")) (mCons (mC (.bl true)) (mNil)))))))) (mCall sd_l_take [] (mcCons (mVar 0) (mcCons (mC (.int 6)) (mcNil)))))) (mSeq (mFor (mRange1 (mC (.int 3))) (gN 2) (mFor (mIt (mLst (mCons (mTup (mCons (mVar 1) (mCons (mC .non) (mCons (mVar 1) (mNil))))) (mCons (mTup (mCons (mVar 1) (mCons (mC (.str "x")) (mCons (mVar 1) (mNil))))) (mCons (mTup (mCons (mC (.str "x")) (mCons (mVar 1) (mCons (mVar 1) (mNil))))) (mCons (mTup (mCons (mOp2 aMulA (mC (.str "a")) (mC (.int 200))) (mCons (mVar 1) (mCons (mVar 1) (mNil))))) (mNil))))))) (gT 3 (gsCons (gN 3) (gsCons (gN 4) (gsCons (gN 5) (gsNil))))) (mSeq (mSet 6 (mC (.str "told"))) (mSeq (mTry isaT (mIfS (mB (mOp2 aEq (mVar 2) (mC (.int 2)))) (wX mDrop (mCallX sd_shows_changes (mcCons (mVar 3) (mcCons (mVar 4) (mcCons (mLst (mNil)) (mcNil)))))) (mSeq (mSet 7 (mOp2 aIx (mLst (mCons (mC (.fn (fa 0))) (mCons (mC (.fn (fa 1))) (mNil)))) (mVar 2))) (wX mDrop (mCallVX 7 [(fa 0, sd_changes), (fa 1, sd_fewest_signs)] (mcCons (mVar 3) (mcCons (mVar 4) (mcNil))))))) [.as_ cx_NoText 8 fun a dd => mSet 6 (mFn aRepr (maCons (mXf a dd 8 "found") (maNil)))]) (mIfS (mB (mOp2 aNe (mVar 6) (mFn aRepr (maCons (mVar 5) (maNil))))) (mRet (mC (.bl false))) (mSkip)))))) (mRet (mAndV (mOp2 aEq (mCall (noX sd_fewest_signs) [] (mcCons (mOp2 aMulA (mC (.str "a")) (mC (.int 200))) (mcCons (mOp2 aMulA (mC (.str "a")) (mC (.int 199))) (mcNil)))) (mC (.int 1))) (mOp2 aEq (mCall (noX sd_changes) [] (mcCons (mC (.str "")) (mcCons (mC (.str "")) (mcNil)))) (mLst (mNil))))))

def m_law (sd_l_cell : DSpec) (sd_l_box : DSpec) (sd_l_take : DSpec) (sd_l_drawn : DSpec) (sd_l_changed : DSpec) (sd_l_right : DSpec) (sd_l_refused : DSpecX) : DStm :=
  mSeq (mFor (mRange1 (mFn aMax (maCons (mC (.int 2)) (maCons (mFn aMin (maCons (mC (.int 4)) (maCons (mFn aLen (maCons (mVar 0) (maNil))) (maNil)))) (maNil))))) (gN 1) (mSeq (mSetO 2 (mCall sd_l_box [] (mcCons (mCall sd_l_cell [] (mcCons (mVar 0) (mcCons (mVar 1) (mcNil)))) (mcNil)))) (mSeq (mSet 3 (mCall sd_l_drawn [] (mcCons (mVar 2) (mcCons (mOp2 aIx (mLst (mCons (mCall sd_l_take [] (mcCons (mVar 2) (mcCons (mC (.int 15)) (mcNil)))) (mCons (mOp2 aSub (mC (.int 60)) (mCall sd_l_take [] (mcCons (mVar 2) (mcCons (mC (.int 20)) (mcNil))))) (mNil)))) (mOp2 aFdiv (mCall sd_l_take [] (mcCons (mVar 2) (mcCons (mC (.int 6)) (mcNil)))) (mC (.int 5)))) (mcNil))))) (mSeq (mSet 4 (mOp2 aIx (mLst (mCons (mSl (mCall sd_l_changed [] (mcCons (mVar 2) (mcCons (mVar 3) (mcNil)))) (moNo) (moSo (mC (.int 120)))) (mCons (mCall sd_l_drawn [] (mcCons (mVar 2) (mcCons (mCall sd_l_take [] (mcCons (mVar 2) (mcCons (mC (.int 15)) (mcNil)))) (mcNil)))) (mCons (mVar 3) (mCons (mC (.str "")) (mNil)))))) (mOp2 aIx (mLst (mCons (mC (.int 0)) (mCons (mC (.int 0)) (mCons (mC (.int 0)) (mCons (mC (.int 1)) (mCons (mC (.int 1)) (mCons (mC (.int 2)) (mCons (mC (.int 3)) (mNil))))))))) (mCall sd_l_take [] (mcCons (mVar 2) (mcCons (mC (.int 7)) (mcNil))))))) (mIfS (mOrT (mNotT (mTru (mCall sd_l_right [] (mcCons (mVar 2) (mcCons (mVar 3) (mcCons (mVar 4) (mcNil))))))) (mNotT (mTru (mCall sd_l_right [] (mcCons (mVar 2) (mcCons (mVar 4) (mcCons (mVar 3) (mcNil)))))))) (mRet (mC (.bl false))) (mSkip)))))) (mRet (mCallT (noX sd_l_refused) (mCall sd_l_box [] (mcCons (mCall sd_l_cell [] (mcCons (mVar 0) (mcCons (mC (.int 0)) (mcNil)))) (mcNil)))))
end Law

set_option Elab.async false
set_option linter.all false
set_option maxRecDepth 100000
set_option maxHeartbeats 4000000
set_option autoImplicit false
namespace Law
open PySem L2 DL

def top (i : Nat) : Stmt := PySem.Challenge.pw_peershold_k96_whole_fewest_signs_changed.main.body.getD i (.Pass ⟨0, 0, 0, 0⟩)
structure Txt (K : PySem.W.Frag) (mg : Str → Option Value) (cm : Nat → Value) (fa : Nat → Addr) : Prop where
  b_all : mg "all" = none
  b_bool : mg "bool" = none
  b_enumerate : mg "enumerate" = none
  b_int : mg "int" = none
  b_isinstance : mg "isinstance" = none
  b_len : mg "len" = none
  b_list : mg "list" = none
  b_max : mg "max" = none
  b_min : mg "min" = none
  b_ord : mg "ord" = none
  b_range : mg "range" = none
  b_repr : mg "repr" = none
  b_str : mg "str" = none
  b_sum : mg "sum" = none
  b_tuple : mg "tuple" = none
  b_zip : mg "zip" = none
  c_ADD : ∃ u, mg "ADD" = some u ∧ RelV (.str "add") u
  c_CUT : ∃ u, mg "CUT" = some u ∧ RelV (.str "cut") u
  c_KEEP : ∃ u, mg "KEEP" = some u ∧ RelV (.str "keep") u
  c_MOST_LONG : ∃ u, mg "MOST_LONG" = some u ∧ RelV (.int 200) u
  c_MOST_SIGNS : ∃ u, mg "MOST_SIGNS" = some u ∧ RelV (.int 60) u
  c_PER_CENT : ∃ u, mg "PER_CENT" = some u ∧ RelV (.int 37) u
  m_PeerError : mg "PeerError" = some (cm cx_PeerError)
  m_NoText : mg "NoText" = some (cm cx_NoText)
  v_changes : mg "changes" = some (.ref (fa 0)) ∧ PySem.W.keepIn K (.ref (fa 0)) = true
  v_fewest_signs : mg "fewest_signs" = some (.ref (fa 1)) ∧ PySem.W.keepIn K (.ref (fa 1)) = true
structure XTxt (P : Program) (w : World) (K : PySem.W.Frag) (mg : Str → Option Value) (cm : Nat → Value) (base : Heap) : Prop where
  isa : isaOk K cm isaT
  x_NoText : ∃ Ca, cm cx_NoText = .ref Ca ∧ XCl P w K mg base "NoText" "found" Ca
section
variable {P : Program} {w : World} {K : PySem.W.Frag} {mg : Str → Option Value} {cm : Nat → Value} {base : Heap} {fa : Nat → Addr}

abbrev si_NoText : Stmt := inClass (top 4) 0
theorem sci_NoText : FnScope ["self", "found"] ["self", "found"] (defScope si_NoText) := ⟨rfl, rfl, rfl, by decide +kernel, rfl, by decide +kernel, by decide +kernel⟩
theorem xi_NoText {Ba fI C : Addr} {fd : FuncData} (hb : XBase K Ba) (hm : mg "PeerError" = some (.ref Ba)) (F : Fun K "__init__" "NoText.__init__" si_NoText fI fd) : FnOk P w K mg base (L2.CX P w) 1 fI fd ["self", "found"] (spXi K C "found") :=
  xinit_fn F sci_NoText (m := "no such text") fun cdv A outer s H E => pss_cons (ps_expr (pe_xinit hb (by exact rfl) hm (pa_cons (pv 0) (pa_cons pe_str pa_nil)))) (pss_one (ps_ost (pv 0) (pv 1)))

abbrev s_is_text : Stmt := top 8
theorem sc_is_text : FnScope ["thing", "sign"] ["thing"] (defScope s_is_text) := ⟨rfl, rfl, rfl, by decide +kernel, rfl, by decide +kernel, by decide +kernel⟩
theorem d_is_text (T : Txt K mg cm fa)  {f : Addr} {cdv : Value} {A : Around} {outer : List PySem.Env} {s : Shared} {H : Hp} {E : XK} (hgd : A.guards = some []) (hr : Room 0 (A.deeper (PyProof.Rows.envOfC "is_text" (defScope s_is_text) s.heap.objs.size f cdv))) :
    DB (cxOf CX0 P w K mg base ["thing", "sign"] "is_text" (defScope s_is_text) f cdv A outer s H E).nox (defBody s_is_text) (m_is_text  ) := by
  unfold m_is_text
  exact db_cons (ds_if (dtw (dw_or (dtnot (dtru (disi (T := "str") (dvar 0) rfl T.b_isinstance rfl T.b_str (by decide +kernel) kt_str))) (dw_or1 (dtcmp op_gtD o2_ord (dfnB call_lenX on_len rfl T.b_len (by decide +kernel) (da_cons (dvar 0) (da_nil))) (dgintE rfl T.c_MOST_SIGNS))))) (db_one (ds_ret (dbl))) (db_nil)) (db_one (ds_ret (dfnB (cr_all rfl) on_all rfl T.b_all (by decide +kernel) (da_cons (dlc (js := [1]) [("sign", 1)] rfl sc_is_text.nd (blkOk_by (by kernel_rfl)) (di_any (dvar 0)) (fun _ _ _ _ _ => dg_name 1 sc_is_text.nd rfl (Or.inl rfl)) (fun _ _ _ _ _ => dts_nil) (fun _ _ _ _ _ => dand (dchain op_leD o2_ord op_leD o2_ord (dstr) (dvar 1) (dstr)) (done1 (dcmp (op_neD hr.units) o2_ne (dfnB call_ord on_ord rfl T.b_ord (by decide +kernel) (da_cons (dvar 1) (da_nil))) (dgintE rfl T.c_PER_CENT))))) (da_nil)))))

theorem k_is_text (T : Txt K mg cm fa)  {f : Addr} {fd : FuncData} (F : Fun K "is_text" "is_text" s_is_text f fd) (hm : mg "is_text" = some (.ref f)) {sd : DSpec} (len : ∀ args R, sd args R → args.length = 1)
    (sp : ∀ args R, sd args R → m_is_text   { nx := fun e => R (.vl .non) (outs 1 e), rt := fun r e => R r (outs 1 e) } (startE 2 args)) : Cal P w K mg base "is_text" s_is_text 1 ["thing"] sd :=
  ⟨f, fd, F, FunG.ok (FunG.of F) sc_is_text len (fun cdv A outer s H E hgd hr => d_is_text T  hgd hr) sp, hm, F.binds (ps := ["thing"]) fun _ _ _ _ _ _ us hl => match us, hl with | [_], _ => rfl⟩

abbrev s_need_long : Stmt := top 14
theorem sc_need_long : FnScope ["text", "sign"] ["text"] (defScope s_need_long) := ⟨rfl, rfl, rfl, by decide +kernel, rfl, by decide +kernel, by decide +kernel⟩
theorem d_need_long (T : Txt K mg cm fa) (XT : XTxt P w K mg cm base) {sd_is_text : DSpec} (c_is_text : Cal P w K mg base "is_text" s_is_text 1 ["thing"] sd_is_text) {f : Addr} {cdv : Value} {A : Around} {outer : List PySem.Env} {s : Shared} {H : Hp} {E : XK} (hgd : A.guards = some []) (hr : Room 2 (A.deeper (PyProof.Rows.envOfC "need_long" (defScope s_need_long) s.heap.objs.size f cdv))) :
    DBx (cxOf (L2.CX P w) P w K mg base ["text", "sign"] "need_long" (defScope s_need_long) f cdv A outer s H E) cm (defBody s_need_long) (m_need_long  sd_is_text) := by
  unfold m_need_long
  have hpo : PassesOwn (model P w) (cxOf (L2.CX P w) P w K mg base ["text", "sign"] "need_long" (defScope s_need_long) f cdv A outer s H E).A (cxOf (L2.CX P w) P w K mg base ["text", "sign"] "need_long" (defScope s_need_long) f cdv A outer s H E).env (cxOf (L2.CX P w) P w K mg base ["text", "sign"] "need_long" (defScope s_need_long) f cdv A outer s H E).xe := passes_of rfl
  exact dbx_one (dsx_if (dtw (dw_or (dtnot (dtru (disi (T := "str") (dvar 0) rfl T.b_isinstance rfl T.b_str (by decide +kernel) kt_str))) (dw_or (dtcmp op_gtD o2_ord (dfnB call_lenX on_len rfl T.b_len (by decide +kernel) (da_cons (dvar 0) (da_nil))) (dgintE rfl T.c_MOST_LONG)) (dw_or1 (dtnot (dtru (dfnB (cr_all rfl) on_all rfl T.b_all (by decide +kernel) (da_cons (dlc (js := [1]) [("sign", 1)] rfl sc_need_long.nd (blkOk_by (by kernel_rfl)) (di_any (dvar 0)) (fun _ _ _ _ _ => dg_name 1 sc_need_long.nd rfl (Or.inl rfl)) (fun _ _ _ _ _ => dts_nil) (fun _ _ _ _ _ => dcallC c_is_text hgd (hr.mono (by decide)) (by exact rfl) (dc_cons (dvar 1) (dc_nil)))) (da_nil))))))))) (dbx_one (dsx_raiseE cx_NoText rfl XT.x_NoText (hr.mono (by decide)) (by exact rfl) (dvar 0))) (dbx_of (db_nil)))

theorem k_need_long (T : Txt K mg cm fa) (XT : XTxt P w K mg cm base) {sd_is_text : DSpec} (c_is_text : Cal P w K mg base "is_text" s_is_text 1 ["thing"] sd_is_text) {f : Addr} {fd : FuncData} (F : Fun K "need_long" "need_long" s_need_long f fd) (hm : mg "need_long" = some (.ref f)) {sd : DSpecX} (len : ∀ args R E, sd args R E → args.length = 1)
    (sp : ∀ args R E, sd args R E → m_need_long  sd_is_text { nx := fun e => R (.vl .non) (outs 1 e), rt := fun r e => R r (outs 1 e), ex := fun x fs e => E x fs (outs 1 e) } (startE 2 args)) : CalX P w K mg cm base "need_long" s_need_long 3 ["text"] sd :=
  ⟨f, fd, F, FunG.okX (FunG.of F) sc_need_long len (fun cdv A outer s H E hgd hr => d_need_long T XT c_is_text hgd hr) sp, hm, F.binds (ps := ["text"]) fun _ _ _ _ _ _ us hl => match us, hl with | [_], _ => rfl⟩

abbrev s_common_table : Stmt := top 15
theorem sc_common_table : FnScope ["old", "new", "rows", "sign", "below", "row", "at"] ["old", "new"] (defScope s_common_table) := ⟨rfl, rfl, rfl, by decide +kernel, rfl, by decide +kernel, by decide +kernel⟩
theorem d_common_table (T : Txt K mg cm fa)  {f : Addr} {cdv : Value} {A : Around} {outer : List PySem.Env} {s : Shared} {H : Hp} {E : XK} (hgd : A.guards = some []) (hr : Room 0 (A.deeper (PyProof.Rows.envOfC "common_table" (defScope s_common_table) s.heap.objs.size f cdv))) :
    DB (cxOf CX0 P w K mg base ["old", "new", "rows", "sign", "below", "row", "at"] "common_table" (defScope s_common_table) f cdv A outer s H E).nox (defBody s_common_table) (m_common_table  ) := by
  unfold m_common_table
  exact db_cons (ds_setO (j := 2) sc_common_table.nd rfl (Or.inl rfl) (dlst (dl_cons (dop op_mulD o2_mul (dlst (dl_cons (dint) (dl_nil))) (dop op_addD o2_add (dfnB call_lenX on_len rfl T.b_len (by decide +kernel) (da_cons (dvar 1) (da_nil))) (dint))) (dl_nil)))) (db_cons (ds_for (js := [3]) PassesOwn.never rfl (di_any (drevA (dvar 0))) (dg_name 3 sc_common_table.nd rfl (Or.inl rfl)) (db_cons (ds_set (j := 4) sc_common_table.nd rfl (Or.inl rfl) (dix (dvar 2) (dneg (dint)))) (db_cons (ds_setO (j := 5) sc_common_table.nd rfl (Or.inl rfl) (dlst (dl_cons (dint) (dl_nil)))) (db_cons (ds_for (js := [6]) PassesOwn.never rfl (di_range3 rfl T.b_range (dop op_sub o2_sub (dfnB call_lenX on_len rfl T.b_len (by decide +kernel) (da_cons (dvar 1) (da_nil))) (dint)) (dneg (dint)) (dneg (dint))) (dg_name 6 sc_common_table.nd rfl (Or.inl rfl)) (db_one (ds_if (dtcmp (op_eqD hr.units) o2_eq (dix (dvar 1) (dvar 6)) (dvar 3)) (db_one (ds_app 5 rfl (Or.inl rfl) (dop op_addD o2_add (dix (dvar 4) (dop op_addD o2_add (dvar 6) (dint))) (dint)))) (db_one (ds_app 5 rfl (Or.inl rfl) (dfnB (call_maxX rfl) on_max rfl T.b_max (by decide +kernel) (da_cons (dix (dvar 5) (dneg (dint))) (da_cons (dix (dvar 4) (dvar 6)) (da_nil))))))))) (db_one (ds_app 2 rfl (Or.inl rfl) (drevA (dvar 5)))))))) (db_one (ds_ret (drevA (dvar 2)))))

theorem k_common_table (T : Txt K mg cm fa)  {f : Addr} {fd : FuncData} (F : Fun K "common_table" "common_table" s_common_table f fd) (hm : mg "common_table" = some (.ref f)) {sd : DSpec} (len : ∀ args R, sd args R → args.length = 2)
    (sp : ∀ args R, sd args R → m_common_table   { nx := fun e => R (.vl .non) (outs 2 e), rt := fun r e => R r (outs 2 e) } (startE 7 args)) : Cal P w K mg base "common_table" s_common_table 1 ["old", "new"] sd :=
  ⟨f, fd, F, FunG.ok (FunG.of F) sc_common_table len (fun cdv A outer s H E hgd hr => d_common_table T  hgd hr) sp, hm, F.binds (ps := ["old", "new"]) fun _ _ _ _ _ _ us hl => match us, hl with | [_, _], _ => rfl⟩

abbrev s_steps_between : Stmt := top 16
theorem sc_steps_between : FnScope ["old", "new", "table", "here", "there", "found"] ["old", "new"] (defScope s_steps_between) := ⟨rfl, rfl, rfl, by decide +kernel, rfl, by decide +kernel, by decide +kernel⟩
theorem d_steps_between (T : Txt K mg cm fa) {sd_common_table : DSpec} (c_common_table : Cal P w K mg base "common_table" s_common_table 1 ["old", "new"] sd_common_table) {f : Addr} {cdv : Value} {A : Around} {outer : List PySem.Env} {s : Shared} {H : Hp} {E : XK} (hgd : A.guards = some []) (hr : Room 1 (A.deeper (PyProof.Rows.envOfC "steps_between" (defScope s_steps_between) s.heap.objs.size f cdv))) :
    DB (cxOf CX0 P w K mg base ["old", "new", "table", "here", "there", "found"] "steps_between" (defScope s_steps_between) f cdv A outer s H E).nox (defBody s_steps_between) (m_steps_between  sd_common_table) := by
  unfold m_steps_between
  exact db_cons (ds_set (j := 2) sc_steps_between.nd rfl (Or.inl rfl) (dcallC c_common_table hgd (hr.mono (by decide)) (by exact rfl) (dc_cons (dvar 0) (dc_cons (dvar 1) (dc_nil))))) (db_cons (ds_un (js := [3, 4]) rfl (dgs_cons (dg_name 3 sc_steps_between.nd rfl (Or.inl rfl)) (dgs_cons (dg_name 4 sc_steps_between.nd rfl (Or.inl rfl)) (dgs_nil))) (dtup (dl_cons (dint) (dl_cons (dint) (dl_nil))))) (db_cons (ds_setO (j := 5) sc_steps_between.nd rfl (Or.inl rfl) (dlst (dl_nil))) (db_cons (ds_while PassesOwn.never (dtw (dw_or (dtcmp op_ltD o2_ord (dvar 3) (dfnB call_lenX on_len rfl T.b_len (by decide +kernel) (da_cons (dvar 0) (da_nil)))) (dw_or1 (dtcmp op_ltD o2_ord (dvar 4) (dfnB call_lenX on_len rfl T.b_len (by decide +kernel) (da_cons (dvar 1) (da_nil))))))) (db_one (ds_if (dtw (dw_and (dtcmp op_ltD o2_ord (dvar 3) (dfnB call_lenX on_len rfl T.b_len (by decide +kernel) (da_cons (dvar 0) (da_nil)))) (dw_and (dtcmp op_ltD o2_ord (dvar 4) (dfnB call_lenX on_len rfl T.b_len (by decide +kernel) (da_cons (dvar 1) (da_nil)))) (dw_and1 (dtcmp (op_eqD hr.units) o2_eq (dix (dvar 0) (dvar 3)) (dix (dvar 1) (dvar 4))))))) (db_cons (ds_app 5 rfl (Or.inl rfl) (dtup (dl_cons (dgstrE rfl T.c_KEEP) (dl_cons (dix (dvar 0) (dvar 3)) (dl_nil))))) (db_one (ds_par2 (i := 3) (j := 4) rfl sc_steps_between.nd rfl rfl (by decide) rfl rfl (dl_cons (dop op_addD o2_add (dvar 3) (dint)) (dl_cons (dop op_addD o2_add (dvar 4) (dint)) (dl_nil))) (by first | rfl | kernel_rfl)))) (db_one (ds_if (dtw (dw_or (dtcmp (op_eqD hr.units) o2_eq (dvar 4) (dfnB call_lenX on_len rfl T.b_len (by decide +kernel) (da_cons (dvar 1) (da_nil)))) (dw_or1 (dtw (dw_and (dtcmp op_ltD o2_ord (dvar 3) (dfnB call_lenX on_len rfl T.b_len (by decide +kernel) (da_cons (dvar 0) (da_nil)))) (dw_and1 (dtcmp op_geD o2_ord (dix (dix (dvar 2) (dop op_addD o2_add (dvar 3) (dint))) (dvar 4)) (dix (dix (dvar 2) (dvar 3)) (dop op_addD o2_add (dvar 4) (dint)))))))))) (db_cons (ds_app 5 rfl (Or.inl rfl) (dtup (dl_cons (dgstrE rfl T.c_CUT) (dl_cons (dix (dvar 0) (dvar 3)) (dl_nil))))) (db_one (ds_aug 3 sc_steps_between.nd rfl (Or.inl rfl) ip_addD i2_add (dint)))) (db_cons (ds_app 5 rfl (Or.inl rfl) (dtup (dl_cons (dgstrE rfl T.c_ADD) (dl_cons (dix (dvar 1) (dvar 4)) (dl_nil))))) (db_one (ds_aug 4 sc_steps_between.nd rfl (Or.inl rfl) ip_addD i2_add (dint))))))))) (db_one (ds_ret (dvar 5))))))

theorem k_steps_between (T : Txt K mg cm fa) {sd_common_table : DSpec} (c_common_table : Cal P w K mg base "common_table" s_common_table 1 ["old", "new"] sd_common_table) {f : Addr} {fd : FuncData} (F : Fun K "steps_between" "steps_between" s_steps_between f fd) (hm : mg "steps_between" = some (.ref f)) {sd : DSpec} (len : ∀ args R, sd args R → args.length = 2)
    (sp : ∀ args R, sd args R → m_steps_between  sd_common_table { nx := fun e => R (.vl .non) (outs 2 e), rt := fun r e => R r (outs 2 e) } (startE 6 args)) : Cal P w K mg base "steps_between" s_steps_between 2 ["old", "new"] sd :=
  ⟨f, fd, F, FunG.ok (FunG.of F) sc_steps_between len (fun cdv A outer s H E hgd hr => d_steps_between T c_common_table hgd hr) sp, hm, F.binds (ps := ["old", "new"]) fun _ _ _ _ _ _ us hl => match us, hl with | [_, _], _ => rfl⟩

abbrev s_changes : Stmt := top 17
theorem sc_changes : FnScope ["old", "new", "found", "word", "sign"] ["old", "new"] (defScope s_changes) := ⟨rfl, rfl, rfl, by decide +kernel, rfl, by decide +kernel, by decide +kernel⟩
theorem d_changes (T : Txt K mg cm fa) (XT : XTxt P w K mg cm base) {sd_need_long : DSpecX} (c_need_long : CalX P w K mg cm base "need_long" s_need_long 3 ["text"] sd_need_long) {sd_steps_between : DSpec} (c_steps_between : Cal P w K mg base "steps_between" s_steps_between 2 ["old", "new"] sd_steps_between) {f : Addr} {cdv : Value} {A : Around} {outer : List PySem.Env} {s : Shared} {H : Hp} {E : XK} (hgd : A.guards = some []) (hr : Room 3 (A.deeper (PyProof.Rows.envOfC "changes" (defScope s_changes) s.heap.objs.size f cdv))) :
    DBx (cxOf (L2.CX P w) P w K mg base ["old", "new", "found", "word", "sign"] "changes" (defScope s_changes) f cdv A outer s H E) cm (defBody s_changes) (m_changes  sd_need_long sd_steps_between) := by
  unfold m_changes
  have hpo : PassesOwn (model P w) (cxOf (L2.CX P w) P w K mg base ["old", "new", "found", "word", "sign"] "changes" (defScope s_changes) f cdv A outer s H E).A (cxOf (L2.CX P w) P w K mg base ["old", "new", "found", "word", "sign"] "changes" (defScope s_changes) f cdv A outer s H E).env (cxOf (L2.CX P w) P w K mg base ["old", "new", "found", "word", "sign"] "changes" (defScope s_changes) f cdv A outer s H E).xe := passes_of rfl
  exact dbx_cons (dsx_expr (dex_call c_need_long hgd (hr.mono (by decide)) (by exact rfl) (dc_cons (dvar 0) (dc_nil)))) (dbx_cons (dsx_expr (dex_call c_need_long hgd (hr.mono (by decide)) (by exact rfl) (dc_cons (dvar 1) (dc_nil)))) (dbx_cons (dsx_of (ds_setO (j := 2) sc_changes.nd rfl (Or.inl rfl) (dlst (dl_nil)))) (dbx_cons (dsx_of (ds_for (js := [3, 4]) hpo rfl (di_any (dcallC c_steps_between hgd (hr.mono (by decide)) (by exact rfl) (dc_cons (dvar 0) (dc_cons (dvar 1) (dc_nil))))) (dg_tup rfl (dgs_cons (dg_name 3 sc_changes.nd rfl (Or.inl rfl)) (dgs_cons (dg_name 4 sc_changes.nd rfl (Or.inl rfl)) (dgs_nil)))) (db_one (ds_if (dtw (dw_and (dtcmp (op_neD hr.units) o2_ne (dvar 2) (dlst (dl_nil))) (dw_and1 (dtcmp (op_eqD hr.units) o2_eq (dix (dix (dvar 2) (dneg (dint))) (dint)) (dvar 3))))) (db_one (ds_setIx 2 rfl (Or.inl rfl) (dneg (dint)) (dtup (dl_cons (dvar 3) (dl_cons (dop op_addD o2_add (dix (dix (dvar 2) (dneg (dint))) (dint)) (dvar 4)) (dl_nil)))))) (db_one (ds_app 2 rfl (Or.inl rfl) (dtup (dl_cons (dvar 3) (dl_cons (dvar 4) (dl_nil)))))))))) (dbx_one (dsx_of (ds_ret (dvar 2)))))))

theorem k_changes (T : Txt K mg cm fa) (XT : XTxt P w K mg cm base) {sd_need_long : DSpecX} (c_need_long : CalX P w K mg cm base "need_long" s_need_long 3 ["text"] sd_need_long) {sd_steps_between : DSpec} (c_steps_between : Cal P w K mg base "steps_between" s_steps_between 2 ["old", "new"] sd_steps_between) {f : Addr} {fd : FuncData} (F : Fun K "changes" "changes" s_changes f fd) (hm : mg "changes" = some (.ref f)) {sd : DSpecX} (len : ∀ args R E, sd args R E → args.length = 2)
    (sp : ∀ args R E, sd args R E → m_changes  sd_need_long sd_steps_between { nx := fun e => R (.vl .non) (outs 2 e), rt := fun r e => R r (outs 2 e), ex := fun x fs e => E x fs (outs 2 e) } (startE 5 args)) : CalX P w K mg cm base "changes" s_changes 4 ["old", "new"] sd :=
  ⟨f, fd, F, FunG.okX (FunG.of F) sc_changes len (fun cdv A outer s H E hgd hr => d_changes T XT c_need_long c_steps_between hgd hr) sp, hm, F.binds (ps := ["old", "new"]) fun _ _ _ _ _ _ us hl => match us, hl with | [_, _], _ => rfl⟩

abbrev s_signs_changed : Stmt := top 18
theorem sc_signs_changed : FnScope ["rows", "word", "text"] ["rows"] (defScope s_signs_changed) := ⟨rfl, rfl, rfl, by decide +kernel, rfl, by decide +kernel, by decide +kernel⟩
theorem d_signs_changed (T : Txt K mg cm fa)  {f : Addr} {cdv : Value} {A : Around} {outer : List PySem.Env} {s : Shared} {H : Hp} {E : XK} (hgd : A.guards = some []) (hr : Room 0 (A.deeper (PyProof.Rows.envOfC "signs_changed" (defScope s_signs_changed) s.heap.objs.size f cdv))) :
    DB (cxOf CX0 P w K mg base ["rows", "word", "text"] "signs_changed" (defScope s_signs_changed) f cdv A outer s H E).nox (defBody s_signs_changed) (m_signs_changed  ) := by
  unfold m_signs_changed
  exact db_one (ds_ret (dfnB (cr_sum rfl) on_sum rfl T.b_sum (by decide +kernel) (da_cons (dlc (js := [1, 2]) [("word", 1), ("text", 2)] rfl sc_signs_changed.nd (blkOk_by (by kernel_rfl)) (di_any (dvar 0)) (fun _ _ _ _ _ => dg_tup rfl (dgs_cons (dg_name 1 sc_signs_changed.nd rfl (Or.inl rfl)) (dgs_cons (dg_name 2 sc_signs_changed.nd rfl (Or.inl rfl)) (dgs_nil)))) (fun _ _ _ _ _ => dts_one (dtcmp (op_neD hr.units) o2_ne (dvar 1) (dgstrE rfl T.c_KEEP))) (fun _ _ _ _ _ => dfnB call_lenX on_len rfl T.b_len (by decide +kernel) (da_cons (dvar 2) (da_nil)))) (da_nil))))

theorem k_signs_changed (T : Txt K mg cm fa)  {f : Addr} {fd : FuncData} (F : Fun K "signs_changed" "signs_changed" s_signs_changed f fd) (hm : mg "signs_changed" = some (.ref f)) {sd : DSpec} (len : ∀ args R, sd args R → args.length = 1)
    (sp : ∀ args R, sd args R → m_signs_changed   { nx := fun e => R (.vl .non) (outs 1 e), rt := fun r e => R r (outs 1 e) } (startE 3 args)) : Cal P w K mg base "signs_changed" s_signs_changed 1 ["rows"] sd :=
  ⟨f, fd, F, FunG.ok (FunG.of F) sc_signs_changed len (fun cdv A outer s H E hgd hr => d_signs_changed T  hgd hr) sp, hm, F.binds (ps := ["rows"]) fun _ _ _ _ _ _ us hl => match us, hl with | [_], _ => rfl⟩

abbrev s_fewest_signs : Stmt := top 19
theorem sc_fewest_signs : FnScope ["old", "new"] ["old", "new"] (defScope s_fewest_signs) := ⟨rfl, rfl, rfl, by decide +kernel, rfl, by decide +kernel, by decide +kernel⟩
theorem d_fewest_signs (T : Txt K mg cm fa) (XT : XTxt P w K mg cm base) {sd_changes : DSpecX} (c_changes : CalX P w K mg cm base "changes" s_changes 4 ["old", "new"] sd_changes) {sd_signs_changed : DSpec} (c_signs_changed : Cal P w K mg base "signs_changed" s_signs_changed 1 ["rows"] sd_signs_changed) {f : Addr} {cdv : Value} {A : Around} {outer : List PySem.Env} {s : Shared} {H : Hp} {E : XK} (hgd : A.guards = some []) (hr : Room 4 (A.deeper (PyProof.Rows.envOfC "fewest_signs" (defScope s_fewest_signs) s.heap.objs.size f cdv))) :
    DBx (cxOf (L2.CX P w) P w K mg base ["old", "new"] "fewest_signs" (defScope s_fewest_signs) f cdv A outer s H E) cm (defBody s_fewest_signs) (m_fewest_signs  sd_changes sd_signs_changed) := by
  unfold m_fewest_signs
  have hpo : PassesOwn (model P w) (cxOf (L2.CX P w) P w K mg base ["old", "new"] "fewest_signs" (defScope s_fewest_signs) f cdv A outer s H E).A (cxOf (L2.CX P w) P w K mg base ["old", "new"] "fewest_signs" (defScope s_fewest_signs) f cdv A outer s H E).env (cxOf (L2.CX P w) P w K mg base ["old", "new"] "fewest_signs" (defScope s_fewest_signs) f cdv A outer s H E).xe := passes_of rfl
  exact dbx_one (dsx_ret (dex_callA c_signs_changed hgd (hr.mono (by decide)) (by exact rfl) (dcx_first (dex_call c_changes hgd (hr.mono (by decide)) (by exact rfl) (dc_cons (dvar 0) (dc_cons (dvar 1) (dc_nil)))) (dc_nil))))

theorem k_fewest_signs (T : Txt K mg cm fa) (XT : XTxt P w K mg cm base) {sd_changes : DSpecX} (c_changes : CalX P w K mg cm base "changes" s_changes 4 ["old", "new"] sd_changes) {sd_signs_changed : DSpec} (c_signs_changed : Cal P w K mg base "signs_changed" s_signs_changed 1 ["rows"] sd_signs_changed) {f : Addr} {fd : FuncData} (F : Fun K "fewest_signs" "fewest_signs" s_fewest_signs f fd) (hm : mg "fewest_signs" = some (.ref f)) {sd : DSpecX} (len : ∀ args R E, sd args R E → args.length = 2)
    (sp : ∀ args R E, sd args R E → m_fewest_signs  sd_changes sd_signs_changed { nx := fun e => R (.vl .non) (outs 2 e), rt := fun r e => R r (outs 2 e), ex := fun x fs e => E x fs (outs 2 e) } (startE 2 args)) : CalX P w K mg cm base "fewest_signs" s_fewest_signs 5 ["old", "new"] sd :=
  ⟨f, fd, F, FunG.okX (FunG.of F) sc_fewest_signs len (fun cdv A outer s H E hgd hr => d_fewest_signs T XT c_changes c_signs_changed hgd hr) sp, hm, F.binds (ps := ["old", "new"]) fun _ _ _ _ _ _ us hl => match us, hl with | [_, _], _ => rfl⟩

abbrev s_is_run : Stmt := top 20
theorem sc_is_run : FnScope ["thing"] ["thing"] (defScope s_is_run) := ⟨rfl, rfl, rfl, by decide +kernel, rfl, by decide +kernel, by decide +kernel⟩
theorem d_is_run (T : Txt K mg cm fa)  {f : Addr} {cdv : Value} {A : Around} {outer : List PySem.Env} {s : Shared} {H : Hp} {E : XK} (hgd : A.guards = some []) (hr : Room 0 (A.deeper (PyProof.Rows.envOfC "is_run" (defScope s_is_run) s.heap.objs.size f cdv))) :
    DB (cxOf CX0 P w K mg base ["thing"] "is_run" (defScope s_is_run) f cdv A outer s H E).nox (defBody s_is_run) (m_is_run  ) := by
  unfold m_is_run
  exact db_cons (ds_if (dtw (dw_or (dtnot (dtru (disi (T := "tuple") (dvar 0) rfl T.b_isinstance rfl T.b_tuple (by decide +kernel) kt_tuple))) (dw_or (dtcmp (op_neD hr.units) o2_ne (dfnB call_lenX on_len rfl T.b_len (by decide +kernel) (da_cons (dvar 0) (da_nil))) (dint)) (dw_or1 (dtnot (dtru (disi (T := "str") (dix (dvar 0) (dint)) rfl T.b_isinstance rfl T.b_str (by decide +kernel) kt_str))))))) (db_one (ds_ret (dbl))) (db_nil)) (db_one (ds_ret (dand (dcmp op_inB o2_inB (dix (dvar 0) (dint)) (dtup (dl_cons (dgstrE rfl T.c_KEEP) (dl_cons (dgstrE rfl T.c_CUT) (dl_cons (dgstrE rfl T.c_ADD) (dl_nil)))))) (dand (disi (T := "str") (dix (dvar 0) (dint)) rfl T.b_isinstance rfl T.b_str (by decide +kernel) kt_str) (done1 (dcmp (op_neD hr.units) o2_ne (dix (dvar 0) (dint)) (dstr)))))))

theorem k_is_run (T : Txt K mg cm fa)  {f : Addr} {fd : FuncData} (F : Fun K "is_run" "is_run" s_is_run f fd) (hm : mg "is_run" = some (.ref f)) {sd : DSpec} (len : ∀ args R, sd args R → args.length = 1)
    (sp : ∀ args R, sd args R → m_is_run   { nx := fun e => R (.vl .non) (outs 1 e), rt := fun r e => R r (outs 1 e) } (startE 1 args)) : Cal P w K mg base "is_run" s_is_run 1 ["thing"] sd :=
  ⟨f, fd, F, FunG.ok (FunG.of F) sc_is_run len (fun cdv A outer s H E hgd hr => d_is_run T  hgd hr) sp, hm, F.binds (ps := ["thing"]) fun _ _ _ _ _ _ us hl => match us, hl with | [_], _ => rfl⟩

abbrev s_shows_changes : Stmt := top 21
theorem sc_shows_changes : FnScope ["old", "new", "thing", "before", "behind", "row", "word", "text"] ["old", "new", "thing"] (defScope s_shows_changes) := ⟨rfl, rfl, rfl, by decide +kernel, rfl, by decide +kernel, by decide +kernel⟩
theorem d_shows_changes (T : Txt K mg cm fa) (XT : XTxt P w K mg cm base) {sd_need_long : DSpecX} (c_need_long : CalX P w K mg cm base "need_long" s_need_long 3 ["text"] sd_need_long) {sd_is_run : DSpec} (c_is_run : Cal P w K mg base "is_run" s_is_run 1 ["thing"] sd_is_run) {f : Addr} {cdv : Value} {A : Around} {outer : List PySem.Env} {s : Shared} {H : Hp} {E : XK} (hgd : A.guards = some []) (hr : Room 3 (A.deeper (PyProof.Rows.envOfC "shows_changes" (defScope s_shows_changes) s.heap.objs.size f cdv))) :
    DBx (cxOf (L2.CX P w) P w K mg base ["old", "new", "thing", "before", "behind", "row", "word", "text"] "shows_changes" (defScope s_shows_changes) f cdv A outer s H E) cm (defBody s_shows_changes) (m_shows_changes  sd_need_long sd_is_run) := by
  unfold m_shows_changes
  have hpo : PassesOwn (model P w) (cxOf (L2.CX P w) P w K mg base ["old", "new", "thing", "before", "behind", "row", "word", "text"] "shows_changes" (defScope s_shows_changes) f cdv A outer s H E).A (cxOf (L2.CX P w) P w K mg base ["old", "new", "thing", "before", "behind", "row", "word", "text"] "shows_changes" (defScope s_shows_changes) f cdv A outer s H E).env (cxOf (L2.CX P w) P w K mg base ["old", "new", "thing", "before", "behind", "row", "word", "text"] "shows_changes" (defScope s_shows_changes) f cdv A outer s H E).xe := passes_of rfl
  exact dbx_cons (dsx_expr (dex_call c_need_long hgd (hr.mono (by decide)) (by exact rfl) (dc_cons (dvar 0) (dc_nil)))) (dbx_cons (dsx_expr (dex_call c_need_long hgd (hr.mono (by decide)) (by exact rfl) (dc_cons (dvar 1) (dc_nil)))) (dbx_cons (dsx_of (ds_if (dtw (dw_or (dtnot (dtru (disi2 (T := "list") (U := "tuple") (dvar 2) rfl T.b_isinstance rfl T.b_list (by decide +kernel) rfl T.b_tuple (by decide +kernel) (kt2 kt_list kt_tuple)))) (dw_or1 (dtnot (dtru (dfnB (cr_all rfl) on_all rfl T.b_all (by decide +kernel) (da_cons (dlc (js := [5]) [("row", 5)] rfl sc_shows_changes.nd (blkOk_by (by kernel_rfl)) (di_any (dvar 2)) (fun _ _ _ _ _ => dg_name 5 sc_shows_changes.nd rfl (Or.inl rfl)) (fun _ _ _ _ _ => dts_nil) (fun _ _ _ _ _ => dcallC c_is_run hgd (hr.mono (by decide)) (by exact rfl) (dc_cons (dvar 5) (dc_nil)))) (da_nil)))))))) (db_one (ds_ret (dbl))) (db_nil))) (dbx_cons (dsx_of (ds_set (j := 3) sc_shows_changes.nd rfl (Or.inl rfl) (djoin (dstr) (dlc (js := [6, 7]) [("word", 6), ("text", 7)] rfl sc_shows_changes.nd (blkOk_by (by kernel_rfl)) (di_any (dvar 2)) (fun _ _ _ _ _ => dg_tup rfl (dgs_cons (dg_name 6 sc_shows_changes.nd rfl (Or.inl rfl)) (dgs_cons (dg_name 7 sc_shows_changes.nd rfl (Or.inl rfl)) (dgs_nil)))) (fun _ _ _ _ _ => dts_one (dtcmp (op_neD hr.units) o2_ne (dvar 6) (dgstrE rfl T.c_ADD))) (fun _ _ _ _ _ => dvar 7))))) (dbx_cons (dsx_of (ds_set (j := 4) sc_shows_changes.nd rfl (Or.inl rfl) (djoin (dstr) (dlc (js := [6, 7]) [("word", 6), ("text", 7)] rfl sc_shows_changes.nd (blkOk_by (by kernel_rfl)) (di_any (dvar 2)) (fun _ _ _ _ _ => dg_tup rfl (dgs_cons (dg_name 6 sc_shows_changes.nd rfl (Or.inl rfl)) (dgs_cons (dg_name 7 sc_shows_changes.nd rfl (Or.inl rfl)) (dgs_nil)))) (fun _ _ _ _ _ => dts_one (dtcmp (op_neD hr.units) o2_ne (dvar 6) (dgstrE rfl T.c_CUT))) (fun _ _ _ _ _ => dvar 7))))) (dbx_one (dsx_of (ds_ret (dand (dcmp (op_eqD hr.units) o2_eq (dvar 3) (dvar 0)) (done1 (dcmp (op_eqD hr.units) o2_eq (dvar 4) (dvar 1)))))))))))

theorem k_shows_changes (T : Txt K mg cm fa) (XT : XTxt P w K mg cm base) {sd_need_long : DSpecX} (c_need_long : CalX P w K mg cm base "need_long" s_need_long 3 ["text"] sd_need_long) {sd_is_run : DSpec} (c_is_run : Cal P w K mg base "is_run" s_is_run 1 ["thing"] sd_is_run) {f : Addr} {fd : FuncData} (F : Fun K "shows_changes" "shows_changes" s_shows_changes f fd) (hm : mg "shows_changes" = some (.ref f)) {sd : DSpecX} (len : ∀ args R E, sd args R E → args.length = 3)
    (sp : ∀ args R E, sd args R E → m_shows_changes  sd_need_long sd_is_run { nx := fun e => R (.vl .non) (outs 3 e), rt := fun r e => R r (outs 3 e), ex := fun x fs e => E x fs (outs 3 e) } (startE 8 args)) : CalX P w K mg cm base "shows_changes" s_shows_changes 4 ["old", "new", "thing"] sd :=
  ⟨f, fd, F, FunG.okX (FunG.of F) sc_shows_changes len (fun cdv A outer s H E hgd hr => d_shows_changes T XT c_need_long c_is_run hgd hr) sp, hm, F.binds (ps := ["old", "new", "thing"]) fun _ _ _ _ _ _ us hl => match us, hl with | [_, _, _], _ => rfl⟩

abbrev s_l_truth : Stmt := top 23
theorem sc_l_truth : FnScope ["told", "due"] ["told", "due"] (defScope s_l_truth) := ⟨rfl, rfl, rfl, by decide +kernel, rfl, by decide +kernel, by decide +kernel⟩
theorem d_l_truth (T : Txt K mg cm fa)  {f : Addr} {cdv : Value} {A : Around} {outer : List PySem.Env} {s : Shared} {H : Hp} {E : XK} (hgd : A.guards = some []) (hr : Room 0 (A.deeper (PyProof.Rows.envOfC "_law_truth" (defScope s_l_truth) s.heap.objs.size f cdv))) :
    DB (cxOf CX0 P w K mg base ["told", "due"] "_law_truth" (defScope s_l_truth) f cdv A outer s H E).nox (defBody s_l_truth) (m_l_truth  ) := by
  unfold m_l_truth
  exact db_one (ds_ret (dand (disi (T := "bool") (dvar 0) rfl T.b_isinstance rfl T.b_bool (by decide +kernel) kt_bool) (done1 (dcmp (op_eqD hr.units) o2_eq (dvar 0) (dvar 1)))))

theorem k_l_truth (T : Txt K mg cm fa)  {f : Addr} {fd : FuncData} (F : Fun K "_law_truth" "_law_truth" s_l_truth f fd) (hm : mg "_law_truth" = some (.ref f)) {sd : DSpec} (len : ∀ args R, sd args R → args.length = 2)
    (sp : ∀ args R, sd args R → m_l_truth   { nx := fun e => R (.vl .non) (outs 2 e), rt := fun r e => R r (outs 2 e) } (startE 2 args)) : Cal P w K mg base "_law_truth" s_l_truth 1 ["told", "due"] sd :=
  ⟨f, fd, F, FunG.ok (FunG.of F) sc_l_truth len (fun cdv A outer s H E hgd hr => d_l_truth T  hgd hr) sp, hm, F.binds (ps := ["told", "due"]) fun _ _ _ _ _ _ us hl => match us, hl with | [_, _], _ => rfl⟩

abbrev s_l_cell : Stmt := top 24
theorem sc_l_cell : FnScope ["script", "k"] ["script", "k"] (defScope s_l_cell) := ⟨rfl, rfl, rfl, by decide +kernel, rfl, by decide +kernel, by decide +kernel⟩
theorem d_l_cell (T : Txt K mg cm fa)  {f : Addr} {cdv : Value} {A : Around} {outer : List PySem.Env} {s : Shared} {H : Hp} {E : XK} (hgd : A.guards = some []) (hr : Room 0 (A.deeper (PyProof.Rows.envOfC "_law_cell" (defScope s_l_cell) s.heap.objs.size f cdv))) :
    DB (cxOf CX0 P w K mg base ["script", "k"] "_law_cell" (defScope s_l_cell) f cdv A outer s H E).nox (defBody s_l_cell) (m_l_cell  ) := by
  unfold m_l_cell
  exact db_cons (ds_if (dtcmp op_ltD o2_ord (dvar 1) (dfnB call_lenX on_len rfl T.b_len (by decide +kernel) (da_cons (dvar 0) (da_nil)))) (db_one (ds_ret (dix (dvar 0) (dvar 1)))) (db_nil)) (db_one (ds_ret (dop op_addD o2_add (dop op_mulD o2_mul (dint) (dvar 1)) (dint))))

theorem k_l_cell (T : Txt K mg cm fa)  {f : Addr} {fd : FuncData} (F : Fun K "_law_cell" "_law_cell" s_l_cell f fd) (hm : mg "_law_cell" = some (.ref f)) {sd : DSpec} (len : ∀ args R, sd args R → args.length = 2)
    (sp : ∀ args R, sd args R → m_l_cell   { nx := fun e => R (.vl .non) (outs 2 e), rt := fun r e => R r (outs 2 e) } (startE 2 args)) : Cal P w K mg base "_law_cell" s_l_cell 1 ["script", "k"] sd :=
  ⟨f, fd, F, FunG.ok (FunG.of F) sc_l_cell len (fun cdv A outer s H E hgd hr => d_l_cell T  hgd hr) sp, hm, F.binds (ps := ["script", "k"]) fun _ _ _ _ _ _ us hl => match us, hl with | [_, _], _ => rfl⟩

abbrev s_l_box : Stmt := top 25
theorem sc_l_box : FnScope ["cell"] ["cell"] (defScope s_l_box) := ⟨rfl, rfl, rfl, by decide +kernel, rfl, by decide +kernel, by decide +kernel⟩
theorem d_l_box (T : Txt K mg cm fa)  {f : Addr} {cdv : Value} {A : Around} {outer : List PySem.Env} {s : Shared} {H : Hp} {E : XK} (hgd : A.guards = some []) (hr : Room 0 (A.deeper (PyProof.Rows.envOfC "_law_box" (defScope s_l_box) s.heap.objs.size f cdv))) :
    DB (cxOf CX0 P w K mg base ["cell"] "_law_box" (defScope s_l_box) f cdv A outer s H E).nox (defBody s_l_box) (m_l_box  ) := by
  unfold m_l_box
  exact db_one (ds_ret (dlst (dl_cons (dfnB (call_maxX rfl) on_max rfl T.b_max (by decide +kernel) (da_cons (dint) (da_cons (dop op_sub o2_sub (dvar 0) (dop op_pow o2_pow (dint) (dint))) (da_nil)))) (dl_cons (dop op_mod o2_mod (dvar 0) (dint)) (dl_cons (dint) (dl_nil))))))

theorem k_l_box (T : Txt K mg cm fa)  {f : Addr} {fd : FuncData} (F : Fun K "_law_box" "_law_box" s_l_box f fd) (hm : mg "_law_box" = some (.ref f)) {sd : DSpec} (len : ∀ args R, sd args R → args.length = 1)
    (sp : ∀ args R, sd args R → m_l_box   { nx := fun e => R (.vl .non) (outs 1 e), rt := fun r e => R r (outs 1 e) } (startE 1 args)) : Cal P w K mg base "_law_box" s_l_box 1 ["cell"] sd :=
  ⟨f, fd, F, FunG.ok (FunG.of F) sc_l_box len (fun cdv A outer s H E hgd hr => d_l_box T  hgd hr) sp, hm, F.binds (ps := ["cell"]) fun _ _ _ _ _ _ us hl => match us, hl with | [_], _ => rfl⟩

abbrev s_l_take : Stmt := top 26
theorem sc_l_take : FnScope ["box", "many", "digit", "one", "other"] ["box", "many"] (defScope s_l_take) := ⟨rfl, rfl, rfl, by decide +kernel, rfl, by decide +kernel, by decide +kernel⟩
theorem d_l_take (T : Txt K mg cm fa)  {f : Addr} {cdv : Value} {A : Around} {outer : List PySem.Env} {s : Shared} {H : Hp} {E : XK} (hgd : A.guards = some []) (hr : Room 0 (A.deeper (PyProof.Rows.envOfC "_law_take" (defScope s_l_take) s.heap.objs.size f cdv))) :
    DB (cxOf CX0 P w K mg base ["box", "many", "digit", "one", "other"] "_law_take" (defScope s_l_take) f cdv A outer s H E).nox (defBody s_l_take) (m_l_take  ) := by
  unfold m_l_take
  exact db_cons (ds_if (dtcmp op_gtD o2_ord (dix (dvar 0) (dint)) (dint)) (db_cons (ds_set (j := 2) sc_l_take.nd rfl (Or.inl rfl) (dop op_mod o2_mod (dix (dvar 0) (dint)) (dvar 1))) (db_cons (ds_setIx 0 rfl (Or.inl rfl) (dint) (dop op_fdivW o2_fdiv (dix (dvar 0) (dint)) (dvar 1))) (db_one (ds_ret (dvar 2))))) (db_nil)) (db_cons (ds_setIx 0 rfl (Or.inl rfl) (dint) (dop op_addD o2_add (dix (dvar 0) (dint)) (dint))) (db_cons (ds_set (j := 3) sc_l_take.nd rfl (Or.inl rfl) (dop op_mod o2_mod (dop op_pow o2_pow (dop op_addD o2_add (dop op_addD o2_add (dix (dvar 0) (dint)) (dop op_mulD o2_mul (dint) (dix (dvar 0) (dint)))) (dint)) (dint)) (dint))) (db_cons (ds_set (j := 4) sc_l_take.nd rfl (Or.inl rfl) (dop op_mod o2_mod (dop op_pow o2_pow (dop op_addD o2_add (dop op_addD o2_add (dop op_fdivW o2_fdiv (dvar 3) (dint)) (dop op_mulD o2_mul (dop op_mulD o2_mul (dint) (dix (dvar 0) (dint))) (dix (dvar 0) (dint)))) (dint)) (dint)) (dint))) (db_one (ds_ret (dop op_mod o2_mod (dop op_addD o2_add (dop op_fdivW o2_fdiv (dvar 3) (dint)) (dop op_mulD o2_mul (dint) (dop op_fdivW o2_fdiv (dvar 4) (dint)))) (dvar 1)))))))

theorem k_l_take (T : Txt K mg cm fa)  {f : Addr} {fd : FuncData} (F : Fun K "_law_take" "_law_take" s_l_take f fd) (hm : mg "_law_take" = some (.ref f)) {sd : DSpec} (len : ∀ args R, sd args R → args.length = 2)
    (sp : ∀ args R, sd args R → m_l_take   { nx := fun e => R (.vl .non) (outs 2 e), rt := fun r e => R r (outs 2 e) } (startE 5 args)) : Cal P w K mg base "_law_take" s_l_take 1 ["box", "many"] sd :=
  ⟨f, fd, F, FunG.ok (FunG.of F) sc_l_take len (fun cdv A outer s H E hgd hr => d_l_take T  hgd hr) sp, hm, F.binds (ps := ["box", "many"]) fun _ _ _ _ _ _ us hl => match us, hl with | [_, _], _ => rfl⟩

abbrev s_l_drawn : Stmt := top 27
theorem sc_l_drawn : FnScope ["box", "size", "k"] ["box", "size"] (defScope s_l_drawn) := ⟨rfl, rfl, rfl, by decide +kernel, rfl, by decide +kernel, by decide +kernel⟩
theorem d_l_drawn (T : Txt K mg cm fa) {sd_l_take : DSpec} (c_l_take : Cal P w K mg base "_law_take" s_l_take 1 ["box", "many"] sd_l_take) {f : Addr} {cdv : Value} {A : Around} {outer : List PySem.Env} {s : Shared} {H : Hp} {E : XK} (hgd : A.guards = some []) (hr : Room 1 (A.deeper (PyProof.Rows.envOfC "_law_drawn" (defScope s_l_drawn) s.heap.objs.size f cdv))) :
    DB (cxOf CX0 P w K mg base ["box", "size", "k"] "_law_drawn" (defScope s_l_drawn) f cdv A outer s H E).nox (defBody s_l_drawn) (m_l_drawn  sd_l_take) := by
  unfold m_l_drawn
  exact db_one (ds_ret (djoin (dstr) (dlc (js := [2]) [("k", 2)] rfl sc_l_drawn.nd (blkOk_by (by kernel_rfl)) (di_range1 rfl T.b_range (dvar 1)) (fun _ _ _ _ _ => dg_name 2 sc_l_drawn.nd rfl (Or.inl rfl)) (fun _ _ _ _ _ => dts_nil) (fun _ _ _ _ _ => dix (dstr) (dcallC c_l_take hgd (hr.mono (by decide)) (by exact rfl) (dc_cons (dvar 0) (dc_cons (dop op_addD o2_add (dint) (dop op_mod o2_mod (dvar 1) (dint))) (dc_nil))))))))

theorem k_l_drawn (T : Txt K mg cm fa) {sd_l_take : DSpec} (c_l_take : Cal P w K mg base "_law_take" s_l_take 1 ["box", "many"] sd_l_take) {f : Addr} {fd : FuncData} (F : Fun K "_law_drawn" "_law_drawn" s_l_drawn f fd) (hm : mg "_law_drawn" = some (.ref f)) {sd : DSpec} (len : ∀ args R, sd args R → args.length = 2)
    (sp : ∀ args R, sd args R → m_l_drawn  sd_l_take { nx := fun e => R (.vl .non) (outs 2 e), rt := fun r e => R r (outs 2 e) } (startE 3 args)) : Cal P w K mg base "_law_drawn" s_l_drawn 2 ["box", "size"] sd :=
  ⟨f, fd, F, FunG.ok (FunG.of F) sc_l_drawn len (fun cdv A outer s H E hgd hr => d_l_drawn T c_l_take hgd hr) sp, hm, F.binds (ps := ["box", "size"]) fun _ _ _ _ _ _ us hl => match us, hl with | [_, _], _ => rfl⟩

abbrev s_l_changed : Stmt := top 28
theorem sc_l_changed : FnScope ["box", "text", "found", "sign", "way", "at"] ["box", "text"] (defScope s_l_changed) := ⟨rfl, rfl, rfl, by decide +kernel, rfl, by decide +kernel, by decide +kernel⟩
theorem d_l_changed (T : Txt K mg cm fa) {sd_l_take : DSpec} (c_l_take : Cal P w K mg base "_law_take" s_l_take 1 ["box", "many"] sd_l_take) {f : Addr} {cdv : Value} {A : Around} {outer : List PySem.Env} {s : Shared} {H : Hp} {E : XK} (hgd : A.guards = some []) (hr : Room 1 (A.deeper (PyProof.Rows.envOfC "_law_changed" (defScope s_l_changed) s.heap.objs.size f cdv))) :
    DB (cxOf CX0 P w K mg base ["box", "text", "found", "sign", "way", "at"] "_law_changed" (defScope s_l_changed) f cdv A outer s H E).nox (defBody s_l_changed) (m_l_changed  sd_l_take) := by
  unfold m_l_changed
  exact db_cons (ds_setO (j := 2) sc_l_changed.nd rfl (Or.inl rfl) (dlst (dl_nil))) (db_cons (ds_for (js := [3]) PassesOwn.never rfl (di_any (dvar 1)) (dg_name 3 sc_l_changed.nd rfl (Or.inl rfl)) (db_cons (ds_set (j := 4) sc_l_changed.nd rfl (Or.inl rfl) (dcallC c_l_take hgd (hr.mono (by decide)) (by exact rfl) (dc_cons (dvar 0) (dc_cons (dint) (dc_nil))))) (db_one (ds_ext 2 rfl (Or.inl rfl) (dix (dlst (dl_cons (dlst (dl_cons (dvar 3) (dl_nil))) (dl_cons (dlst (dl_cons (dvar 3) (dl_nil))) (dl_cons (dlst (dl_cons (dvar 3) (dl_nil))) (dl_cons (dlst (dl_nil)) (dl_cons (dlst (dl_cons (dvar 3) (dl_cons (dstr) (dl_nil)))) (dl_cons (dlst (dl_cons (dstr) (dl_cons (dvar 3) (dl_nil)))) (dl_nil)))))))) (dvar 4)))))) (db_cons (ds_set (j := 5) sc_l_changed.nd rfl (Or.inl rfl) (dcallC c_l_take hgd (hr.mono (by decide)) (by exact rfl) (dc_cons (dvar 0) (dc_cons (dop op_addD o2_add (dfnB call_lenX on_len rfl T.b_len (by decide +kernel) (da_cons (dvar 2) (da_nil))) (dint)) (dc_nil))))) (db_one (ds_ret (djoin (dstr) (dif (dtcmp (op_eqD hr.units) o2_eq (dcallC c_l_take hgd (hr.mono (by decide)) (by exact rfl) (dc_cons (dvar 0) (dc_cons (dint) (dc_nil)))) (dint)) (dop op_addD o2_add (dslice (dvar 2) (do_some (dvar 5)) (do_none)) (dslice (dvar 2) (do_none) (do_some (dvar 5)))) (dvar 2)))))))

theorem k_l_changed (T : Txt K mg cm fa) {sd_l_take : DSpec} (c_l_take : Cal P w K mg base "_law_take" s_l_take 1 ["box", "many"] sd_l_take) {f : Addr} {fd : FuncData} (F : Fun K "_law_changed" "_law_changed" s_l_changed f fd) (hm : mg "_law_changed" = some (.ref f)) {sd : DSpec} (len : ∀ args R, sd args R → args.length = 2)
    (sp : ∀ args R, sd args R → m_l_changed  sd_l_take { nx := fun e => R (.vl .non) (outs 2 e), rt := fun r e => R r (outs 2 e) } (startE 6 args)) : Cal P w K mg base "_law_changed" s_l_changed 2 ["box", "text"] sd :=
  ⟨f, fd, F, FunG.ok (FunG.of F) sc_l_changed len (fun cdv A outer s H E hgd hr => d_l_changed T c_l_take hgd hr) sp, hm, F.binds (ps := ["box", "text"]) fun _ _ _ _ _ _ us hl => match us, hl with | [_, _], _ => rfl⟩

abbrev s_l_common : Stmt := top 29
theorem sc_l_common : FnScope ["old", "new", "ahead", "sign", "row", "at", "other"] ["old", "new"] (defScope s_l_common) := ⟨rfl, rfl, rfl, by decide +kernel, rfl, by decide +kernel, by decide +kernel⟩
theorem d_l_common (T : Txt K mg cm fa)  {f : Addr} {cdv : Value} {A : Around} {outer : List PySem.Env} {s : Shared} {H : Hp} {E : XK} (hgd : A.guards = some []) (hr : Room 0 (A.deeper (PyProof.Rows.envOfC "_law_common" (defScope s_l_common) s.heap.objs.size f cdv))) :
    DB (cxOf CX0 P w K mg base ["old", "new", "ahead", "sign", "row", "at", "other"] "_law_common" (defScope s_l_common) f cdv A outer s H E).nox (defBody s_l_common) (m_l_common  ) := by
  unfold m_l_common
  exact db_cons (ds_set (j := 2) sc_l_common.nd rfl (Or.inl rfl) (dop op_mulD o2_mul (dlst (dl_cons (dint) (dl_nil))) (dop op_addD o2_add (dfnB call_lenX on_len rfl T.b_len (by decide +kernel) (da_cons (dvar 1) (da_nil))) (dint)))) (db_cons (ds_for (js := [3]) PassesOwn.never rfl (di_any (dvar 0)) (dg_name 3 sc_l_common.nd rfl (Or.inl rfl)) (db_cons (ds_setO (j := 4) sc_l_common.nd rfl (Or.inl rfl) (dlst (dl_cons (dint) (dl_nil)))) (db_cons (ds_for (js := [5, 6]) PassesOwn.never rfl (di_enumB rfl T.b_enumerate (dvar 1)) (dg_tup rfl (dgs_cons (dg_name 5 sc_l_common.nd rfl (Or.inl rfl)) (dgs_cons (dg_name 6 sc_l_common.nd rfl (Or.inl rfl)) (dgs_nil)))) (db_one (ds_app 4 rfl (Or.inl rfl) (dif (dtcmp (op_eqD hr.units) o2_eq (dvar 3) (dvar 6)) (dop op_addD o2_add (dix (dvar 2) (dvar 5)) (dint)) (dfnB (call_maxX rfl) on_max rfl T.b_max (by decide +kernel) (da_cons (dix (dvar 4) (dvar 5)) (da_cons (dix (dvar 2) (dop op_addD o2_add (dvar 5) (dint))) (da_nil)))))))) (db_one (ds_frz 4 (ds_set (j := 2) sc_l_common.nd rfl (Or.inl rfl) (dvar 4))))))) (db_one (ds_ret (dix (dvar 2) (dneg (dint))))))

theorem k_l_common (T : Txt K mg cm fa)  {f : Addr} {fd : FuncData} (F : Fun K "_law_common" "_law_common" s_l_common f fd) (hm : mg "_law_common" = some (.ref f)) {sd : DSpec} (len : ∀ args R, sd args R → args.length = 2)
    (sp : ∀ args R, sd args R → m_l_common   { nx := fun e => R (.vl .non) (outs 2 e), rt := fun r e => R r (outs 2 e) } (startE 7 args)) : Cal P w K mg base "_law_common" s_l_common 1 ["old", "new"] sd :=
  ⟨f, fd, F, FunG.ok (FunG.of F) sc_l_common len (fun cdv A outer s H E hgd hr => d_l_common T  hgd hr) sp, hm, F.binds (ps := ["old", "new"]) fun _ _ _ _ _ _ us hl => match us, hl with | [_, _], _ => rfl⟩

abbrev s_l_is_change : Stmt := top 30
theorem sc_l_is_change : FnScope ["old", "new", "thing", "before", "behind", "row"] ["old", "new", "thing"] (defScope s_l_is_change) := ⟨rfl, rfl, rfl, by decide +kernel, rfl, by decide +kernel, by decide +kernel⟩
theorem d_l_is_change (T : Txt K mg cm fa)  {f : Addr} {cdv : Value} {A : Around} {outer : List PySem.Env} {s : Shared} {H : Hp} {E : XK} (hgd : A.guards = some []) (hr : Room 0 (A.deeper (PyProof.Rows.envOfC "_law_is_change" (defScope s_l_is_change) s.heap.objs.size f cdv))) :
    DB (cxOf CX0 P w K mg base ["old", "new", "thing", "before", "behind", "row"] "_law_is_change" (defScope s_l_is_change) f cdv A outer s H E).nox (defBody s_l_is_change) (m_l_is_change  ) := by
  unfold m_l_is_change
  exact db_cons (ds_if (dtnot (dtru (disi2 (T := "list") (U := "tuple") (dvar 2) rfl T.b_isinstance rfl T.b_list (by decide +kernel) rfl T.b_tuple (by decide +kernel) (kt2 kt_list kt_tuple)))) (db_one (ds_ret (dbl))) (db_nil)) (db_cons (ds_un (js := [3, 4]) rfl (dgs_cons (dg_name 3 sc_l_is_change.nd rfl (Or.inl rfl)) (dgs_cons (dg_name 4 sc_l_is_change.nd rfl (Or.inl rfl)) (dgs_nil))) (dtup (dl_cons (dstr) (dl_cons (dstr) (dl_nil))))) (db_cons (ds_for (js := [5]) PassesOwn.never rfl (di_any (dvar 2)) (dg_name 5 sc_l_is_change.nd rfl (Or.inl rfl)) (db_cons (ds_if (dtw (dw_or (dtnot (dtru (disi (T := "tuple") (dvar 5) rfl T.b_isinstance rfl T.b_tuple (by decide +kernel) kt_tuple))) (dw_or (dtcmp (op_neD hr.units) o2_ne (dfnB call_lenX on_len rfl T.b_len (by decide +kernel) (da_cons (dvar 5) (da_nil))) (dint)) (dw_or (dtnot (dtru (disi (T := "str") (dix (dvar 5) (dint)) rfl T.b_isinstance rfl T.b_str (by decide +kernel) kt_str))) (dw_or1 (dtnot (dtru (disi (T := "str") (dix (dvar 5) (dint)) rfl T.b_isinstance rfl T.b_str (by decide +kernel) kt_str)))))))) (db_one (ds_ret (dbl))) (db_nil)) (db_cons (ds_if (dtw (dw_or (dtcmp op_notInB o2_inB (dix (dvar 5) (dint)) (dtup (dl_cons (dstr) (dl_cons (dstr) (dl_cons (dstr) (dl_nil)))))) (dw_or1 (dtcmp (op_eqD hr.units) o2_eq (dix (dvar 5) (dint)) (dstr))))) (db_one (ds_ret (dbl))) (db_nil)) (db_cons (ds_set (j := 3) sc_l_is_change.nd rfl (Or.inl rfl) (dop op_addD o2_add (dvar 3) (dif (dtcmp (op_neD hr.units) o2_ne (dix (dvar 5) (dint)) (dstr)) (dix (dvar 5) (dint)) (dstr)))) (db_one (ds_set (j := 4) sc_l_is_change.nd rfl (Or.inl rfl) (dop op_addD o2_add (dvar 4) (dif (dtcmp (op_neD hr.units) o2_ne (dix (dvar 5) (dint)) (dstr)) (dix (dvar 5) (dint)) (dstr))))))))) (db_one (ds_ret (dand (dcmp (op_eqD hr.units) o2_eq (dvar 3) (dvar 0)) (done1 (dcmp (op_eqD hr.units) o2_eq (dvar 4) (dvar 1))))))))

theorem k_l_is_change (T : Txt K mg cm fa)  {f : Addr} {fd : FuncData} (F : Fun K "_law_is_change" "_law_is_change" s_l_is_change f fd) (hm : mg "_law_is_change" = some (.ref f)) {sd : DSpec} (len : ∀ args R, sd args R → args.length = 3)
    (sp : ∀ args R, sd args R → m_l_is_change   { nx := fun e => R (.vl .non) (outs 3 e), rt := fun r e => R r (outs 3 e) } (startE 6 args)) : Cal P w K mg base "_law_is_change" s_l_is_change 1 ["old", "new", "thing"] sd :=
  ⟨f, fd, F, FunG.ok (FunG.of F) sc_l_is_change len (fun cdv A outer s H E hgd hr => d_l_is_change T  hgd hr) sp, hm, F.binds (ps := ["old", "new", "thing"]) fun _ _ _ _ _ _ us hl => match us, hl with | [_, _, _], _ => rfl⟩

abbrev s_l_things : Stmt := top 31
theorem sc_l_things : FnScope ["box", "old", "new", "told", "rows", "at", "some", "turned", "row", "word", "text"] ["box", "old", "new", "told"] (defScope s_l_things) := ⟨rfl, rfl, rfl, by decide +kernel, rfl, by decide +kernel, by decide +kernel⟩
theorem d_l_things (T : Txt K mg cm fa) {sd_l_take : DSpec} (c_l_take : Cal P w K mg base "_law_take" s_l_take 1 ["box", "many"] sd_l_take) {f : Addr} {cdv : Value} {A : Around} {outer : List PySem.Env} {s : Shared} {H : Hp} {E : XK} (hgd : A.guards = some []) (hr : Room 1 (A.deeper (PyProof.Rows.envOfC "_law_things" (defScope s_l_things) s.heap.objs.size f cdv))) :
    DB (cxOf CX0 P w K mg base ["box", "old", "new", "told", "rows", "at", "some", "turned", "row", "word", "text"] "_law_things" (defScope s_l_things) f cdv A outer s H E).nox (defBody s_l_things) (m_l_things  sd_l_take) := by
  unfold m_l_things
  exact db_cons (ds_set (j := 4) sc_l_things.nd rfl (Or.inl rfl) (dlst (dl_cons (dtup (dl_cons (dstr) (dl_cons (dvar 1) (dl_nil)))) (dl_cons (dtup (dl_cons (dstr) (dl_cons (dvar 2) (dl_nil)))) (dl_nil))))) (db_cons (ds_setLc (i := 4) (js := [8]) [("row", 8)] rfl sc_l_things.nd rfl rfl (sw_true rfl rfl rfl (by first | rfl | decide +kernel)) (blkOk_by (by kernel_rfl)) (di_any (dvar 4)) (fun _ _ _ _ _ => dg_name 8 sc_l_things.nd rfl (Or.inl rfl)) (fun _ _ _ _ _ => dts_one (dtcmp (op_neD hr.units) o2_ne (dix (dvar 8) (dint)) (dstr))) (fun _ _ _ _ _ => dvar 8)) (db_cons (ds_set (j := 5) sc_l_things.nd rfl (Or.inl rfl) (dcallC c_l_take hgd (hr.mono (by decide)) (by exact rfl) (dc_cons (dvar 0) (dc_cons (dop op_addD o2_add (dfnB call_lenX on_len rfl T.b_len (by decide +kernel) (da_cons (dvar 3) (da_nil))) (dint)) (dc_nil))))) (db_cons (ds_set (j := 6) sc_l_things.nd rfl (Or.inl rfl) (dlst (dl_cons (dvar 4) (dl_cons (dfnT call_tuple_of on_tuple rfl T.b_tuple (by decide +kernel) (da_cons (dvar 4) (da_nil))) (dl_cons (drevA (dvar 4)) (dl_cons (dvar 3) (dl_cons (dfnT call_tuple_of on_tuple rfl T.b_tuple (by decide +kernel) (da_cons (dvar 3) (da_nil))) (dl_cons (dop op_addD o2_add (dslice (dvar 3) (do_none) (do_some (dvar 5))) (dslice (dvar 3) (do_some (dop op_addD o2_add (dvar 5) (dint))) (do_none))) (dl_cons (dop op_addD o2_add (dop op_addD o2_add (dslice (dvar 3) (do_none) (do_some (dvar 5))) (dslice (dvar 3) (do_some (dvar 5)) (do_some (dop op_addD o2_add (dvar 5) (dint))))) (dslice (dvar 3) (do_some (dvar 5)) (do_none))) (dl_nil)))))))))) (db_cons (ds_set (j := 6) sc_l_things.nd rfl (Or.inl rfl) (dop op_addD o2_add (dvar 6) (dlst (dl_cons (drevA (dvar 3)) (dl_cons (dop op_addD o2_add (dvar 3) (dlst (dl_cons (dtup (dl_cons (dstr) (dl_cons (dstr) (dl_nil)))) (dl_nil)))) (dl_cons (dop op_addD o2_add (dvar 3) (dlst (dl_cons (dtup (dl_cons (dstr) (dl_cons (dstr) (dl_nil)))) (dl_nil)))) (dl_cons (dop op_addD o2_add (dvar 3) (dlst (dl_cons (dtup (dl_cons (dstr) (dl_cons (dstr) (dl_nil)))) (dl_nil)))) (dl_cons (dop op_addD o2_add (dvar 3) (dlst (dl_cons (dtup (dl_cons (dstr) (dl_cons (dstr) (dl_nil)))) (dl_nil)))) (dl_cons (dnon) (dl_cons (ddnew) (dl_nil))))))))))) (db_cons (ds_setLc (i := 7) (js := [9, 10]) [("word", 9), ("text", 10)] rfl sc_l_things.nd rfl rfl (sw_true rfl rfl rfl (by first | rfl | decide +kernel)) (blkOk_by (by kernel_rfl)) (di_any (dvar 3)) (fun _ _ _ _ _ => dg_tup rfl (dgs_cons (dg_name 9 sc_l_things.nd rfl (Or.inl rfl)) (dgs_cons (dg_name 10 sc_l_things.nd rfl (Or.inl rfl)) (dgs_nil)))) (fun _ _ _ _ _ => dts_nil) (fun _ _ _ _ _ => dtup (dl_cons (ddix (hu_of hr) (ddcon [("keep", "keep"), ("cut", "add"), ("add", "cut")] (pps_cons pe_str pe_str (pps_cons pe_str pe_str (pps_cons pe_str pe_str (pps_nil)))) (by decide +kernel) (by first | rfl | kernel_rfl) (by decide) rfl (by simp) rfl rfl) (dvar 9)) (dl_cons (dvar 10) (dl_nil))))) (db_cons (ds_set (j := 6) sc_l_things.nd rfl (Or.inl rfl) (dop op_addD o2_add (dvar 6) (dlst (dl_cons (dvar 7) (dl_cons (dlc (js := [8]) [("row", 8)] rfl sc_l_things.nd (blkOk_by (by kernel_rfl)) (di_any (dvar 3)) (fun _ _ _ _ _ => dg_name 8 sc_l_things.nd rfl (Or.inl rfl)) (fun _ _ _ _ _ => dts_nil) (fun _ _ _ _ _ => dfnT call_list_of on_list rfl T.b_list (by decide +kernel) (da_cons (dvar 8) (da_nil)))) (dl_cons (dlc (js := [8]) [("row", 8)] rfl sc_l_things.nd (blkOk_by (by kernel_rfl)) (di_any (dvar 3)) (fun _ _ _ _ _ => dg_name 8 sc_l_things.nd rfl (Or.inl rfl)) (fun _ _ _ _ _ => dts_nil) (fun _ _ _ _ _ => dop op_addD o2_add (dvar 8) (dtup (dl_cons (dstr) (dl_nil))))) (dl_cons (dlst (dl_cons (dtup (dl_cons (dstr) (dl_cons (dvar 1) (dl_nil)))) (dl_nil))) (dl_cons (dlst (dl_cons (dtup (dl_cons (dstr) (dl_cons (dvar 1) (dl_nil)))) (dl_nil))) (dl_cons (dstr) (dl_nil)))))))))) (db_one (ds_ret (dop op_addD o2_add (dvar 6) (dlst (dl_cons (dlc (js := [9, 10]) [("word", 9), ("text", 10)] rfl sc_l_things.nd (blkOk_by (by kernel_rfl)) (di_any (dvar 3)) (fun _ _ _ _ _ => dg_tup rfl (dgs_cons (dg_name 9 sc_l_things.nd rfl (Or.inl rfl)) (dgs_cons (dg_name 10 sc_l_things.nd rfl (Or.inl rfl)) (dgs_nil)))) (fun _ _ _ _ _ => dts_nil) (fun _ _ _ _ _ => dtup (dl_cons (dvar 9) (dl_cons (dslice (dvar 10) (do_none) (do_some (dint))) (dl_nil))))) (dl_cons (dop op_addD o2_add (dvar 3) (dlst (dl_cons (dnon) (dl_nil)))) (dl_cons (dop op_addD o2_add (dvar 3) (dlst (dl_cons (dtup (dl_cons (dstr) (dl_cons (dnon) (dl_nil)))) (dl_nil)))) (dl_cons (dlst (dl_nil)) (dl_cons (dtup (dl_nil)) (dl_nil))))))))))))))))

theorem k_l_things (T : Txt K mg cm fa) {sd_l_take : DSpec} (c_l_take : Cal P w K mg base "_law_take" s_l_take 1 ["box", "many"] sd_l_take) {f : Addr} {fd : FuncData} (F : Fun K "_law_things" "_law_things" s_l_things f fd) (hm : mg "_law_things" = some (.ref f)) {sd : DSpec} (len : ∀ args R, sd args R → args.length = 4)
    (sp : ∀ args R, sd args R → m_l_things  sd_l_take { nx := fun e => R (.vl .non) (outs 4 e), rt := fun r e => R r (outs 4 e) } (startE 11 args)) : Cal P w K mg base "_law_things" s_l_things 2 ["box", "old", "new", "told"] sd :=
  ⟨f, fd, F, FunG.ok (FunG.of F) sc_l_things len (fun cdv A outer s H E hgd hr => d_l_things T c_l_take hgd hr) sp, hm, F.binds (ps := ["box", "old", "new", "told"]) fun _ _ _ _ _ _ us hl => match us, hl with | [_, _, _, _], _ => rfl⟩

abbrev s_l_right : Stmt := top 32
theorem sc_l_right : FnScope ["box", "old", "new", "told", "least", "thing", "due", "kept", "one", "other", "word", "text"] ["box", "old", "new"] (defScope s_l_right) := ⟨rfl, rfl, rfl, by decide +kernel, rfl, by decide +kernel, by decide +kernel⟩
theorem d_l_right (T : Txt K mg cm fa) {sd_changes : DSpecX} (c_changes : CalX P w K mg cm base "changes" s_changes 4 ["old", "new"] sd_changes) {sd_fewest_signs : DSpecX} (c_fewest_signs : CalX P w K mg cm base "fewest_signs" s_fewest_signs 5 ["old", "new"] sd_fewest_signs) {sd_shows_changes : DSpecX} (c_shows_changes : CalX P w K mg cm base "shows_changes" s_shows_changes 4 ["old", "new", "thing"] sd_shows_changes) {sd_l_truth : DSpec} (c_l_truth : Cal P w K mg base "_law_truth" s_l_truth 1 ["told", "due"] sd_l_truth) {sd_l_common : DSpec} (c_l_common : Cal P w K mg base "_law_common" s_l_common 1 ["old", "new"] sd_l_common) {sd_l_is_change : DSpec} (c_l_is_change : Cal P w K mg base "_law_is_change" s_l_is_change 1 ["old", "new", "thing"] sd_l_is_change) {sd_l_things : DSpec} (c_l_things : Cal P w K mg base "_law_things" s_l_things 2 ["box", "old", "new", "told"] sd_l_things) {f : Addr} {cdv : Value} {A : Around} {outer : List PySem.Env} {s : Shared} {H : Hp} {E : XK} (hgd : A.guards = some []) (hr : Room 5 (A.deeper (PyProof.Rows.envOfC "_law_right" (defScope s_l_right) s.heap.objs.size f cdv))) :
    DB (cxOf CX0 P w K mg base ["box", "old", "new", "told", "least", "thing", "due", "kept", "one", "other", "word", "text"] "_law_right" (defScope s_l_right) f cdv A outer s H E).nox (defBody s_l_right) (m_l_right  sd_changes sd_fewest_signs sd_shows_changes sd_l_truth sd_l_common sd_l_is_change sd_l_things) := by
  unfold m_l_right
  exact db_cons (ds_setO (j := 3) sc_l_right.nd rfl (Or.inl rfl) (dcallC c_changes.cal hgd (hr.mono (by decide)) (by exact rfl) (dc_cons (dvar 1) (dc_cons (dvar 2) (dc_nil))))) (db_cons (ds_if (dtw (dw_or (dtnot (dtru (disi (T := "list") (dvar 3) rfl T.b_isinstance rfl T.b_list (by decide +kernel) kt_list))) (dw_or (dtnot (dtru (dcallC c_l_is_change hgd (hr.mono (by decide)) (by exact rfl) (dc_cons (dvar 1) (dc_cons (dvar 2) (dc_cons (dvar 3) (dc_nil))))))) (dw_or1 (dtnot (dtru (disi (T := "int") (dcallC c_fewest_signs.cal hgd (hr.mono (by decide)) (by exact rfl) (dc_cons (dvar 1) (dc_cons (dvar 2) (dc_nil)))) rfl T.b_isinstance rfl T.b_int (by decide +kernel) kt_int))))))) (db_one (ds_ret (dbl))) (db_nil)) (db_cons (ds_if (dtcmp (op_neD hr.units) o2_ne (dlc (js := [8, 9]) [("one", 8), ("other", 9)] rfl sc_l_right.nd (blkOk_by (by kernel_rfl)) (di_zip rfl T.b_zip (dvar 3) (dslice (dvar 3) (do_some (dint)) (do_none))) (fun _ _ _ _ _ => dg_tup rfl (dgs_cons (dg_name 8 sc_l_right.nd rfl (Or.inl rfl)) (dgs_cons (dg_name 9 sc_l_right.nd rfl (Or.inl rfl)) (dgs_nil)))) (fun _ _ _ _ _ => dts_one (dtcmp (op_eqD hr.units) o2_eq (dix (dvar 8) (dint)) (dix (dvar 9) (dint)))) (fun _ _ _ _ _ => dint)) (dlst (dl_nil))) (db_one (ds_ret (dbl))) (db_nil)) (db_cons (ds_set (j := 4) sc_l_right.nd rfl (Or.inl rfl) (dop op_sub o2_sub (dop op_addD o2_add (dfnB call_lenX on_len rfl T.b_len (by decide +kernel) (da_cons (dvar 1) (da_nil))) (dfnB call_lenX on_len rfl T.b_len (by decide +kernel) (da_cons (dvar 2) (da_nil)))) (dop op_mulD o2_mul (dint) (dcallC c_l_common hgd (hr.mono (by decide)) (by exact rfl) (dc_cons (dvar 1) (dc_cons (dvar 2) (dc_nil))))))) (db_cons (ds_if (dtw (dw_or (dtcmp (op_neD hr.units) o2_ne (dfnB (cr_sum rfl) on_sum rfl T.b_sum (by decide +kernel) (da_cons (dlc (js := [10, 11]) [("word", 10), ("text", 11)] rfl sc_l_right.nd (blkOk_by (by kernel_rfl)) (di_any (dvar 3)) (fun _ _ _ _ _ => dg_tup rfl (dgs_cons (dg_name 10 sc_l_right.nd rfl (Or.inl rfl)) (dgs_cons (dg_name 11 sc_l_right.nd rfl (Or.inl rfl)) (dgs_nil)))) (fun _ _ _ _ _ => dts_one (dtcmp (op_neD hr.units) o2_ne (dvar 10) (dstr))) (fun _ _ _ _ _ => dfnB call_lenX on_len rfl T.b_len (by decide +kernel) (da_cons (dvar 11) (da_nil)))) (da_nil))) (dvar 4)) (dw_or1 (dtcmp (op_neD hr.units) o2_ne (dcallKC0 (ks := [("old" : Str), ("new" : Str)]) c_fewest_signs.cal 2 [0, 1] hgd (hr.mono (by decide)) (by exact rfl) (by simp) (fun _ _ _ _ _ _ us ws h1 h2 => match us, ws, h1, h2 with | [], [_, _], _, _ => rfl) (dk_cons (dvar 1) (dk_cons (dvar 2) (dk_nil)))) (dvar 4))))) (db_one (ds_ret (dbl))) (db_nil)) (db_cons (ds_for (js := [5]) PassesOwn.never rfl (di_any (dcallC c_l_things hgd (hr.mono (by decide)) (by exact rfl) (dc_cons (dvar 0) (dc_cons (dvar 1) (dc_cons (dvar 2) (dc_cons (dfnT call_list_of on_list rfl T.b_list (by decide +kernel) (da_cons (dvar 3) (da_nil))) (dc_nil))))))) (dg_name 5 sc_l_right.nd rfl (Or.inl rfl)) (db_cons (ds_set (j := 6) sc_l_right.nd rfl (Or.inl rfl) (dcallC c_l_is_change hgd (hr.mono (by decide)) (by exact rfl) (dc_cons (dvar 1) (dc_cons (dvar 2) (dc_cons (dvar 5) (dc_nil)))))) (db_one (ds_if (dtnot (dtru (dcallC c_l_truth hgd (hr.mono (by decide)) (by exact rfl) (dc_cons (dcallC c_shows_changes.cal hgd (hr.mono (by decide)) (by exact rfl) (dc_cons (dvar 1) (dc_cons (dvar 2) (dc_cons (dvar 5) (dc_nil))))) (dc_cons (dvar 6) (dc_nil)))))) (db_one (ds_ret (dbl))) (db_nil))))) (db_cons (ds_set (j := 7) sc_l_right.nd rfl (Or.inl rfl) (dfnB (call_repr hgd hr.units) on_repr rfl T.b_repr (by decide +kernel) (da_cons (dvar 3) (da_nil)))) (db_cons (ds_app 3 rfl (Or.inl rfl) (dstr)) (db_one (ds_ret (dcmp (op_eqD hr.units) o2_eq (dfnB (call_repr hgd hr.units) on_repr rfl T.b_repr (by decide +kernel) (da_cons (dcallKC0 (ks := [("old" : Str), ("new" : Str)]) c_changes.cal 2 [0, 1] hgd (hr.mono (by decide)) (by exact rfl) (by simp) (fun _ _ _ _ _ _ us ws h1 h2 => match us, ws, h1, h2 with | [], [_, _], _, _ => rfl) (dk_cons (dvar 1) (dk_cons (dvar 2) (dk_nil)))) (da_nil))) (dvar 7)))))))))))

theorem k_l_right (T : Txt K mg cm fa) {sd_changes : DSpecX} (c_changes : CalX P w K mg cm base "changes" s_changes 4 ["old", "new"] sd_changes) {sd_fewest_signs : DSpecX} (c_fewest_signs : CalX P w K mg cm base "fewest_signs" s_fewest_signs 5 ["old", "new"] sd_fewest_signs) {sd_shows_changes : DSpecX} (c_shows_changes : CalX P w K mg cm base "shows_changes" s_shows_changes 4 ["old", "new", "thing"] sd_shows_changes) {sd_l_truth : DSpec} (c_l_truth : Cal P w K mg base "_law_truth" s_l_truth 1 ["told", "due"] sd_l_truth) {sd_l_common : DSpec} (c_l_common : Cal P w K mg base "_law_common" s_l_common 1 ["old", "new"] sd_l_common) {sd_l_is_change : DSpec} (c_l_is_change : Cal P w K mg base "_law_is_change" s_l_is_change 1 ["old", "new", "thing"] sd_l_is_change) {sd_l_things : DSpec} (c_l_things : Cal P w K mg base "_law_things" s_l_things 2 ["box", "old", "new", "told"] sd_l_things) {f : Addr} {fd : FuncData} (F : Fun K "_law_right" "_law_right" s_l_right f fd) (hm : mg "_law_right" = some (.ref f)) {sd : DSpec} (len : ∀ args R, sd args R → args.length = 3)
    (sp : ∀ args R, sd args R → m_l_right  sd_changes sd_fewest_signs sd_shows_changes sd_l_truth sd_l_common sd_l_is_change sd_l_things { nx := fun e => R (.vl .non) (outs 3 e), rt := fun r e => R r (outs 3 e) } (startE 12 args)) : Cal P w K mg base "_law_right" s_l_right 6 ["box", "old", "new"] sd :=
  ⟨f, fd, F, FunG.ok (FunG.of F) sc_l_right len (fun cdv A outer s H E hgd hr => d_l_right T c_changes c_fewest_signs c_shows_changes c_l_truth c_l_common c_l_is_change c_l_things hgd hr) sp, hm, F.binds (ps := ["box", "old", "new"]) fun _ _ _ _ _ _ us hl => match us, hl with | [_, _, _], _ => rfl⟩

abbrev s_l_refused : Stmt := top 33
theorem sc_l_refused : FnScope ["box", "bad", "call", "one", "other", "due", "found", "does", "e"] ["box"] (defScope s_l_refused) := ⟨rfl, rfl, rfl, by decide +kernel, rfl, by decide +kernel, by decide +kernel⟩
theorem d_l_refused (T : Txt K mg cm fa) (XT : XTxt P w K mg cm base) {sd_changes : DSpecX} (c_changes : CalX P w K mg cm base "changes" s_changes 4 ["old", "new"] sd_changes) {sd_fewest_signs : DSpecX} (c_fewest_signs : CalX P w K mg cm base "fewest_signs" s_fewest_signs 5 ["old", "new"] sd_fewest_signs) {sd_shows_changes : DSpecX} (c_shows_changes : CalX P w K mg cm base "shows_changes" s_shows_changes 4 ["old", "new", "thing"] sd_shows_changes) {sd_l_take : DSpec} (c_l_take : Cal P w K mg base "_law_take" s_l_take 1 ["box", "many"] sd_l_take) {f : Addr} {cdv : Value} {A : Around} {outer : List PySem.Env} {s : Shared} {H : Hp} {E : XK} (hgd : A.guards = some []) (hr : Room 5 (A.deeper (PyProof.Rows.envOfC "_law_refused" (defScope s_l_refused) s.heap.objs.size f cdv))) :
    DBx (cxOf (L2.CX P w) P w K mg base ["box", "bad", "call", "one", "other", "due", "found", "does", "e"] "_law_refused" (defScope s_l_refused) f cdv A outer s H E) cm (defBody s_l_refused) (m_l_refused  fa sd_changes sd_fewest_signs sd_shows_changes sd_l_take) := by
  unfold m_l_refused
  have hpo : PassesOwn (model P w) (cxOf (L2.CX P w) P w K mg base ["box", "bad", "call", "one", "other", "due", "found", "does", "e"] "_law_refused" (defScope s_l_refused) f cdv A outer s H E).A (cxOf (L2.CX P w) P w K mg base ["box", "bad", "call", "one", "other", "due", "found", "does", "e"] "_law_refused" (defScope s_l_refused) f cdv A outer s H E).env (cxOf (L2.CX P w) P w K mg base ["box", "bad", "call", "one", "other", "due", "found", "does", "e"] "_law_refused" (defScope s_l_refused) f cdv A outer s H E).xe := passes_of rfl
  exact dbx_cons (dsx_of (ds_set (j := 1) sc_l_refused.nd rfl (Or.inl rfl) (dix (dlst (dl_cons (dnon) (dl_cons (dint) (dl_cons (dop op_mulA o2_mulA (dstr) (dint)) (dl_cons (dlst (dl_cons (dstr) (dl_nil))) (dl_cons (dstr) (dl_cons (dbl) (dl_nil)))))))) (dcallC c_l_take hgd (hr.mono (by decide)) (by exact rfl) (dc_cons (dvar 0) (dc_cons (dint) (dc_nil))))))) (dbx_cons (dsx_for (js := [2]) hpo rfl (di_range1 rfl T.b_range (dint)) (dg_name 2 sc_l_refused.nd rfl (Or.inl rfl)) (dbx_one (dsx_for (js := [3, 4, 5]) hpo rfl (di_any (dlst (dl_cons (dtup (dl_cons (dvar 1) (dl_cons (dnon) (dl_cons (dvar 1) (dl_nil))))) (dl_cons (dtup (dl_cons (dvar 1) (dl_cons (dstr) (dl_cons (dvar 1) (dl_nil))))) (dl_cons (dtup (dl_cons (dstr) (dl_cons (dvar 1) (dl_cons (dvar 1) (dl_nil))))) (dl_cons (dtup (dl_cons (dop op_mulA o2_mulA (dstr) (dint)) (dl_cons (dvar 1) (dl_cons (dvar 1) (dl_nil))))) (dl_nil))))))) (dg_tup rfl (dgs_cons (dg_name 3 sc_l_refused.nd rfl (Or.inl rfl)) (dgs_cons (dg_name 4 sc_l_refused.nd rfl (Or.inl rfl)) (dgs_cons (dg_name 5 sc_l_refused.nd rfl (Or.inl rfl)) (dgs_nil))))) (dbx_cons (dsx_of (ds_set (j := 6) sc_l_refused.nd rfl (Or.inl rfl) (dstr))) (dbx_cons (dsx_try rfl rfl sc_l_refused.nd XT.isa (fun pn xe hpo => dbx_one (dsx_if (dtcmp (op_eqD hr.units) o2_eq (dvar 2) (dint)) (dbx_one (dsx_expr (dex_call c_shows_changes hgd (hr.mono (by decide)) (by exact rfl) (dc_cons (dvar 3) (dc_cons (dvar 4) (dc_cons (dlst (dl_nil)) (dc_nil))))))) (dbx_cons (dsx_of (ds_set (j := 7) sc_l_refused.nd rfl (Or.inl rfl) (dix (dlst (dl_cons (dgfn rfl T.v_changes) (dl_cons (dgfn rfl T.v_fewest_signs) (dl_nil)))) (dvar 2)))) (dbx_one (dsx_expr (dex_callV 7 (canl_cons c_changes T.v_changes (hr.mono (by decide)) (canl_cons c_fewest_signs T.v_fewest_signs (hr.mono (by decide)) (canl_nil))) hgd rfl (Or.inl rfl) (dc_cons (dvar 3) (dc_cons (dvar 4) (dc_nil))))))))) (.as_ (by exact rfl) (by decide) T.m_NoText rfl rfl (fun a dd oe pn hz hv => db_one (ds_set (j := 6) sc_l_refused.nd rfl (Or.inl rfl) (dfnB (call_repr hgd hr.units) on_repr rfl T.b_repr (by decide +kernel) (da_cons (dxfE XT.x_NoText hz hv rfl (Or.inl rfl)) (da_nil))))) (.rest))) (dbx_one (dsx_of (ds_if (dtcmp (op_neD hr.units) o2_ne (dvar 6) (dfnB (call_repr hgd hr.units) on_repr rfl T.b_repr (by decide +kernel) (da_cons (dvar 5) (da_nil)))) (db_one (ds_ret (dbl))) (db_nil))))))))) (dbx_one (dsx_of (ds_ret (dand (dcmp (op_eqD hr.units) o2_eq (dcallC c_fewest_signs.cal hgd (hr.mono (by decide)) (by exact rfl) (dc_cons (dop op_mulA o2_mulA (dstr) (dint)) (dc_cons (dop op_mulA o2_mulA (dstr) (dint)) (dc_nil)))) (dint)) (done1 (dcmp (op_eqD hr.units) o2_eq (dcallC c_changes.cal hgd (hr.mono (by decide)) (by exact rfl) (dc_cons (dstr) (dc_cons (dstr) (dc_nil)))) (dlst (dl_nil)))))))))

theorem k_l_refused (T : Txt K mg cm fa) (XT : XTxt P w K mg cm base) {sd_changes : DSpecX} (c_changes : CalX P w K mg cm base "changes" s_changes 4 ["old", "new"] sd_changes) {sd_fewest_signs : DSpecX} (c_fewest_signs : CalX P w K mg cm base "fewest_signs" s_fewest_signs 5 ["old", "new"] sd_fewest_signs) {sd_shows_changes : DSpecX} (c_shows_changes : CalX P w K mg cm base "shows_changes" s_shows_changes 4 ["old", "new", "thing"] sd_shows_changes) {sd_l_take : DSpec} (c_l_take : Cal P w K mg base "_law_take" s_l_take 1 ["box", "many"] sd_l_take) {f : Addr} {fd : FuncData} (F : Fun K "_law_refused" "_law_refused" s_l_refused f fd) (hm : mg "_law_refused" = some (.ref f)) {sd : DSpecX} (len : ∀ args R E, sd args R E → args.length = 1)
    (sp : ∀ args R E, sd args R E → m_l_refused  fa sd_changes sd_fewest_signs sd_shows_changes sd_l_take { nx := fun e => R (.vl .non) (outs 1 e), rt := fun r e => R r (outs 1 e), ex := fun x fs e => E x fs (outs 1 e) } (startE 9 args)) : CalX P w K mg cm base "_law_refused" s_l_refused 6 ["box"] sd :=
  ⟨f, fd, F, FunG.okX (FunG.of F) sc_l_refused len (fun cdv A outer s H E hgd hr => d_l_refused T XT c_changes c_fewest_signs c_shows_changes c_l_take hgd hr) sp, hm, F.binds (ps := ["box"]) fun _ _ _ _ _ _ us hl => match us, hl with | [_], _ => rfl⟩

abbrev s_law : Stmt := top 34
theorem sc_law : FnScope ["script", "k", "box", "old", "new"] ["script"] (defScope s_law) := ⟨rfl, rfl, rfl, by decide +kernel, rfl, by decide +kernel, by decide +kernel⟩
theorem d_law (T : Txt K mg cm fa) {sd_l_cell : DSpec} (c_l_cell : Cal P w K mg base "_law_cell" s_l_cell 1 ["script", "k"] sd_l_cell) {sd_l_box : DSpec} (c_l_box : Cal P w K mg base "_law_box" s_l_box 1 ["cell"] sd_l_box) {sd_l_take : DSpec} (c_l_take : Cal P w K mg base "_law_take" s_l_take 1 ["box", "many"] sd_l_take) {sd_l_drawn : DSpec} (c_l_drawn : Cal P w K mg base "_law_drawn" s_l_drawn 2 ["box", "size"] sd_l_drawn) {sd_l_changed : DSpec} (c_l_changed : Cal P w K mg base "_law_changed" s_l_changed 2 ["box", "text"] sd_l_changed) {sd_l_right : DSpec} (c_l_right : Cal P w K mg base "_law_right" s_l_right 6 ["box", "old", "new"] sd_l_right) {sd_l_refused : DSpecX} (c_l_refused : CalX P w K mg cm base "_law_refused" s_l_refused 6 ["box"] sd_l_refused) {f : Addr} {cdv : Value} {A : Around} {outer : List PySem.Env} {s : Shared} {H : Hp} {E : XK} (hgd : A.guards = some []) (hr : Room 6 (A.deeper (PyProof.Rows.envOfC "law" (defScope s_law) s.heap.objs.size f cdv))) :
    DB (cxOf CX0 P w K mg base ["script", "k", "box", "old", "new"] "law" (defScope s_law) f cdv A outer s H E).nox (defBody s_law) (m_law  sd_l_cell sd_l_box sd_l_take sd_l_drawn sd_l_changed sd_l_right sd_l_refused) := by
  unfold m_law
  exact db_cons (ds_for (js := [1]) PassesOwn.never rfl (di_range1 rfl T.b_range (dfnB (call_maxX rfl) on_max rfl T.b_max (by decide +kernel) (da_cons (dint) (da_cons (dfnB (call_minX rfl) on_min rfl T.b_min (by decide +kernel) (da_cons (dint) (da_cons (dfnB call_lenX on_len rfl T.b_len (by decide +kernel) (da_cons (dvar 0) (da_nil))) (da_nil)))) (da_nil))))) (dg_name 1 sc_law.nd rfl (Or.inl rfl)) (db_cons (ds_setO (j := 2) sc_law.nd rfl (Or.inl rfl) (dcallC c_l_box hgd (hr.mono (by decide)) (by exact rfl) (dc_cons (dcallC c_l_cell hgd (hr.mono (by decide)) (by exact rfl) (dc_cons (dvar 0) (dc_cons (dvar 1) (dc_nil)))) (dc_nil)))) (db_cons (ds_set (j := 3) sc_law.nd rfl (Or.inl rfl) (dcallC c_l_drawn hgd (hr.mono (by decide)) (by exact rfl) (dc_cons (dvar 2) (dc_cons (dix (dlst (dl_cons (dcallC c_l_take hgd (hr.mono (by decide)) (by exact rfl) (dc_cons (dvar 2) (dc_cons (dint) (dc_nil)))) (dl_cons (dop op_sub o2_sub (dint) (dcallC c_l_take hgd (hr.mono (by decide)) (by exact rfl) (dc_cons (dvar 2) (dc_cons (dint) (dc_nil))))) (dl_nil)))) (dop op_fdivW o2_fdiv (dcallC c_l_take hgd (hr.mono (by decide)) (by exact rfl) (dc_cons (dvar 2) (dc_cons (dint) (dc_nil)))) (dint))) (dc_nil))))) (db_cons (ds_set (j := 4) sc_law.nd rfl (Or.inl rfl) (dix (dlst (dl_cons (dslice (dcallC c_l_changed hgd (hr.mono (by decide)) (by exact rfl) (dc_cons (dvar 2) (dc_cons (dvar 3) (dc_nil)))) (do_none) (do_some (dint))) (dl_cons (dcallC c_l_drawn hgd (hr.mono (by decide)) (by exact rfl) (dc_cons (dvar 2) (dc_cons (dcallC c_l_take hgd (hr.mono (by decide)) (by exact rfl) (dc_cons (dvar 2) (dc_cons (dint) (dc_nil)))) (dc_nil)))) (dl_cons (dvar 3) (dl_cons (dstr) (dl_nil)))))) (dix (dlst (dl_cons (dint) (dl_cons (dint) (dl_cons (dint) (dl_cons (dint) (dl_cons (dint) (dl_cons (dint) (dl_cons (dint) (dl_nil))))))))) (dcallC c_l_take hgd (hr.mono (by decide)) (by exact rfl) (dc_cons (dvar 2) (dc_cons (dint) (dc_nil))))))) (db_one (ds_if (dtw (dw_or (dtnot (dtru (dcallC c_l_right hgd (hr.mono (by decide)) (by exact rfl) (dc_cons (dvar 2) (dc_cons (dvar 3) (dc_cons (dvar 4) (dc_nil))))))) (dw_or1 (dtnot (dtru (dcallC c_l_right hgd (hr.mono (by decide)) (by exact rfl) (dc_cons (dvar 2) (dc_cons (dvar 4) (dc_cons (dvar 3) (dc_nil)))))))))) (db_one (ds_ret (dbl))) (db_nil))))))) (db_one (ds_ret (dcallT c_l_refused.cal hgd (hr.mono (by decide)) (by exact rfl) (dcallC c_l_box hgd (hr.mono (by decide)) (by exact rfl) (dc_cons (dcallC c_l_cell hgd (hr.mono (by decide)) (by exact rfl) (dc_cons (dvar 0) (dc_cons (dint) (dc_nil)))) (dc_nil))))))

theorem k_law (T : Txt K mg cm fa) {sd_l_cell : DSpec} (c_l_cell : Cal P w K mg base "_law_cell" s_l_cell 1 ["script", "k"] sd_l_cell) {sd_l_box : DSpec} (c_l_box : Cal P w K mg base "_law_box" s_l_box 1 ["cell"] sd_l_box) {sd_l_take : DSpec} (c_l_take : Cal P w K mg base "_law_take" s_l_take 1 ["box", "many"] sd_l_take) {sd_l_drawn : DSpec} (c_l_drawn : Cal P w K mg base "_law_drawn" s_l_drawn 2 ["box", "size"] sd_l_drawn) {sd_l_changed : DSpec} (c_l_changed : Cal P w K mg base "_law_changed" s_l_changed 2 ["box", "text"] sd_l_changed) {sd_l_right : DSpec} (c_l_right : Cal P w K mg base "_law_right" s_l_right 6 ["box", "old", "new"] sd_l_right) {sd_l_refused : DSpecX} (c_l_refused : CalX P w K mg cm base "_law_refused" s_l_refused 6 ["box"] sd_l_refused) {f : Addr} {fd : FuncData} (F : Fun K "law" "law" s_law f fd) (hm : mg "law" = some (.ref f)) {sd : DSpec} (len : ∀ args R, sd args R → args.length = 1)
    (sp : ∀ args R, sd args R → m_law  sd_l_cell sd_l_box sd_l_take sd_l_drawn sd_l_changed sd_l_right sd_l_refused { nx := fun e => R (.vl .non) (outs 1 e), rt := fun r e => R r (outs 1 e) } (startE 5 args)) : Cal P w K mg base "law" s_law 7 ["script"] sd :=
  ⟨f, fd, F, FunG.ok (FunG.of F) sc_law len (fun cdv A outer s H E hgd hr => d_law T c_l_cell c_l_box c_l_take c_l_drawn c_l_changed c_l_right c_l_refused hgd hr) sp, hm, F.binds (ps := ["script"]) fun _ _ _ _ _ _ us hl => match us, hl with | [_], _ => rfl⟩

end
end Law

set_option Elab.async false
set_option linter.all false
set_option maxRecDepth 100000
set_option maxHeartbeats 4000000
set_option autoImplicit false
namespace Law
open PySem L2 DL
section
local macro_rules | `(tactic| k_upd) => `(tactic| (first | exact trivial | exact rfl | ((try dsimp only); first | assumption | exact fits62 (by omega) (by omega) | exact cmul_s (by omega) (by omega) | exact cpow_s (by omega) (by omega) (by omega) | exact And.intro (by omega) (clog_s (by omega)) | exact Nat.le_of_ble_eq_true rfl | decide | omega)))
local macro_rules | `(tactic| k_memK) => `(tactic| first | (refine an_i ?_ ?_; focus k_upd) | refine ex_i rfl ?_ | refine ite_t rfl ?_ | refine ite_f Bool.false_ne_true ?_)
local macro_rules | `(tactic| k_allIn) => `(tactic| repeat k_memK)

local macro_rules | `(tactic| row_arm1w $t) => `(tactic| first | refine $t | (k_memK; row_arm1w $t))
set_option pp.deepTerms false
set_option pp.maxSteps 1500

/-! signs, texts -/
def sgOk (c : Nat) : Bool := (!decide (c < 32) && !decide (126 < c)) && !(((c : Nat) : Int) == 37)
def allOk (s : Str) : Bool := s.cps.toList.all sgOk
theorem one_lt (a b : Nat) : decide ([a] < [b]) = decide (a < b) := by
  by_cases h : a < b
  · rw [decide_eq_true h, decide_eq_true (show [a] < [b] from List.Lex.rel h)]
  · rw [decide_eq_false h, decide_eq_false]
    intro q
    cases q with
    | rel q => exact h q
    | cons q => cases q
def ofL (L : List Nat) : Str := ⟨L.toArray⟩
theorem ofL_list (L : List Nat) : (ofL L).cps.toList = L := rfl
theorem ofL_len (L : List Nat) : (ofL L).length = L.length := by rw [len_list, ofL_list]
theorem ofL_self (s : Str) : ofL s.cps.toList = s := str_ext rfl
theorem join_sg (L : List Nat) : Txt.join "" (L.map sg) = ofL L := by
  refine str_ext ?_
  rw [join_nil_list, List.map_map, ofL_list]
  show (L.map fun c => [c]).flatten = L
  induction L with
  | nil => rfl
  | cons a r ih => simp [ih]
theorem sum_sg (L : List Nat) : ((L.map sg).map (·.length)).sum = L.length := by
  induction L with
  | nil => rfl
  | cons a r ih => rw [List.map_cons, List.map_cons, List.sum_cons, ih, List.length_cons]; show 1 + _ = _; omega
theorem strs_sg (L : List Nat) : asStrs (L.map fun c => .str (sg c)) = some (L.map sg) := by
  rw [show (L.map fun c => D.str (sg c)) = (L.map sg).map D.str by rw [List.map_map]; rfl]
  exact asStrs_map _
def sd_is_text : DSpec := fun args R => ∃ s : Str, args = [.val (.str s)] ∧ s.length ≤ 60 ∧ R (.vl (.bl (allOk s))) [.no]
theorem len_is_text : ∀ args R, sd_is_text args R → args.length = 1 := by rintro args R ⟨s, rfl, _⟩; rfl
theorem bls_fm {α : Type} (f : α → Bool) (l : List α) : asBls (l.filterMap fun x => some (D.bl (f x))) = some (l.map f) := by
  rw [← asBls_map, List.map_map, ← List.filterMap_eq_map]
  rfl
theorem sp_is_text : ∀ args R, sd_is_text args R → m_is_text { nx := fun e => R (.vl .non) (outs 1 e), rt := fun r e => R r (outs 1 e) } (startE 2 args) := by
  rintro args R ⟨s, rfl, hl, h⟩
  k_allIn
  refine an_i (le_line (by omega)) ?_
  refine ite_f (by simp; omega) ?_
  k_allIn
  refine compI_list (fun d => match d with
    | .str x => some (.bl (sgOk (x.cps.getD 0 0)))
    | _ => none) trivial (by rw [len_list] at hl; simp [signsD]; simp at hl; omega) (fun x hx K hK => ?_) ?_
  · obtain ⟨c, hc, rfl⟩ := List.mem_map.mp hx
    have hK' : K (some (.bl (sgOk c))) (startE 2 [Slot.val (D.str s)]) := hK
    k_allIn
    refine ite_i (fun c1 => ?_) (fun c1 => ?_)
    · have c1 : (!decide ([c] < [32])) = true := c1
      rw [one_lt] at c1
      refine ite_i (fun c2 => ?_) (fun c2 => ?_)
      · have c2 : (!decide ([126] < [c])) = true := c2
        rw [one_lt] at c2
        k_allIn
        have e : sgOk c = !(deq (.int ((c : Nat) : Int)) (.int 37)) := by unfold sgOk; rw [c1, c2, deq_int]; rfl
        rw [e] at hK'
        exact hK'
      · have c2 : ¬ (!decide ([126] < [c])) = true := c2
        rw [one_lt] at c2
        have e : sgOk c = false := by unfold sgOk; rw [Bool.eq_false_iff.mpr c2]; simp
        rw [e] at hK'
        exact hK'
    · have c1 : ¬ (!decide ([c] < [32])) = true := c1
      rw [one_lt] at c1
      have e : sgOk c = false := by unfold sgOk; rw [Bool.eq_false_iff.mpr c1]; simp
      rw [e] at hK'
      exact hK'
  · have e : ((signsD s).filterMap fun d => match d with
      | .str x => some (D.bl (sgOk (x.cps.getD 0 0)))
      | _ => none) = s.cps.toList.filterMap fun c => some (D.bl (sgOk c)) := by
      show (s.cps.toList.map _).filterMap _ = _
      rw [List.filterMap_map]; rfl
    refine ex_i (show asBls _ = some (s.cps.toList.map sgOk) by rw [e, bls_fm]) ?_
    have e2 : (s.cps.toList.map sgOk).all id = allOk s := by rw [List.all_map]; rfl
    show R (.vl (.bl ((s.cps.toList.map sgOk).all id))) _
    rw [e2]
    exact h
/-! need_long -/
def longB : D → Bool
  | .str s => decide (s.length ≤ 200) && allOk s
  | _ => false
def plain : D → Prop
  | .fn _ => False
  | .obj _ _ => False
  | .exc _ _ _ => False
  | .scr _ => False
  | _ => True
def sd_need_long : DSpecX := fun args R E => ∃ d : D, args = [.val d] ∧ plain d ∧ (∀ s, d = .str s → s.length ≤ 1000) ∧ if longB d = true then R (.vl .non) [.no] else E cx_NoText [("found", d)] [.no]
theorem len_need_long : ∀ args R E, sd_need_long args R E → args.length = 1 := by rintro args R E ⟨d, rfl, _⟩; rfl
theorem sp_need_long : ∀ args R E, sd_need_long args R E → m_need_long sd_is_text { nx := fun e => R (.vl .non) (outs 1 e), rt := fun r e => R r (outs 1 e), ex := fun x fs e => E x fs (outs 1 e) } (startE 2 args) := by
  rintro args R E ⟨d, rfl, pd, pl, h⟩
  cases d with
  | fn a => exact pd.elim
  | obj a b => exact pd.elim
  | exc a b c => exact pd.elim
  | scr a => exact pd.elim
  | str s =>
    have hl := pl s rfl
    k_allIn
    refine an_i (le_line (by omega)) ?_
    refine ite_i (fun c => ?_) (fun c => ?_)
    · have c : decide ((200 : Int) < (s.length : Int)) = true := c
      have e : longB (.str s) = false := by
        have : ¬ s.length ≤ 200 := by have := of_decide_eq_true c; omega
        simp [longB, this]
      rw [e, if_neg Bool.false_ne_true] at h
      refine ite_t rfl ?_
      k_allIn
      exact h
    · have c : ¬ decide ((200 : Int) < (s.length : Int)) = true := c
      have l2 : s.length ≤ 200 := by
        rcases Nat.lt_or_ge 200 s.length with q | q
        · exact absurd (decide_eq_true (show (200 : Int) < (s.length : Int) by omega)) c
        · exact q
      k_allIn
      refine compI_list (fun d => match d with
        | .str x => some (.bl (allOk x))
        | _ => none) trivial (by rw [len_list] at l2; simp [signsD]; simp at l2; omega) (fun x hx K hK => ?_) ?_
      · obtain ⟨c, hc, rfl⟩ := List.mem_map.mp hx
        k_allIn
        refine ⟨sg c, rfl, show (1 : Nat) ≤ 60 by omega, ?_⟩
        exact hK
      · have e : ((signsD s).filterMap fun d => match d with
          | .str x => some (D.bl (allOk x))
          | _ => none) = s.cps.toList.filterMap fun c => some (D.bl (sgOk c)) := by
          show (s.cps.toList.map _).filterMap _ = _
          rw [List.filterMap_map]
          refine congrFun (congrArg _ (funext fun c => ?_)) _
          show some (D.bl (allOk (sg c))) = _
          unfold allOk
          show some (D.bl ([c].all sgOk)) = _
          simp
        refine ex_i (show asBls _ = some (s.cps.toList.map sgOk) by rw [e, bls_fm]) ?_
        have e2 : (s.cps.toList.map sgOk).all id = allOk s := by rw [List.all_map]; rfl
        have e3 : longB (.str s) = allOk s := by simp [longB, l2]
        rw [e3] at h
        show (if (!((s.cps.toList.map sgOk).all id)) = true then _ else _)
        rw [e2]
        cases q : allOk s with
        | true =>
          rw [q] at h
          exact h
        | false =>
          rw [q, if_neg Bool.false_ne_true] at h
          refine ite_t rfl ?_
          k_allIn
          exact h
  | _ =>
    k_allIn
    exact h

/-! cells, boxes -/
def sd_l_truth : DSpec := fun args R => ∃ a b : Bool, args = [.val (.bl a), .val (.bl b)] ∧ R (.vl (.bl (a == b))) [.no, .no]
theorem len_l_truth : ∀ args R, sd_l_truth args R → args.length = 2 := by rintro args R ⟨a, b, rfl, _⟩; rfl
theorem sp_l_truth : ∀ args R, sd_l_truth args R → m_l_truth { nx := fun e => R (.vl .non) (outs 2 e), rt := fun r e => R r (outs 2 e) } (startE 2 args) := by
  rintro args R ⟨a, b, rfl, h⟩
  k_allIn
  rw [← deq_bl] at h
  exact h
def sd_l_cell : DSpec := fun args R => ∃ (ns : List Int) (k : Nat), args = [.val (.scr ns), .val (.int (k : Int))] ∧ k < 1000000 ∧ ∀ c : Int, R (.vl (.int c)) [.no, .no]
theorem len_l_cell : ∀ args R, sd_l_cell args R → args.length = 2 := by rintro args R ⟨t, k, rfl, _⟩; rfl
theorem sp_l_cell : ∀ args R, sd_l_cell args R → m_l_cell { nx := fun e => R (.vl .non) (outs 2 e), rt := fun r e => R r (outs 2 e) } (startE 2 args) := by
  rintro args R ⟨ns, k, rfl, hk, h⟩
  k_allIn
  refine ite_i (fun c => ?_) (fun c => ?_)
  · have hlt : k < ns.length := by
      have := of_decide_eq_true c
      omega
    k_allIn
    refine ex_i (DL.atI_nat (List.getElem?_eq_getElem hlt)) ?_
    exact h _
  · k_allIn
    exact h _
def sd_l_box : DSpec := fun args R => ∃ c : Int, args = [.val (.int c)] ∧ ∀ d : D, Bx 0 d → R (.tm d) [.no]
theorem len_l_box : ∀ args R, sd_l_box args R → args.length = 1 := by rintro args R ⟨t, rfl, _⟩; rfl
theorem sp_l_box : ∀ args R, sd_l_box args R → m_l_box { nx := fun e => R (.vl .non) (outs 1 e), rt := fun r e => R r (outs 1 e) } (startE 1 args) := by
  rintro args R ⟨c, rfl, h⟩
  k_allIn
  refine h _ ⟨_, _, _, rfl, ?_, ?_, ?_, by decide, by decide⟩
  · show 0 ≤ if _ > 0 then _ else _
    split <;> omega
  · exact Int.emod_nonneg _ (by decide)
  · have := Int.emod_lt_of_pos c (show (0 : Int) < 2147483629 by decide)
    show c % 2147483629 < _
    omega
def sd_l_take := sdTake
theorem len_l_take : ∀ args R, sd_l_take args R → args.length = 2 := take_len
theorem sp_l_take : ∀ args R, sd_l_take args R → m_l_take { nx := fun e => R (.vl .non) (outs 2 e), rt := fun r e => R r (outs 2 e) } (startE 5 args) := take_spec (c := 169) (by decide)

/-! drawn texts -/
def DRAWN : Str := "ab=c "
theorem drawn_at {k : Int} (h0 : 0 ≤ k) (h1 : k < 5) : ∃ c : Nat, atI DRAWN.cps.toList k = some c ∧ sgOk c = true := by
  have : k = 0 ∨ k = 1 ∨ k = 2 ∨ k = 3 ∨ k = 4 := by omega
  rcases this with rfl | rfl | rfl | rfl | rfl
  · exact ⟨97, by decide, by decide⟩
  · exact ⟨98, by decide, by decide⟩
  · exact ⟨61, by decide, by decide⟩
  · exact ⟨99, by decide, by decide⟩
  · exact ⟨32, by decide, by decide⟩
theorem all_snoc {L : List Nat} {c : Nat} (h : L.all sgOk = true) (k : sgOk c = true) : (L ++ [c]).all sgOk = true := by rw [List.all_append, h]; simp [k]
def sd_l_drawn : DSpec := fun args R => ∃ (m : Int) (d : D) (size : Nat), args = [.own true d, .val (.int (size : Int))] ∧ Bx m d ∧ 0 ≤ m ∧ m < 5000 ∧ size ≤ 60 ∧ ∀ (L : List Nat) d', L.length = size → L.all sgOk = true → Bx (m + 60) d' → R (.vl (.str (ofL L))) [.own true d', .no]
theorem len_l_drawn : ∀ args R, sd_l_drawn args R → args.length = 2 := by rintro args R ⟨m, d, k, rfl, _⟩; rfl
theorem sp_l_drawn : ∀ args R, sd_l_drawn args R → m_l_drawn sd_l_take { nx := fun e => R (.vl .non) (outs 2 e), rt := fun r e => R r (outs 2 e) } (startE 3 args) := by
  rintro args R ⟨m, d, size, rfl, B, h0, h1, hs, fin⟩
  have rl : (rangeD 0 ((size : Int).toNat)).length = size := by rw [rangeD_len]; omega
  k_allIn
  refine compI_inv (fun j acc env => j ≤ size ∧ ∃ d6, Bx (m + j) d6 ∧ (∃ L : List Nat, L.length = j ∧ L.all sgOk = true ∧ acc = L.map fun c => .str (sg c)) ∧ env = [.own true d6, .val (.int (size : Int)), .no]) ?_ ?_ ?_ ?_
  · exact ⟨by omega, d, B.mono (by omega), ⟨[], rfl, rfl, rfl⟩, rfl⟩
  · rintro j acc env ⟨hj, d6, B6, ⟨L, hL, hm, rfl⟩, rfl⟩
    exact ⟨trivial, by rw [List.length_map]; omega⟩
  · rintro j x acc env hx ⟨hj, d6, B6, ⟨L, hL, hm, rfl⟩, rfl⟩ K hK
    obtain ⟨hj2, rfl⟩ := rangeD_get hx
    k_allIn
    have m0 : 0 < 2 + (size : Int) % 4 := by omega
    have m1 : 2 + (size : Int) % 4 ≤ 5 := by omega
    refine take_i B6 (by omega) m0 (by have : (2 + (size : Int) % 4) < 1000000 := by omega
                                       exact this) rfl fun c d7 c0 c1 B7 => ?_
    k_allIn
    obtain ⟨cn, hc, hk⟩ := drawn_at (k := c) c0 (Int.lt_of_lt_of_le c1 m1)
    refine ex_i hc ?_
    refine hK _ _ ⟨by omega, d7, B7.mono (by omega), ⟨L ++ [cn], by simp [hL], all_snoc hm hk, by simp⟩, rfl⟩
  rintro acc env ⟨_, d6, B6, ⟨L, hL, hm, rfl⟩, rfl⟩
  refine ex_i (strs_sg L) ?_
  have hL2 : L.length = size := hL.trans rl
  refine an_i (by rw [sum_sg, List.length_map, hL2]; show size + size * 0 ≤ _; omega) ?_
  k_allIn
  rw [join_sg]
  exact fin L d6 hL2 hm (B6.mono (by omega))
end
end Law

set_option Elab.async false
set_option linter.all false
set_option maxRecDepth 100000
set_option maxHeartbeats 4000000
set_option autoImplicit false
namespace Law
open PySem L2 DL
section
local macro_rules | `(tactic| k_upd) => `(tactic| (first | exact trivial | exact rfl | ((try dsimp only); first | assumption | exact fits62 (by omega) (by omega) | exact cmul_s (by omega) (by omega) | exact cpow_s (by omega) (by omega) (by omega) | exact And.intro (by omega) (clog_s (by omega)) | exact Nat.le_of_ble_eq_true rfl | decide | omega)))
local macro_rules | `(tactic| k_memK) => `(tactic| first | (refine an_i ?_ ?_; focus k_upd) | refine ex_i rfl ?_ | refine ite_t rfl ?_ | refine ite_f Bool.false_ne_true ?_)
local macro_rules | `(tactic| k_allIn) => `(tactic| repeat k_memK)

local macro_rules | `(tactic| row_arm1w $t) => `(tactic| first | refine $t | (k_memK; row_arm1w $t))
set_option pp.deepTerms false
set_option pp.maxSteps 1500

/-! _law_changed -/
abbrev sgs (L : List Nat) : List D := L.map fun c => .str (sg c)
def pieces (c : Nat) : List (List Nat) := [[c], [c], [c], [], [c, 120], [97, c]]
theorem pieces_ok {c : Nat} (h : sgOk c = true) {w : Nat} (hw : w < 6) : ∃ p, (pieces c)[w]? = some p ∧ p.length ≤ 2 ∧ p.all sgOk = true := by
  have h2 : sgOk 120 = true := by decide
  have h3 : sgOk 97 = true := by decide
  rcases w with _ | _ | _ | _ | _ | _ | w
  · exact ⟨_, rfl, by simp, by simp [h]⟩
  · exact ⟨_, rfl, by simp, by simp [h]⟩
  · exact ⟨_, rfl, by simp, by simp [h]⟩
  · exact ⟨_, rfl, by simp, by simp⟩
  · exact ⟨_, rfl, by simp, by simp [h, h2]⟩
  · exact ⟨_, rfl, by simp, by simp [h, h3]⟩
  · omega
theorem pieces_at {c : Nat} {w : Nat} {p : List Nat} (h : (pieces c)[w]? = some p) : atI [D.lst [.str (sg c)], .lst [.str (sg c)], .lst [.str (sg c)], .lst [], .lst [.str (sg c), .str "x"], .lst [.str "a", .str (sg c)]] (w : Int) = some (.lst (sgs p)) := by
  refine DL.atI_nat ?_
  have e : [D.lst [.str (sg c)], .lst [.str (sg c)], .lst [.str (sg c)], .lst [], .lst [.str (sg c), .str "x"], .lst [.str "a", .str (sg c)]] = (pieces c).map fun p => .lst (sgs p) := rfl
  rw [e, List.getElem?_map, h]; rfl
def sd_l_changed : DSpec := fun args R => ∃ (m : Int) (d : D) (T : List Nat), args = [.own true d, .val (.str (ofL T))] ∧ Bx m d ∧ 0 ≤ m ∧ m < 5000 ∧ T.length ≤ 60 ∧ T.all sgOk = true ∧ ∀ (L : List Nat) d', L.length ≤ 120 → L.all sgOk = true → Bx (m + 70) d' → R (.vl (.str (ofL L))) [.own true d', .no]
theorem len_l_changed : ∀ args R, sd_l_changed args R → args.length = 2 := by rintro args R ⟨m, d, k, rfl, _⟩; rfl
theorem cut_sgs (L : List Nat) (lo hi : Option Int) : ∃ M, cutD (sgs L) lo hi = sgs M ∧ M.Sublist L ∧ M = (L.drop (HT.sIx L.length 0 lo)).take (HT.sIx L.length L.length hi - HT.sIx L.length 0 lo) := by
  refine ⟨_, ?_, (List.take_sublist _ _).trans (List.drop_sublist _ _), rfl⟩
  unfold cutD sgs
  rw [List.length_map, ← List.map_drop, ← List.map_take]
theorem all_sub {L M : List Nat} (h : L.all sgOk = true) (s : ∀ c ∈ M, c ∈ L) : M.all sgOk = true := by
  rw [List.all_eq_true] at h ⊢
  exact fun c hc => h c (s c hc)
theorem join_fin {R : RV → Prop} {L : List Nat} (hl : L.length ≤ 100000) (h : R (.vl (.str (ofL L)))) : aJoin (.str "") (.lst (sgs L)) R := by
  refine ⟨L.map sg, strs_sg L, ?_, ?_⟩
  · rw [sum_sg, List.length_map]
    show L.length + L.length * 0 ≤ _
    omega
  · rw [join_sg]; exact h
theorem sp_l_changed : ∀ args R, sd_l_changed args R → m_l_changed sd_l_take { nx := fun e => R (.vl .non) (outs 2 e), rt := fun r e => R r (outs 2 e) } (startE 6 args) := by
  rintro args R ⟨m, d, T, rfl, B, h0, h1, hs, hT, fin⟩
  have sl : (signsD (ofL T)).length = T.length := by show (T.map _).length = _; simp
  k_allIn
  refine forI_inv (fun j env => ∃ d6 L s3 s4, Bx (m + j) d6 ∧ L.length ≤ 2 * j ∧ L.all sgOk = true ∧ Pl s3 ∧ Pl s4 ∧ env = [.own true d6, .val (.str (ofL T)), .own false (.lst (sgs L)), s3, s4, .no]) ⟨d, [], .no, .no, B.mono (by omega), by simp, rfl, trivial, trivial, rfl⟩ (fun _ _ _ => trivial) ?_ ?_
  · rintro j x env hx ⟨d6, L, s3, s4, B6, hL, hm, p3, p4, rfl⟩ N hN
    have hj : j < T.length := by rw [← sl]; exact (List.getElem?_eq_some_iff.mp hx).1
    obtain ⟨c, hc, rfl⟩ : ∃ c, c ∈ T ∧ x = .str (sg c) := by
      obtain ⟨c, hc, e⟩ := List.mem_map.mp (List.mem_of_getElem? hx)
      exact ⟨c, hc, e.symm⟩
    have ck := List.all_eq_true.mp hT c hc
    k_allIn
    refine take_i B6 (by omega) (by omega) (by omega) rfl fun w d7 w0 w1 B7 => ?_
    k_allIn
    obtain ⟨w, rfl⟩ : ∃ k : Nat, w = (k : Int) := ⟨w.toNat, by omega⟩
    obtain ⟨p, hp, pl, pk⟩ := pieces_ok ck (w := w) (by omega)
    refine ex_i (pieces_at hp) ?_
    refine an_i (by rw [List.length_map, List.length_map]; omega) ?_
    refine hN _ ⟨d7, L ++ p, .val (.str (sg c)), .val (.int (w : Int)), B7.mono (by omega), by rw [List.length_append]; omega, by rw [List.all_append, hm, pk]; rfl, trivial, trivial, ?_⟩
    have e : sgs (L ++ p) = sgs L ++ sgs p := List.map_append
    rw [e]
    rfl
  · rintro env ⟨d6, L, s3, s4, B6, hL, hm, p3, p4, rfl⟩
    have hL2 : L.length ≤ 120 := by rw [sl] at hL; omega
    have ll : (sgs L).length = L.length := List.length_map ..
    k_allIn
    refine take_i (B6.mono (k := m + 60) (by omega)) (by omega) (by rw [ll]; omega) (by rw [ll]; omega) rfl fun a d7 a0 a1 B7 => ?_
    k_allIn
    refine take_i B7 (by omega) (by omega) (by omega) rfl fun b d8 b0 b1 B8 => ?_
    k_allIn
    refine ite_i (fun c => ?_) (fun c => ?_)
    · obtain ⟨M1, e1, s1, d1⟩ := cut_sgs L (some a) none
      obtain ⟨M2, e2, s2, d2⟩ := cut_sgs L none (some a)
      k_allIn
      have l1 := s1.length_le
      have l2 := s2.length_le
      have l3 : M1.length + M2.length ≤ 120 := by
        rw [d1, d2, List.length_take, List.length_take, List.length_drop, List.length_drop, HT.sIx_none, HT.sIx_none]
        obtain ⟨a, rfl⟩ : ∃ k : Nat, a = (k : Int) := ⟨a.toNat, by omega⟩
        rw [HT.sIx_nat, HT.sIx_nat]
        omega
      refine an_i (by
        show (cutD (sgs L) (some a) none).length + (cutD (sgs L) none (some a)).length ≤ _
        rw [e1, e2, List.length_map, List.length_map]; omega) ?_
      rw [e1, e2, ← List.map_append]
      refine ex_i (strs_sg (M1 ++ M2)) ?_
      refine an_i (by rw [sum_sg, List.length_map, List.length_append]; show M1.length + M2.length + (M1.length + M2.length) * 0 ≤ _; omega) ?_
      rw [join_sg]
      exact fin (M1 ++ M2) d8 (by rw [List.length_append]; omega) (by rw [List.all_append, all_sub hm (M := M1) (fun c hc => s1.subset hc), all_sub hm (M := M2) (fun c hc => s2.subset hc)]; rfl) (B8.mono (by omega))
    · row_arm1w ex_i (strs_sg L) ?_
      refine an_i (by rw [sum_sg, List.length_map]; show L.length + L.length * 0 ≤ _; omega) ?_
      rw [join_sg]
      exact fin L d8 hL2 hm (B8.mono (by omega))
end
end Law

set_option Elab.async false
set_option linter.all false
set_option maxRecDepth 100000
set_option maxHeartbeats 4000000
set_option autoImplicit false
namespace Law
open PySem L2 DL
section
local macro_rules | `(tactic| k_upd) => `(tactic| (first | exact trivial | exact rfl | ((try dsimp only); first | assumption | exact fits62 (by omega) (by omega) | exact cmul_s (by omega) (by omega) | exact cpow_s (by omega) (by omega) (by omega) | exact And.intro (by omega) (clog_s (by omega)) | exact Nat.le_of_ble_eq_true rfl | decide | omega)))
local macro_rules | `(tactic| k_memK) => `(tactic| first | (refine an_i ?_ ?_; focus k_upd) | refine ex_i rfl ?_ | refine ite_t rfl ?_ | refine ite_f Bool.false_ne_true ?_)
local macro_rules | `(tactic| k_allIn) => `(tactic| repeat k_memK)

local macro_rules | `(tactic| row_arm1w $t) => `(tactic| first | refine $t | (k_memK; row_arm1w $t))
set_option pp.deepTerms false
set_option pp.maxSteps 1500

/-! what two texts have in common -/
def lcs : List Nat → List Nat → Nat
  | [], _ => 0
  | _ :: _, [] => 0
  | a :: as, b :: bs => if a = b then lcs as bs + 1 else max (lcs (a :: as) bs) (lcs as (b :: bs))
termination_by a b => a.length + b.length
theorem lcs_nil (b : List Nat) : lcs [] b = 0 := by unfold lcs; rfl
theorem lcs_cnil (a : Nat) (as : List Nat) : lcs (a :: as) [] = 0 := by unfold lcs; rfl
theorem lcs_nil2 (a : List Nat) : lcs a [] = 0 := by cases a with
  | nil => exact lcs_nil _
  | cons a as => exact lcs_cnil a as
theorem lcs_cons (a b : Nat) (as bs : List Nat) : lcs (a :: as) (b :: bs) = if a = b then lcs as bs + 1 else max (lcs (a :: as) bs) (lcs as (b :: bs)) := by rw [lcs]
theorem drop_at {α : Type} {l : List α} {i : Nat} {x : α} (h : l[i]? = some x) : l.drop i = x :: l.drop (i + 1) := by
  obtain ⟨hl, e⟩ := List.getElem?_eq_some_iff.mp h
  rw [List.drop_eq_getElem_cons hl, e]
abbrev natD (n : Nat) : D := .int (n : Int)
def lcsRow (A B : List Nat) (i : Nat) : D := .lst ((List.range (B.length + 1)).map fun j => natD (lcs (A.drop i) (B.drop j)))
def tabD (A B : List Nat) : D := .lst ((List.range (A.length + 1)).map fun i => lcsRow A B i)
theorem rev_range {α : Type} (n : Nat) (f : Nat → α) : ((List.range (n + 1)).map f).reverse = (List.range (n + 1)).map fun j => f (n - j) := by
  apply List.ext_getElem
  · simp
  · intro i h1 h2
    rw [List.getElem_reverse]
    simp at h1 h2 ⊢
theorem range_snoc {α : Type} (n : Nat) (f : Nat → α) : (List.range (n + 1)).map f = (List.range n).map f ++ [f n] := by rw [List.range_succ, List.map_append]; rfl
theorem last_at {α : Type} (n : Nat) (f : Nat → α) : atI ((List.range (n + 1)).map f) (-1) = some (f n) := by
  have hl : ((List.range (n + 1)).map f).length = n + 1 := by simp
  unfold atI ixN
  rw [if_neg (by decide), hl, if_pos (by omega)]
  show ((List.range (n + 1)).map f)[(-1 + ((n + 1 : Nat) : Int)).toNat]? = _
  rw [show (-1 + ((n + 1 : Nat) : Int)).toNat = n by omega, List.getElem?_map, List.getElem?_range (by omega)]
  rfl
theorem range_at {α : Type} {n k : Nat} (f : Nat → α) (h : k < n) : atI ((List.range n).map f) (k : Int) = some (f k) := DL.atI_nat (by rw [List.getElem?_map, List.getElem?_range h]; rfl)
def sd_common_table : DSpec := fun args R => ∃ A B : List Nat, args = [.val (.str (ofL A)), .val (.str (ofL B))] ∧ A.length ≤ 300 ∧ B.length ≤ 300 ∧ R (.tm (tabD A B)) [.no, .no]
theorem len_common_table : ∀ args R, sd_common_table args R → args.length = 2 := by rintro args R ⟨A, B, rfl, _⟩; rfl
theorem rep_zero (n : Nat) : List.flatten (List.replicate n [D.int 0]) = (List.range n).map fun _ => D.int 0 := by
  induction n with
  | zero => rfl
  | succ n ih => rw [List.replicate_succ', List.flatten_append, ih, range_snoc]; rfl
theorem line_ok (A : List Nat) (h : A.length ≤ 1000) : (ofL A).length ≤ sizeLine := le_line (by rw [ofL_len]; omega)
def tabBody : DStm := (mSeq (mSet 4 (mOp2 aIx (mVar 2) (mNeg (mC (.int 1))))) (mSeq (mSetO 5 (mLst (mCons (mC (.int 0)) (mNil)))) (mSeq (mFor (mRange3 (mOp2 aSub (mFn aLen (maCons (mVar 1) (maNil))) (mC (.int 1))) (mNeg (mC (.int 1))) (mNeg (mC (.int 1)))) (gN 6) (mIfS (mB (mOp2 aEq (mOp2 aIx (mVar 1) (mVar 6)) (mVar 3))) (mApp 5 (mOp2 aAdd (mOp2 aIx (mVar 4) (mOp2 aAdd (mVar 6) (mC (.int 1)))) (mC (.int 1)))) (mApp 5 (mFn aMax (maCons (mOp2 aIx (mVar 5) (mNeg (mC (.int 1)))) (maCons (mOp2 aIx (mVar 4) (mVar 6)) (maNil))))))) (mApp 2 (mRevA (mVar 5))))))
theorem row_walk {A B : List Nat} {P : Post} {k : Nat} {s4 s5 s6 : Slot} (p4 : Pl s4) (p5 : s5 = .no ∨ ∃ d, s5 = .own false d) (p6 : Pl s6) (hA : A.length ≤ 300) (hB : B.length ≤ 300) (hk : k < A.length) {c : Nat} (hc : A[A.length - 1 - k]? = some c)
    (fin : ∀ s4 s5 s6, Pl s4 → (s5 = .no ∨ ∃ d, s5 = .own false d) → Pl s6 → P.nx [.val (.str (ofL A)), .val (.str (ofL B)), .own false (.lst ((List.range (k + 1 + 1)).map fun t => lcsRow A B (A.length - t))), .val (.str (sg c)), s4, s5, s6]) :
    tabBody P [.val (.str (ofL A)), .val (.str (ofL B)), .own false (.lst ((List.range (k + 1)).map fun t => lcsRow A B (A.length - t))), .val (.str (sg c)), s4, s5, s6] := by
  generalize hi : A.length - 1 - k = i at hc
  have e1 : A.length - k = i + 1 := by omega
  have hlast := last_at k fun t => lcsRow A B (A.length - t)
  rw [e1] at hlast
  have hd := drop_at hc
  have bl : (ofL B).length = B.length := ofL_len B
  have start : [D.int 0] = (List.range (0 + 1)).map fun t => natD (lcs (A.drop i) (B.drop (B.length - t))) := by
    have : B.drop (B.length - 0) = [] := List.drop_eq_nil_of_le (by omega)
    rw [List.range_succ, List.range_zero]
    show _ = [natD (lcs (A.drop i) (B.drop (B.length - 0)))]
    rw [this, lcs_nil2]
    rfl
  have walk : ∀ s6, Pl s6 → forI [] (gN 6) (mIfS (mB (mOp2 aEq (mOp2 aIx (mVar 1) (mVar 6)) (mVar 3))) (mApp 5 (mOp2 aAdd (mOp2 aIx (mVar 4) (mOp2 aAdd (mVar 6) (mC (.int 1)))) (mC (.int 1)))) (mApp 5 (mFn aMax (maCons (mOp2 aIx (mVar 5) (mNeg (mC (.int 1)))) (maCons (mOp2 aIx (mVar 4) (mVar 6)) (maNil))))))
      { P with nx := mApp 2 (mRevA (mVar 5)) P } (downD ((B.length : Int) - 1) B.length)
      [.val (.str (ofL A)), .val (.str (ofL B)), .own false (.lst ((List.range (k + 1)).map fun t => lcsRow A B (A.length - t))), .val (.str (sg c)), .val (lcsRow A B (i + 1)), .own false (.lst [.int 0]), s6] := by
    intro s6 p6
    refine forI_inv (fun j env => j ≤ B.length ∧ ∃ s6, Pl s6 ∧ env = [.val (.str (ofL A)), .val (.str (ofL B)), .own false (.lst ((List.range (k + 1)).map fun t => lcsRow A B (A.length - t))), .val (.str (sg c)), .val (lcsRow A B (i + 1)), .own false (.lst ((List.range (j + 1)).map fun t => natD (lcs (A.drop i) (B.drop (B.length - t))))), s6]) ⟨by omega, s6, p6, by rw [← start]⟩ (fun _ _ _ => trivial) ?_ ?_
    · rintro j x env hx ⟨hj, s6, p6, rfl⟩ N hN
      have hj2 : j < B.length := by
        have := (List.getElem?_eq_some_iff.mp hx).1
        simpa using this
      obtain rfl : x = natD (B.length - 1 - j) := by
        unfold downD at hx
        rw [List.getElem?_map, List.getElem?_range hj2] at hx
        have := Option.some.inj hx
        rw [← this]
        show D.int _ = D.int _
        congr 1
        omega
      generalize ha : B.length - 1 - j = a
      have ha2 : a < B.length := by omega
      have hb := List.getElem?_eq_getElem ha2
      have hbd := drop_at hb
      have e3 : B.length - (j + 1) = a := by omega
      have e4 : B.length - j = a + 1 := by omega
      have g1 : atI (ofL B).cps.toList (a : Int) = some (B[a]) := DL.atI_nat hb
      have g2 : atI ((List.range (B.length + 1)).map fun j => natD (lcs (A.drop (i + 1)) (B.drop j))) ((a : Int) + 1) = some (natD (lcs (A.drop (i + 1)) (B.drop (a + 1)))) := by
        have := range_at (n := B.length + 1) (k := a + 1) (fun j => natD (lcs (A.drop (i + 1)) (B.drop j))) (by omega)
        rw [← this]; rfl
      have g3 : atI ((List.range (B.length + 1)).map fun j => natD (lcs (A.drop (i + 1)) (B.drop j))) (a : Int) = some (natD (lcs (A.drop (i + 1)) (B.drop a))) := range_at (n := B.length + 1) (k := a) (fun j => natD (lcs (A.drop (i + 1)) (B.drop j))) (by omega)
      have g4 := last_at j fun t => natD (lcs (A.drop i) (B.drop (B.length - t)))
      rw [e4] at g4
      have ll : ((List.range (j + 1)).map fun t => natD (lcs (A.drop i) (B.drop (B.length - t)))).length = j + 1 := by simp
      have step : ∀ v : Nat, v = lcs (A.drop i) (B.drop a) → N [.val (.str (ofL A)), .val (.str (ofL B)), .own false (.lst ((List.range (k + 1)).map fun t => lcsRow A B (A.length - t))), .val (.str (sg c)), .val (lcsRow A B (i + 1)), .own false (.lst (((List.range (j + 1)).map fun t => natD (lcs (A.drop i) (B.drop (B.length - t)))) ++ [natD v])), .val (natD a)] := by
        intro v hv
        refine hN _ ⟨by omega, .val (natD a), trivial, ?_⟩
        rw [range_snoc (j + 1), e3, hv]
      k_allIn
      refine an_i (line_ok B (by omega)) ?_
      refine ex_i g1 ?_
      k_allIn
      refine ite_i (fun cc => ?_) (fun cc => ?_)
      · have cc : deq (.str (sg B[a])) (.str (sg c)) = true := cc
        have ec : B[a] = c := by
          rw [deq_str] at cc
          have : sg B[a] = sg c := by simpa using cc
          have := congrArg (fun s : Str => s.cps.toList) this
          simpa using this
        k_allIn
        refine ex_i g2 ?_
        refine an_i (by rw [ll]; omega) ?_
        have := step (lcs (A.drop (i + 1)) (B.drop (a + 1)) + 1) (by rw [hd, hbd, lcs_cons, if_pos ec.symm])
        exact this
      · have cc : ¬ deq (.str (sg B[a])) (.str (sg c)) = true := cc
        have ec : ¬ c = B[a] := by
          intro q
          apply cc
          rw [q, deq_str]; simp
        k_allIn
        refine ex_i g4 ?_
        k_allIn
        refine ex_i g3 ?_
        refine an_i (by rw [ll]; omega) ?_
        have := step (max (lcs (A.drop i) (B.drop (a + 1))) (lcs (A.drop (i + 1)) (B.drop a))) (by
          rw [hd, hbd, lcs_cons, if_neg ec])
        have em : ((max (lcs (A.drop i) (B.drop (a + 1))) (lcs (A.drop (i + 1)) (B.drop a)) : Nat) : Int) = if ((lcs (A.drop (i + 1)) (B.drop a) : Nat) : Int) > ((lcs (A.drop i) (B.drop (a + 1)) : Nat) : Int) then ((lcs (A.drop (i + 1)) (B.drop a) : Nat) : Int) else ((lcs (A.drop i) (B.drop (a + 1)) : Nat) : Int) := by split <;> omega
        unfold natD at this
        rw [em] at this
        exact this
    · rintro env ⟨hj, s6, p6, rfl⟩
      have dl : (downD ((B.length : Int) - 1) B.length).length = B.length := by simp
      rw [dl]
      have ll : ((List.range (k + 1)).map fun t => lcsRow A B (A.length - t)).length = k + 1 := by simp
      have e5 : ((List.range (B.length + 1)).map fun t => natD (lcs (A.drop i) (B.drop (B.length - t)))).reverse = (List.range (B.length + 1)).map fun j => natD (lcs (A.drop i) (B.drop j)) := by
        rw [rev_range]
        apply List.map_congr_left
        intro t ht
        have := List.mem_range.mp ht
        rw [show B.length - (B.length - t) = t by omega]
      have := fin (.val (lcsRow A B (i + 1))) (.own false (.lst ((List.range (B.length + 1)).map fun t => natD (lcs (A.drop i) (B.drop (B.length - t)))))) s6 trivial (Or.inr ⟨_, rfl⟩) p6
      rw [range_snoc (k + 1), show A.length - (k + 1) = i by omega] at this
      unfold lcsRow at this
      rw [← e5] at this
      k_allIn
      exact this
  have ed : (((ofL B).length : Int) - 1 - -1).toNat = B.length := by rw [bl]; omega
  have key : downD (((ofL B).length : Int) - 1) (((ofL B).length : Int) - 1 - -1).toNat = downD ((B.length : Int) - 1) B.length := by rw [ed, bl]
  have walk' := walk s6 p6
  rw [← key] at walk'
  rcases p5 with rfl | ⟨d, rfl⟩
  · k_allIn
    refine ex_i hlast ?_
    k_allIn
    refine an_i (line_ok B (by omega)) ?_
    k_allIn
    exact walk'
  · k_allIn
    refine ex_i hlast ?_
    k_allIn
    refine an_i (line_ok B (by omega)) ?_
    k_allIn
    exact walk'
theorem sp_common_table : ∀ args R, sd_common_table args R → m_common_table { nx := fun e => R (.vl .non) (outs 2 e), rt := fun r e => R r (outs 2 e) } (startE 7 args) := by
  rintro args R ⟨A, B, rfl, hA, hB, fin⟩
  have bl : (ofL B).length = B.length := ofL_len B
  have e0 : (List.flatten (List.replicate (((ofL B).length : Int) + 1).toNat [D.int 0])) = (List.range (B.length + 1)).map fun j => natD (lcs (A.drop A.length) (B.drop j)) := by
    rw [show (((ofL B).length : Int) + 1).toNat = B.length + 1 by rw [bl]; omega, rep_zero]
    apply List.map_congr_left
    intro j _
    rw [List.drop_length, lcs_nil]
    rfl
  have it : signsD (revS (ofL A)) = A.reverse.map fun c => .str (sg c) := rfl
  have walk : forI [] (gN 3) tabBody { nx := mRet (mRevA (mVar 2)) { nx := fun e => R (.vl .non) (outs 2 e), rt := fun r e => R r (outs 2 e) }, rt := fun r e => R r (outs 2 e) } (signsD (revS (ofL A)))
      [.val (.str (ofL A)), .val (.str (ofL B)), .own false (.lst [lcsRow A B A.length]), .no, .no, .no, .no] := by
    refine forI_inv (fun k env => k ≤ A.length ∧ ∃ s3 s4 s5 s6, Pl s3 ∧ Pl s4 ∧ (s5 = .no ∨ ∃ d, s5 = .own false d) ∧ Pl s6 ∧ env = [.val (.str (ofL A)), .val (.str (ofL B)), .own false (.lst ((List.range (k + 1)).map fun t => lcsRow A B (A.length - t))), s3, s4, s5, s6])
      ⟨by omega, .no, .no, .no, .no, trivial, trivial, Or.inl rfl, trivial, rfl⟩ (fun _ _ _ => trivial) ?_ ?_
    · rintro k x env hx ⟨hk, s3, s4, s5, s6, p3, p4, p5, p6, rfl⟩ N hN
      rw [it, List.getElem?_map] at hx
      obtain ⟨c, hc, rfl⟩ := Option.map_eq_some_iff.mp hx
      have hk2 : k < A.length := by
        have := (List.getElem?_eq_some_iff.mp hc).1
        simpa using this
      rw [List.getElem?_reverse hk2] at hc
      k_memK
      refine row_walk p4 p5 p6 hA hB hk2 hc fun s4 s5 s6 p4 p5 p6 => ?_
      exact hN _ ⟨by omega, .val (.str (sg c)), s4, s5, s6, trivial, p4, p5, p6, rfl⟩
    · rintro env ⟨_, s3, s4, s5, s6, p3, p4, p5, p6, rfl⟩
      have il : (signsD (revS (ofL A))).length = A.length := by rw [it]; simp
      rw [il]
      have e9 : ((List.range (A.length + 1)).map fun t => lcsRow A B (A.length - t)).reverse = (List.range (A.length + 1)).map fun i => lcsRow A B i := by
        rw [rev_range]
        apply List.map_congr_left
        intro t ht
        have := List.mem_range.mp ht
        rw [show A.length - (A.length - t) = t by omega]
      unfold tabD at fin
      rw [← e9] at fin
      k_allIn
      exact fin
  unfold lcsRow at walk
  rw [← e0] at walk
  k_allIn
  refine an_i (line_ok B (by omega)) ?_
  refine an_i (show (0 : Int) ≤ ((ofL B).length : Int) + 1 by omega) ?_
  refine an_i (show ((ofL B).length : Int) + 1 ≤ 100000 by omega) ?_
  refine an_i (show 1 * (((ofL B).length : Int) + 1).toNat ≤ 100000 by omega) ?_
  k_allIn
  refine an_i (line_ok A (by omega)) ?_
  exact walk
end
end Law

set_option Elab.async false
set_option linter.all false
set_option maxRecDepth 100000
set_option maxHeartbeats 4000000
set_option autoImplicit false
namespace Law
open PySem L2 DL
section
local macro_rules | `(tactic| k_upd) => `(tactic| (first | exact trivial | exact rfl | ((try dsimp only); first | assumption | exact fits62 (by omega) (by omega) | exact cmul_s (by omega) (by omega) | exact cpow_s (by omega) (by omega) (by omega) | exact And.intro (by omega) (clog_s (by omega)) | exact Nat.le_of_ble_eq_true rfl | decide | omega)))
local macro_rules | `(tactic| k_memK) => `(tactic| first | (refine an_i ?_ ?_; focus k_upd) | refine ex_i rfl ?_ | refine ite_t rfl ?_ | refine ite_f Bool.false_ne_true ?_)
local macro_rules | `(tactic| k_allIn) => `(tactic| repeat k_memK)

local macro_rules | `(tactic| row_arm1w $t) => `(tactic| first | refine $t | (k_memK; row_arm1w $t))
set_option pp.deepTerms false
set_option pp.maxSteps 1500

/-! steps_between -/
abbrev Row := Str × List Nat
def rD (r : Row) : D := .tup [.str r.1, .str (ofL r.2)]
def rsD (rs : List Row) : D := .lst (rs.map rD)
abbrev KEEP : Str := "keep"
abbrev CUT : Str := "cut"
abbrev ADD : Str := "add"
def steps : List Nat → List Nat → List Row
  | [], [] => []
  | [], b :: bs => (ADD, [b]) :: steps [] bs
  | a :: as, [] => (CUT, [a]) :: steps as []
  | a :: as, b :: bs => if a = b then (KEEP, [a]) :: steps as bs else if lcs (a :: as) bs ≤ lcs as (b :: bs) then (CUT, [a]) :: steps as (b :: bs) else (ADD, [b]) :: steps (a :: as) bs
termination_by a b => a.length + b.length
theorem steps_nn : steps [] [] = [] := by rw [steps]
theorem steps_nc (b : Nat) (bs : List Nat) : steps [] (b :: bs) = (ADD, [b]) :: steps [] bs := by rw [steps]
theorem steps_cn (a : Nat) (as : List Nat) : steps (a :: as) [] = (CUT, [a]) :: steps as [] := by rw [steps]
theorem steps_cc (a b : Nat) (as bs : List Nat) : steps (a :: as) (b :: bs) = if a = b then (KEEP, [a]) :: steps as bs else if lcs (a :: as) bs ≤ lcs as (b :: bs) then (CUT, [a]) :: steps as (b :: bs) else (ADD, [b]) :: steps (a :: as) bs := by rw [steps]
theorem steps_len : ∀ A B : List Nat, (steps A B).length ≤ A.length + B.length
  | [], [] => by rw [steps_nn]; simp
  | [], b :: bs => by
    have := steps_len [] bs
    rw [steps_nc]; simp at this ⊢; omega
  | a :: as, [] => by
    have := steps_len as []
    rw [steps_cn]; simp at this ⊢; omega
  | a :: as, b :: bs => by
    have h1 := steps_len as bs
    have h2 := steps_len as (b :: bs)
    have h3 := steps_len (a :: as) bs
    rw [steps_cc]
    split
    · simp at *; omega
    · split <;> (simp at *; omega)
termination_by A B => A.length + B.length
def notW (w x : Str) : Bool := !decide (x = w)
def cat (p : Str → Bool) (rs : List Row) : List Nat := (rs.filter fun r => p r.1).flatMap (·.2)
def cost (rs : List Row) : Nat := ((rs.filter fun r => notW "keep" r.1).map (·.2.length)).sum
def runOk (r : Row) : Prop := (r.1 = "keep" ∨ r.1 = "cut" ∨ r.1 = "add") ∧ r.2 ≠ []
def addRow (acc : List Row) (r : Row) : List Row := match acc.getLast? with
  | some (w, t) => if w = r.1 then acc.dropLast ++ [(w, t ++ r.2)] else acc ++ [r]
  | none => [r]
def chg (A B : List Nat) : List Row := (steps A B).foldl addRow []
def sd_steps_between : DSpec := fun args R => ∃ A B : List Nat, args = [.val (.str (ofL A)), .val (.str (ofL B))] ∧ A.length ≤ 300 ∧ B.length ≤ 300 ∧ R (.tm (rsD (steps A B))) [.no, .no]
theorem len_steps_between : ∀ args R, sd_steps_between args R → args.length = 2 := by rintro args R ⟨A, B, rfl, _⟩; rfl
theorem drop_end {α : Type} {l : List α} {i : Nat} (h : l.length ≤ i) : l.drop i = [] := List.drop_eq_nil_of_le h
theorem sp_steps_between : ∀ args R, sd_steps_between args R → m_steps_between sd_common_table { nx := fun e => R (.vl .non) (outs 2 e), rt := fun r e => R r (outs 2 e) } (startE 6 args) := by
  rintro args R ⟨A, B, rfl, hA, hB, fin⟩
  have al : (ofL A).length = A.length := ofL_len A
  have bl : (ofL B).length = B.length := ofL_len B
  k_allIn
  refine ⟨A, B, rfl, hA, hB, ?_⟩
  k_allIn
  refine while_i (A.length + B.length + 1) ?_
  refine while_inv (fun n env => ∃ (i j : Nat) (F : List Row), i ≤ A.length ∧ j ≤ B.length ∧ n = (A.length - i) + (B.length - j) ∧ F.length ≤ i + j ∧ F ++ steps (A.drop i) (B.drop j) = steps A B ∧
    env = [.val (.str (ofL A)), .val (.str (ofL B)), .val (tabD A B), .val (.int (i : Int)), .val (.int (j : Int)), .own false (rsD F)]) ?_ _ _ ⟨0, 0, [], by omega, by omega, by omega, by simp, by simp, rfl⟩
  rintro n env ⟨i, j, F, hi, hj, rfl, hF, hst, rfl⟩ N hN
  have fl : (F.map rD).length = F.length := List.length_map ..
  -- the ways on
  have keep : ∀ {a b : Nat}, A[i]? = some a → B[j]? = some b → a = b → N [.val (.str (ofL A)), .val (.str (ofL B)), .val (tabD A B), .val (.int ((i : Int) + 1)), .val (.int ((j : Int) + 1)), .own false (.lst (F.map rD ++ [rD (KEEP, [a])]))] := by
    intro a b ha hb e
    have hi2 := (List.getElem?_eq_some_iff.mp ha).1
    have hj2 := (List.getElem?_eq_some_iff.mp hb).1
    refine hN _ _ (by omega) ⟨i + 1, j + 1, F ++ [(KEEP, [a])], by omega, by omega, rfl, by rw [List.length_append]; simp; omega, ?_, ?_⟩
    · rw [drop_at ha, drop_at hb, steps_cc, if_pos e] at hst
      rw [← hst, List.append_assoc]; rfl
    · unfold rsD
      rw [List.map_append]
      rfl
  have cut : ∀ {a : Nat}, A[i]? = some a → (B.length ≤ j ∨ ∃ b, B[j]? = some b ∧ a ≠ b ∧ lcs (A.drop i) (B.drop (j + 1)) ≤ lcs (A.drop (i + 1)) (B.drop j)) → N [.val (.str (ofL A)), .val (.str (ofL B)), .val (tabD A B), .val (.int ((i : Int) + 1)), .val (.int (j : Int)), .own false (.lst (F.map rD ++ [rD (CUT, [a])]))] := by
    intro a ha h
    have hi2 := (List.getElem?_eq_some_iff.mp ha).1
    refine hN _ _ (by omega) ⟨i + 1, j, F ++ [(CUT, [a])], by omega, by omega, rfl, by rw [List.length_append]; simp; omega, ?_, ?_⟩
    · rcases h with h | ⟨b, hb, ne, le⟩
      · rw [drop_at ha, drop_end h, steps_cn] at hst
        rw [drop_end h, ← hst, List.append_assoc]; rfl
      · rw [drop_at ha, drop_at hb] at le
        rw [drop_at ha, drop_at hb, steps_cc, if_neg ne, if_pos le] at hst
        rw [← hst, List.append_assoc, drop_at hb]; rfl
    · unfold rsD
      rw [List.map_append]
      rfl
  have add : ∀ {b : Nat}, B[j]? = some b → (A.length ≤ i ∨ ∃ a, A[i]? = some a ∧ a ≠ b ∧ ¬ lcs (A.drop i) (B.drop (j + 1)) ≤ lcs (A.drop (i + 1)) (B.drop j)) → N [.val (.str (ofL A)), .val (.str (ofL B)), .val (tabD A B), .val (.int (i : Int)), .val (.int ((j : Int) + 1)), .own false (.lst (F.map rD ++ [rD (ADD, [b])]))] := by
    intro b hb h
    have hj2 := (List.getElem?_eq_some_iff.mp hb).1
    refine hN _ _ (by omega) ⟨i, j + 1, F ++ [(ADD, [b])], by omega, by omega, rfl, by rw [List.length_append]; simp; omega, ?_, ?_⟩
    · rcases h with h | ⟨a, ha, ne, le⟩
      · rw [drop_at hb, drop_end h, steps_nc] at hst
        rw [drop_end h, ← hst, List.append_assoc]; rfl
      · rw [drop_at ha, drop_at hb] at le
        rw [drop_at ha, drop_at hb, steps_cc, if_neg ne, if_neg le] at hst
        rw [← hst, List.append_assoc, drop_at ha]; rfl
    · unfold rsD
      rw [List.map_append]
      rfl
  have ci : decide ((i : Int) < ((ofL A).length : Int)) = decide (i < A.length) := by rw [al]; exact decide_eq_decide.mpr (by omega)
  have cj : decide ((j : Int) < ((ofL B).length : Int)) = decide (j < B.length) := by rw [bl]; exact decide_eq_decide.mpr (by omega)
  have ce : (deq (.int (j : Int)) (.int ((ofL B).length : Int))) = decide (B.length ≤ j) := by
    rw [deq_int, bl]
    by_cases q : B.length ≤ j
    · rw [decide_eq_true q]; simp; omega
    · rw [decide_eq_false q]; simp; omega
  have tA : i < A.length → decide ((i : Int) < ((ofL A).length : Int)) = true := fun q => by rw [ci]; exact decide_eq_true q
  have fA : ¬ i < A.length → ¬ decide ((i : Int) < ((ofL A).length : Int)) = true := fun q => by rw [ci, decide_eq_false q]; simp
  have tB : j < B.length → decide ((j : Int) < ((ofL B).length : Int)) = true := fun q => by rw [cj]; exact decide_eq_true q
  have fB : ¬ j < B.length → ¬ decide ((j : Int) < ((ofL B).length : Int)) = true := fun q => by rw [cj, decide_eq_false q]; simp
  have tE : B.length ≤ j → (deq (.int (j : Int)) (.int ((ofL B).length : Int))) = true := fun q => by rw [ce]; exact decide_eq_true q
  have fE : ¬ B.length ≤ j → ¬ (deq (.int (j : Int)) (.int ((ofL B).length : Int))) = true := fun q => by rw [ce, decide_eq_false q]; simp
  by_cases qi : i < A.length
  · have ha := List.getElem?_eq_getElem qi
    have ga : atI (ofL A).cps.toList (i : Int) = some A[i] := DL.atI_nat ha
    by_cases qj : j < B.length
    · have hb := List.getElem?_eq_getElem qj
      have gb : atI (ofL B).cps.toList (j : Int) = some B[j] := DL.atI_nat hb
      k_allIn
      refine an_i (line_ok A (by omega)) ?_
      refine ite_t (tA qi) ?_
      k_allIn
      refine an_i (line_ok A (by omega)) ?_
      refine ite_t (tA qi) ?_
      k_allIn
      refine an_i (line_ok B (by omega)) ?_
      refine ite_t (tB qj) ?_
      k_allIn
      refine an_i (line_ok A (by omega)) ?_
      refine ex_i ga ?_
      k_allIn
      refine an_i (line_ok B (by omega)) ?_
      refine ex_i gb ?_
      k_allIn
      refine ite_i (fun cc => ?_) (fun cc => ?_)
      · have cc : deq (.str (sg A[i])) (.str (sg B[j])) = true := cc
        have e : A[i] = B[j] := by
          rw [deq_str] at cc
          have : sg A[i] = sg B[j] := by simpa using cc
          have := congrArg (fun s : Str => s.cps.toList) this
          simpa using this
        k_allIn
        refine an_i (line_ok A (by omega)) ?_
        refine ex_i ga ?_
        k_allIn
        k_allIn
        exact keep ha hb e
      · have cc : ¬ deq (.str (sg A[i])) (.str (sg B[j])) = true := cc
        have e : A[i] ≠ B[j] := by
          intro q
          apply cc
          rw [q, deq_str]; simp
        have t1 : atI ((List.range (A.length + 1)).map fun i => lcsRow A B i) ((i : Int) + 1) = some (lcsRow A B (i + 1)) := by
          have := range_at (n := A.length + 1) (k := i + 1) (fun i => lcsRow A B i) (by omega)
          rw [← this]; rfl
        have t2 : atI ((List.range (A.length + 1)).map fun i => lcsRow A B i) (i : Int) = some (lcsRow A B i) := range_at (n := A.length + 1) (k := i) (fun i => lcsRow A B i) (by omega)
        have u1 : atI ((List.range (B.length + 1)).map fun j => natD (lcs (A.drop (i + 1)) (B.drop j))) (j : Int) = some (natD (lcs (A.drop (i + 1)) (B.drop j))) := range_at (n := B.length + 1) (k := j) (fun j => natD (lcs (A.drop (i + 1)) (B.drop j))) (by omega)
        have u2 : atI ((List.range (B.length + 1)).map fun j => natD (lcs (A.drop i) (B.drop j))) ((j : Int) + 1) = some (natD (lcs (A.drop i) (B.drop (j + 1)))) := by
          have := range_at (n := B.length + 1) (k := j + 1) (fun j => natD (lcs (A.drop i) (B.drop j))) (by omega)
          rw [← this]; rfl
        k_allIn
        refine an_i (line_ok B (by omega)) ?_
        k_allIn
        refine ite_f (fE (by omega)) ?_
        k_allIn
        refine an_i (line_ok A (by omega)) ?_
        refine ite_t (tA qi) ?_
        k_allIn
        refine ex_i t1 ?_
        k_allIn
        refine ex_i u1 ?_
        k_allIn
        refine ex_i t2 ?_
        k_allIn
        refine ex_i u2 ?_
        k_allIn
        refine ite_i (fun c2 => ?_) (fun c2 => ?_)
        · have c2 : decide (((lcs (A.drop i) (B.drop (j + 1)) : Nat) : Int) ≤ ((lcs (A.drop (i + 1)) (B.drop j) : Nat) : Int)) = true := c2
          have c2 := of_decide_eq_true c2
          k_allIn
          refine an_i (line_ok A (by omega)) ?_
          refine ex_i ga ?_
          k_allIn
          k_allIn
          exact cut ha (Or.inr ⟨_, hb, e, by omega⟩)
        · have c2 : ¬ decide (((lcs (A.drop i) (B.drop (j + 1)) : Nat) : Int) ≤ ((lcs (A.drop (i + 1)) (B.drop j) : Nat) : Int)) = true := c2
          have c2 : ¬ (((lcs (A.drop i) (B.drop (j + 1)) : Nat) : Int) ≤ ((lcs (A.drop (i + 1)) (B.drop j) : Nat) : Int)) := fun q => c2 (decide_eq_true q)
          k_allIn
          refine an_i (line_ok B (by omega)) ?_
          refine ex_i gb ?_
          k_allIn
          k_allIn
          exact add hb (Or.inr ⟨_, ha, e, by omega⟩)
    · k_allIn
      refine an_i (line_ok A (by omega)) ?_
      refine ite_t (tA qi) ?_
      k_allIn
      refine an_i (line_ok A (by omega)) ?_
      refine ite_t (tA qi) ?_
      k_allIn
      refine an_i (line_ok B (by omega)) ?_
      refine ite_f (fB (by omega)) ?_
      k_allIn
      refine an_i (line_ok B (by omega)) ?_
      k_allIn
      refine ite_t (tE (by omega)) ?_
      k_allIn
      refine an_i (line_ok A (by omega)) ?_
      refine ex_i ga ?_
      k_allIn
      k_allIn
      exact cut ha (Or.inl (by omega))
  · have nA := fA qi
    by_cases qj : j < B.length
    · have hb := List.getElem?_eq_getElem qj
      have gb : atI (ofL B).cps.toList (j : Int) = some B[j] := DL.atI_nat hb
      k_allIn
      refine an_i (line_ok A (by omega)) ?_
      refine ite_f nA ?_
      k_allIn
      refine an_i (line_ok B (by omega)) ?_
      refine ite_t (tB qj) ?_
      k_allIn
      refine an_i (line_ok A (by omega)) ?_
      refine ite_f nA ?_
      k_allIn
      refine an_i (line_ok B (by omega)) ?_
      k_allIn
      refine ite_f (fE (by omega)) ?_
      k_allIn
      refine an_i (line_ok A (by omega)) ?_
      refine ite_f nA ?_
      k_allIn
      refine an_i (line_ok B (by omega)) ?_
      refine ex_i gb ?_
      k_allIn
      k_allIn
      exact add hb (Or.inl (by omega))
    · have ei : i = A.length := by omega
      have ej : j = B.length := by omega
      subst ei ej
      rw [List.drop_length, List.drop_length, steps_nn, List.append_nil] at hst
      rw [hst]
      k_allIn
      refine an_i (line_ok A (by omega)) ?_
      refine ite_f nA ?_
      k_allIn
      refine an_i (line_ok B (by omega)) ?_
      refine ite_f (fB (by omega)) ?_
      k_allIn
      exact fin
end
end Law

set_option Elab.async false
set_option linter.all false
set_option maxRecDepth 100000
set_option maxHeartbeats 4000000
set_option autoImplicit false
namespace Law
open PySem L2 DL
section
local macro_rules | `(tactic| k_upd) => `(tactic| (first | exact trivial | exact rfl | ((try dsimp only); first | assumption | exact fits62 (by omega) (by omega) | exact cmul_s (by omega) (by omega) | exact cpow_s (by omega) (by omega) (by omega) | exact And.intro (by omega) (clog_s (by omega)) | exact Nat.le_of_ble_eq_true rfl | decide | omega)))
local macro_rules | `(tactic| k_memK) => `(tactic| first | (refine an_i ?_ ?_; focus k_upd) | refine ex_i rfl ?_ | refine ite_t rfl ?_ | refine ite_f Bool.false_ne_true ?_)
local macro_rules | `(tactic| k_allIn) => `(tactic| repeat k_memK)

local macro_rules | `(tactic| row_arm1w $t) => `(tactic| first | refine $t | (k_memK; row_arm1w $t))
set_option pp.deepTerms false
set_option pp.maxSteps 1500

/-! changes -/
theorem snoc_cases {α : Type} (l : List α) : l = [] ∨ ∃ i x, l = i ++ [x] := by
  rcases List.eq_nil_or_concat l with h | ⟨i, x, h⟩
  · exact Or.inl h
  · exact Or.inr ⟨i, x, by rw [h, List.concat_eq_append]⟩
theorem addRow_snoc (i : List Row) (w : Str) (t : List Nat) (r : Row) : addRow (i ++ [(w, t)]) r = if w = r.1 then i ++ [(w, t ++ r.2)] else i ++ [(w, t)] ++ [r] := by
  unfold addRow
  rw [List.getLast?_append, List.dropLast_concat]
  rfl
theorem last_snoc {α : Type} (l : List α) (x : α) : atI (l ++ [x]) (-1) = some x := by
  unfold atI ixN
  rw [if_neg (by decide), List.length_append]
  show ((if -((l.length + 1 : Nat) : Int) ≤ -1 then some (-1 + ((l.length + 1 : Nat) : Int)).toNat else none).bind fun j => (l ++ [x])[j]?) = _
  rw [if_pos (by omega)]
  show (l ++ [x])[(-1 + ((l.length + 1 : Nat) : Int)).toNat]? = _
  rw [show (-1 + ((l.length + 1 : Nat) : Int)).toNat = l.length by omega, List.getElem?_append_right (Nat.le_refl _), Nat.sub_self]
  rfl
theorem last_ix {α : Type} (l : List α) (x : α) : ixN (l ++ [x]).length (-1) = some l.length := by
  unfold ixN
  rw [if_neg (by decide), List.length_append]
  show (if -((l.length + 1 : Nat) : Int) ≤ -1 then some (-1 + ((l.length + 1 : Nat) : Int)).toNat else none) = _
  rw [if_pos (by omega), show (-1 + ((l.length + 1 : Nat) : Int)).toNat = l.length by omega]
theorem set_snoc {α : Type} (l : List α) (x y : α) : (l ++ [x]).set l.length y = l ++ [y] := by
  rw [List.set_append_right _ _ (Nat.le_refl _), Nat.sub_self]; rfl
def two (d1 d2 : D) (E : XP) (ss : List Slot) (P : List Nat → List Nat → Prop) : Prop :=
  if longB d1 = true then (if longB d2 = true then (∃ A B, d1 = .str (ofL A) ∧ d2 = .str (ofL B) ∧ P A B) else E cx_NoText [("found", d2)] ss) else E cx_NoText [("found", d1)] ss
structure TwoOk (d1 d2 : D) : Prop where
  p1 : plain d1
  p2 : plain d2
  l1 : ∀ s, d1 = .str s → s.length ≤ 1000
  l2 : ∀ s, d2 = .str s → s.length ≤ 1000
theorem long_len {A : List Nat} (h : longB (.str (ofL A)) = true) : A.length ≤ 200 := by
  unfold longB at h
  rw [Bool.and_eq_true] at h
  have := of_decide_eq_true h.1
  rwa [ofL_len] at this
def sd_changes : DSpecX := fun args R E => ∃ d1 d2 : D, args = [.val d1, .val d2] ∧ TwoOk d1 d2 ∧ two d1 d2 E [.no, .no] fun A B => R (.tm (rsD (chg A B))) [.no, .no]
theorem len_changes : ∀ args R E, sd_changes args R E → args.length = 2 := by rintro args R E ⟨d1, d2, rfl, _⟩; rfl
def grpBody : DStm := (mIfS (mAndT (mB (mOp2 aNe (mVar 2) (mLst (mNil)))) (mB (mOp2 aEq (mOp2 aIx (mOp2 aIx (mVar 2) (mNeg (mC (.int 1)))) (mC (.int 0))) (mVar 3)))) (mSetIx 2 (mNeg (mC (.int 1))) (mTup (mCons (mVar 3) (mCons (mOp2 aAdd (mOp2 aIx (mOp2 aIx (mVar 2) (mNeg (mC (.int 1)))) (mC (.int 1))) (mVar 4)) (mNil))))) (mApp 2 (mTup (mCons (mVar 3) (mCons (mVar 4) (mNil))))))
theorem rD_lvl (rs : List Row) (n : Nat) : D.lvl (n + 2) (rsD rs) = true := by
  show (rs.map rD).all (D.lvl (n + 1)) = true
  rw [List.all_map, List.all_eq_true]
  intro r _
  show ([D.str r.1, .str (ofL r.2)]).all (D.lvl n) = true
  cases n <;> rfl
theorem one_row {P : Post} {d1 d2 : D} {acc : List Row} {r : Row} {s3 s4 : Slot} (hr : r.2.length ≤ 1000) (ha : acc.length ≤ 1000) (hl : ∀ x ∈ acc, x.2.length ≤ 100000)
    (fin : P.nx [.val d1, .val d2, .own false (rsD (addRow acc r)), .val (.str r.1), .val (.str (ofL r.2))]) :
    grpBody P [.val d1, .val d2, .own false (rsD acc), .val (.str r.1), .val (.str (ofL r.2))] := by
  rcases snoc_cases acc with rfl | ⟨i, ⟨w, t⟩, rfl⟩
  · k_allIn
    exact fin
  · rw [addRow_snoc] at fin
    have e1 : (i ++ [(w, t)]).map rD = i.map rD ++ [.tup [.str w, .str (ofL t)]] := by rw [List.map_append]; rfl
    have g1 : atI ((i ++ [(w, t)]).map rD) (-1) = some (.tup [.str w, .str (ofL t)]) := by rw [e1]; exact last_snoc _ _
    have g2 : ixN ((i ++ [(w, t)]).map rD).length (-1) = some (i.map rD).length := by rw [e1]; exact last_ix _ _
    have tl : t.length ≤ 100000 := hl (w, t) (by simp)
    have ml : ((i ++ [(w, t)]).map rD).length = i.length + 1 := by simp
    have nn : deq (rsD (i ++ [(w, t)])) (.lst []) = false := by
      unfold rsD
      rw [List.map_append]
      cases i with
      | nil => exact deq_cons_nil _ _
      | cons a l => exact deq_cons_nil _ _
    k_allIn
    refine an_i (rD_lvl _ 58) ?_
    k_allIn
    refine ite_t (by rw [nn]; rfl) ?_
    k_allIn
    refine ex_i g1 ?_
    k_allIn
    refine ite_i (fun cc => ?_) (fun cc => ?_)
    · have cc : deq (.str w) (.str r.1) = true := cc
      have e : w = r.1 := by rw [deq_str] at cc; simpa using cc
      rw [if_pos e] at fin
      k_allIn
      refine ex_i g1 ?_
      k_allIn
      refine an_i (by rw [ofL_len, ofL_len]; exact Nat.le_trans (show t.length + r.2.length ≤ 200000 by omega) (Nat.le_of_ble_eq_true rfl)) ?_
      k_allIn
      refine ex_i g2 ?_
      have e2 : ((i ++ [(w, t)]).map rD).set (i.map rD).length (.tup [.str r.1, .str (ofL t ++ ofL r.2)]) = (i ++ [(w, t ++ r.2)]).map rD := by
        rw [e1, set_snoc, List.map_append]
        have : ofL t ++ ofL r.2 = ofL (t ++ r.2) := str_ext (by rw [app_list]; rfl)
        rw [this, e]; rfl
      k_allIn
      unfold rsD at fin
      rw [← e2] at fin
      exact fin
    · have cc : ¬ deq (.str w) (.str r.1) = true := cc
      have e : ¬ w = r.1 := by intro q; apply cc; rw [q, deq_str]; simp
      rw [if_neg e] at fin
      have e3 : (i ++ [(w, t)] ++ [r]).map rD = (i ++ [(w, t)]).map rD ++ [.tup [.str r.1, .str (ofL r.2)]] := by rw [List.map_append]; rfl
      unfold rsD at fin
      rw [e3] at fin
      k_allIn
      refine an_i (by rw [ml]; simp at ha; omega) ?_
      exact fin

def tot (rs : List Row) : Nat := (rs.map (·.2.length)).sum
theorem tot_app (a b : List Row) : tot (a ++ b) = tot a + tot b := by unfold tot; rw [List.map_append, List.sum_append]
theorem tot_add (acc : List Row) (r : Row) : tot (addRow acc r) = tot acc + r.2.length := by
  rcases snoc_cases acc with rfl | ⟨i, ⟨w, t⟩, rfl⟩
  · show r.2.length + 0 = 0 + _
    omega
  · rw [addRow_snoc]
    have one : ∀ x : Row, tot [x] = x.2.length := fun x => by show x.2.length + 0 = _; omega
    split
    · rw [tot_app, tot_app, one, one, List.length_append]
      show _ + (t.length + _) = _ + t.length + _
      omega
    · rw [tot_app, one]
theorem tot_mem {acc : List Row} {x : Row} (h : x ∈ acc) : x.2.length ≤ tot acc := by
  induction acc with
  | nil => cases h
  | cons a l ih =>
    have e : tot (a :: l) = a.2.length + tot l := by unfold tot; rw [List.map_cons, List.sum_cons]
    rw [e]
    rcases List.mem_cons.mp h with rfl | h
    · omega
    · have := ih h; omega
theorem steps_one : ∀ A B : List Nat, ∀ r ∈ steps A B, r.2.length = 1
  | [], [] => by rw [steps_nn]; simp
  | [], b :: bs => by
    rw [steps_nc]
    intro r hr
    rcases List.mem_cons.mp hr with rfl | hr
    · rfl
    · exact steps_one [] bs r hr
  | a :: as, [] => by
    rw [steps_cn]
    intro r hr
    rcases List.mem_cons.mp hr with rfl | hr
    · rfl
    · exact steps_one as [] r hr
  | a :: as, b :: bs => by
    rw [steps_cc]
    split
    · intro r hr
      rcases List.mem_cons.mp hr with rfl | hr
      · rfl
      · exact steps_one as bs r hr
    · split
      · intro r hr
        rcases List.mem_cons.mp hr with rfl | hr
        · rfl
        · exact steps_one as (b :: bs) r hr
      · intro r hr
        rcases List.mem_cons.mp hr with rfl | hr
        · rfl
        · exact steps_one (a :: as) bs r hr
termination_by A B => A.length + B.length
theorem acc_len (acc : List Row) (r : Row) : (addRow acc r).length ≤ acc.length + 1 := by
  rcases snoc_cases acc with rfl | ⟨i, ⟨w, t⟩, rfl⟩
  · exact Nat.le_refl _
  · rw [addRow_snoc]
    split <;> simp
theorem sp_changes : ∀ args R E, sd_changes args R E → m_changes sd_need_long sd_steps_between { nx := fun e => R (.vl .non) (outs 2 e), rt := fun r e => R r (outs 2 e), ex := fun x fs e => E x fs (outs 2 e) } (startE 5 args) := by
  rintro args R E ⟨d1, d2, rfl, ok, h⟩
  unfold two at h
  k_allIn
  refine ⟨d1, rfl, ok.p1, ok.l1, ?_⟩
  by_cases q1 : longB d1 = true
  · rw [if_pos q1] at h ⊢
    k_allIn
    refine ⟨d2, rfl, ok.p2, ok.l2, ?_⟩
    by_cases q2 : longB d2 = true
    · rw [if_pos q2] at h ⊢
      obtain ⟨A, B, rfl, rfl, fin⟩ := h
      have hA := long_len q1
      have hB := long_len q2
      k_allIn
      refine ⟨A, B, rfl, by omega, by omega, ?_⟩
      have sl := steps_len A B
      have s1 := steps_one A B
      refine forI_inv (fun j env => ∃ s3 s4, Pl s3 ∧ Pl s4 ∧ (((steps A B).take j).foldl addRow []).length ≤ j ∧ tot (((steps A B).take j).foldl addRow []) ≤ j ∧ env = [.val (.str (ofL A)), .val (.str (ofL B)), .own false (rsD (((steps A B).take j).foldl addRow [])), s3, s4]) ⟨.no, .no, trivial, trivial, by simp, by show tot [] ≤ 0; exact Nat.le_refl _, rfl⟩ (fun _ _ _ => trivial) ?_ ?_
      · rintro j x env hx ⟨s3, s4, p3, p4, h1, h2, rfl⟩ N hN
        rw [List.getElem?_map] at hx
        obtain ⟨r, hr, rfl⟩ := Option.map_eq_some_iff.mp hx
        have hj := (List.getElem?_eq_some_iff.mp hr).1
        have r1 := s1 r (List.mem_of_getElem? hr)
        have e : ((steps A B).take (j + 1)).foldl addRow [] = addRow (((steps A B).take j).foldl addRow []) r := by
          rw [List.take_succ, hr, Option.toList_some, List.foldl_append]; rfl
        have l1 := acc_len (((steps A B).take j).foldl addRow []) r
        have l2 := tot_add (((steps A B).take j).foldl addRow []) r
        have fin2 := hN [.val (.str (ofL A)), .val (.str (ofL B)), .own false (rsD (addRow (((steps A B).take j).foldl addRow []) r)), .val (.str r.1), .val (.str (ofL r.2))] ⟨.val (.str r.1), .val (.str (ofL r.2)), trivial, trivial, by rw [e]; omega, by rw [e, l2, r1]; omega, by rw [e]⟩
        row_arm1w one_row (r := r) (acc := ((steps A B).take j).foldl addRow []) (s3 := s3) (s4 := s4) (by omega) (by omega) (fun x hx => by have := tot_mem hx; omega) ?_
        exact fin2
      · rintro env ⟨s3, s4, p3, p4, h1, h2, rfl⟩
        have il : ((steps A B).map rD).length = (steps A B).length := List.length_map ..
        rw [il, List.take_length]
        k_allIn
        exact fin
    · rw [if_neg q2] at h ⊢
      exact h
  · rw [if_neg q1] at h ⊢
    exact h
/-! signs_changed, fewest_signs -/
def sd_signs_changed : DSpec := fun args R => ∃ rs : List Row, args = [.val (rsD rs)] ∧ rs.length ≤ 1000 ∧ tot rs ≤ 1000 ∧ R (.vl (natD (cost rs))) [.no]
theorem len_signs_changed : ∀ args R, sd_signs_changed args R → args.length = 1 := by rintro args R ⟨rs, rfl, _⟩; rfl
def costO : D → Option D
  | .tup [.str w, .str t] => if notW "keep" w = true then some (.int (t.length : Int)) else none
  | _ => none
theorem cost_ints (rs : List Row) : asInts ((rs.map rD).filterMap costO) = some (((rs.filter fun r => notW "keep" r.1).map (·.2.length)).map fun (n : Nat) => (n : Int)) := by
  have : (rs.map rD).filterMap costO = (((rs.filter fun r => notW "keep" r.1).map (·.2.length)).map fun (n : Nat) => (n : Int)).map D.int := by
    induction rs with
    | nil => rfl
    | cons r rs ih =>
      rw [List.map_cons, List.filterMap_cons, List.filter_cons]
      have ec : costO (rD r) = if notW "keep" r.1 = true then some (D.int ((ofL r.2).length : Int)) else none := rfl
      rw [ec, ofL_len]
      by_cases q : notW "keep" r.1 = true
      · rw [if_pos q, if_pos q]
        show D.int _ :: _ = _
        rw [ih]; rfl
      · rw [if_neg q, if_neg q]
        exact ih
  rw [this]
  exact asInts_map _
theorem sum_casts : ∀ l : List Nat, (l.map fun (n : Nat) => (n : Int)).sum = ((l.sum : Nat) : Int)
  | [] => rfl
  | a :: l => by rw [List.map_cons, List.sum_cons, List.sum_cons, sum_casts l, Int.natCast_add]
theorem deq_ne (a b : Str) : (!deq (.str a) (.str b)) = notW b a := by
  rw [deq_str]
  unfold notW
  by_cases q : a = b
  · rw [decide_eq_true q]; simp [q]
  · rw [decide_eq_false q]; simp [q]
theorem cost_comp {hold : Holds} {e : List Slot} {R : List D → List Slot → Prop} {rs : List Row} (i j : Nat) (hh : holdE hold e) (hn : rs.length ≤ 1000)
    (st : ∀ (r : Row) (K : Option D → List Slot → Prop), r ∈ rs → K (costO (rD r)) e → cStep (gT 2 (gsCons (gN i) (gsCons (gN j) gsNil))) (mB (mOp2 aNe (mVar i) (mC (.str "keep")))) (mFn aLen (maCons (mVar j) maNil)) [i, j] e (rD r) K)
    (fin : R ((rs.map rD).filterMap costO) e) : compI hold (gT 2 (gsCons (gN i) (gsCons (gN j) gsNil))) (mB (mOp2 aNe (mVar i) (mC (.str "keep")))) (mFn aLen (maCons (mVar j) maNil)) [i, j] (rs.map rD) [] e R := by
  refine compI_list costO hh (by rw [List.length_map]; omega) (fun x hx K hK => ?_) fin
  obtain ⟨r, hr, rfl⟩ := List.mem_map.mp hx
  exact st r K hr hK
theorem sp_signs_changed : ∀ args R, sd_signs_changed args R → m_signs_changed { nx := fun e => R (.vl .non) (outs 1 e), rt := fun r e => R r (outs 1 e) } (startE 3 args) := by
  rintro args R ⟨rs, rfl, hl, ht, fin⟩
  k_allIn
  refine cost_comp 1 2 trivial hl (fun r K hr hK => ?_) ?_
  · have := tot_mem hr
    k_allIn
    refine ite_i (fun c => ?_) (fun c => ?_)
    · have c : (!deq (.str r.1) (.str "keep")) = true := c
      rw [deq_ne] at c
      have e : costO (rD r) = some (.int ((ofL r.2).length : Int)) := if_pos c
      rw [e] at hK
      k_allIn
      refine an_i (line_ok r.2 (by omega)) ?_
      exact hK
    · have c : ¬ (!deq (.str r.1) (.str "keep")) = true := c
      rw [deq_ne] at c
      have e : costO (rD r) = none := if_neg c
      rw [e] at hK
      exact hK
  · refine ex_i (cost_ints rs) ?_
    have e : ((((rs.filter fun r => notW "keep" r.1).map (·.2.length)).map fun (n : Nat) => (n : Int)).sum) = ((cost rs : Nat) : Int) := sum_casts _
    show R (.vl (.int (List.sum _))) _
    rw [e]
    exact fin
end
end Law

set_option Elab.async false
set_option linter.all false
set_option maxRecDepth 100000
set_option maxHeartbeats 4000000
set_option autoImplicit false
namespace Law
open PySem L2 DL
section
local macro_rules | `(tactic| k_upd) => `(tactic| (first | exact trivial | exact rfl | ((try dsimp only); first | assumption | exact fits62 (by omega) (by omega) | exact cmul_s (by omega) (by omega) | exact cpow_s (by omega) (by omega) (by omega) | exact And.intro (by omega) (clog_s (by omega)) | exact Nat.le_of_ble_eq_true rfl | decide | omega)))
local macro_rules | `(tactic| k_memK) => `(tactic| first | (refine an_i ?_ ?_; focus k_upd) | refine ex_i rfl ?_ | refine ite_t rfl ?_ | refine ite_f Bool.false_ne_true ?_)
local macro_rules | `(tactic| k_allIn) => `(tactic| repeat k_memK)

local macro_rules | `(tactic| row_arm1w $t) => `(tactic| first | refine $t | (k_memK; row_arm1w $t))
set_option pp.deepTerms false
set_option pp.maxSteps 1500

theorem two_mono {d1 d2 : D} {E E' : XP} {ss ss' : List Slot} {P P' : List Nat → List Nat → Prop} (h : two d1 d2 E ss P) (he : ∀ d, E cx_NoText [("found", d)] ss → E' cx_NoText [("found", d)] ss')
    (hp : ∀ A B, A.length ≤ 200 → B.length ≤ 200 → P A B → P' A B) : two d1 d2 E' ss' P' := by
  unfold two at h ⊢
  by_cases q1 : longB d1 = true
  · rw [if_pos q1] at h ⊢
    by_cases q2 : longB d2 = true
    · rw [if_pos q2] at h ⊢
      obtain ⟨A, B, rfl, rfl, h⟩ := h
      exact ⟨A, B, rfl, rfl, hp A B (long_len q1) (long_len q2) h⟩
    · rw [if_neg q2] at h ⊢
      exact he _ h
  · rw [if_neg q1] at h ⊢
    exact he _ h
theorem fold_bounds : ∀ (rs acc : List Row), (rs.foldl addRow acc).length ≤ acc.length + rs.length ∧ tot (rs.foldl addRow acc) = tot acc + tot rs
  | [], acc => ⟨Nat.le_refl _, rfl⟩
  | r :: rs, acc => by
    obtain ⟨h1, h2⟩ := fold_bounds rs (addRow acc r)
    have h3 := acc_len acc r
    have h4 := tot_add acc r
    have h5 : tot (r :: rs) = r.2.length + tot rs := by unfold tot; rw [List.map_cons, List.sum_cons]
    rw [List.foldl_cons]
    exact ⟨by rw [List.length_cons]; omega, by omega⟩
theorem tot_one : ∀ {rs : List Row}, (∀ r ∈ rs, r.2.length = 1) → tot rs = rs.length
  | [], _ => rfl
  | r :: rs, h => by
    have h5 : tot (r :: rs) = r.2.length + tot rs := by unfold tot; rw [List.map_cons, List.sum_cons]
    rw [h5, h r (by simp), tot_one fun x hx => h x (List.mem_cons_of_mem _ hx), List.length_cons]
    omega
theorem chg_bounds {A B : List Nat} (hA : A.length ≤ 200) (hB : B.length ≤ 200) : (chg A B).length ≤ 400 ∧ tot (chg A B) ≤ 400 := by
  obtain ⟨h1, h2⟩ := fold_bounds (steps A B) []
  have h3 := steps_len A B
  have h4 := tot_one (steps_one A B)
  have h5 : tot [] = 0 := rfl
  unfold chg
  simp only [List.length_nil] at h1
  omega
def sd_fewest_signs : DSpecX := fun args R E => ∃ d1 d2 : D, args = [.val d1, .val d2] ∧ TwoOk d1 d2 ∧ two d1 d2 E [.no, .no] fun A B => R (.vl (natD (cost (chg A B)))) [.no, .no]
theorem len_fewest_signs : ∀ args R E, sd_fewest_signs args R E → args.length = 2 := by rintro args R E ⟨d1, d2, rfl, _⟩; rfl
theorem sp_fewest_signs : ∀ args R E, sd_fewest_signs args R E → m_fewest_signs sd_changes sd_signs_changed { nx := fun e => R (.vl .non) (outs 2 e), rt := fun r e => R r (outs 2 e), ex := fun x fs e => E x fs (outs 2 e) } (startE 2 args) := by
  rintro args R E ⟨d1, d2, rfl, ok, h⟩
  k_allIn
  refine ⟨d1, d2, rfl, ok, two_mono h (fun d hd => hd) fun A B hA hB h => ?_⟩
  obtain ⟨b1, b2⟩ := chg_bounds hA hB
  k_allIn
  refine ⟨chg A B, rfl, by omega, by omega, ?_⟩
  exact h
/-! is_run -/
def wordB (w : Str) : Bool := inD (.str w) [.str "keep", .str "cut", .str "add"]
theorem word_iff {w : Str} : wordB w = true ↔ w = KEEP ∨ w = CUT ∨ w = ADD := by
  unfold wordB inD
  simp only [List.any_cons, List.any_nil, feq, Bool.or_false, Bool.or_eq_true, beq_iff_eq]
  constructor
  · rintro (h | h | h)
    · exact Or.inl h.symm
    · exact Or.inr (Or.inl h.symm)
    · exact Or.inr (Or.inr h.symm)
  · rintro (h | h | h)
    · exact Or.inl h.symm
    · exact Or.inr (Or.inl h.symm)
    · exact Or.inr (Or.inr h.symm)
def runB : D → Bool
  | .tup [.str w, .str t] => wordB w && !(deq (.str t) (.str ""))
  | _ => false
structure RowOk (d : D) : Prop where
  pl : plain d
  tp : ∀ xs, d = .tup xs → (∀ x ∈ xs, plain x) ∧ ∀ s, D.str s ∈ xs → s.length ≤ 1000
def sd_is_run : DSpec := fun args R => ∃ d : D, args = [.val d] ∧ RowOk d ∧ R (.vl (.bl (runB d))) [.no]
theorem len_is_run : ∀ args R, sd_is_run args R → args.length = 1 := by rintro args R ⟨d, rfl, _⟩; rfl
theorem at0 {α : Type} (a : α) (l : List α) : atI (a :: l) 0 = some a := DL.atI_nat (k := 0) rfl
theorem at1 {α : Type} (a b : α) (l : List α) : atI (a :: b :: l) 1 = some b := DL.atI_nat (k := 1) rfl
theorem runB_two {xs : List D} (h : xs.length ≠ 2) : runB (.tup xs) = false := by
  unfold runB
  split
  · next w t e => cases e; exact absurd rfl h
  · rfl
theorem runB_str (w t : Str) : runB (.tup [.str w, .str t]) = (wordB w && !(deq (.str t) (.str ""))) := rfl
theorem runB_word {w : Str} {b : D} (h : ¬ wordB w = true) : runB (.tup [.str w, b]) = false := by
  cases b with
  | str t => rw [runB_str, Bool.eq_false_iff.mpr h]; rfl
  | _ => rfl
theorem sp_is_run : ∀ args R, sd_is_run args R → m_is_run { nx := fun e => R (.vl .non) (outs 1 e), rt := fun r e => R r (outs 1 e) } (startE 1 args) := by
  rintro args R ⟨d, rfl, ok, h⟩
  have pd := ok.pl
  cases d with
  | fn a => exact pd.elim
  | obj a b => exact pd.elim
  | exc a b c => exact pd.elim
  | scr a => exact pd.elim
  | tup xs =>
    obtain ⟨px, sx⟩ := ok.tp xs rfl
    by_cases hl : xs.length = 2
    · obtain ⟨a, b, rfl⟩ : ∃ a b, xs = [a, b] := by
        match xs, hl with
        | [a, b], _ => exact ⟨a, b, rfl⟩
      have pa := px a (by simp)
      have pb := px b (by simp)
      k_allIn
      cases a with
      | fn a => exact pa.elim
      | obj a b => exact pa.elim
      | exc a b c => exact pa.elim
      | scr a => exact pa.elim
      | str w =>
        k_allIn
        refine ite_i (fun c => ?_) (fun c => ?_)
        · have c : (false ^^ wordB w) = true := c
          rw [Bool.false_xor] at c
          cases b with
          | fn a => exact pb.elim
          | obj a b => exact pb.elim
          | exc a b c => exact pb.elim
          | scr a => exact pb.elim
          | str t =>
            have e : runB (.tup [.str w, .str t]) = !(deq (.str t) (.str "")) := by rw [runB_str, c, Bool.true_and]
            rw [e] at h
            k_allIn
            exact h
          | _ =>
            k_allIn
            exact h
        · have c : ¬ (false ^^ wordB w) = true := c
          rw [Bool.false_xor] at c
          rw [runB_word c] at h
          exact h
      | _ =>
        k_allIn
        exact h
    · rw [runB_two hl] at h
      k_allIn
      refine ite_t (by rw [deq_int]; simp; omega) ?_
      k_allIn
      exact h
  | _ =>
    k_allIn
    exact h
/-! shows_changes -/
def itemsO : D → Option (List D)
  | .lst xs => some xs
  | .tup xs => some xs
  | _ => none
def rowO : D → Option Row
  | .tup [.str w, .str t] => some (w, t.cps.toList)
  | _ => none
def chB (A B : List Nat) (d : D) : Bool := match itemsO d with
  | some xs => xs.all runB && (decide (cat (notW ADD) (xs.filterMap rowO) = A) && decide (cat (notW CUT) (xs.filterMap rowO) = B))
  | none => false
structure ThingOk (d : D) : Prop where
  pl : plain d
  it : ∀ xs, itemsO d = some xs → xs.length ≤ 1000 ∧ ∀ x ∈ xs, RowOk x
theorem runB_row {d : D} (h : runB d = true) : ∃ w t : Str, d = .tup [.str w, .str t] := by
  unfold runB at h
  split at h
  · exact ⟨_, _, rfl⟩
  · cases h
def pickO (p : Str → Bool) : D → Option D
  | .tup [.str w, .str t] => if p w = true then some (.str t) else none
  | _ => none
theorem picks (p : Str → Bool) : ∀ {xs : List D}, (∀ x ∈ xs, runB x = true) → asStrs (xs.filterMap (pickO p)) = some (((xs.filterMap rowO).filter fun r => p r.1).map fun r => ofL r.2)
  | [], _ => rfl
  | x :: xs, h => by
    obtain ⟨w, t, rfl⟩ := runB_row (h x (by simp))
    have ih := picks p (xs := xs) fun y hy => h y (List.mem_cons_of_mem _ hy)
    have e1 : pickO p (.tup [.str w, .str t]) = if p w = true then some (.str t) else none := rfl
    have e2 : rowO (.tup [.str w, .str t]) = some (w, t.cps.toList) := rfl
    rw [List.filterMap_cons, e1, List.filterMap_cons, e2]
    simp only [List.filter_cons]
    by_cases q : p w = true
    · rw [if_pos q, if_pos q]
      simp only [asStrs, ih, List.map_cons, ofL_self]
      rfl
    · rw [if_neg q, if_neg q]
      exact ih
theorem join_rows (l : List Row) : Txt.join "" (l.map fun r => ofL r.2) = ofL (l.flatMap (·.2)) := by
  refine str_ext ?_
  rw [join_nil_list, List.map_map, ofL_list]
  rfl
theorem join_cat (p : Str → Bool) (rs : List Row) : Txt.join "" ((rs.filter fun r => p r.1).map fun r => ofL r.2) = ofL (cat p rs) := join_rows _
theorem sum_le {l : List Nat} {k : Nat} (h : ∀ x ∈ l, x ≤ k) : l.sum ≤ l.length * k := by
  induction l with
  | nil => simp
  | cons a l ih =>
    have h1 := h a (by simp)
    have h2 := ih fun x hx => h x (List.mem_cons_of_mem _ hx)
    rw [List.sum_cons, List.length_cons, Nat.add_mul]
    omega
theorem join_room {xs : List D} (p : Str → Bool) (hl : xs.length ≤ 1000) (ok : ∀ x ∈ xs, RowOk x) : (((((xs.filterMap rowO).filter fun r => p r.1).map fun r => ofL r.2).map (·.length)).sum + (((xs.filterMap rowO).filter fun r => p r.1).map fun r => ofL r.2).length * ("" : Str).length) ≤ 16777216 := by
  have l1 : ((((xs.filterMap rowO).filter fun r => p r.1).map fun r => ofL r.2).map (·.length)).length ≤ 1000 := by
    rw [List.length_map, List.length_map]
    exact Nat.le_trans (List.length_filter_le _ _) (Nat.le_trans (List.length_filterMap_le _ _) hl)
  have l2 : ((((xs.filterMap rowO).filter fun r => p r.1).map fun r => ofL r.2).map (·.length)).sum ≤ ((((xs.filterMap rowO).filter fun r => p r.1).map fun r => ofL r.2).map (·.length)).length * 1000 := sum_le fun n hn => by
    obtain ⟨s, hs, rfl⟩ := List.mem_map.mp hn
    obtain ⟨r, hr, rfl⟩ := List.mem_map.mp hs
    obtain ⟨x, hx, hx2⟩ := List.mem_filterMap.mp (List.mem_filter.mp hr).1
    unfold rowO at hx2
    split at hx2
    · next w t =>
      cases hx2
      have := ((ok _ hx).tp _ rfl).2 t (by simp)
      rw [ofL_self]
      exact this
    · cases hx2
  have e : ("" : Str).length = 0 := rfl
  rw [e, Nat.mul_zero]
  omega
def sd_shows_changes : DSpecX := fun args R E => ∃ d1 d2 t : D, args = [.val d1, .val d2, .val t] ∧ TwoOk d1 d2 ∧ ThingOk t ∧ two d1 d2 E [.no, .no, .no] fun A B => R (.vl (.bl (chB A B t))) [.no, .no, .no]
theorem len_shows_changes : ∀ args R E, sd_shows_changes args R E → args.length = 3 := by rintro args R E ⟨d1, d2, t, rfl, _⟩; rfl
def showM (sd_is_run : DSpec) : DStm := (mSeq (mIfS (mOrT (mNotT (mTru (mIsi2 (mVar 2) "list" "tuple"))) (mNotT (mTru (mFn aAll (maCons (mLc (mIt (mVar 2)) (gN 5) (mYes) (mCall sd_is_run [] (mcCons (mVar 5) (mcNil))) [5]) (maNil)))))) (mRet (mC (.bl false))) (mSkip)) (mSeq (mSet 3 (mM1 aJoin (mC (.str "")) (mLc (mIt (mVar 2)) (gT 2 (gsCons (gN 6) (gsCons (gN 7) (gsNil)))) (mB (mOp2 aNe (mVar 6) (mC (.str "add")))) (mVar 7) [6, 7]))) (mSeq (mSet 4 (mM1 aJoin (mC (.str "")) (mLc (mIt (mVar 2)) (gT 2 (gsCons (gN 6) (gsCons (gN 7) (gsNil)))) (mB (mOp2 aNe (mVar 6) (mC (.str "cut")))) (mVar 7) [6, 7]))) (mRet (mAndV (mOp2 aEq (mVar 3) (mVar 0)) (mOp2 aEq (mVar 4) (mVar 1)))))))
theorem eq_ofL (L A : List Nat) : deq (.str (ofL L)) (.str (ofL A)) = decide (L = A) := by
  rw [deq_str]
  by_cases q : L = A
  · rw [decide_eq_true q, q]; simp
  · rw [decide_eq_false q]
    have : ofL L ≠ ofL A := fun e => q (congrArg (fun s : Str => s.cps.toList) e)
    simp [this]
theorem show_walk {R : RV → List Slot → Prop} {E : XP} {A B : List Nat} {t : D} (ok : ThingOk t) (h : R (.vl (.bl (chB A B t))) [.no, .no, .no]) :
    showM sd_is_run { nx := fun e => R (.vl .non) (outs 3 e), rt := fun r e => R r (outs 3 e), ex := fun x fs e => E x fs (outs 3 e) } [.val (.str (ofL A)), .val (.str (ofL B)), .val t, .no, .no, .no, .no, .no] := by
  have pt := ok.pl
  have key : ∀ xs, itemsO t = some xs → (t = .lst xs ∨ t = .tup xs) → showM sd_is_run { nx := fun e => R (.vl .non) (outs 3 e), rt := fun r e => R r (outs 3 e), ex := fun x fs e => E x fs (outs 3 e) } [.val (.str (ofL A)), .val (.str (ofL B)), .val t, .no, .no, .no, .no, .no] := by
    intro xs hx ht
    obtain ⟨xl, xr⟩ := ok.it xs hx
    have cB : chB A B t = (xs.all runB && (decide (cat (notW ADD) (xs.filterMap rowO) = A) && decide (cat (notW CUT) (xs.filterMap rowO) = B))) := by unfold chB; rw [hx]
    have ea : (xs.map runB).all id = xs.all runB := by rw [List.all_map]; rfl
    have pick : ∀ (p : Str → Bool) (w : Str) (hp : p = notW w) {hold : Holds} {e : List Slot} {K : List D → List Slot → Prop}, xs.all runB = true → K (xs.filterMap (pickO p)) e → holdE hold e →
        (∀ (u v : Str) (K : Option D → List Slot → Prop), K (pickO p (.tup [.str u, .str v])) e → cStep (gT 2 (gsCons (gN 6) (gsCons (gN 7) (gsNil)))) (mB (mOp2 aNe (mVar 6) (mC (.str w)))) (mVar 7) [6, 7] e (.tup [.str u, .str v]) K) →
        compI hold (gT 2 (gsCons (gN 6) (gsCons (gN 7) (gsNil)))) (mB (mOp2 aNe (mVar 6) (mC (.str w)))) (mVar 7) [6, 7] xs [] e K := fun p w hp hold e K q hK hh st =>
      compI_list (pickO p) hh (by omega) (fun x hx2 K hK => by
        obtain ⟨u, v, rfl⟩ := runB_row (List.all_eq_true.mp q x hx2)
        exact st u v K hK) hK
    rcases ht with rfl | rfl <;>
    · k_allIn
      refine compI_list (fun x => some (.bl (runB x))) (by exact trivial) (by omega) (fun x hx2 K hK => ?_) ?_
      · k_allIn
        refine ⟨x, rfl, xr x hx2, ?_⟩
        exact hK
      refine ex_i (bls_fm runB xs) ?_
      rw [ea]
      rw [cB] at h
      by_cases q : xs.all runB = true
      · rw [q] at h ⊢
        rw [Bool.true_and] at h
        have qa := List.all_eq_true.mp q
        k_allIn
        refine pick (notW ADD) ADD rfl q ?_ trivial (fun u v K hK => ?_)
        · refine ex_i (picks (notW ADD) qa) ?_
          refine an_i (join_room (notW ADD) xl xr) ?_
          rw [join_cat]
          k_allIn
          refine pick (notW CUT) CUT rfl q ?_ trivial (fun u v K hK => ?_)
          · refine ex_i (picks (notW CUT) qa) ?_
            refine an_i (join_room (notW CUT) xl xr) ?_
            rw [join_cat]
            k_allIn
            refine ite_i (fun c => ?_) (fun c => ?_)
            · have c : deq (.str (ofL (cat (notW ADD) (xs.filterMap rowO)))) (.str (ofL A)) = true := c
              rw [eq_ofL] at c
              rw [c, Bool.true_and, ← eq_ofL] at h
              k_allIn
              exact h
            · have c : ¬ deq (.str (ofL (cat (notW ADD) (xs.filterMap rowO)))) (.str (ofL A)) = true := c
              rw [eq_ofL] at c
              rw [Bool.eq_false_iff.mpr c, Bool.false_and] at h
              exact h
          · k_allIn
            refine ite_i (fun c => ?_) (fun c => ?_)
            · have c : (!deq (.str u) (.str CUT)) = true := c
              rw [deq_ne] at c
              have e : pickO (notW CUT) (.tup [.str u, .str v]) = some (.str v) := if_pos c
              rw [e] at hK
              k_allIn
              exact hK
            · have c : ¬ (!deq (.str u) (.str CUT)) = true := c
              rw [deq_ne] at c
              have e : pickO (notW CUT) (.tup [.str u, .str v]) = none := if_neg c
              rw [e] at hK
              exact hK
        · k_allIn
          refine ite_i (fun c => ?_) (fun c => ?_)
          · have c : (!deq (.str u) (.str ADD)) = true := c
            rw [deq_ne] at c
            have e : pickO (notW ADD) (.tup [.str u, .str v]) = some (.str v) := if_pos c
            rw [e] at hK
            k_allIn
            exact hK
          · have c : ¬ (!deq (.str u) (.str ADD)) = true := c
            rw [deq_ne] at c
            have e : pickO (notW ADD) (.tup [.str u, .str v]) = none := if_neg c
            rw [e] at hK
            exact hK
      · rw [Bool.eq_false_iff.mpr q] at h ⊢
        rw [Bool.false_and] at h
        k_allIn
        exact h
  cases t with
  | fn a => exact pt.elim
  | obj a b => exact pt.elim
  | exc a b c => exact pt.elim
  | scr a => exact pt.elim
  | lst xs => exact key xs rfl (Or.inl rfl)
  | tup xs => exact key xs rfl (Or.inr rfl)
  | _ =>
    k_allIn
    exact h
theorem sp_shows_changes : ∀ args R E, sd_shows_changes args R E → m_shows_changes sd_need_long sd_is_run { nx := fun e => R (.vl .non) (outs 3 e), rt := fun r e => R r (outs 3 e), ex := fun x fs e => E x fs (outs 3 e) } (startE 8 args) := by
  rintro args R E ⟨d1, d2, t, rfl, ok, tk, h⟩
  unfold two at h
  k_allIn
  refine ⟨d1, rfl, ok.p1, ok.l1, ?_⟩
  by_cases q1 : longB d1 = true
  · rw [if_pos q1] at h ⊢
    k_allIn
    refine ⟨d2, rfl, ok.p2, ok.l2, ?_⟩
    by_cases q2 : longB d2 = true
    · rw [if_pos q2] at h ⊢
      obtain ⟨A, B, rfl, rfl, fin⟩ := h
      exact show_walk tk fin
    · rw [if_neg q2] at h ⊢
      exact h
  · rw [if_neg q1] at h ⊢
    exact h
end
end Law

set_option Elab.async false
set_option linter.all false
set_option maxRecDepth 100000
set_option maxHeartbeats 4000000
set_option autoImplicit false
namespace Law
open PySem L2 DL
section
local macro_rules | `(tactic| k_upd) => `(tactic| (first | exact trivial | exact rfl | ((try dsimp only); first | assumption | exact fits62 (by omega) (by omega) | exact cmul_s (by omega) (by omega) | exact cpow_s (by omega) (by omega) (by omega) | exact And.intro (by omega) (clog_s (by omega)) | exact Nat.le_of_ble_eq_true rfl | decide | omega)))
local macro_rules | `(tactic| k_memK) => `(tactic| first | (refine an_i ?_ ?_; focus k_upd) | refine ex_i rfl ?_ | refine ite_t rfl ?_ | refine ite_f Bool.false_ne_true ?_)
local macro_rules | `(tactic| k_allIn) => `(tactic| repeat k_memK)

local macro_rules | `(tactic| row_arm1w $t) => `(tactic| first | refine $t | (k_memK; row_arm1w $t))
set_option pp.deepTerms false
set_option pp.maxSteps 1500

/-! _law_common -/
def pre (L : List Nat) (k : Nat) : List Nat := (L.take k).reverse
theorem pre_succ {L : List Nat} {k c : Nat} (h : L[k]? = some c) : pre L (k + 1) = c :: pre L k := by
  unfold pre
  rw [List.take_succ, h, Option.toList_some, List.reverse_append]; rfl
def preRow (A B : List Nat) (i : Nat) : D := .lst ((List.range (B.length + 1)).map fun j => natD (lcs (pre A i) (pre B j)))
def sd_l_common : DSpec := fun args R => ∃ A B : List Nat, args = [.val (.str (ofL A)), .val (.str (ofL B))] ∧ A.length ≤ 300 ∧ B.length ≤ 300 ∧ R (.vl (natD (lcs A.reverse B.reverse))) [.no, .no]
theorem len_l_common : ∀ args R, sd_l_common args R → args.length = 2 := by rintro args R ⟨A, B, rfl, _⟩; rfl
def comBody : DStm := (mSeq (mSetO 4 (mLst (mCons (mC (.int 0)) (mNil)))) (mSeq (mFor (mEnumB (mVar 1)) (gT 2 (gsCons (gN 5) (gsCons (gN 6) (gsNil)))) (mApp 4 (mIf (mB (mOp2 aEq (mVar 3) (mVar 6))) (mOp2 aAdd (mOp2 aIx (mVar 2) (mVar 5)) (mC (.int 1))) (mFn aMax (maCons (mOp2 aIx (mVar 4) (mVar 5)) (maCons (mOp2 aIx (mVar 2) (mOp2 aAdd (mVar 5) (mC (.int 1)))) (maNil))))))) (mFrz 4 (mSet 2 (mVar 4)))))
theorem com_walk {A B : List Nat} {P : Post} {k c : Nat} {s4 s5 s6 : Slot} (p4 : Pl s4) (p5 : Pl s5) (p6 : Pl s6) (hA : A.length ≤ 300) (hB : B.length ≤ 300) (hc : A[k]? = some c)
    (fin : ∀ s4 s5 s6, Pl s4 → Pl s5 → Pl s6 → P.nx [.val (.str (ofL A)), .val (.str (ofL B)), .val (preRow A B (k + 1)), .val (.str (sg c)), s4, s5, s6]) :
    comBody P [.val (.str (ofL A)), .val (.str (ofL B)), .val (preRow A B k), .val (.str (sg c)), s4, s5, s6] := by
  have hp := pre_succ hc
  have it : signsD (ofL B) = B.map fun c => .str (sg c) := rfl
  have walk : ∀ s5 s6, Pl s5 → Pl s6 → forI [] (gT 2 (gsCons (gN 5) (gsCons (gN 6) (gsNil)))) (mApp 4 (mIf (mB (mOp2 aEq (mVar 3) (mVar 6))) (mOp2 aAdd (mOp2 aIx (mVar 2) (mVar 5)) (mC (.int 1))) (mFn aMax (maCons (mOp2 aIx (mVar 4) (mVar 5)) (maCons (mOp2 aIx (mVar 2) (mOp2 aAdd (mVar 5) (mC (.int 1)))) (maNil))))))
      { P with nx := mFrz 4 (mSet 2 (mVar 4)) P } (enumD 0 (signsD (ofL B)))
      [.val (.str (ofL A)), .val (.str (ofL B)), .val (preRow A B k), .val (.str (sg c)), .own false (.lst [.int 0]), s5, s6] := by
    intro s5 s6 p5 p6
    have start : [D.int 0] = (List.range (0 + 1)).map fun j => natD (lcs (pre A (k + 1)) (pre B j)) := by
      have : pre B 0 = [] := rfl
      rw [List.range_succ, List.range_zero]
      show _ = [natD (lcs (pre A (k + 1)) (pre B 0))]
      rw [this, lcs_nil2]; rfl
    refine forI_inv (fun q env => q ≤ B.length ∧ ∃ s5 s6, Pl s5 ∧ Pl s6 ∧ env = [.val (.str (ofL A)), .val (.str (ofL B)), .val (preRow A B k), .val (.str (sg c)), .own false (.lst ((List.range (q + 1)).map fun j => natD (lcs (pre A (k + 1)) (pre B j)))), s5, s6]) ⟨by omega, s5, s6, p5, p6, by rw [← start]⟩ (fun _ _ _ => trivial) ?_ ?_
    · rintro q x env hx ⟨hq, s5, s6, p5, p6, rfl⟩ N hN
      rw [enumD_get] at hx
      obtain ⟨y, hy, rfl⟩ := Option.map_eq_some_iff.mp hx
      rw [it, List.getElem?_map] at hy
      obtain ⟨b, hb, rfl⟩ := Option.map_eq_some_iff.mp hy
      have hq2 := (List.getElem?_eq_some_iff.mp hb).1
      have hbp := pre_succ hb
      rw [Nat.zero_add]
      have g1 : atI ((List.range (B.length + 1)).map fun j => natD (lcs (pre A k) (pre B j))) (q : Int) = some (natD (lcs (pre A k) (pre B q))) := range_at (fun j => natD (lcs (pre A k) (pre B j))) (by omega)
      have g2 : atI ((List.range (B.length + 1)).map fun j => natD (lcs (pre A k) (pre B j))) ((q : Int) + 1) = some (natD (lcs (pre A k) (pre B (q + 1)))) := by
        have := range_at (n := B.length + 1) (k := q + 1) (fun j => natD (lcs (pre A k) (pre B j))) (by omega)
        rw [← this]; rfl
      have g3 : atI ((List.range (q + 1)).map fun j => natD (lcs (pre A (k + 1)) (pre B j))) (q : Int) = some (natD (lcs (pre A (k + 1)) (pre B q))) := range_at (fun j => natD (lcs (pre A (k + 1)) (pre B j))) (by omega)
      have ll : ((List.range (q + 1)).map fun j => natD (lcs (pre A (k + 1)) (pre B j))).length = q + 1 := by simp
      have step : ∀ v : Nat, v = lcs (pre A (k + 1)) (pre B (q + 1)) → N [.val (.str (ofL A)), .val (.str (ofL B)), .val (preRow A B k), .val (.str (sg c)), .own false (.lst (((List.range (q + 1)).map fun j => natD (lcs (pre A (k + 1)) (pre B j))) ++ [natD v])), .val (.int (q : Int)), .val (.str (sg b))] := by
        intro v hv
        refine hN _ ⟨by omega, .val (.int (q : Int)), .val (.str (sg b)), trivial, trivial, ?_⟩
        rw [range_snoc (q + 1), hv]
      k_allIn
      refine ite_i (fun cc => ?_) (fun cc => ?_)
      · have cc : deq (.str (sg c)) (.str (sg b)) = true := cc
        have ec : c = b := by
          rw [deq_str] at cc
          have : sg c = sg b := by simpa using cc
          have := congrArg (fun s : Str => s.cps.toList) this
          simpa using this
        k_allIn
        refine ex_i g1 ?_
        k_allIn
        have := step (lcs (pre A k) (pre B q) + 1) (by rw [hp, hbp, lcs_cons, if_pos ec])
        exact this
      · have cc : ¬ deq (.str (sg c)) (.str (sg b)) = true := cc
        have ec : ¬ c = b := by
          intro z
          apply cc
          rw [z, deq_str]; simp
        k_allIn
        refine ex_i g3 ?_
        k_allIn
        refine ex_i g2 ?_
        k_allIn
        have := step (max (lcs (pre A (k + 1)) (pre B q)) (lcs (pre A k) (pre B (q + 1)))) (by
          rw [hp, hbp, lcs_cons, if_neg ec])
        have em : ((max (lcs (pre A (k + 1)) (pre B q)) (lcs (pre A k) (pre B (q + 1))) : Nat) : Int) = if ((lcs (pre A k) (pre B (q + 1)) : Nat) : Int) > ((lcs (pre A (k + 1)) (pre B q) : Nat) : Int) then ((lcs (pre A k) (pre B (q + 1)) : Nat) : Int) else ((lcs (pre A (k + 1)) (pre B q) : Nat) : Int) := by split <;> omega
        unfold natD at this
        rw [em] at this
        exact this
    · rintro env ⟨hq, s5, s6, p5, p6, rfl⟩
      have il : (enumD 0 (signsD (ofL B))).length = B.length := by rw [enumD_length, it]; simp
      rw [il]
      k_allIn
      exact fin _ s5 s6 trivial p5 p6
  k_allIn
  exact walk s5 s6 p5 p6
theorem sp_l_common : ∀ args R, sd_l_common args R → m_l_common { nx := fun e => R (.vl .non) (outs 2 e), rt := fun r e => R r (outs 2 e) } (startE 7 args) := by
  rintro args R ⟨A, B, rfl, hA, hB, fin⟩
  have bl : (ofL B).length = B.length := ofL_len B
  have e0 : (List.flatten (List.replicate (((ofL B).length : Int) + 1).toNat [D.int 0])) = (List.range (B.length + 1)).map fun j => natD (lcs (pre A 0) (pre B j)) := by
    rw [show (((ofL B).length : Int) + 1).toNat = B.length + 1 by rw [bl]; omega, rep_zero]
    apply List.map_congr_left
    intro j _
    rw [show pre A 0 = [] from rfl, lcs_nil]
    rfl
  have it : signsD (ofL A) = A.map fun c => .str (sg c) := rfl
  have walk : forI [] (gN 3) comBody { nx := mRet (mOp2 aIx (mVar 2) (mNeg (mC (.int 1)))) { nx := fun e => R (.vl .non) (outs 2 e), rt := fun r e => R r (outs 2 e) }, rt := fun r e => R r (outs 2 e) } (signsD (ofL A))
      [.val (.str (ofL A)), .val (.str (ofL B)), .val (preRow A B 0), .no, .no, .no, .no] := by
    refine forI_inv (fun k env => k ≤ A.length ∧ ∃ s3 s4 s5 s6, Pl s3 ∧ Pl s4 ∧ Pl s5 ∧ Pl s6 ∧ env = [.val (.str (ofL A)), .val (.str (ofL B)), .val (preRow A B k), s3, s4, s5, s6])
      ⟨by omega, .no, .no, .no, .no, trivial, trivial, trivial, trivial, rfl⟩ (fun _ _ _ => trivial) ?_ ?_
    · rintro k x env hx ⟨hk, s3, s4, s5, s6, p3, p4, p5, p6, rfl⟩ N hN
      rw [it, List.getElem?_map] at hx
      obtain ⟨c, hc, rfl⟩ := Option.map_eq_some_iff.mp hx
      have hk2 := (List.getElem?_eq_some_iff.mp hc).1
      k_memK
      refine com_walk p4 p5 p6 hA hB hc fun s4 s5 s6 p4 p5 p6 => ?_
      exact hN _ ⟨by omega, .val (.str (sg c)), s4, s5, s6, trivial, p4, p5, p6, rfl⟩
    · rintro env ⟨_, s3, s4, s5, s6, p3, p4, p5, p6, rfl⟩
      have il : (signsD (ofL A)).length = A.length := by rw [it]; simp
      rw [il]
      have g := last_at B.length fun j => natD (lcs (pre A A.length) (pre B j))
      have e1 : pre A A.length = A.reverse := by unfold pre; rw [List.take_length]
      have e2 : pre B B.length = B.reverse := by unfold pre; rw [List.take_length]
      rw [← e1, ← e2] at fin
      k_allIn
      refine ex_i g ?_
      exact fin
  unfold preRow at walk
  rw [← e0] at walk
  k_allIn
  refine an_i (line_ok B (by omega)) ?_
  refine an_i (show (0 : Int) ≤ ((ofL B).length : Int) + 1 by omega) ?_
  refine an_i (show ((ofL B).length : Int) + 1 ≤ 100000 by omega) ?_
  refine an_i (show 1 * (((ofL B).length : Int) + 1).toNat ≤ 100000 by omega) ?_
  k_allIn
  exact walk
end
end Law

set_option Elab.async false
set_option linter.all false
set_option maxRecDepth 100000
set_option maxHeartbeats 4000000
set_option autoImplicit false
namespace Law
open PySem L2 DL
section
local macro_rules | `(tactic| k_upd) => `(tactic| (first | exact trivial | exact rfl | ((try dsimp only); first | assumption | exact fits62 (by omega) (by omega) | exact cmul_s (by omega) (by omega) | exact cpow_s (by omega) (by omega) (by omega) | exact And.intro (by omega) (clog_s (by omega)) | exact Nat.le_of_ble_eq_true rfl | decide | omega)))
local macro_rules | `(tactic| k_memK) => `(tactic| first | (refine an_i ?_ ?_; focus k_upd) | refine ex_i rfl ?_ | refine ite_t rfl ?_ | refine ite_f Bool.false_ne_true ?_)
local macro_rules | `(tactic| k_allIn) => `(tactic| repeat k_memK)

local macro_rules | `(tactic| row_arm1w $t) => `(tactic| first | refine $t | (k_memK; row_arm1w $t))
set_option pp.deepTerms false
set_option pp.maxSteps 1500

/-! _law_is_change -/
def slotB (b : Bool) (d : D) : Slot := if b then .own true d else .val d
def sd_l_is_change : DSpec := fun args R => ∃ (b : Bool) (A B : List Nat) (t : D), args = [.val (.str (ofL A)), .val (.str (ofL B)), slotB b t] ∧ ThingOk t ∧ (b = true → ∃ xs, t = .lst xs) ∧ R (.vl (.bl (chB A B t))) [.no, .no, if b then .own true t else .no]
theorem len_l_is_change : ∀ args R, sd_l_is_change args R → args.length = 3 := by rintro args R ⟨b, A, B, t, rfl, _⟩; rfl
def icBody : DStm := (mSeq (mIfS (mOrT (mNotT (mTru (mIsi (mVar 5) "tuple"))) (mOrT (mB (mOp2 aNe (mFn aLen (maCons (mVar 5) (maNil))) (mC (.int 2)))) (mOrT (mNotT (mTru (mIsi (mOp2 aIx (mVar 5) (mC (.int 0))) "str"))) (mNotT (mTru (mIsi (mOp2 aIx (mVar 5) (mC (.int 1))) "str")))))) (mRet (mC (.bl false))) (mSkip)) (mSeq (mIfS (mOrT (mB (mOp2 aNotIn (mOp2 aIx (mVar 5) (mC (.int 0))) (mTup (mCons (mC (.str "keep")) (mCons (mC (.str "cut")) (mCons (mC (.str "add")) (mNil))))))) (mB (mOp2 aEq (mOp2 aIx (mVar 5) (mC (.int 1))) (mC (.str ""))))) (mRet (mC (.bl false))) (mSkip)) (mSeq (mSet 3 (mOp2 aAdd (mVar 3) (mIf (mB (mOp2 aNe (mOp2 aIx (mVar 5) (mC (.int 0))) (mC (.str "add")))) (mOp2 aIx (mVar 5) (mC (.int 1))) (mC (.str ""))))) (mSet 4 (mOp2 aAdd (mVar 4) (mIf (mB (mOp2 aNe (mOp2 aIx (mVar 5) (mC (.int 0))) (mC (.str "cut")))) (mOp2 aIx (mVar 5) (mC (.int 1))) (mC (.str ""))))))))
abbrev catO (p : Str → Bool) (xs : List D) : List Nat := cat p (xs.filterMap rowO)
theorem ic_walk {P : Post} {A B b1 b2 : List Nat} {s2 : Slot} {x : D} (ok : RowOk x) (l1 : b1.length ≤ 1000000) (l2 : b2.length ≤ 1000000)
    (bad : runB x = false → P.rt (.vl (.bl false)) [.val (.str (ofL A)), .val (.str (ofL B)), s2, .val (.str (ofL b1)), .val (.str (ofL b2)), .val x])
    (good : runB x = true → P.nx [.val (.str (ofL A)), .val (.str (ofL B)), s2, .val (.str (ofL (b1 ++ catO (notW ADD) [x]))), .val (.str (ofL (b2 ++ catO (notW CUT) [x]))), .val x]) :
    icBody P [.val (.str (ofL A)), .val (.str (ofL B)), s2, .val (.str (ofL b1)), .val (.str (ofL b2)), .val x] := by
  have pd := ok.pl
  cases x with
  | fn a => exact pd.elim
  | obj a b => exact pd.elim
  | exc a b c => exact pd.elim
  | scr a => exact pd.elim
  | tup xs =>
    obtain ⟨px, sx⟩ := ok.tp xs rfl
    by_cases hl : xs.length = 2
    · obtain ⟨a, b, rfl⟩ : ∃ a b, xs = [a, b] := by
        match xs, hl with
        | [a, b], _ => exact ⟨a, b, rfl⟩
      have pa := px a (by simp)
      have pb := px b (by simp)
      k_allIn
      cases a with
      | fn a => exact pa.elim
      | obj a b => exact pa.elim
      | exc a b c => exact pa.elim
      | scr a => exact pa.elim
      | str w =>
        k_allIn
        cases b with
        | fn a => exact pb.elim
        | obj a b => exact pb.elim
        | exc a b c => exact pb.elim
        | scr a => exact pb.elim
        | str t =>
          have tl := sx t (by simp)
          k_allIn
          refine ite_i (fun c => ?_) (fun c => ?_)
          · have c : (true ^^ wordB w) = true := c
            have c : wordB w = false := by simpa using c
            k_allIn
            exact bad (by rw [runB_str, c]; rfl)
          · have c : ¬ (true ^^ wordB w) = true := c
            have c : wordB w = true := by simpa using c
            k_allIn
            refine ite_i (fun c2 => ?_) (fun c2 => ?_)
            · have c2 : deq (.str t) (.str "") = true := c2
              k_allIn
              exact bad (by rw [runB_str, c, c2]; rfl)
            · have c2 : ¬ deq (.str t) (.str "") = true := c2
              have g := good (by rw [runB_str, c, Bool.eq_false_iff.mpr c2]; rfl)
              have et : ∀ (p : Str → Bool), catO p [.tup [.str w, .str t]] = if p w = true then t.cps.toList else [] := fun p => by
                show cat p [(w, t.cps.toList)] = _
                unfold cat
                rw [List.filter_cons]
                split <;> simp
              have ad : ∀ (b : List Nat) (s : Str), ofL b ++ s = ofL (b ++ s.cps.toList) := fun b s => str_ext (by rw [app_list, ofL_list, ofL_list])
              have fit : ∀ b : List Nat, b.length ≤ 1000000 → (ofL b).length + t.length ≤ sizeLine := fun b h => by rw [ofL_len]; exact Nat.le_trans (show b.length + t.length ≤ 1001000 by omega) (Nat.le_of_ble_eq_true rfl)
              have fit0 : ∀ b : List Nat, b.length ≤ 1000000 → (ofL b).length + ("" : Str).length ≤ sizeLine := fun b h => by rw [ofL_len]; exact Nat.le_trans (show b.length + 0 ≤ 1001000 by omega) (Nat.le_of_ble_eq_true rfl)
              rw [et, et] at g
              have e1 : (!deq (.str w) (.str ADD)) = notW ADD w := deq_ne _ _
              have e2 : (!deq (.str w) (.str CUT)) = notW CUT w := deq_ne _ _
              k_allIn
              refine ite_i (fun c3 => ?_) (fun c3 => ?_)
              · have c3 : (!deq (.str w) (.str ADD)) = true := c3
                rw [e1] at c3
                rw [if_pos c3] at g
                k_allIn
                refine an_i (fit b1 l1) ?_
                k_allIn
                refine ite_i (fun c4 => ?_) (fun c4 => ?_)
                · have c4 : (!deq (.str w) (.str CUT)) = true := c4
                  rw [e2] at c4
                  rw [if_pos c4, ← ad, ← ad] at g
                  k_allIn
                  refine an_i (fit b2 l2) ?_
                  k_allIn
                  exact g
                · have c4 : ¬ (!deq (.str w) (.str CUT)) = true := c4
                  rw [e2] at c4
                  rw [if_neg c4, ← ad, show ([] : List Nat) = ("" : Str).cps.toList from rfl, ← ad] at g
                  k_allIn
                  refine an_i (fit0 b2 l2) ?_
                  k_allIn
                  exact g
              · have c3 : ¬ (!deq (.str w) (.str ADD)) = true := c3
                rw [e1] at c3
                have c4 : notW CUT w = true := by
                  have : w = ADD := by unfold notW at c3; simpa using c3
                  rw [this]; decide
                rw [if_neg c3, if_pos c4, ← ad b2, show ([] : List Nat) = ("" : Str).cps.toList from rfl, ← ad] at g
                k_allIn
                refine an_i (fit0 b1 l1) ?_
                k_allIn
                refine ite_t (show (!deq (.str w) (.str CUT)) = true by rw [e2]; exact c4) ?_
                k_allIn
                refine an_i (fit b2 l2) ?_
                k_allIn
                exact g
        | _ =>
          k_allIn
          exact bad rfl
      | _ =>
        k_allIn
        exact bad rfl
    · k_allIn
      refine ite_t (by rw [deq_int]; simp; omega) ?_
      k_allIn
      exact bad (runB_two hl)
  | _ =>
    k_allIn
    exact bad rfl
theorem cat_len {xs : List D} (p : Str → Bool) (ok : ∀ x ∈ xs, RowOk x) : (catO p xs).length ≤ xs.length * 1000 := by
  induction xs with
  | nil => exact Nat.zero_le _
  | cons x xs ih =>
    have i := ih fun y hy => ok y (List.mem_cons_of_mem _ hy)
    have e : catO p (x :: xs) = (match rowO x with | some r => cat p [r] | none => []) ++ catO p xs := by
      unfold catO
      rw [List.filterMap_cons]
      cases rowO x with
      | none => rfl
      | some r =>
        unfold cat
        simp only [List.filter_cons, List.filter_nil]
        split <;> simp
    have one : (match rowO x with | some r => cat p [r] | none => []).length ≤ 1000 := by
      split
      · next r hr =>
        unfold rowO at hr
        split at hr
        · next w t =>
          cases hr
          have := ((ok (.tup [.str w, .str t]) (by simp)).tp _ rfl).2 t (by simp)
          unfold cat
          rw [List.filter_cons]
          rw [len_list] at this
          split
          · simpa using this
          · simp
        · cases hr
      · simp
    rw [e, List.length_append, List.length_cons, Nat.add_mul]
    omega
theorem catO_snoc (p : Str → Bool) (xs : List D) (x : D) : catO p (xs ++ [x]) = catO p xs ++ catO p [x] := by
  unfold catO cat
  rw [List.filterMap_append, List.filter_append, List.flatMap_append]
theorem ic_loop {P : Post} {A B : List Nat} {s2 : Slot} {hold : Holds} {xs : List D} (xl : xs.length ≤ 1000) (ok : ∀ x ∈ xs, RowOk x) (hp : ∀ e3 e4 e5 : Slot, pinE hold [.val (.str (ofL A)), .val (.str (ofL B)), s2, e3, e4, e5])
    (bad : xs.all runB = false → ∀ s3 s4 s5 : Slot, P.rt (.vl (.bl false)) [.val (.str (ofL A)), .val (.str (ofL B)), s2, s3, s4, s5])
    (good : xs.all runB = true → ∀ s5, P.nx [.val (.str (ofL A)), .val (.str (ofL B)), s2, .val (.str (ofL (catO (notW ADD) xs))), .val (.str (ofL (catO (notW CUT) xs))), s5]) :
    forI hold (gN 5) icBody P xs [.val (.str (ofL A)), .val (.str (ofL B)), s2, .val (.str (ofL [])), .val (.str (ofL [])), .no] := by
  refine forI_inv (fun j env => (xs.take j).all runB = true ∧ ∃ s5, Pl s5 ∧ env = [.val (.str (ofL A)), .val (.str (ofL B)), s2, .val (.str (ofL (catO (notW ADD) (xs.take j)))), .val (.str (ofL (catO (notW CUT) (xs.take j)))), s5]) ⟨rfl, .no, trivial, rfl⟩ ?_ ?_ ?_
  · rintro j env ⟨_, s5, _, rfl⟩
    exact hp _ _ _
  · rintro j x env hx ⟨hall, s5, p5, rfl⟩ N hN
    have hm := List.mem_of_getElem? hx
    have tk : xs.take (j + 1) = xs.take j ++ [x] := by rw [List.take_succ, hx]; rfl
    have lt : (xs.take j).length ≤ 1000 := by rw [List.length_take]; omega
    have c1 := cat_len (notW ADD) (xs := xs.take j) fun y hy => ok y (List.mem_of_mem_take hy)
    have c2 := cat_len (notW CUT) (xs := xs.take j) fun y hy => ok y (List.mem_of_mem_take hy)
    have m1 := Nat.mul_le_mul_right 1000 lt
    k_memK
    refine ic_walk (ok x hm) (by omega) (by omega) (fun hb => ?_) (fun hg => ?_)
    · refine bad ?_ _ _ _
      rw [Bool.eq_false_iff]
      intro q
      have := List.all_eq_true.mp q x hm
      rw [hb] at this; cases this
    · refine hN _ ⟨by rw [tk, List.all_append, hall]; simp [hg], .val x, trivial, ?_⟩
      rw [tk, catO_snoc, catO_snoc]
  · rintro env ⟨hall, s5, p5, rfl⟩
    rw [List.take_length] at hall ⊢
    exact good hall s5
theorem sp_l_is_change : ∀ args R, sd_l_is_change args R → m_l_is_change { nx := fun e => R (.vl .non) (outs 3 e), rt := fun r e => R r (outs 3 e) } (startE 6 args) := by
  rintro args R ⟨b, A, B, t, rfl, tk, hb, h⟩
  have pt := tk.pl
  have key : ∀ (xs : List D) (s2 : Slot) (hold : Holds), itemsO t = some xs → outS s2 = (if b then .own true t else .no) → (∀ e3 e4 e5 : Slot, pinE hold [.val (.str (ofL A)), .val (.str (ofL B)), s2, e3, e4, e5]) →
      forI hold (gN 5) icBody { nx := mRet (mAndV (mOp2 aEq (mVar 3) (mVar 0)) (mOp2 aEq (mVar 4) (mVar 1))) { nx := fun e => R (.vl .non) (outs 3 e), rt := fun r e => R r (outs 3 e) }, rt := fun r e => R r (outs 3 e) } xs
        [.val (.str (ofL A)), .val (.str (ofL B)), s2, .val (.str (ofL [])), .val (.str (ofL [])), .no] := by
    intro xs s2 hold hx ho hp
    obtain ⟨xl, xr⟩ := tk.it xs hx
    have cB : chB A B t = (xs.all runB && (decide (cat (notW ADD) (xs.filterMap rowO) = A) && decide (cat (notW CUT) (xs.filterMap rowO) = B))) := by unfold chB; rw [hx]
    rw [cB, ← ho] at h
    refine ic_loop xl xr hp (fun q s3 s4 s5 => ?_) (fun q s5 => ?_)
    · rw [q, Bool.false_and] at h
      exact h
    · rw [q, Bool.true_and] at h
      k_allIn
      refine ite_i (fun c => ?_) (fun c => ?_)
      · have c : deq (.str (ofL (cat (notW ADD) (xs.filterMap rowO)))) (.str (ofL A)) = true := c
        rw [eq_ofL] at c
        rw [c, Bool.true_and, ← eq_ofL] at h
        k_allIn
        exact h
      · have c : ¬ deq (.str (ofL (cat (notW ADD) (xs.filterMap rowO)))) (.str (ofL A)) = true := c
        rw [eq_ofL] at c
        rw [Bool.eq_false_iff.mpr c, Bool.false_and] at h
        exact h
  cases b with
  | true =>
    obtain ⟨xs, rfl⟩ := hb rfl
    have := key xs (.own true (.lst xs)) [(2, xs)] rfl rfl (fun _ _ _ => ⟨rfl, trivial⟩)
    k_allIn
    exact this
  | false =>
    cases t with
    | fn a => exact pt.elim
    | obj a b => exact pt.elim
    | exc a b c => exact pt.elim
    | scr a => exact pt.elim
    | lst xs =>
      have := key xs (.val (.lst xs)) [] rfl rfl (fun _ _ _ => trivial)
      k_allIn
      exact this
    | tup xs =>
      have := key xs (.val (.tup xs)) [] rfl rfl (fun _ _ _ => trivial)
      k_allIn
      exact this
    | _ =>
      k_allIn
      exact h
end
end Law

set_option Elab.async false
set_option linter.all false
set_option maxRecDepth 100000
set_option maxHeartbeats 4000000
set_option autoImplicit false
namespace Law
open PySem L2 DL
section
local macro_rules | `(tactic| k_upd) => `(tactic| (first | exact trivial | exact rfl | ((try dsimp only); first | assumption | exact fits62 (by omega) (by omega) | exact cmul_s (by omega) (by omega) | exact cpow_s (by omega) (by omega) (by omega) | exact And.intro (by omega) (clog_s (by omega)) | exact Nat.le_of_ble_eq_true rfl | decide | omega)))
local macro_rules | `(tactic| k_memK) => `(tactic| first | (refine an_i ?_ ?_; focus k_upd) | refine ex_i rfl ?_ | refine ite_t rfl ?_ | refine ite_f Bool.false_ne_true ?_)
local macro_rules | `(tactic| k_allIn) => `(tactic| repeat k_memK)

local macro_rules | `(tactic| row_arm1w $t) => `(tactic| first | refine $t | (k_memK; row_arm1w $t))
set_option pp.deepTerms false
set_option pp.maxSteps 1500

/-! _law_things -/
theorem row_two {w t : Str} (hw : w.length ≤ 1000) (ht : t.length ≤ 1000) : RowOk (.tup [.str w, .str t]) := ⟨trivial, fun xs e => by
  cases e
  refine ⟨fun x hx => ?_, fun s hs => ?_⟩
  · simp only [List.mem_cons, List.not_mem_nil, or_false] at hx
    rcases hx with rfl | rfl <;> trivial
  · simp only [List.mem_cons, List.not_mem_nil, or_false, D.str.injEq] at hs
    rcases hs with rfl | rfl
    · exact hw
    · exact ht⟩
theorem thing_l {xs : List D} (l : xs.length ≤ 1000) (h : ∀ x ∈ xs, RowOk x) : ThingOk (.lst xs) := ⟨trivial, fun ys e => by cases e; exact ⟨l, h⟩⟩
theorem thing_t {xs : List D} (l : xs.length ≤ 1000) (h : ∀ x ∈ xs, RowOk x) : ThingOk (.tup xs) := ⟨trivial, fun ys e => by cases e; exact ⟨l, h⟩⟩
structure ToldRows (rs : List Row) : Prop where
  le : rs.length ≤ 300
  ok : ∀ r ∈ rs, runOk r
  tl : ∀ r ∈ rs, r.2.length ≤ 400
theorem word_len {w : Str} (h : w = KEEP ∨ w = CUT ∨ w = ADD) : w.length ≤ 1000 := by
  rcases h with rfl | rfl | rfl <;> decide
theorem ToldRows.row {rs : List Row} (h : ToldRows rs) : ∀ x ∈ rs.map rD, RowOk x := by
  intro x hx
  obtain ⟨r, hr, rfl⟩ := List.mem_map.mp hx
  exact row_two (word_len (h.ok r hr).1) (by rw [ofL_len]; have := h.tl r hr; omega)
theorem cut_mem {xs : List D} {lo hi : Option Int} {x : D} (h : x ∈ cutD xs lo hi) : x ∈ xs := by
  unfold cutD at h
  exact List.mem_of_mem_drop (List.mem_of_mem_take h)
theorem cut_len (xs : List D) (lo hi : Option Int) : (cutD xs lo hi).length ≤ xs.length := by
  unfold cutD
  rw [List.length_take, List.length_drop]
  omega
theorem row_non : RowOk .non := ⟨trivial, fun xs e => nomatch e⟩
theorem comp_rows {hold : Holds} {G : DTg} {tt : DMB} {me : DM} {vs : List Nat} {e : List Slot} {R : List D → List Slot → Prop} {rs : List Row} (g : Str → Str → D) (hh : holdE hold e) (hn : rs.length ≤ 1000)
    (st : ∀ r ∈ rs, ∀ K : Option D → List Slot → Prop, K (some (g r.1 (ofL r.2))) e → cStep G tt me vs e (rD r) K) (fin : R (rs.map fun r => g r.1 (ofL r.2)) e) : compI hold G tt me vs (rs.map rD) [] e R := by
  refine compI_list (fun x => match x with
    | .tup [.str w, .str t] => some (g w t)
    | _ => none) hh (by rw [List.length_map]; omega) (fun x hx K hK => ?_) ?_
  · obtain ⟨r, hr, rfl⟩ := List.mem_map.mp hx
    exact st r hr K hK
  · rw [List.filterMap_map, ← List.filterMap_eq_map] at *
    exact fin
def Things (n : Nat) (L : List D) : Prop := L.length ≤ n ∧ ∀ t ∈ L, ThingOk t
def T6 : DStm := mSeq (mSet 6 (mLst (mCons (mVar 4) (mCons (mFn aTuple (maCons (mVar 4) (maNil))) (mCons (mRevA (mVar 4)) (mCons (mVar 3) (mCons (mFn aTuple (maCons (mVar 3) (maNil))) (mCons (mOp2 aAdd (mSl (mVar 3) (moNo) (moSo (mVar 5))) (mSl (mVar 3) (moSo (mOp2 aAdd (mVar 5) (mC (.int 1)))) (moNo))) (mCons (mOp2 aAdd (mOp2 aAdd (mSl (mVar 3) (moNo) (moSo (mVar 5))) (mSl (mVar 3) (moSo (mVar 5)) (moSo (mOp2 aAdd (mVar 5) (mC (.int 1)))))) (mSl (mVar 3) (moSo (mVar 5)) (moNo))) (mNil)))))))))) (mSeq (mSet 6 (mOp2 aAdd (mVar 6) (mLst (mCons (mRevA (mVar 3)) (mCons (mOp2 aAdd (mVar 3) (mLst (mCons (mTup (mCons (mC (.str "keep")) (mCons (mC (.str "")) (mNil)))) (mNil)))) (mCons (mOp2 aAdd (mVar 3) (mLst (mCons (mTup (mCons (mC (.str "cut")) (mCons (mC (.str "")) (mNil)))) (mNil)))) (mCons (mOp2 aAdd (mVar 3) (mLst (mCons (mTup (mCons (mC (.str "add")) (mCons (mC (.str "a")) (mNil)))) (mNil)))) (mCons (mOp2 aAdd (mVar 3) (mLst (mCons (mTup (mCons (mC (.str "keep")) (mCons (mC (.str "a")) (mNil)))) (mNil)))) (mCons (mC .non) (mCons (mDNew) (mNil))))))))))) (mSeq (mSet 7 (mLc (mIt (mVar 3)) (gT 2 (gsCons (gN 9) (gsCons (gN 10) (gsNil)))) (mYes) (mTup (mCons (mOp2 aDIx (mDCon [("keep", "keep"), ("cut", "add"), ("add", "cut")]) (mVar 9)) (mCons (mVar 10) (mNil)))) [9, 10])) (mSeq (mSet 6 (mOp2 aAdd (mVar 6) (mLst (mCons (mVar 7) (mCons (mLc (mIt (mVar 3)) (gN 8) (mYes) (mFn aList (maCons (mVar 8) (maNil))) [8]) (mCons (mLc (mIt (mVar 3)) (gN 8) (mYes) (mOp2 aAdd (mVar 8) (mTup (mCons (mC (.str "x")) (mNil)))) [8]) (mCons (mLst (mCons (mTup (mCons (mC (.str "keep")) (mCons (mVar 1) (mNil)))) (mNil))) (mCons (mLst (mCons (mTup (mCons (mC (.str "same")) (mCons (mVar 1) (mNil)))) (mNil))) (mCons (mC (.str "keep")) (mNil)))))))))) (mRet (mOp2 aAdd (mVar 6) (mLst (mCons (mLc (mIt (mVar 3)) (gT 2 (gsCons (gN 9) (gsCons (gN 10) (gsNil)))) (mYes) (mTup (mCons (mVar 9) (mCons (mSl (mVar 10) (moNo) (moSo (mC (.int 1)))) (mNil)))) [9, 10]) (mCons (mOp2 aAdd (mVar 3) (mLst (mCons (mC .non) (mNil)))) (mCons (mOp2 aAdd (mVar 3) (mLst (mCons (mTup (mCons (mC (.str "add")) (mCons (mC .non) (mNil)))) (mNil)))) (mCons (mLst (mNil)) (mCons (mTup (mNil)) (mNil))))))))))))
def T6b : DStm := mSeq (mSet 6 (mOp2 aAdd (mVar 6) (mLst (mCons (mRevA (mVar 3)) (mCons (mOp2 aAdd (mVar 3) (mLst (mCons (mTup (mCons (mC (.str "keep")) (mCons (mC (.str "")) (mNil)))) (mNil)))) (mCons (mOp2 aAdd (mVar 3) (mLst (mCons (mTup (mCons (mC (.str "cut")) (mCons (mC (.str "")) (mNil)))) (mNil)))) (mCons (mOp2 aAdd (mVar 3) (mLst (mCons (mTup (mCons (mC (.str "add")) (mCons (mC (.str "a")) (mNil)))) (mNil)))) (mCons (mOp2 aAdd (mVar 3) (mLst (mCons (mTup (mCons (mC (.str "keep")) (mCons (mC (.str "a")) (mNil)))) (mNil)))) (mCons (mC .non) (mCons (mDNew) (mNil))))))))))) (mSeq (mSet 7 (mLc (mIt (mVar 3)) (gT 2 (gsCons (gN 9) (gsCons (gN 10) (gsNil)))) (mYes) (mTup (mCons (mOp2 aDIx (mDCon [("keep", "keep"), ("cut", "add"), ("add", "cut")]) (mVar 9)) (mCons (mVar 10) (mNil)))) [9, 10])) (mSeq (mSet 6 (mOp2 aAdd (mVar 6) (mLst (mCons (mVar 7) (mCons (mLc (mIt (mVar 3)) (gN 8) (mYes) (mFn aList (maCons (mVar 8) (maNil))) [8]) (mCons (mLc (mIt (mVar 3)) (gN 8) (mYes) (mOp2 aAdd (mVar 8) (mTup (mCons (mC (.str "x")) (mNil)))) [8]) (mCons (mLst (mCons (mTup (mCons (mC (.str "keep")) (mCons (mVar 1) (mNil)))) (mNil))) (mCons (mLst (mCons (mTup (mCons (mC (.str "same")) (mCons (mVar 1) (mNil)))) (mNil))) (mCons (mC (.str "keep")) (mNil)))))))))) (mRet (mOp2 aAdd (mVar 6) (mLst (mCons (mLc (mIt (mVar 3)) (gT 2 (gsCons (gN 9) (gsCons (gN 10) (gsNil)))) (mYes) (mTup (mCons (mVar 9) (mCons (mSl (mVar 10) (moNo) (moSo (mC (.int 1)))) (mNil)))) [9, 10]) (mCons (mOp2 aAdd (mVar 3) (mLst (mCons (mC .non) (mNil)))) (mCons (mOp2 aAdd (mVar 3) (mLst (mCons (mTup (mCons (mC (.str "add")) (mCons (mC .non) (mNil)))) (mNil)))) (mCons (mLst (mNil)) (mCons (mTup (mNil)) (mNil)))))))))))
def T7 : DStm := mSeq (mSet 7 (mLc (mIt (mVar 3)) (gT 2 (gsCons (gN 9) (gsCons (gN 10) (gsNil)))) (mYes) (mTup (mCons (mOp2 aDIx (mDCon [("keep", "keep"), ("cut", "add"), ("add", "cut")]) (mVar 9)) (mCons (mVar 10) (mNil)))) [9, 10])) (mSeq (mSet 6 (mOp2 aAdd (mVar 6) (mLst (mCons (mVar 7) (mCons (mLc (mIt (mVar 3)) (gN 8) (mYes) (mFn aList (maCons (mVar 8) (maNil))) [8]) (mCons (mLc (mIt (mVar 3)) (gN 8) (mYes) (mOp2 aAdd (mVar 8) (mTup (mCons (mC (.str "x")) (mNil)))) [8]) (mCons (mLst (mCons (mTup (mCons (mC (.str "keep")) (mCons (mVar 1) (mNil)))) (mNil))) (mCons (mLst (mCons (mTup (mCons (mC (.str "same")) (mCons (mVar 1) (mNil)))) (mNil))) (mCons (mC (.str "keep")) (mNil)))))))))) (mRet (mOp2 aAdd (mVar 6) (mLst (mCons (mLc (mIt (mVar 3)) (gT 2 (gsCons (gN 9) (gsCons (gN 10) (gsNil)))) (mYes) (mTup (mCons (mVar 9) (mCons (mSl (mVar 10) (moNo) (moSo (mC (.int 1)))) (mNil)))) [9, 10]) (mCons (mOp2 aAdd (mVar 3) (mLst (mCons (mC .non) (mNil)))) (mCons (mOp2 aAdd (mVar 3) (mLst (mCons (mTup (mCons (mC (.str "add")) (mCons (mC .non) (mNil)))) (mNil)))) (mCons (mLst (mNil)) (mCons (mTup (mNil)) (mNil))))))))))
def T6c : DStm := mSeq (mSet 6 (mOp2 aAdd (mVar 6) (mLst (mCons (mVar 7) (mCons (mLc (mIt (mVar 3)) (gN 8) (mYes) (mFn aList (maCons (mVar 8) (maNil))) [8]) (mCons (mLc (mIt (mVar 3)) (gN 8) (mYes) (mOp2 aAdd (mVar 8) (mTup (mCons (mC (.str "x")) (mNil)))) [8]) (mCons (mLst (mCons (mTup (mCons (mC (.str "keep")) (mCons (mVar 1) (mNil)))) (mNil))) (mCons (mLst (mCons (mTup (mCons (mC (.str "same")) (mCons (mVar 1) (mNil)))) (mNil))) (mCons (mC (.str "keep")) (mNil)))))))))) (mRet (mOp2 aAdd (mVar 6) (mLst (mCons (mLc (mIt (mVar 3)) (gT 2 (gsCons (gN 9) (gsCons (gN 10) (gsNil)))) (mYes) (mTup (mCons (mVar 9) (mCons (mSl (mVar 10) (moNo) (moSo (mC (.int 1)))) (mNil)))) [9, 10]) (mCons (mOp2 aAdd (mVar 3) (mLst (mCons (mC .non) (mNil)))) (mCons (mOp2 aAdd (mVar 3) (mLst (mCons (mTup (mCons (mC (.str "add")) (mCons (mC .non) (mNil)))) (mNil)))) (mCons (mLst (mNil)) (mCons (mTup (mNil)) (mNil)))))))))
def TR : DStm := mRet (mOp2 aAdd (mVar 6) (mLst (mCons (mLc (mIt (mVar 3)) (gT 2 (gsCons (gN 9) (gsCons (gN 10) (gsNil)))) (mYes) (mTup (mCons (mVar 9) (mCons (mSl (mVar 10) (moNo) (moSo (mC (.int 1)))) (mNil)))) [9, 10]) (mCons (mOp2 aAdd (mVar 3) (mLst (mCons (mC .non) (mNil)))) (mCons (mOp2 aAdd (mVar 3) (mLst (mCons (mTup (mCons (mC (.str "add")) (mCons (mC .non) (mNil)))) (mNil)))) (mCons (mLst (mNil)) (mCons (mTup (mNil)) (mNil))))))))

abbrev envT (d : D) (A B : List Nat) (rs : List Row) (s4 s5 s6 s7 : Slot) : List Slot := [.own true d, .val (.str (ofL A)), .val (.str (ofL B)), .val (rsD rs), s4, s5, s6, s7, .no, .no, .no]
theorem thingsR {R : RV → List Slot → Prop} {d : D} {A B : List Nat} {rs : List Row} {L : List D} {s4 s5 s7 : Slot} (tr : ToldRows rs) (hL : Things 20 L)
    (fin : ∀ things, Things 30 things → R (.tm (.lst things)) [.own true d, .no, .no, .no]) :
    TR { nx := fun e => R (.vl .non) (outs 4 e), rt := fun r e => R r (outs 4 e) } (envT d A B rs s4 s5 (.val (.lst L)) s7) := by
  have le := tr.le
  have rl : (rs.map rD).length = rs.length := List.length_map ..
  have ll := hL.1
  have aTold := tr.row
  k_allIn
  refine comp_rows (fun w t => .tup [.str w, .str (cutS t none (some 1))]) trivial (by omega) (fun r hr K hK => ?_) ?_
  · have := tr.tl r hr
    k_allIn
    refine an_i (line_ok r.2 (by omega)) ?_
    k_allIn
    exact hK
  k_allIn
  refine an_i (show (rs.map rD).length + 1 ≤ 100000 by omega) ?_
  k_allIn
  refine an_i (show (rs.map rD).length + 1 ≤ 100000 by omega) ?_
  k_allIn
  refine an_i (show L.length + 5 ≤ 100000 by omega) ?_
  refine fin _ ⟨?_, ?_⟩
  · rw [List.length_append]
    show L.length + 5 ≤ 30
    omega
  · intro t ht
    rcases List.mem_append.mp ht with ht | ht
    · exact hL.2 t ht
    · simp only [List.mem_cons, List.not_mem_nil, or_false] at ht
      rcases ht with rfl | rfl | rfl | rfl | rfl
      · refine thing_l (by rw [List.length_map]; omega) fun x hx => ?_
        obtain ⟨r, hr, rfl⟩ := List.mem_map.mp hx
        refine row_two (word_len (tr.ok r hr).1) ?_
        have := tr.tl r hr
        refine Nat.le_trans (cutS_length _ _ _) ?_
        rw [ofL_len]; omega
      · refine thing_l (by rw [List.length_append]; show _ + 1 ≤ _; omega) fun x hx => ?_
        rcases List.mem_append.mp hx with hx | hx
        · exact aTold x hx
        · rw [List.mem_singleton.mp hx]; exact row_non
      · refine thing_l (by rw [List.length_append]; show _ + 1 ≤ _; omega) fun x hx => ?_
        rcases List.mem_append.mp hx with hx | hx
        · exact aTold x hx
        · rw [List.mem_singleton.mp hx]
          exact ⟨trivial, fun xs e => by
            cases e
            refine ⟨fun x hx => ?_, fun s hs => ?_⟩
            · simp only [List.mem_cons, List.not_mem_nil, or_false] at hx
              rcases hx with rfl | rfl <;> trivial
            · simp only [List.mem_cons, List.not_mem_nil, or_false, D.str.injEq] at hs
              rcases hs with rfl | hs
              · decide
              · cases hs⟩
      · exact thing_l (Nat.zero_le _) fun x hx => nomatch hx
      · exact thing_t (Nat.zero_le _) fun x hx => nomatch hx
theorem things6c {R : RV → List Slot → Prop} {d : D} {A B : List Nat} {rs : List Row} {L : List D} {turned : List D} {s4 s5 : Slot} (tr : ToldRows rs) (hA : A.length ≤ 200) (hL : Things 14 L) (ht : ThingOk (.lst turned))
    (fin : ∀ things, Things 30 things → R (.tm (.lst things)) [.own true d, .no, .no, .no]) :
    T6c { nx := fun e => R (.vl .non) (outs 4 e), rt := fun r e => R r (outs 4 e) } (envT d A B rs s4 s5 (.val (.lst L)) (.val (.lst turned))) := by
  have le := tr.le
  have ll := hL.1
  have row1 : ∀ w : Str, w.length ≤ 1000 → RowOk (.tup [.str w, .str (ofL A)]) := fun w hw => row_two hw (by rw [ofL_len]; omega)
  k_allIn
  refine comp_rows (fun w t => .lst [.str w, .str t]) trivial (by omega) (fun r hr K hK => ?_) ?_
  · k_allIn
    exact hK
  k_allIn
  refine comp_rows (fun w t => .tup [.str w, .str t, .str "x"]) trivial (by omega) (fun r hr K hK => ?_) ?_
  · k_allIn
    refine an_i (List.cons_ne_nil _ _) ?_
    refine an_i (List.cons_ne_nil _ _) ?_
    k_allIn
    exact hK
  k_allIn
  refine an_i (show L.length + 6 ≤ 100000 by omega) ?_
  k_memK
  refine thingsR tr ⟨?_, ?_⟩ fin
  · rw [List.length_append]
    show L.length + 6 ≤ 20
    omega
  · intro t h
    rcases List.mem_append.mp h with h | h
    · exact hL.2 t h
    · simp only [List.mem_cons, List.not_mem_nil, or_false] at h
      rcases h with rfl | rfl | rfl | rfl | rfl | rfl
      · exact ht
      · refine thing_l (by rw [List.length_map]; omega) fun x hx => ?_
        obtain ⟨r, hr, rfl⟩ := List.mem_map.mp hx
        exact ⟨trivial, fun xs e => nomatch e⟩
      · refine thing_l (by rw [List.length_map]; omega) fun x hx => ?_
        obtain ⟨r, hr, rfl⟩ := List.mem_map.mp hx
        have h1 := word_len (tr.ok r hr).1
        have h2 := tr.tl r hr
        exact ⟨trivial, fun xs e => by
          cases e
          refine ⟨fun x hx => ?_, fun s hs => ?_⟩
          · simp only [List.mem_cons, List.not_mem_nil, or_false] at hx
            rcases hx with rfl | rfl | rfl <;> trivial
          · simp only [List.mem_cons, List.not_mem_nil, or_false, D.str.injEq] at hs
            rcases hs with rfl | rfl | rfl
            · exact h1
            · rw [ofL_len]; omega
            · decide⟩
      · exact thing_l (show 1 ≤ 1000 by omega) fun x hx => by rw [List.mem_singleton.mp hx]; exact row1 _ (by decide)
      · exact thing_l (show 1 ≤ 1000 by omega) fun x hx => by rw [List.mem_singleton.mp hx]; exact row1 _ (by decide)
      · exact ⟨trivial, fun xs e => nomatch e⟩
theorem things7 {R : RV → List Slot → Prop} {d : D} {A B : List Nat} {rs : List Row} {L : List D} {s4 s5 s7 : Slot} (p7 : Pl s7) (tr : ToldRows rs) (hA : A.length ≤ 200) (hL : Things 14 L)
    (fin : ∀ things, Things 30 things → R (.tm (.lst things)) [.own true d, .no, .no, .no]) :
    T7 { nx := fun e => R (.vl .non) (outs 4 e), rt := fun r e => R r (outs 4 e) } (envT d A B rs s4 s5 (.val (.lst L)) s7) := by
  have le := tr.le
  let tw : Str → Str := fun w => if w = KEEP then KEEP else if w = CUT then ADD else CUT
  have htw : ∀ w, w = KEEP ∨ w = CUT ∨ w = ADD → dGet ([(KEEP, KEEP), (CUT, ADD), (ADD, CUT)].map fun kv => ((.inr kv.1 : Key), D.str kv.2)) (.inr w) = some (.str (tw w)) := by
    rintro w (rfl | rfl | rfl) <;> rfl
  have ltw : ∀ w, (tw w).length ≤ 1000 := fun w => by
    show (if w = KEEP then KEEP else if w = CUT then ADD else CUT).length ≤ 1000
    split
    · decide
    · split <;> decide
  k_allIn
  refine comp_rows (fun w t => .tup [.str (tw w), .str t]) trivial (by omega) (fun r hr K hK => ?_) ?_
  · k_allIn
    refine ex_i (htw r.1 (tr.ok r hr).1) ?_
    k_allIn
    exact hK
  refine an_i (by exact p7) ?_
  refine things6c tr hA hL (thing_l (by rw [List.length_map]; omega) fun x hx => ?_) fin
  obtain ⟨r, hr, rfl⟩ := List.mem_map.mp hx
  refine row_two (ltw _) ?_
  have := tr.tl r hr
  rw [ofL_len]; omega
theorem things6b {R : RV → List Slot → Prop} {d : D} {A B : List Nat} {rs : List Row} {L : List D} {s4 s5 s7 : Slot} (p7 : Pl s7) (tr : ToldRows rs) (hA : A.length ≤ 200) (hL : Things 7 L)
    (fin : ∀ things, Things 30 things → R (.tm (.lst things)) [.own true d, .no, .no, .no]) :
    T6b { nx := fun e => R (.vl .non) (outs 4 e), rt := fun r e => R r (outs 4 e) } (envT d A B rs s4 s5 (.val (.lst L)) s7) := by
  have le := tr.le
  have ll := hL.1
  have rl : (rs.map rD).length = rs.length := List.length_map ..
  have aTold := tr.row
  have more : ∀ x, RowOk x → ThingOk (.lst (rs.map rD ++ [x])) := fun x hx => thing_l (by rw [List.length_append]; show _ + 1 ≤ _; omega) fun y hy => by
    rcases List.mem_append.mp hy with hy | hy
    · exact aTold y hy
    · rw [List.mem_singleton.mp hy]; exact hx
  k_allIn
  refine an_i (show (rs.map rD).length + 1 ≤ 100000 by omega) ?_
  k_allIn
  refine an_i (show (rs.map rD).length + 1 ≤ 100000 by omega) ?_
  k_allIn
  refine an_i (show (rs.map rD).length + 1 ≤ 100000 by omega) ?_
  k_allIn
  refine an_i (show (rs.map rD).length + 1 ≤ 100000 by omega) ?_
  k_allIn
  refine an_i (show L.length + 7 ≤ 100000 by omega) ?_
  k_memK
  refine things7 p7 tr hA ⟨?_, ?_⟩ fin
  · rw [List.length_append]
    show L.length + 7 ≤ 14
    omega
  · intro t h
    rcases List.mem_append.mp h with h | h
    · exact hL.2 t h
    · simp only [List.mem_cons, List.not_mem_nil, or_false] at h
      rcases h with rfl | rfl | rfl | rfl | rfl | rfl | rfl
      · exact thing_l (by rw [List.length_reverse, rl]; omega) fun x hx => aTold x (List.mem_reverse.mp hx)
      · exact more _ (row_two (by decide) (by decide))
      · exact more _ (row_two (by decide) (by decide))
      · exact more _ (row_two (by decide) (by decide))
      · exact more _ (row_two (by decide) (by decide))
      · exact ⟨trivial, fun xs e => nomatch e⟩
      · exact ⟨trivial, fun xs e => nomatch e⟩
theorem things6 {R : RV → List Slot → Prop} {d : D} {A B : List Nat} {rs : List Row} {rows : List D} {a : Int} {s6 s7 : Slot} (p6 : Pl s6) (p7 : Pl s7) (tr : ToldRows rs) (hA : A.length ≤ 200) (hr : rows.length ≤ 2 ∧ ∀ x ∈ rows, RowOk x)
    (fin : ∀ things, Things 30 things → R (.tm (.lst things)) [.own true d, .no, .no, .no]) :
    T6 { nx := fun e => R (.vl .non) (outs 4 e), rt := fun r e => R r (outs 4 e) } (envT d A B rs (.val (.lst rows)) (.val (.int a)) s6 s7) := by
  have le := tr.le
  have rl : (rs.map rD).length = rs.length := List.length_map ..
  have aTold := tr.row
  have c1 := cut_len (rs.map rD) none (some a)
  have c2 := cut_len (rs.map rD) (some (a + 1)) none
  have c3 := cut_len (rs.map rD) (some a) (some (a + 1))
  have c4 := cut_len (rs.map rD) (some a) none
  k_allIn
  refine an_i (show (cutD (rs.map rD) none (some a) ++ cutD (rs.map rD) (some a) (some (a + 1))).length + (cutD (rs.map rD) (some a) none).length ≤ 100000 by rw [List.length_append]; omega) ?_
  row_arm1w things6b p7 tr hA ⟨Nat.le_refl 7, ?_⟩ fin
  intro t h
  simp only [List.mem_cons, List.not_mem_nil, or_false] at h
  rcases h with rfl | rfl | rfl | rfl | rfl | rfl | rfl
  · exact thing_l (by omega) hr.2
  · exact thing_t (by omega) hr.2
  · exact thing_l (by rw [List.length_reverse]; omega) fun x hx => hr.2 x (List.mem_reverse.mp hx)
  · exact thing_l (by omega) aTold
  · exact thing_t (by omega) aTold
  · refine thing_l (by rw [List.length_append]; omega) fun x hx => ?_
    rcases List.mem_append.mp hx with hx | hx
    · exact aTold x (cut_mem hx)
    · exact aTold x (cut_mem hx)
  · refine thing_l (by rw [List.length_append, List.length_append]; omega) fun x hx => ?_
    rcases List.mem_append.mp hx with hx | hx
    · rcases List.mem_append.mp hx with hx | hx
      · exact aTold x (cut_mem hx)
      · exact aTold x (cut_mem hx)
    · exact aTold x (cut_mem hx)
def sd_l_things : DSpec := fun args R => ∃ (m : Int) (d : D) (A B : List Nat) (rs : List Row), args = [.own true d, .val (.str (ofL A)), .val (.str (ofL B)), .val (rsD rs)] ∧ Bx m d ∧ 0 ≤ m ∧ m < 5000 ∧ A.length ≤ 200 ∧ B.length ≤ 200 ∧ ToldRows rs ∧
  ∀ things d', Things 30 things → Bx (m + 1) d' → R (.tm (.lst things)) [.own true d', .no, .no, .no]
theorem len_l_things : ∀ args R, sd_l_things args R → args.length = 4 := by rintro args R ⟨m, d, A, B, rs, rfl, _⟩; rfl
def hasT : D → Option D
  | .tup [.str w, .str t] => if (!deq (.str t) (.str "")) = true then some (.tup [.str w, .str t]) else none
  | _ => none
theorem sp_l_things : ∀ args R, sd_l_things args R → m_l_things sd_l_take { nx := fun e => R (.vl .non) (outs 4 e), rt := fun r e => R r (outs 4 e) } (startE 11 args) := by
  rintro args R ⟨m, d, A, B, rs, rfl, Bd, h0, h1, hA, hB, tr, fin⟩
  have le := tr.le
  have rl : (rs.map rD).length = rs.length := List.length_map ..
  k_allIn
  refine compI_list hasT trivial (show 2 ≤ 100000 by omega) (fun x hx K hK => ?_) ?_
  · have : ∃ w t : Str, x = .tup [.str w, .str t] := by
      simp only [List.mem_cons, List.not_mem_nil, or_false] at hx
      rcases hx with rfl | rfl <;> exact ⟨_, _, rfl⟩
    obtain ⟨w, t, rfl⟩ := this
    k_allIn
    refine ite_i (fun c => ?_) (fun c => ?_)
    · have c : (!deq (.str t) (.str "")) = true := c
      have e : hasT (.tup [.str w, .str t]) = some (.tup [.str w, .str t]) := if_pos c
      rw [e] at hK
      k_allIn
      exact hK
    · have c : ¬ (!deq (.str t) (.str "")) = true := c
      have e : hasT (.tup [.str w, .str t]) = none := if_neg c
      rw [e] at hK
      exact hK
  generalize hrows : List.filterMap hasT [D.tup [.str CUT, .str (ofL A)], .tup [.str ADD, .str (ofL B)]] = rows
  have hr : rows.length ≤ 2 ∧ ∀ x ∈ rows, RowOk x := by
    subst hrows
    refine ⟨List.length_filterMap_le _ _, fun x hx => ?_⟩
    obtain ⟨y, hy, he⟩ := List.mem_filterMap.mp hx
    have hx2 : x = y := by
      unfold hasT at he
      split at he
      · split at he
        · cases he; rfl
        · cases he
      · cases he
    subst hx2
    simp only [List.mem_cons, List.not_mem_nil, or_false] at hy
    rcases hy with rfl | rfl
    · exact row_two (by decide) (by rw [ofL_len]; omega)
    · exact row_two (by decide) (by rw [ofL_len]; omega)
  k_allIn
  refine take_i Bd (by omega) (by omega) (by omega) rfl fun a d3 a0 a1 B3 => ?_
  k_memK
  exact things6 trivial trivial tr hA hr fun things ht => fin things d3 ht B3
end
end Law

set_option Elab.async false
set_option linter.all false
set_option maxRecDepth 100000
set_option maxHeartbeats 4000000
set_option autoImplicit false
namespace Law
open PySem L2 DL
section
local macro_rules | `(tactic| k_upd) => `(tactic| (first | exact trivial | exact rfl | ((try dsimp only); first | assumption | exact fits62 (by omega) (by omega) | exact cmul_s (by omega) (by omega) | exact cpow_s (by omega) (by omega) (by omega) | exact And.intro (by omega) (clog_s (by omega)) | exact Nat.le_of_ble_eq_true rfl | decide | omega)))
local macro_rules | `(tactic| k_memK) => `(tactic| first | (refine an_i ?_ ?_; focus k_upd) | refine ex_i rfl ?_ | refine ite_t rfl ?_ | refine ite_f Bool.false_ne_true ?_)
local macro_rules | `(tactic| k_allIn) => `(tactic| repeat k_memK)

local macro_rules | `(tactic| row_arm1w $t) => `(tactic| first | refine $t | (k_memK; row_arm1w $t))
set_option pp.deepTerms false
set_option pp.maxSteps 1500

/-! _law_right -/
structure PlainF (A B : List Nat) : Prop where
  ch : chB A B (rsD (chg A B)) = true
  part : ∀ (i : Nat) (x y : Row), (chg A B)[i]? = some x → (chg A B)[i + 1]? = some y → x.1 ≠ y.1
  cost : cost (chg A B) + 2 * lcs A.reverse B.reverse = A.length + B.length
  rows : ToldRows (chg A B)
structure Txts (A B : List Nat) : Prop where
  lA : A.length ≤ 150
  lB : B.length ≤ 150
  oA : A.all sgOk = true
  oB : B.all sgOk = true
theorem long_ok {A : List Nat} (h : A.length ≤ 200) (o : A.all sgOk = true) : longB (.str (ofL A)) = true := by
  unfold longB
  rw [Bool.and_eq_true]
  exact ⟨decide_eq_true (by rw [ofL_len]; exact h), o⟩
theorem cut1 (xs : List D) : cutD xs (some 1) none = xs.drop 1 := by
  unfold cutD
  rw [show (1 : Int) = ((1 : Nat) : Int) from rfl, HT.sIx_nat, HT.sIx_none]
  cases xs with
  | nil => rfl
  | cons a l =>
    rw [List.take_of_length_le]
    · rw [show min 1 (a :: l).length = 1 by simp]
    · rw [List.length_drop]; omega
theorem two_i {A B : List Nat} {E : XP} {ss : List Slot} {P : List Nat → List Nat → Prop} (T : Txts A B) (h : P A B) : two (.str (ofL A)) (.str (ofL B)) E ss P := by
  unfold two
  have := T.lA
  have := T.lB
  rw [if_pos (long_ok (by omega) T.oA), if_pos (long_ok (by omega) T.oB)]
  exact ⟨A, B, rfl, rfl, h⟩
theorem two_k {A B : List Nat} (T : Txts A B) : TwoOk (.str (ofL A)) (.str (ofL B)) := ⟨trivial, trivial, fun s e => by cases e; rw [ofL_len]; have := T.lA; omega, fun s e => by cases e; rw [ofL_len]; have := T.lB; omega⟩
def U2 : DStm := mSeq (mIfS (mOrT (mNotT (mTru (mIsi (mVar 3) "list"))) (mOrT (mNotT (mTru (mCall sd_l_is_change [] (mcCons (mVar 1) (mcCons (mVar 2) (mcCons (mVar 3) (mcNil))))))) (mNotT (mTru (mIsi (mCall (noX sd_fewest_signs) [] (mcCons (mVar 1) (mcCons (mVar 2) (mcNil)))) "int"))))) (mRet (mC (.bl false))) (mSkip)) (mSeq (mIfS (mB (mOp2 aNe (mLc (mZip (mVar 3) (mSl (mVar 3) (moSo (mC (.int 1))) (moNo))) (gT 2 (gsCons (gN 8) (gsCons (gN 9) (gsNil)))) (mB (mOp2 aEq (mOp2 aIx (mVar 8) (mC (.int 0))) (mOp2 aIx (mVar 9) (mC (.int 0))))) (mC (.int 1)) [8, 9]) (mLst (mNil)))) (mRet (mC (.bl false))) (mSkip)) (mSeq (mSet 4 (mOp2 aSub (mOp2 aAdd (mFn aLen (maCons (mVar 1) (maNil))) (mFn aLen (maCons (mVar 2) (maNil)))) (mOp2 aMul (mC (.int 2)) (mCall sd_l_common [] (mcCons (mVar 1) (mcCons (mVar 2) (mcNil))))))) (mSeq (mIfS (mOrT (mB (mOp2 aNe (mFn aSum (maCons (mLc (mIt (mVar 3)) (gT 2 (gsCons (gN 10) (gsCons (gN 11) (gsNil)))) (mB (mOp2 aNe (mVar 10) (mC (.str "keep")))) (mFn aLen (maCons (mVar 11) (maNil))) [10, 11]) (maNil))) (mVar 4))) (mB (mOp2 aNe (mCallK (noX sd_fewest_signs) (arrN 0 2 [0, 1]) mcNil (mcCons (mVar 1) (mcCons (mVar 2) (mcNil)))) (mVar 4)))) (mRet (mC (.bl false))) (mSkip)) (mSeq (mFor (mIt (mCall sd_l_things [] (mcCons (mVar 0) (mcCons (mVar 1) (mcCons (mVar 2) (mcCons (mFn aList (maCons (mVar 3) (maNil))) (mcNil))))))) (gN 5) (mSeq (mSet 6 (mCall sd_l_is_change [] (mcCons (mVar 1) (mcCons (mVar 2) (mcCons (mVar 5) (mcNil)))))) (mIfS (mNotT (mTru (mCall sd_l_truth [] (mcCons (mCall (noX sd_shows_changes) [] (mcCons (mVar 1) (mcCons (mVar 2) (mcCons (mVar 5) (mcNil))))) (mcCons (mVar 6) (mcNil)))))) (mRet (mC (.bl false))) (mSkip)))) (mSeq (mSet 7 (mFn aRepr (maCons (mVar 3) (maNil)))) (mSeq (mApp 3 (mC (.str "late"))) (mRet (mOp2 aEq (mFn aRepr (maCons (mCallK (noX sd_changes) (arrN 0 2 [0, 1]) mcNil (mcCons (mVar 1) (mcCons (mVar 2) (mcNil)))) (maNil))) (mVar 7)))))))))
def U3 : DStm := mSeq (mIfS (mB (mOp2 aNe (mLc (mZip (mVar 3) (mSl (mVar 3) (moSo (mC (.int 1))) (moNo))) (gT 2 (gsCons (gN 8) (gsCons (gN 9) (gsNil)))) (mB (mOp2 aEq (mOp2 aIx (mVar 8) (mC (.int 0))) (mOp2 aIx (mVar 9) (mC (.int 0))))) (mC (.int 1)) [8, 9]) (mLst (mNil)))) (mRet (mC (.bl false))) (mSkip)) (mSeq (mSet 4 (mOp2 aSub (mOp2 aAdd (mFn aLen (maCons (mVar 1) (maNil))) (mFn aLen (maCons (mVar 2) (maNil)))) (mOp2 aMul (mC (.int 2)) (mCall sd_l_common [] (mcCons (mVar 1) (mcCons (mVar 2) (mcNil))))))) (mSeq (mIfS (mOrT (mB (mOp2 aNe (mFn aSum (maCons (mLc (mIt (mVar 3)) (gT 2 (gsCons (gN 10) (gsCons (gN 11) (gsNil)))) (mB (mOp2 aNe (mVar 10) (mC (.str "keep")))) (mFn aLen (maCons (mVar 11) (maNil))) [10, 11]) (maNil))) (mVar 4))) (mB (mOp2 aNe (mCallK (noX sd_fewest_signs) (arrN 0 2 [0, 1]) mcNil (mcCons (mVar 1) (mcCons (mVar 2) (mcNil)))) (mVar 4)))) (mRet (mC (.bl false))) (mSkip)) (mSeq (mFor (mIt (mCall sd_l_things [] (mcCons (mVar 0) (mcCons (mVar 1) (mcCons (mVar 2) (mcCons (mFn aList (maCons (mVar 3) (maNil))) (mcNil))))))) (gN 5) (mSeq (mSet 6 (mCall sd_l_is_change [] (mcCons (mVar 1) (mcCons (mVar 2) (mcCons (mVar 5) (mcNil)))))) (mIfS (mNotT (mTru (mCall sd_l_truth [] (mcCons (mCall (noX sd_shows_changes) [] (mcCons (mVar 1) (mcCons (mVar 2) (mcCons (mVar 5) (mcNil))))) (mcCons (mVar 6) (mcNil)))))) (mRet (mC (.bl false))) (mSkip)))) (mSeq (mSet 7 (mFn aRepr (maCons (mVar 3) (maNil)))) (mSeq (mApp 3 (mC (.str "late"))) (mRet (mOp2 aEq (mFn aRepr (maCons (mCallK (noX sd_changes) (arrN 0 2 [0, 1]) mcNil (mcCons (mVar 1) (mcCons (mVar 2) (mcNil)))) (maNil))) (mVar 7))))))))
def U4 : DStm := mSeq (mSet 4 (mOp2 aSub (mOp2 aAdd (mFn aLen (maCons (mVar 1) (maNil))) (mFn aLen (maCons (mVar 2) (maNil)))) (mOp2 aMul (mC (.int 2)) (mCall sd_l_common [] (mcCons (mVar 1) (mcCons (mVar 2) (mcNil))))))) (mSeq (mIfS (mOrT (mB (mOp2 aNe (mFn aSum (maCons (mLc (mIt (mVar 3)) (gT 2 (gsCons (gN 10) (gsCons (gN 11) (gsNil)))) (mB (mOp2 aNe (mVar 10) (mC (.str "keep")))) (mFn aLen (maCons (mVar 11) (maNil))) [10, 11]) (maNil))) (mVar 4))) (mB (mOp2 aNe (mCallK (noX sd_fewest_signs) (arrN 0 2 [0, 1]) mcNil (mcCons (mVar 1) (mcCons (mVar 2) (mcNil)))) (mVar 4)))) (mRet (mC (.bl false))) (mSkip)) (mSeq (mFor (mIt (mCall sd_l_things [] (mcCons (mVar 0) (mcCons (mVar 1) (mcCons (mVar 2) (mcCons (mFn aList (maCons (mVar 3) (maNil))) (mcNil))))))) (gN 5) (mSeq (mSet 6 (mCall sd_l_is_change [] (mcCons (mVar 1) (mcCons (mVar 2) (mcCons (mVar 5) (mcNil)))))) (mIfS (mNotT (mTru (mCall sd_l_truth [] (mcCons (mCall (noX sd_shows_changes) [] (mcCons (mVar 1) (mcCons (mVar 2) (mcCons (mVar 5) (mcNil))))) (mcCons (mVar 6) (mcNil)))))) (mRet (mC (.bl false))) (mSkip)))) (mSeq (mSet 7 (mFn aRepr (maCons (mVar 3) (maNil)))) (mSeq (mApp 3 (mC (.str "late"))) (mRet (mOp2 aEq (mFn aRepr (maCons (mCallK (noX sd_changes) (arrN 0 2 [0, 1]) mcNil (mcCons (mVar 1) (mcCons (mVar 2) (mcNil)))) (maNil))) (mVar 7)))))))
def U5 : DStm := mSeq (mIfS (mOrT (mB (mOp2 aNe (mFn aSum (maCons (mLc (mIt (mVar 3)) (gT 2 (gsCons (gN 10) (gsCons (gN 11) (gsNil)))) (mB (mOp2 aNe (mVar 10) (mC (.str "keep")))) (mFn aLen (maCons (mVar 11) (maNil))) [10, 11]) (maNil))) (mVar 4))) (mB (mOp2 aNe (mCallK (noX sd_fewest_signs) (arrN 0 2 [0, 1]) mcNil (mcCons (mVar 1) (mcCons (mVar 2) (mcNil)))) (mVar 4)))) (mRet (mC (.bl false))) (mSkip)) (mSeq (mFor (mIt (mCall sd_l_things [] (mcCons (mVar 0) (mcCons (mVar 1) (mcCons (mVar 2) (mcCons (mFn aList (maCons (mVar 3) (maNil))) (mcNil))))))) (gN 5) (mSeq (mSet 6 (mCall sd_l_is_change [] (mcCons (mVar 1) (mcCons (mVar 2) (mcCons (mVar 5) (mcNil)))))) (mIfS (mNotT (mTru (mCall sd_l_truth [] (mcCons (mCall (noX sd_shows_changes) [] (mcCons (mVar 1) (mcCons (mVar 2) (mcCons (mVar 5) (mcNil))))) (mcCons (mVar 6) (mcNil)))))) (mRet (mC (.bl false))) (mSkip)))) (mSeq (mSet 7 (mFn aRepr (maCons (mVar 3) (maNil)))) (mSeq (mApp 3 (mC (.str "late"))) (mRet (mOp2 aEq (mFn aRepr (maCons (mCallK (noX sd_changes) (arrN 0 2 [0, 1]) mcNil (mcCons (mVar 1) (mcCons (mVar 2) (mcNil)))) (maNil))) (mVar 7))))))
def U6 : DStm := mSeq (mFor (mIt (mCall sd_l_things [] (mcCons (mVar 0) (mcCons (mVar 1) (mcCons (mVar 2) (mcCons (mFn aList (maCons (mVar 3) (maNil))) (mcNil))))))) (gN 5) (mSeq (mSet 6 (mCall sd_l_is_change [] (mcCons (mVar 1) (mcCons (mVar 2) (mcCons (mVar 5) (mcNil)))))) (mIfS (mNotT (mTru (mCall sd_l_truth [] (mcCons (mCall (noX sd_shows_changes) [] (mcCons (mVar 1) (mcCons (mVar 2) (mcCons (mVar 5) (mcNil))))) (mcCons (mVar 6) (mcNil)))))) (mRet (mC (.bl false))) (mSkip)))) (mSeq (mSet 7 (mFn aRepr (maCons (mVar 3) (maNil)))) (mSeq (mApp 3 (mC (.str "late"))) (mRet (mOp2 aEq (mFn aRepr (maCons (mCallK (noX sd_changes) (arrN 0 2 [0, 1]) mcNil (mcCons (mVar 1) (mcCons (mVar 2) (mcNil)))) (maNil))) (mVar 7)))))
def U7 : DStm := mSeq (mSet 7 (mFn aRepr (maCons (mVar 3) (maNil)))) (mSeq (mApp 3 (mC (.str "late"))) (mRet (mOp2 aEq (mFn aRepr (maCons (mCallK (noX sd_changes) (arrN 0 2 [0, 1]) mcNil (mcCons (mVar 1) (mcCons (mVar 2) (mcNil)))) (maNil))) (mVar 7))))

abbrev envR (d : D) (A B : List Nat) (s3 s4 s5 s6 s7 : Slot) : List Slot := [.own true d, .val (.str (ofL A)), .val (.str (ofL B)), s3, s4, s5, s6, s7, .no, .no, .no, .no]
abbrev PR (R : RV → List Slot → Prop) : Post := { nx := fun e => R (.vl .non) (outs 3 e), rt := fun r e => R r (outs 3 e) }
theorem shw_rows : ∀ rs : List Row, D.shwL (rs.map rD) = true
  | [] => rfl
  | r :: rs => by
    rw [List.map_cons]
    show (D.shw (rD r) && D.shwL (rs.map rD)) = true
    rw [shw_rows rs]; rfl
theorem wt_rows {rs : List Row} (T : ToldRows rs) : D.wt (rsD rs) ≤ 16000000 := by
  have := wtL_le (k := 20000) (xs := rs.map rD) fun d hd => by
    obtain ⟨r, hr, rfl⟩ := List.mem_map.mp hd
    have h1 := T.tl r hr
    have h2 := word_len (T.ok r hr).1
    show (10 * r.1.length + 2) + 2 + ((10 * (ofL r.2).length + 2) + 2 + 0) + 4 ≤ 20000
    rw [ofL_len]
    omega
  rw [List.length_map] at this
  have := T.le
  show D.wtL _ + 4 ≤ _
  have := Nat.mul_le_mul_right 20002 T.le
  omega
theorem right7 {R : RV → List Slot → Prop} {d : D} {A B : List Nat} {s4 s5 s6 : Slot} (T : Txts A B) (F : PlainF A B) (h : R (.vl (.bl true)) [.own true d, .no, .no]) :
    U7 (PR R) (envR d A B (.own false (rsD (chg A B))) s4 s5 s6 .no) := by
  have le := F.rows.le
  have rl : ((chg A B).map rD).length = (chg A B).length := List.length_map ..
  k_allIn
  refine an_i (rD_lvl _ 58) ?_
  refine an_i (shw_rows _) ?_
  refine an_i (wt_rows F.rows) ?_
  k_allIn
  refine ⟨_, _, rfl, two_k T, two_i T ?_⟩
  k_allIn
  refine an_i (rD_lvl _ 58) ?_
  refine an_i (shw_rows _) ?_
  refine an_i (wt_rows F.rows) ?_
  k_allIn
  rw [deq_str]
  simp only [BEq.rfl]
  exact h
theorem right6 {R : RV → List Slot → Prop} {m : Int} {d : D} {A B : List Nat} {s4 : Slot} (T : Txts A B) (F : PlainF A B) (Bd : Bx m d) (h0 : 0 ≤ m) (h1 : m < 4000) (p4 : Pl s4) (h : ∀ d', Bx (m + 1) d' → R (.vl (.bl true)) [.own true d', .no, .no]) :
    U6 (PR R) (envR d A B (.own false (rsD (chg A B))) s4 .no .no .no) := by
  have lA := T.lA
  have lB := T.lB
  k_allIn
  refine ⟨m, d, A, B, chg A B, rfl, Bd, h0, by omega, by omega, by omega, F.rows, fun things d' ht Bd' => ?_⟩
  k_allIn
  refine forI_inv (fun j env => ∃ s5 s6, Pl s5 ∧ Pl s6 ∧ env = envR d' A B (.own false (rsD (chg A B))) s4 s5 s6 .no) ⟨.no, .no, trivial, trivial, rfl⟩ (fun _ _ _ => trivial) ?_ ?_
  · rintro j t env hx ⟨s5, s6, p5, p6, rfl⟩ N hN
    have tk := ht.2 t (List.mem_of_getElem? hx)
    k_allIn
    refine ⟨false, A, B, t, rfl, tk, (fun z => nomatch z), ?_⟩
    k_allIn
    refine ⟨_, _, t, rfl, two_k T, tk, two_i T ?_⟩
    k_allIn
    refine ⟨_, _, rfl, ?_⟩
    rw [show (chB A B t == chB A B t) = true by simp]
    k_allIn
    exact hN _ ⟨.val t, .val (.bl (chB A B t)), trivial, trivial, rfl⟩
  · rintro env ⟨s5, s6, p5, p6, rfl⟩
    exact right7 T F (h d' Bd')
theorem right5 {R : RV → List Slot → Prop} {m : Int} {d : D} {A B : List Nat} (T : Txts A B) (F : PlainF A B) (Bd : Bx m d) (h0 : 0 ≤ m) (h1 : m < 4000) (h : ∀ d', Bx (m + 1) d' → R (.vl (.bl true)) [.own true d', .no, .no]) :
    U5 (PR R) (envR d A B (.own false (rsD (chg A B))) (.val (natD (cost (chg A B)))) .no .no .no) := by
  have lA := T.lA
  have lB := T.lB
  have le := F.rows.le
  k_allIn
  refine cost_comp 10 11 (by exact ⟨rfl, trivial⟩) (by omega) (fun r K hr hK => ?_) ?_
  · have tl := F.rows.tl r hr
    k_allIn
    refine ite_i (fun c => ?_) (fun c => ?_)
    · have c : (!deq (.str r.1) (.str "keep")) = true := c
      rw [deq_ne] at c
      have e : costO (rD r) = some (.int ((ofL r.2).length : Int)) := if_pos c
      rw [e] at hK
      k_allIn
      refine an_i (line_ok r.2 (by omega)) ?_
      exact hK
    · have c : ¬ (!deq (.str r.1) (.str "keep")) = true := c
      rw [deq_ne] at c
      have e : costO (rD r) = none := if_neg c
      rw [e] at hK
      exact hK
  refine ex_i (cost_ints _) ?_
  have e : (((((chg A B).filter fun r => notW "keep" r.1).map (·.2.length)).map fun (n : Nat) => (n : Int)).sum) = ((cost (chg A B) : Nat) : Int) := sum_casts _
  rw [e]
  k_allIn
  refine ite_f (by rw [deq_int]; simp) ?_
  k_allIn
  refine ⟨_, _, rfl, two_k T, two_i T ?_⟩
  k_allIn
  refine ite_f (by rw [deq_int]; simp) ?_
  exact right6 T F Bd h0 h1 trivial h
theorem right4 {R : RV → List Slot → Prop} {m : Int} {d : D} {A B : List Nat} (T : Txts A B) (F : PlainF A B) (Bd : Bx m d) (h0 : 0 ≤ m) (h1 : m < 4000) (h : ∀ d', Bx (m + 1) d' → R (.vl (.bl true)) [.own true d', .no, .no]) :
    U4 (PR R) (envR d A B (.own false (rsD (chg A B))) .no .no .no .no) := by
  have lA := T.lA
  have lB := T.lB
  have c := F.cost
  k_allIn
  refine an_i (line_ok A (by omega)) ?_
  k_allIn
  refine an_i (line_ok B (by omega)) ?_
  k_allIn
  refine ⟨A, B, rfl, by omega, by omega, ?_⟩
  have ce : ((cost (chg A B) : Nat) : Int) = ((ofL A).length : Int) + ((ofL B).length : Int) - 2 * ((lcs A.reverse B.reverse : Nat) : Int) := by rw [ofL_len, ofL_len]; omega
  have r5 := right5 T F Bd h0 h1 h
  unfold natD at r5
  rw [ce] at r5
  row_arm1w r5
theorem right3 {R : RV → List Slot → Prop} {m : Int} {d : D} {A B : List Nat} (T : Txts A B) (F : PlainF A B) (Bd : Bx m d) (h0 : 0 ≤ m) (h1 : m < 4000) (h : ∀ d', Bx (m + 1) d' → R (.vl (.bl true)) [.own true d', .no, .no]) :
    U3 (PR R) (envR d A B (.own false (rsD (chg A B))) .no .no .no .no) := by
  have le := F.rows.le
  have c1 := cut1 ((chg A B).map rD)
  have zl : (zipD ((chg A B).map rD) (cutD ((chg A B).map rD) (some 1) none)).length ≤ 300 := by
    unfold zipD
    rw [List.length_zipWith, List.length_map]; omega
  k_allIn
  refine an_i ⟨rfl, trivial⟩ ?_
  k_allIn
  refine compI_inv (fun j acc env => acc = [] ∧ env = envR d A B (.own false (rsD (chg A B))) .no .no .no .no) ⟨rfl, rfl⟩ ?_ ?_ ?_
  · rintro j acc env ⟨rfl, rfl⟩
    exact ⟨⟨rfl, trivial⟩, by decide⟩
  · rintro j x acc env hx ⟨rfl, rfl⟩ K hK
    rw [c1] at hx
    unfold zipD at hx
    rw [List.getElem?_zipWith, List.getElem?_drop, List.getElem?_map, List.getElem?_map] at hx
    cases h1 : (chg A B)[j]? with
    | none => rw [h1] at hx; simp at hx
    | some r1 =>
      cases h2 : (chg A B)[1 + j]? with
      | none => rw [h1, h2] at hx; simp at hx
      | some r2 =>
        rw [h1, h2] at hx
        simp only [Option.map_some, Option.some.injEq] at hx
        subst hx
        have ne := F.part j r1 r2 h1 (by rw [Nat.add_comm]; exact h2)
        k_allIn
        refine ite_f (show ¬ deq (.str r1.1) (.str r2.1) = true by rw [deq_str]; simpa using ne) ?_
        exact hK _ _ ⟨rfl, rfl⟩
  · rintro acc env ⟨rfl, rfl⟩
    row_arm1w right4 T F Bd h0 h1 h
theorem thing_chg {A B : List Nat} (F : PlainF A B) : ThingOk (rsD (chg A B)) := thing_l (by rw [List.length_map]; have := F.rows.le; omega) F.rows.row
def sd_l_right : DSpec := fun args R => ∃ (m : Int) (d : D) (A B : List Nat), args = [.own true d, .val (.str (ofL A)), .val (.str (ofL B))] ∧ Bx m d ∧ 0 ≤ m ∧ m < 4000 ∧ Txts A B ∧ PlainF A B ∧ ∀ d', Bx (m + 1) d' → R (.vl (.bl true)) [.own true d', .no, .no]
theorem len_l_right : ∀ args R, sd_l_right args R → args.length = 3 := by rintro args R ⟨m, d, A, B, rfl, _⟩; rfl
theorem sp_l_right : ∀ args R, sd_l_right args R → m_l_right sd_changes sd_fewest_signs sd_shows_changes sd_l_truth sd_l_common sd_l_is_change sd_l_things { nx := fun e => R (.vl .non) (outs 3 e), rt := fun r e => R r (outs 3 e) } (startE 12 args) := by
  rintro args R ⟨m, d, A, B, rfl, Bd, h0, h1, T, F, h⟩
  k_allIn
  refine ⟨_, _, rfl, two_k T, two_i T ?_⟩
  k_allIn
  refine ⟨true, A, B, rsD (chg A B), rfl, thing_chg F, (fun _ => ⟨_, rfl⟩), ?_⟩
  rw [F.ch]
  k_allIn
  refine ⟨_, _, rfl, two_k T, two_i T ?_⟩
  row_arm1w right3 T F Bd h0 h1 h
end
end Law

set_option Elab.async false
set_option linter.all false
set_option maxRecDepth 100000
set_option maxHeartbeats 4000000
set_option autoImplicit false
namespace Law
open PySem L2 DL
section
local macro_rules | `(tactic| k_upd) => `(tactic| (first | exact trivial | exact rfl | ((try dsimp only); first | assumption | exact fits62 (by omega) (by omega) | exact cmul_s (by omega) (by omega) | exact cpow_s (by omega) (by omega) (by omega) | exact And.intro (by omega) (clog_s (by omega)) | exact Nat.le_of_ble_eq_true rfl | decide | omega)))
local macro_rules | `(tactic| k_memK) => `(tactic| first | (refine an_i ?_ ?_; focus k_upd) | refine ex_i rfl ?_ | refine ite_t rfl ?_ | refine ite_f Bool.false_ne_true ?_)
local macro_rules | `(tactic| k_allIn) => `(tactic| repeat k_memK)

local macro_rules | `(tactic| row_arm1w $t) => `(tactic| first | refine $t | (k_memK; row_arm1w $t))
set_option pp.deepTerms false
set_option pp.maxSteps 1500

/-! _law_refused -/
structure Ref (one other bad : D) : Prop where
  ok : TwoOk one other
  at_ : (longB one = false ∧ bad = one) ∨ (longB one = true ∧ longB other = false ∧ bad = other)
theorem two_bad {one other bad : D} {E : XP} {ss : List Slot} {P : List Nat → List Nat → Prop} (h : Ref one other bad) (he : E cx_NoText [("found", bad)] ss) : two one other E ss P := by
  unfold two
  rcases h.at_ with ⟨q, rfl⟩ | ⟨q1, q2, rfl⟩
  · rw [if_neg (by rw [q]; exact Bool.false_ne_true)]
    exact he
  · rw [if_pos q1, if_neg (by rw [q2]; exact Bool.false_ne_true)]
    exact he
structure Bad (d : D) : Prop where
  pl : plain d
  ln : ∀ s, d = .str s → s.length ≤ 1000
  no : longB d = false
  lv : D.lvl 60 d = true
  sh : d.shw = true
  wt : d.wt ≤ 16000000
def RB (fa : Nat → Addr) : DStm := mSeq (mSet 6 (mC (.str "told"))) (mSeq (mTry isaT (mIfS (mB (mOp2 aEq (mVar 2) (mC (.int 2)))) (wX mDrop (mCallX sd_shows_changes (mcCons (mVar 3) (mcCons (mVar 4) (mcCons (mLst (mNil)) (mcNil)))))) (mSeq (mSet 7 (mOp2 aIx (mLst (mCons (mC (.fn (fa 0))) (mCons (mC (.fn (fa 1))) (mNil)))) (mVar 2))) (wX mDrop (mCallVX 7 [(fa 0, sd_changes), (fa 1, sd_fewest_signs)] (mcCons (mVar 3) (mcCons (mVar 4) (mcNil))))))) [.as_ cx_NoText 8 fun a dd => mSet 6 (mFn aRepr (maCons (mXf a dd 8 "found") (maNil)))]) (mIfS (mB (mOp2 aNe (mVar 6) (mFn aRepr (maCons (mVar 5) (maNil))))) (mRet (mC (.bl false))) (mSkip)))
def RF : DStm := mRet (mAndV (mOp2 aEq (mCall (noX sd_fewest_signs) [] (mcCons (mOp2 aMulA (mC (.str "a")) (mC (.int 200))) (mcCons (mOp2 aMulA (mC (.str "a")) (mC (.int 199))) (mcNil)))) (mC (.int 1))) (mOp2 aEq (mCall (noX sd_changes) [] (mcCons (mC (.str "")) (mcCons (mC (.str "")) (mcNil)))) (mLst (mNil))))

abbrev envF (d bad : D) (s2 s3 s4 s5 s6 s7 : Slot) : List Slot := [.own true d, .val bad, s2, s3, s4, s5, s6, s7, .no]
theorem ref_body {fa : Nat → Addr} {P : Post} {d bad one other : D} {call : Nat} {s6 s7 : Slot} (p6 : Pl s6) (p7 : Pl s7) (hc : call < 3) (B : Bad bad) (r : Ref one other bad)
    (fin : ∀ s6 s7, Pl s6 → Pl s7 → P.nx (envF d bad (.val (.int (call : Int))) (.val one) (.val other) (.val bad) s6 s7)) :
    RB fa P (envF d bad (.val (.int (call : Int))) (.val one) (.val other) (.val bad) s6 s7) := by
  have hcall : call = 0 ∨ call = 1 ∨ call = 2 := by omega
  rcases hcall with rfl | rfl | rfl
  · k_allIn
    refine ⟨0, fa 0, sd_changes, rfl, rfl, ?_⟩
    k_allIn
    refine ⟨one, other, rfl, r.ok, two_bad r ?_⟩
    k_allIn
    intro a dd
    k_allIn
    refine an_i B.lv ?_
    refine an_i B.sh ?_
    refine an_i B.wt ?_
    k_allIn
    refine an_i B.lv ?_
    refine an_i B.sh ?_
    refine an_i B.wt ?_
    k_allIn
    refine ite_f (by rw [deq_str]; simp) ?_
    exact fin (.val (.str (reprD bad))) (.val (.fn (fa 0))) trivial trivial
  · k_allIn
    refine ⟨1, fa 1, sd_fewest_signs, rfl, rfl, ?_⟩
    k_allIn
    refine ⟨one, other, rfl, r.ok, two_bad r ?_⟩
    k_allIn
    intro a dd
    k_allIn
    refine an_i B.lv ?_
    refine an_i B.sh ?_
    refine an_i B.wt ?_
    k_allIn
    refine an_i B.lv ?_
    refine an_i B.sh ?_
    refine an_i B.wt ?_
    k_allIn
    refine ite_f (by rw [deq_str]; simp) ?_
    exact fin (.val (.str (reprD bad))) (.val (.fn (fa 1))) trivial trivial
  · k_allIn
    refine ⟨one, other, .lst [], rfl, r.ok, thing_l (Nat.zero_le _) (fun x hx => nomatch hx), two_bad r ?_⟩
    k_allIn
    intro a dd
    k_allIn
    refine an_i B.lv ?_
    refine an_i B.sh ?_
    refine an_i B.wt ?_
    k_allIn
    refine an_i B.lv ?_
    refine an_i B.sh ?_
    refine an_i B.wt ?_
    k_allIn
    refine ite_f (by rw [deq_str]; simp) ?_
    exact fin (.val (.str (reprD bad))) s7 trivial p7
theorem rep_a (k : Nat) : repS "a" k = ofL (List.replicate k 97) := by
  refine str_ext ?_
  rw [ofL_list]
  unfold repS
  show (List.replicate k [97]).flatten = _
  induction k with
  | zero => rfl
  | succ k ih => rw [List.replicate_succ, List.flatten_cons, ih, List.replicate_succ]; rfl
theorem all_rep (k : Nat) : (List.replicate k 97).all sgOk = true := by
  rw [List.all_eq_true]
  intro c hc
  rw [(List.mem_replicate.mp hc).2]
  decide
theorem long_rep {k : Nat} (h : k ≤ 200) : longB (.str (repS "a" k)) = true := by
  rw [rep_a]
  exact long_ok (by rw [List.length_replicate]; exact h) (all_rep k)
theorem rep_len (k : Nat) : (repS "a" k).length = k := by rw [rep_a, ofL_len, List.length_replicate]
theorem bad_at {w : Int} (h0 : 0 ≤ w) (h1 : w < 6) : ∃ bad, atI [D.non, .int 7, .str (repS "a" (201 : Int).toNat), .lst [.str "a"], .str "a\nb", .bl true] w = some bad ∧ Bad bad := by
  have : w = 0 ∨ w = 1 ∨ w = 2 ∨ w = 3 ∨ w = 4 ∨ w = 5 := by omega
  rcases this with rfl | rfl | rfl | rfl | rfl | rfl
  · exact ⟨_, rfl, ⟨trivial, (fun s e => nomatch e), rfl, rfl, rfl, by decide⟩⟩
  · exact ⟨_, rfl, ⟨trivial, (fun s e => nomatch e), rfl, rfl, by decide, by decide⟩⟩
  · refine ⟨_, rfl, ⟨trivial, fun s e => ?_, ?_, rfl, rfl, ?_⟩⟩
    · cases e
      have : (repS "a" (201 : Int).toNat).length = 201 := rep_len 201
      omega
    · have : ¬ (repS "a" (201 : Int).toNat).length ≤ 200 := by
        have : (repS "a" (201 : Int).toNat).length = 201 := rep_len 201
        omega
      show (decide ((repS "a" (201 : Int).toNat).length ≤ 200) && allOk (repS "a" (201 : Int).toNat)) = false
      rw [decide_eq_false this, Bool.false_and]
    · have : (repS "a" (201 : Int).toNat).length = 201 := rep_len 201
      show 10 * (repS "a" (201 : Int).toNat).length + 2 ≤ _
      omega
  · exact ⟨_, rfl, ⟨trivial, (fun s e => nomatch e), rfl, rfl, rfl, by decide⟩⟩
  · exact ⟨_, rfl, ⟨trivial, (fun s e => by cases e; decide), by decide, rfl, rfl, by decide⟩⟩
  · exact ⟨_, rfl, ⟨trivial, (fun s e => nomatch e), rfl, rfl, rfl, by decide⟩⟩
def sd_l_refused : DSpecX := fun args R E => ∃ (m : Int) (d : D), args = [.own true d] ∧ Bx m d ∧ 0 ≤ m ∧ m < 5000 ∧ cost (chg (List.replicate 200 97) (List.replicate 199 97)) = 1 ∧ ∀ d', R (.vl (.bl true)) [.own true d']
theorem len_l_refused : ∀ args R E, sd_l_refused args R E → args.length = 1 := by rintro args R E ⟨m, d, rfl, _⟩; rfl
theorem two_r {k l : Nat} {E : XP} {ss : List Slot} {P : List Nat → List Nat → Prop} (hk : k ≤ 200) (hl : l ≤ 200) (h : P (List.replicate k 97) (List.replicate l 97)) : two (.str (repS "a" k)) (.str (repS "a" l)) E ss P := by
  unfold two
  rw [if_pos (long_rep hk), if_pos (long_rep hl)]
  exact ⟨_, _, by rw [rep_a], by rw [rep_a], h⟩
theorem chg_e : chg [] [] = [] := by unfold chg; rw [steps_nn]; rfl
theorem two_e {E : XP} {ss : List Slot} {P : List Nat → List Nat → Prop} (h : P [] []) : two (.str "") (.str "") E ss P := by
  have e0 : longB (.str "") = true := by decide
  unfold two
  rw [if_pos e0, if_pos e0]
  exact ⟨[], [], rfl, rfl, h⟩
theorem sp_l_refused {fa : Nat → Addr} : ∀ args R E, sd_l_refused args R E → m_l_refused fa sd_changes sd_fewest_signs sd_shows_changes sd_l_take { nx := fun e => R (.vl .non) (outs 1 e), rt := fun r e => R r (outs 1 e), ex := fun x fs e => E x fs (outs 1 e) } (startE 9 args) := by
  rintro args R E ⟨m, d, rfl, Bd, h0, hm, hcost, h⟩
  have e200 : longB (.str (repS "a" 200)) = true := long_rep (by omega)
  have l200 : (repS "a" 200).length = 200 := rep_len 200
  have two1 : ∀ bad, Bad bad → TwoOk bad .non ∧ TwoOk bad (.str "x") ∧ TwoOk (.str "x") bad ∧ TwoOk (.str (repS "a" 200)) bad := fun bad B =>
    ⟨⟨B.pl, trivial, B.ln, fun s e => nomatch e⟩, ⟨B.pl, trivial, B.ln, fun s e => by cases e; decide⟩, ⟨trivial, B.pl, fun s e => by cases e; decide, B.ln⟩, ⟨trivial, B.pl, fun s e => by cases e; omega, B.ln⟩⟩
  have ex : longB (.str "x") = true := by decide
  k_allIn
  refine take_i Bd (by omega) (by omega) (by omega) rfl fun w d1 w0 w1 B1 => ?_
  k_allIn
  obtain ⟨bad, hb, Bb⟩ := bad_at w0 w1
  refine ex_i hb ?_
  obtain ⟨t1, t2, t3, t4⟩ := two1 bad Bb
  k_allIn
  refine forI_inv (fun j env => ∃ s2 s3 s4 s5 s6 s7, Pl s2 ∧ Pl s3 ∧ Pl s4 ∧ Pl s5 ∧ Pl s6 ∧ Pl s7 ∧ env = [.own true d1, .val bad, s2, s3, s4, s5, s6, s7, .no]) ⟨.no, .no, .no, .no, .no, .no, trivial, trivial, trivial, trivial, trivial, trivial, rfl⟩ (fun _ _ _ => trivial) ?_ ?_
  · rintro j x env hx ⟨s2, s3, s4, s5, s6, s7, p2, p3, p4, p5, p6, p7, rfl⟩ N hN
    obtain ⟨hj, rfl⟩ := rangeD_get hx
    rw [Int.zero_add]
    have hj3 : j < 3 := hj
    k_allIn
    refine forI_inv (fun i env => ∃ s3 s4 s5 s6 s7, Pl s3 ∧ Pl s4 ∧ Pl s5 ∧ Pl s6 ∧ Pl s7 ∧ env = [.own true d1, .val bad, .val (.int (j : Int)), s3, s4, s5, s6, s7, .no]) ⟨s3, s4, s5, s6, s7, p3, p4, p5, p6, p7, rfl⟩ (fun _ _ _ => trivial) ?_ ?_
    · rintro i y env hy ⟨s3, s4, s5, s6, s7, p3, p4, p5, p6, p7, rfl⟩ N2 hN2
      have hy2 := List.mem_of_getElem? hy
      simp only [List.mem_cons, List.not_mem_nil, or_false] at hy2
      have go : ∀ one other, y = .tup [one, other, bad] → Ref one other bad → gT 3 (gsCons (gN 3) (gsCons (gN 4) (gsCons (gN 5) (gsNil)))) y [.own true d1, .val bad, .val (.int (j : Int)), s3, s4, s5, s6, s7, .no] fun e => RB fa { nx := N2, rt := fun r e => R r (outs 1 e), ex := fun x fs e => E x fs (outs 1 e), ct := N2, bk := N } e := by
        rintro one other rfl r
        row_arm1w ref_body p6 p7 hj3 Bb r fun s6 s7 p6 p7 => hN2 _ ⟨.val one, .val other, .val bad, s6, s7, trivial, trivial, trivial, p6, p7, rfl⟩
      rcases hy2 with rfl | rfl | rfl | rfl
      · exact go _ _ rfl ⟨t1, Or.inl ⟨Bb.no, rfl⟩⟩
      · exact go _ _ rfl ⟨t2, Or.inl ⟨Bb.no, rfl⟩⟩
      · exact go _ _ rfl ⟨t3, Or.inr ⟨ex, Bb.no, rfl⟩⟩
      · exact go _ _ rfl ⟨t4, Or.inr ⟨e200, Bb.no, rfl⟩⟩
    · rintro env ⟨s3, s4, s5, s6, s7, p3, p4, p5, p6, p7, rfl⟩
      exact hN _ ⟨.val (.int (j : Int)), s3, s4, s5, s6, s7, trivial, p3, p4, p5, p6, p7, rfl⟩
  · rintro env ⟨s2, s3, s4, s5, s6, s7, p2, p3, p4, p5, p6, p7, rfl⟩
    have l199 : (repS "a" 199).length = 199 := rep_len 199
    k_allIn
    refine ⟨.str (repS "a" 200), .str (repS "a" 199), rfl, ⟨trivial, trivial, fun s e => by cases e; omega, fun s e => by cases e; omega⟩, two_r (by omega) (by omega) ?_⟩
    rw [hcost]
    k_allIn
    refine ⟨.str "", .str "", rfl, ⟨trivial, trivial, fun s e => by cases e; decide, fun s e => by cases e; decide⟩, two_e ?_⟩
    rw [chg_e]
    k_allIn
    exact h _
/-! law -/
def PlainLaw : Prop := (∀ A B : List Nat, Txts A B → PlainF A B) ∧ cost (chg (List.replicate 200 97) (List.replicate 199 97)) = 1
def sd_law : DSpec := fun args R => PlainLaw ∧ ∃ ns : List Int, args = [.val (.scr ns)] ∧ ns.length ≤ 63 ∧ R (.vl (.bl true)) [.no]
theorem len_law : ∀ args R, sd_law args R → args.length = 1 := by rintro args R ⟨_, ns, rfl, _⟩; rfl
def V4 : DStm := mSeq (mSet 4 (mOp2 aIx (mLst (mCons (mSl (mCall sd_l_changed [] (mcCons (mVar 2) (mcCons (mVar 3) (mcNil)))) (moNo) (moSo (mC (.int 120)))) (mCons (mCall sd_l_drawn [] (mcCons (mVar 2) (mcCons (mCall sd_l_take [] (mcCons (mVar 2) (mcCons (mC (.int 15)) (mcNil)))) (mcNil)))) (mCons (mVar 3) (mCons (mC (.str "")) (mNil)))))) (mOp2 aIx (mLst (mCons (mC (.int 0)) (mCons (mC (.int 0)) (mCons (mC (.int 0)) (mCons (mC (.int 1)) (mCons (mC (.int 1)) (mCons (mC (.int 2)) (mCons (mC (.int 3)) (mNil))))))))) (mCall sd_l_take [] (mcCons (mVar 2) (mcCons (mC (.int 7)) (mcNil))))))) (mIfS (mOrT (mNotT (mTru (mCall sd_l_right [] (mcCons (mVar 2) (mcCons (mVar 3) (mcCons (mVar 4) (mcNil))))))) (mNotT (mTru (mCall sd_l_right [] (mcCons (mVar 2) (mcCons (mVar 4) (mcCons (mVar 3) (mcNil)))))))) (mRet (mC (.bl false))) (mSkip))
def V5 : DStm := mIfS (mOrT (mNotT (mTru (mCall sd_l_right [] (mcCons (mVar 2) (mcCons (mVar 3) (mcCons (mVar 4) (mcNil))))))) (mNotT (mTru (mCall sd_l_right [] (mcCons (mVar 2) (mcCons (mVar 4) (mcCons (mVar 3) (mcNil)))))))) (mRet (mC (.bl false))) (mSkip)
theorem law5 {P : Post} {ns : List Int} {jj : Int} {d : D} {m : Int} {A B : List Nat} (Bd : Bx m d) (h0 : 0 ≤ m) (hm : m < 3000) (T : Txts A B) (pl : PlainLaw)
    (fin : ∀ d', P.nx [.val (.scr ns), .val (.int jj), .own false d', .val (.str (ofL A)), .val (.str (ofL B))]) : V5 P [.val (.scr ns), .val (.int jj), .own false d, .val (.str (ofL A)), .val (.str (ofL B))] := by
  have T2 : Txts B A := ⟨T.lB, T.lA, T.oB, T.oA⟩
  k_allIn
  refine ⟨m, d, A, B, rfl, Bd, h0, by omega, T, pl.1 A B T, fun d1 B1 => ?_⟩
  k_allIn
  refine ⟨m + 1, d1, B, A, rfl, B1, by omega, by omega, T2, pl.1 B A T2, fun d2 B2 => ?_⟩
  k_allIn
  exact fin d2
theorem cut_ofL (M : List Nat) (h : M.length ≤ 120) : ∃ N : List Nat, cutS (ofL M) none (some 120) = ofL N ∧ N.length ≤ 120 ∧ ∀ c ∈ N, c ∈ M := by
  refine ⟨(M.drop (HT.sIx (ofL M).length 0 none)).take (HT.sIx (ofL M).length (ofL M).length (some 120) - HT.sIx (ofL M).length 0 none), str_ext (cut_list _ _ _), ?_, fun c hc => List.mem_of_mem_drop (List.mem_of_mem_take hc)⟩
  rw [List.length_take, List.length_drop]
  omega
theorem law4 {P : Post} {ns : List Int} {jj : Int} {d : D} {m : Int} {A : List Nat} {s4 : Slot} (p4 : Pl s4) (Bd : Bx m d) (h0 : 0 ≤ m) (hm : m < 1000) (lA : A.length ≤ 60) (oA : A.all sgOk = true) (pl : PlainLaw)
    (fin : ∀ d' B, P.nx [.val (.scr ns), .val (.int jj), .own false d', .val (.str (ofL A)), .val (.str (ofL B))]) : V4 P [.val (.scr ns), .val (.int jj), .own false d, .val (.str (ofL A)), s4] := by
  k_allIn
  refine ⟨m, d, A, rfl, Bd, h0, by omega, lA, oA, fun M d1 lM oM B1 => ?_⟩
  obtain ⟨N, eN, lN, sN⟩ := cut_ofL M lM
  have oN := all_sub oM sN
  k_allIn
  refine an_i (line_ok M (by omega)) ?_
  k_allIn
  refine take_i B1 (by omega) (by omega) (by omega) rfl fun ta d2 a0 a1 B2 => ?_
  obtain ⟨ta, rfl⟩ : ∃ k : Nat, ta = (k : Int) := ⟨ta.toNat, by omega⟩
  k_allIn
  refine ⟨m + 70 + 1, d2, ta, rfl, B2, by omega, by omega, by omega, fun L d3 lL oL B3 => ?_⟩
  k_allIn
  refine take_i B3 (by omega) (by omega) (by omega) rfl fun tb d4 b0 b1 B4 => ?_
  k_allIn
  obtain ⟨z, hz, z0⟩ : ∃ z : Int, atI [D.int 0, .int 0, .int 0, .int 1, .int 1, .int 2, .int 3] tb = some (.int z) ∧ (z = 0 ∨ z = 1 ∨ z = 2 ∨ z = 3) := by
    have : tb = 0 ∨ tb = 1 ∨ tb = 2 ∨ tb = 3 ∨ tb = 4 ∨ tb = 5 ∨ tb = 6 := by omega
    rcases this with rfl | rfl | rfl | rfl | rfl | rfl | rfl
    · exact ⟨0, rfl, by omega⟩
    · exact ⟨0, rfl, by omega⟩
    · exact ⟨0, rfl, by omega⟩
    · exact ⟨1, rfl, by omega⟩
    · exact ⟨1, rfl, by omega⟩
    · exact ⟨2, rfl, by omega⟩
    · exact ⟨3, rfl, by omega⟩
  refine ex_i hz ?_
  obtain ⟨B, hB, lB, oB⟩ : ∃ B : List Nat, atI [D.str (cutS (ofL M) none (some 120)), .str (ofL L), .str (ofL A), .str ""] z = some (.str (ofL B)) ∧ B.length ≤ 120 ∧ B.all sgOk = true := by
    rcases z0 with rfl | rfl | rfl | rfl
    · exact ⟨N, by rw [eN]; rfl, lN, oN⟩
    · exact ⟨L, rfl, by omega, oL⟩
    · exact ⟨A, rfl, by omega, oA⟩
    · exact ⟨[], rfl, by simp, rfl⟩
  k_allIn
  refine ex_i hB ?_
  refine an_i (by exact p4) ?_
  exact law5 B4 (by omega) (by omega) ⟨by omega, by omega, oA, oB⟩ pl fun d' => fin d' B
theorem sp_law : ∀ args R, sd_law args R → m_law sd_l_cell sd_l_box sd_l_take sd_l_drawn sd_l_changed sd_l_right sd_l_refused { nx := fun e => R (.vl .non) (outs 1 e), rt := fun r e => R r (outs 1 e) } (startE 5 args) := by
  rintro args R ⟨pl, ns, rfl, hns, h⟩
  k_allIn
  refine forI_inv (fun j env => ∃ s1 s2 s3 s4 : Slot, Pl s1 ∧ Pl s2 ∧ Pl s3 ∧ Pl s4 ∧ env = [.val (.scr ns), s1, s2, s3, s4])
    ⟨.no, .no, .no, .no, trivial, trivial, trivial, trivial, rfl⟩ (fun _ _ _ => trivial) ?_ ?_
  · rintro j x env hx ⟨s1, s2, s3, s4, p1, p2, p3, p4, rfl⟩ N hN
    obtain ⟨hj, rfl⟩ := rangeD_get hx
    rw [Int.zero_add]
    have hj6 : j < 1000000 := by
      refine Nat.lt_of_lt_of_le hj ?_
      have : (if (if ((ns.length : Nat) : Int) < 4 then ((ns.length : Nat) : Int) else 4) > 2 then (if ((ns.length : Nat) : Int) < 4 then ((ns.length : Nat) : Int) else 4) else (2 : Int)).toNat ≤ 1000000 := by
        split <;> split <;> omega
      exact this
    k_allIn
    refine ⟨ns, j, rfl, hj6, fun c => ?_⟩
    k_allIn
    refine ⟨c, rfl, fun d B0 => ?_⟩
    k_allIn
    refine take_i B0 (by omega) (by omega) (by omega) rfl fun ta d1 a0 a1 B1 => ?_
    k_allIn
    refine take_i B1 (by omega) (by omega) (by omega) rfl fun tb d2 b0 b1 B2 => ?_
    k_allIn
    refine take_i B2 (by omega) (by omega) (by omega) rfl fun tc d3 c0 c1 B3 => ?_
    k_allIn
    obtain ⟨size, hsize, hs60⟩ : ∃ size : Nat, atI [D.int ta, D.int (60 - tb)] (tc / 5) = some (.int (size : Int)) ∧ size ≤ 60 := by
      have : tc / 5 = 0 ∨ tc / 5 = 1 := by omega
      rcases this with e | e
      · rw [e]; exact ⟨ta.toNat, by rw [show ((ta.toNat : Nat) : Int) = ta by omega]; rfl, by omega⟩
      · rw [e]; exact ⟨(60 - tb).toNat, by rw [show (((60 - tb).toNat : Nat) : Int) = 60 - tb by omega]; rfl, by omega⟩
    refine ex_i hsize ?_
    k_allIn
    refine ⟨0 + 1 + 1 + 1, d3, size, rfl, B3, by omega, by omega, hs60, fun A d4 lA oA B4 => ?_⟩
    k_memK
    refine law4 p4 B4 (by omega) (by omega) (by omega) oA pl fun d' B => ?_
    exact hN _ ⟨.val (.int (j : Int)), .own false d', .val (.str (ofL A)), .val (.str (ofL B)), trivial, trivial, trivial, trivial, rfl⟩
  · rintro env ⟨s1, s2, s3, s4, p1, p2, p3, p4, rfl⟩
    k_allIn
    refine ⟨ns, 0, rfl, by omega, fun c => ?_⟩
    k_allIn
    refine ⟨c, rfl, fun d B0 => ?_⟩
    k_allIn
    refine ⟨0, d, rfl, B0, by omega, by omega, pl.2, fun d' => ?_⟩
    k_allIn
    exact h
end
end Law

set_option Elab.async false
set_option linter.all false
set_option maxRecDepth 100000
set_option maxHeartbeats 4000000
set_option autoImplicit false
namespace Law
open PySem L2 DL
/-! the common signs, told by rows that both have -/
theorem lcs_sub : ∀ A B : List Nat, ∃ s : List Nat, s.Sublist A ∧ s.Sublist B ∧ s.length = lcs A B
  | [], B => ⟨[], List.Sublist.refl _, List.nil_sublist _, by rw [lcs_nil]; rfl⟩
  | a :: as, [] => ⟨[], List.nil_sublist _, List.Sublist.refl _, by rw [lcs_cnil]; rfl⟩
  | a :: as, b :: bs => by
    rw [lcs_cons]
    by_cases e : a = b
    · rw [if_pos e]
      obtain ⟨s, h1, h2, h3⟩ := lcs_sub as bs
      exact ⟨a :: s, h1.cons_cons a, e ▸ h2.cons_cons a, by rw [List.length_cons, h3]⟩
    · rw [if_neg e]
      rcases Nat.le_total (lcs (a :: as) bs) (lcs as (b :: bs)) with q | q
      · obtain ⟨s, h1, h2, h3⟩ := lcs_sub as (b :: bs)
        exact ⟨s, h1.cons a, h2, by omega⟩
      · obtain ⟨s, h1, h2, h3⟩ := lcs_sub (a :: as) bs
        exact ⟨s, h1, h2.cons b, by omega⟩
termination_by A B => A.length + B.length
theorem sub_lcs : ∀ (A B s : List Nat), s.Sublist A → s.Sublist B → s.length ≤ lcs A B
  | [], B, s, h1, h2 => by rw [List.sublist_nil.mp h1]; simp
  | a :: as, [], s, h1, h2 => by rw [List.sublist_nil.mp h2]; simp
  | a :: as, b :: bs, [], h1, h2 => by simp
  | a :: as, b :: bs, x :: xs, h1, h2 => by
    rw [lcs_cons]
    by_cases e : a = b
    · rw [if_pos e]
      have i := sub_lcs as bs xs (by
        cases h1 with
        | cons _ h => exact (List.sublist_cons_self x xs).trans h
        | cons_cons _ h => exact h) (by
        cases h2 with
        | cons _ h => exact (List.sublist_cons_self x xs).trans h
        | cons_cons _ h => exact h)
      rw [List.length_cons]
      omega
    · rw [if_neg e]
      have h1' := h1
      cases h1 with
      | cons _ h =>
        have i := sub_lcs as (b :: bs) (x :: xs) h h2
        omega
      | cons_cons _ h =>
        cases h2 with
        | cons _ k =>
          have i := sub_lcs (a :: as) bs (a :: xs) h1' k
          omega
        | cons_cons _ k => exact absurd rfl e
termination_by A B => A.length + B.length
theorem lcs_rev (A B : List Nat) : lcs A.reverse B.reverse = lcs A B := by
  have key : ∀ A B : List Nat, lcs A B ≤ lcs A.reverse B.reverse := fun A B => by
    obtain ⟨s, h1, h2, h3⟩ := lcs_sub A B
    have := sub_lcs A.reverse B.reverse s.reverse (List.reverse_sublist.mpr h1) (List.reverse_sublist.mpr h2)
    rw [List.length_reverse] at this
    omega
  have h1 := key A B
  have h2 := key A.reverse B.reverse
  rw [List.reverse_reverse, List.reverse_reverse] at h2
  omega
/-! what steps make -/
theorem cat_cons (p : Str → Bool) (r : Row) (rs : List Row) : cat p (r :: rs) = (if p r.1 = true then r.2 else []) ++ cat p rs := by
  unfold cat
  rw [List.filter_cons]
  split <;> simp
theorem cost_cons (r : Row) (rs : List Row) : cost (r :: rs) = (if notW "keep" r.1 = true then r.2.length else 0) + cost rs := by
  unfold cost
  rw [List.filter_cons]
  split <;> simp
theorem steps_old : ∀ A B : List Nat, cat (notW "add") (steps A B) = A
  | [], [] => by rw [steps_nn]; rfl
  | [], b :: bs => by rw [steps_nc, cat_cons, steps_old [] bs]; rfl
  | a :: as, [] => by rw [steps_cn, cat_cons, steps_old as []]; rfl
  | a :: as, b :: bs => by
    rw [steps_cc]
    split
    · rw [cat_cons, steps_old as bs]; rfl
    · split
      · rw [cat_cons, steps_old as (b :: bs)]; rfl
      · rw [cat_cons, steps_old (a :: as) bs]; rfl
termination_by A B => A.length + B.length
theorem steps_new : ∀ A B : List Nat, cat (notW "cut") (steps A B) = B
  | [], [] => by rw [steps_nn]; rfl
  | [], b :: bs => by rw [steps_nc, cat_cons, steps_new [] bs]; rfl
  | a :: as, [] => by rw [steps_cn, cat_cons, steps_new as []]; rfl
  | a :: as, b :: bs => by
    rw [steps_cc]
    split
    · next e => rw [cat_cons, steps_new as bs, e]; rfl
    · split
      · rw [cat_cons, steps_new as (b :: bs)]; rfl
      · rw [cat_cons, steps_new (a :: as) bs]; rfl
termination_by A B => A.length + B.length
theorem steps_cost : ∀ A B : List Nat, cost (steps A B) + 2 * lcs A B = A.length + B.length
  | [], [] => by rw [steps_nn, lcs_nil]; rfl
  | [], b :: bs => by
    have i := steps_cost [] bs
    rw [lcs_nil] at i
    rw [steps_nc, cost_cons, lcs_nil]
    show 1 + _ + _ = _
    simp at i ⊢; omega
  | a :: as, [] => by
    have i := steps_cost as []
    rw [lcs_nil2] at i
    rw [steps_cn, cost_cons, lcs_cnil]
    show 1 + _ + _ = _
    simp at i ⊢; omega
  | a :: as, b :: bs => by
    rw [steps_cc, lcs_cons]
    by_cases e : a = b
    · rw [if_pos e, if_pos e, cost_cons]
      have i := steps_cost as bs
      show 0 + _ + _ = _
      simp only [List.length_cons]; omega
    · rw [if_neg e, if_neg e]
      by_cases l : lcs (a :: as) bs ≤ lcs as (b :: bs)
      · rw [if_pos l, cost_cons]
        have i := steps_cost as (b :: bs)
        show 1 + _ + _ = _
        simp only [List.length_cons] at i ⊢; omega
      · rw [if_neg l, cost_cons]
        have i := steps_cost (a :: as) bs
        show 1 + _ + _ = _
        simp only [List.length_cons] at i ⊢; omega
termination_by A B => A.length + B.length
theorem steps_ok : ∀ A B : List Nat, ∀ r ∈ steps A B, runOk r
  | [], [] => by rw [steps_nn]; simp
  | [], b :: bs => by
    rw [steps_nc]
    intro r hr
    rcases List.mem_cons.mp hr with rfl | hr
    · exact ⟨Or.inr (Or.inr rfl), by simp⟩
    · exact steps_ok [] bs r hr
  | a :: as, [] => by
    rw [steps_cn]
    intro r hr
    rcases List.mem_cons.mp hr with rfl | hr
    · exact ⟨Or.inr (Or.inl rfl), by simp⟩
    · exact steps_ok as [] r hr
  | a :: as, b :: bs => by
    rw [steps_cc]
    split
    · intro r hr
      rcases List.mem_cons.mp hr with rfl | hr
      · exact ⟨Or.inl rfl, by simp⟩
      · exact steps_ok as bs r hr
    · split
      · intro r hr
        rcases List.mem_cons.mp hr with rfl | hr
        · exact ⟨Or.inr (Or.inl rfl), by simp⟩
        · exact steps_ok as (b :: bs) r hr
      · intro r hr
        rcases List.mem_cons.mp hr with rfl | hr
        · exact ⟨Or.inr (Or.inr rfl), by simp⟩
        · exact steps_ok (a :: as) bs r hr
termination_by A B => A.length + B.length
/-! rows put together -/
theorem cat_app (p : Str → Bool) (a b : List Row) : cat p (a ++ b) = cat p a ++ cat p b := by unfold cat; rw [List.filter_append, List.flatMap_append]
theorem cost_app (a b : List Row) : cost (a ++ b) = cost a + cost b := by unfold cost; rw [List.filter_append, List.map_append, List.sum_append]
def Parted (rs : List Row) : Prop := ∀ (i : Nat) (x y : Row), rs[i]? = some x → rs[i + 1]? = some y → x.1 ≠ y.1
theorem parted_snoc {i : List Row} {x y : Row} (h : Parted (i ++ [x])) (n : x.1 ≠ y.1) : Parted (i ++ [x] ++ [y]) := by
  intro k u v hu hv
  rcases Nat.lt_or_ge (k + 1) (i ++ [x]).length with q | q
  · rw [List.getElem?_append_left (by omega)] at hu
    rw [List.getElem?_append_left q] at hv
    exact h k u v hu hv
  · have hl : (i ++ [x]).length = i.length + 1 := by simp
    have hk := (List.getElem?_eq_some_iff.mp hv).1
    have : k = i.length := by simp at hk; omega
    subst this
    rw [List.getElem?_append_left (by omega), List.getElem?_append_right (Nat.le_refl _)] at hu
    rw [List.getElem?_append_right (by omega), hl, Nat.sub_self] at hv
    simp at hu hv
    subst hu hv
    exact n
theorem parted_last {i : List Row} {w : Str} {t u : List Nat} (h : Parted (i ++ [(w, t)])) : Parted (i ++ [(w, u)]) := by
  intro k x y hx hy
  rcases Nat.lt_or_ge (k + 1) i.length with q | q
  · have e1 : (i ++ [(w, t)])[k]? = (i ++ [(w, u)])[k]? := by rw [List.getElem?_append_left (by omega), List.getElem?_append_left (by omega)]
    have e2 : (i ++ [(w, t)])[k + 1]? = (i ++ [(w, u)])[k + 1]? := by rw [List.getElem?_append_left q, List.getElem?_append_left q]
    exact h k x y (by rw [e1]; exact hx) (by rw [e2]; exact hy)
  · have hk := (List.getElem?_eq_some_iff.mp hy).1
    have hk : k + 1 = i.length := by simp at hk; omega
    rw [List.getElem?_append_left (by omega)] at hx
    rw [List.getElem?_append_right (by omega), hk, Nat.sub_self] at hy
    simp at hy
    subst hy
    exact h k x (w, t) (by rw [List.getElem?_append_left (by omega)]; exact hx) (by rw [List.getElem?_append_right (by omega), hk, Nat.sub_self]; rfl)
structure Grp (acc done : List Row) : Prop where
  cat : ∀ p, cat p acc = cat p done
  cost : cost acc = cost done
  ok : ∀ r ∈ acc, runOk r
  part : Parted acc
  len : acc.length ≤ done.length
theorem grp_nil : Grp [] [] := ⟨fun _ => rfl, rfl, by simp, fun i x y h => by simp at h, Nat.le_refl _⟩
theorem grp_add {acc done : List Row} (G : Grp acc done) {r : Row} (hr : runOk r) : Grp (addRow acc r) (done ++ [r]) := by
  rcases snoc_cases acc with rfl | ⟨i, ⟨w, t⟩, rfl⟩
  · have e : addRow [] r = [r] := rfl
    rw [e]
    refine ⟨fun p => ?_, ?_, ?_, ?_, ?_⟩
    · rw [cat_app, ← G.cat p]; rfl
    · rw [cost_app, ← G.cost]
      show _ = 0 + _
      rw [Nat.zero_add]
    · intro x hx
      rw [List.mem_singleton.mp hx]; exact hr
    · intro k x y h1 h2
      have := (List.getElem?_eq_some_iff.mp h2).1
      simp at this
    · rw [List.length_append]; simp
  · rw [addRow_snoc]
    by_cases e : w = r.1
    · rw [if_pos e]
      refine ⟨fun p => ?_, ?_, ?_, parted_last G.part, ?_⟩
      · rw [cat_app p done, ← G.cat p, cat_app, cat_app, cat_cons, cat_cons, cat_cons, e]
        split
        · show _ ++ ((t ++ r.2) ++ []) = _ ++ (t ++ []) ++ (r.2 ++ [])
          simp
        · rw [show cat p [] = [] from rfl]
          simp
      · have c0 : cost [] = 0 := rfl
        rw [cost_app done, ← G.cost, cost_app, cost_app, cost_cons, cost_cons, cost_cons, e, c0]
        split
        · show cost i + ((t ++ r.2).length + 0) = cost i + (t.length + 0) + (r.2.length + 0)
          rw [List.length_append]
          omega
        · omega
      · intro x hx
        rcases List.mem_append.mp hx with hx | hx
        · exact G.ok x (List.mem_append_left _ hx)
        · rw [List.mem_singleton.mp hx]
          have := G.ok (w, t) (by simp)
          exact ⟨this.1, by simp; exact fun q => absurd q this.2⟩
      · have := G.len
        simp at this ⊢; omega
    · rw [if_neg e]
      refine ⟨fun p => ?_, ?_, ?_, parted_snoc G.part e, ?_⟩
      · rw [cat_app, cat_app p done, ← G.cat p]
      · rw [cost_app, cost_app done, ← G.cost]
      · intro x hx
        rcases List.mem_append.mp hx with hx | hx
        · exact G.ok x hx
        · rw [List.mem_singleton.mp hx]; exact hr
      · have := G.len
        simp at this ⊢; omega
theorem grp_all : ∀ (rs acc done : List Row), Grp acc done → (∀ r ∈ rs, runOk r) → Grp (rs.foldl addRow acc) (done ++ rs)
  | [], acc, done, G, _ => by simpa using G
  | r :: rs, acc, done, G, h => by
    have := grp_all rs (addRow acc r) (done ++ [r]) (grp_add G (h r (by simp))) fun x hx => h x (List.mem_cons_of_mem _ hx)
    rw [List.append_assoc] at this
    exact this
theorem chg_grp (A B : List Nat) : Grp (chg A B) (steps A B) :=
  grp_all (steps A B) [] [] grp_nil (steps_ok A B)
theorem chg_old (A B : List Nat) : cat (notW "add") (chg A B) = A := ((chg_grp A B).cat _).trans (steps_old A B)
theorem chg_new (A B : List Nat) : cat (notW "cut") (chg A B) = B := ((chg_grp A B).cat _).trans (steps_new A B)
theorem chg_cost (A B : List Nat) : cost (chg A B) + 2 * lcs A.reverse B.reverse = A.length + B.length := by rw [lcs_rev, (chg_grp A B).cost]; exact steps_cost A B
theorem chg_len (A B : List Nat) : (chg A B).length ≤ A.length + B.length := Nat.le_trans (chg_grp A B).len (steps_len A B)
theorem row_back (r : Row) : rowO (rD r) = some r := by
  show some (r.1, (ofL r.2).cps.toList) = some r
  rw [ofL_list]
theorem rows_back (rs : List Row) : (rs.map rD).filterMap rowO = rs := by
  rw [List.filterMap_map]
  induction rs with
  | nil => rfl
  | cons r rs ih =>
    have e : (rowO ∘ rD) r = some r := row_back r
    rw [List.filterMap_cons, e, ih]
theorem run_row {r : Row} (h : runOk r) : runB (rD r) = true := by
  show (wordB r.1 && !(deq (.str (ofL r.2)) (.str ""))) = true
  rw [word_iff.mpr h.1, Bool.true_and, deq_str]
  have : ofL r.2 ≠ "" := fun e => h.2 (congrArg (fun s : Str => s.cps.toList) e)
  simp [this]
theorem plain_f {A B : List Nat} (T : Txts A B) : PlainF A B := by
  have lA := T.lA
  have lB := T.lB
  have G := chg_grp A B
  have cl := chg_len A B
  obtain ⟨_, ct⟩ := chg_bounds (A := A) (B := B) (by omega) (by omega)
  refine ⟨?_, G.part, chg_cost A B, ⟨by omega, G.ok, fun r hr => by have := tot_mem hr; omega⟩⟩
  show (((chg A B).map rD).all runB && (decide (cat (notW ADD) (((chg A B).map rD).filterMap rowO) = A) && decide (cat (notW CUT) (((chg A B).map rD).filterMap rowO) = B))) = true
  rw [rows_back, decide_eq_true (chg_old A B), decide_eq_true (chg_new A B), Bool.and_true, Bool.and_true, List.all_map, List.all_eq_true]
  intro r hr
  exact run_row (G.ok r hr)
theorem lcs_rep (a : Nat) : ∀ n, lcs (List.replicate (n + 1) a) (List.replicate n a) = n
  | 0 => by
    rw [List.replicate_succ, List.replicate_zero, lcs_cnil]
  | n + 1 => by
    have ih := lcs_rep a n
    rw [List.replicate_succ (n := n + 1), List.replicate_succ (n := n)] at *
    rw [lcs_cons, if_pos rfl]
    rw [ih]
theorem plain_law : PlainLaw := by
  refine ⟨fun A B T => plain_f T, ?_⟩
  have h := steps_cost (List.replicate 200 97) (List.replicate 199 97)
  rw [lcs_rep 97 199, List.length_replicate, List.length_replicate] at h
  rw [(chg_grp _ _).cost]
  omega
end Law

set_option autoImplicit false
namespace Law
open PySem L2 DL
theorem law_true : ∀ ns : List Int, ns.length ≤ 63 → sd_law [.val (.scr ns)] fun r _ => r = .vl (.bl true) := fun ns h =>
  ⟨plain_law, ns, rfl, h, rfl⟩
end Law

set_option Elab.async false
set_option linter.all false
set_option maxRecDepth 100000
set_option maxHeartbeats 4000000
set_option autoImplicit false
namespace Law
open PySem L2 DL

theorem all_mk {l : PySem.W.OpenLaw} {w : World} {K : PySem.W.Frag} {h : Heap} {mg : Str → Option Value} {fa : Addr} (X : K.In h) (G : h.Ns mainGlobals mg) (hfa : mg "law" = some (.ref fa))
    {f0 : Addr} {od0 an0 : Option Addr} {sl0 : Array (Option Value)} {oc0 kV0 dc0 pm0 cd0 ct0 : Value}
    {f1 : Addr} {od1 an1 : Option Addr} {sl1 : Array (Option Value)} {oc1 kV1 dc1 pm1 cd1 ct1 : Value}
    {f2 : Addr} {od2 an2 : Option Addr} {sl2 : Array (Option Value)} {oc2 kV2 dc2 pm2 cd2 ct2 : Value}
    {f3 : Addr} {od3 an3 : Option Addr} {sl3 : Array (Option Value)} {oc3 kV3 dc3 pm3 cd3 ct3 : Value}
    {f4 : Addr} {od4 an4 : Option Addr} {sl4 : Array (Option Value)} {oc4 kV4 dc4 pm4 cd4 ct4 : Value}
    {f5 : Addr} {od5 an5 : Option Addr} {sl5 : Array (Option Value)} {oc5 kV5 dc5 pm5 cd5 ct5 : Value}
    {f6 : Addr} {od6 an6 : Option Addr} {sl6 : Array (Option Value)} {oc6 kV6 dc6 pm6 cd6 ct6 : Value}
    {f7 : Addr} {od7 an7 : Option Addr} {sl7 : Array (Option Value)} {oc7 kV7 dc7 pm7 cd7 ct7 : Value}
    {f8 : Addr} {od8 an8 : Option Addr} {sl8 : Array (Option Value)} {oc8 kV8 dc8 pm8 cd8 ct8 : Value}
    {f9 : Addr} {od9 an9 : Option Addr} {sl9 : Array (Option Value)} {oc9 kV9 dc9 pm9 cd9 ct9 : Value}
    {f10 : Addr} {od10 an10 : Option Addr} {sl10 : Array (Option Value)} {oc10 kV10 dc10 pm10 cd10 ct10 : Value}
    {f11 : Addr} {od11 an11 : Option Addr} {sl11 : Array (Option Value)} {oc11 kV11 dc11 pm11 cd11 ct11 : Value}
    {f12 : Addr} {od12 an12 : Option Addr} {sl12 : Array (Option Value)} {oc12 kV12 dc12 pm12 cd12 ct12 : Value}
    {f13 : Addr} {od13 an13 : Option Addr} {sl13 : Array (Option Value)} {oc13 kV13 dc13 pm13 cd13 ct13 : Value}
    {f14 : Addr} {od14 an14 : Option Addr} {sl14 : Array (Option Value)} {oc14 kV14 dc14 pm14 cd14 ct14 : Value}
    {f15 : Addr} {od15 an15 : Option Addr} {sl15 : Array (Option Value)} {oc15 kV15 dc15 pm15 cd15 ct15 : Value}
    {f16 : Addr} {od16 an16 : Option Addr} {sl16 : Array (Option Value)} {oc16 kV16 dc16 pm16 cd16 ct16 : Value}
    {f17 : Addr} {od17 an17 : Option Addr} {sl17 : Array (Option Value)} {oc17 kV17 dc17 pm17 cd17 ct17 : Value}
    {f18 : Addr} {od18 an18 : Option Addr} {sl18 : Array (Option Value)} {oc18 kV18 dc18 pm18 cd18 ct18 : Value}
    {f19 : Addr} {od19 an19 : Option Addr} {sl19 : Array (Option Value)} {oc19 kV19 dc19 pm19 cd19 ct19 : Value}
    {f20 : Addr} {od20 an20 : Option Addr} {sl20 : Array (Option Value)} {oc20 kV20 dc20 pm20 cd20 ct20 : Value}
    {C_PeerError : Addr} {C_Absent : Addr} {C_Barred : Addr} {C_NoText : Addr} {fi_NoText : Addr} {odi_NoText ani_NoText : Option Addr} {sli_NoText : Array (Option Value)} {oci_NoText kVi_NoText dci_NoText pmi_NoText cdi_NoText cti_NoText : Value}
    (a0 : PySem.W.nsIn K mainGlobals "is_text" = some (some (.ref f0))) (l0 : K.lookup f0 = some ⟨oc0, od0, .func (PySem.W.fnOf "is_text" "is_text" (defArgs s_is_text) (defBody s_is_text) (defScope s_is_text) .none kV0 dc0 pm0 an0 cd0 ct0), sl0⟩) (c0 : PySem.W.codeIn K cd0 "is_text" = true) (k0 : PySem.W.keepIn K (.ref f0) = true)
    (a1 : PySem.W.nsIn K mainGlobals "need_long" = some (some (.ref f1))) (l1 : K.lookup f1 = some ⟨oc1, od1, .func (PySem.W.fnOf "need_long" "need_long" (defArgs s_need_long) (defBody s_need_long) (defScope s_need_long) .none kV1 dc1 pm1 an1 cd1 ct1), sl1⟩) (c1 : PySem.W.codeIn K cd1 "need_long" = true) (k1 : PySem.W.keepIn K (.ref f1) = true)
    (a2 : PySem.W.nsIn K mainGlobals "common_table" = some (some (.ref f2))) (l2 : K.lookup f2 = some ⟨oc2, od2, .func (PySem.W.fnOf "common_table" "common_table" (defArgs s_common_table) (defBody s_common_table) (defScope s_common_table) .none kV2 dc2 pm2 an2 cd2 ct2), sl2⟩) (c2 : PySem.W.codeIn K cd2 "common_table" = true) (k2 : PySem.W.keepIn K (.ref f2) = true)
    (a3 : PySem.W.nsIn K mainGlobals "steps_between" = some (some (.ref f3))) (l3 : K.lookup f3 = some ⟨oc3, od3, .func (PySem.W.fnOf "steps_between" "steps_between" (defArgs s_steps_between) (defBody s_steps_between) (defScope s_steps_between) .none kV3 dc3 pm3 an3 cd3 ct3), sl3⟩) (c3 : PySem.W.codeIn K cd3 "steps_between" = true) (k3 : PySem.W.keepIn K (.ref f3) = true)
    (a4 : PySem.W.nsIn K mainGlobals "changes" = some (some (.ref f4))) (l4 : K.lookup f4 = some ⟨oc4, od4, .func (PySem.W.fnOf "changes" "changes" (defArgs s_changes) (defBody s_changes) (defScope s_changes) .none kV4 dc4 pm4 an4 cd4 ct4), sl4⟩) (c4 : PySem.W.codeIn K cd4 "changes" = true) (k4 : PySem.W.keepIn K (.ref f4) = true)
    (a5 : PySem.W.nsIn K mainGlobals "signs_changed" = some (some (.ref f5))) (l5 : K.lookup f5 = some ⟨oc5, od5, .func (PySem.W.fnOf "signs_changed" "signs_changed" (defArgs s_signs_changed) (defBody s_signs_changed) (defScope s_signs_changed) .none kV5 dc5 pm5 an5 cd5 ct5), sl5⟩) (c5 : PySem.W.codeIn K cd5 "signs_changed" = true) (k5 : PySem.W.keepIn K (.ref f5) = true)
    (a6 : PySem.W.nsIn K mainGlobals "fewest_signs" = some (some (.ref f6))) (l6 : K.lookup f6 = some ⟨oc6, od6, .func (PySem.W.fnOf "fewest_signs" "fewest_signs" (defArgs s_fewest_signs) (defBody s_fewest_signs) (defScope s_fewest_signs) .none kV6 dc6 pm6 an6 cd6 ct6), sl6⟩) (c6 : PySem.W.codeIn K cd6 "fewest_signs" = true) (k6 : PySem.W.keepIn K (.ref f6) = true)
    (a7 : PySem.W.nsIn K mainGlobals "is_run" = some (some (.ref f7))) (l7 : K.lookup f7 = some ⟨oc7, od7, .func (PySem.W.fnOf "is_run" "is_run" (defArgs s_is_run) (defBody s_is_run) (defScope s_is_run) .none kV7 dc7 pm7 an7 cd7 ct7), sl7⟩) (c7 : PySem.W.codeIn K cd7 "is_run" = true) (k7 : PySem.W.keepIn K (.ref f7) = true)
    (a8 : PySem.W.nsIn K mainGlobals "shows_changes" = some (some (.ref f8))) (l8 : K.lookup f8 = some ⟨oc8, od8, .func (PySem.W.fnOf "shows_changes" "shows_changes" (defArgs s_shows_changes) (defBody s_shows_changes) (defScope s_shows_changes) .none kV8 dc8 pm8 an8 cd8 ct8), sl8⟩) (c8 : PySem.W.codeIn K cd8 "shows_changes" = true) (k8 : PySem.W.keepIn K (.ref f8) = true)
    (a9 : PySem.W.nsIn K mainGlobals "_law_truth" = some (some (.ref f9))) (l9 : K.lookup f9 = some ⟨oc9, od9, .func (PySem.W.fnOf "_law_truth" "_law_truth" (defArgs s_l_truth) (defBody s_l_truth) (defScope s_l_truth) .none kV9 dc9 pm9 an9 cd9 ct9), sl9⟩) (c9 : PySem.W.codeIn K cd9 "_law_truth" = true) (k9 : PySem.W.keepIn K (.ref f9) = true)
    (a10 : PySem.W.nsIn K mainGlobals "_law_cell" = some (some (.ref f10))) (l10 : K.lookup f10 = some ⟨oc10, od10, .func (PySem.W.fnOf "_law_cell" "_law_cell" (defArgs s_l_cell) (defBody s_l_cell) (defScope s_l_cell) .none kV10 dc10 pm10 an10 cd10 ct10), sl10⟩) (c10 : PySem.W.codeIn K cd10 "_law_cell" = true) (k10 : PySem.W.keepIn K (.ref f10) = true)
    (a11 : PySem.W.nsIn K mainGlobals "_law_box" = some (some (.ref f11))) (l11 : K.lookup f11 = some ⟨oc11, od11, .func (PySem.W.fnOf "_law_box" "_law_box" (defArgs s_l_box) (defBody s_l_box) (defScope s_l_box) .none kV11 dc11 pm11 an11 cd11 ct11), sl11⟩) (c11 : PySem.W.codeIn K cd11 "_law_box" = true) (k11 : PySem.W.keepIn K (.ref f11) = true)
    (a12 : PySem.W.nsIn K mainGlobals "_law_take" = some (some (.ref f12))) (l12 : K.lookup f12 = some ⟨oc12, od12, .func (PySem.W.fnOf "_law_take" "_law_take" (defArgs s_l_take) (defBody s_l_take) (defScope s_l_take) .none kV12 dc12 pm12 an12 cd12 ct12), sl12⟩) (c12 : PySem.W.codeIn K cd12 "_law_take" = true) (k12 : PySem.W.keepIn K (.ref f12) = true)
    (a13 : PySem.W.nsIn K mainGlobals "_law_drawn" = some (some (.ref f13))) (l13 : K.lookup f13 = some ⟨oc13, od13, .func (PySem.W.fnOf "_law_drawn" "_law_drawn" (defArgs s_l_drawn) (defBody s_l_drawn) (defScope s_l_drawn) .none kV13 dc13 pm13 an13 cd13 ct13), sl13⟩) (c13 : PySem.W.codeIn K cd13 "_law_drawn" = true) (k13 : PySem.W.keepIn K (.ref f13) = true)
    (a14 : PySem.W.nsIn K mainGlobals "_law_changed" = some (some (.ref f14))) (l14 : K.lookup f14 = some ⟨oc14, od14, .func (PySem.W.fnOf "_law_changed" "_law_changed" (defArgs s_l_changed) (defBody s_l_changed) (defScope s_l_changed) .none kV14 dc14 pm14 an14 cd14 ct14), sl14⟩) (c14 : PySem.W.codeIn K cd14 "_law_changed" = true) (k14 : PySem.W.keepIn K (.ref f14) = true)
    (a15 : PySem.W.nsIn K mainGlobals "_law_common" = some (some (.ref f15))) (l15 : K.lookup f15 = some ⟨oc15, od15, .func (PySem.W.fnOf "_law_common" "_law_common" (defArgs s_l_common) (defBody s_l_common) (defScope s_l_common) .none kV15 dc15 pm15 an15 cd15 ct15), sl15⟩) (c15 : PySem.W.codeIn K cd15 "_law_common" = true) (k15 : PySem.W.keepIn K (.ref f15) = true)
    (a16 : PySem.W.nsIn K mainGlobals "_law_is_change" = some (some (.ref f16))) (l16 : K.lookup f16 = some ⟨oc16, od16, .func (PySem.W.fnOf "_law_is_change" "_law_is_change" (defArgs s_l_is_change) (defBody s_l_is_change) (defScope s_l_is_change) .none kV16 dc16 pm16 an16 cd16 ct16), sl16⟩) (c16 : PySem.W.codeIn K cd16 "_law_is_change" = true) (k16 : PySem.W.keepIn K (.ref f16) = true)
    (a17 : PySem.W.nsIn K mainGlobals "_law_things" = some (some (.ref f17))) (l17 : K.lookup f17 = some ⟨oc17, od17, .func (PySem.W.fnOf "_law_things" "_law_things" (defArgs s_l_things) (defBody s_l_things) (defScope s_l_things) .none kV17 dc17 pm17 an17 cd17 ct17), sl17⟩) (c17 : PySem.W.codeIn K cd17 "_law_things" = true) (k17 : PySem.W.keepIn K (.ref f17) = true)
    (a18 : PySem.W.nsIn K mainGlobals "_law_right" = some (some (.ref f18))) (l18 : K.lookup f18 = some ⟨oc18, od18, .func (PySem.W.fnOf "_law_right" "_law_right" (defArgs s_l_right) (defBody s_l_right) (defScope s_l_right) .none kV18 dc18 pm18 an18 cd18 ct18), sl18⟩) (c18 : PySem.W.codeIn K cd18 "_law_right" = true) (k18 : PySem.W.keepIn K (.ref f18) = true)
    (a19 : PySem.W.nsIn K mainGlobals "_law_refused" = some (some (.ref f19))) (l19 : K.lookup f19 = some ⟨oc19, od19, .func (PySem.W.fnOf "_law_refused" "_law_refused" (defArgs s_l_refused) (defBody s_l_refused) (defScope s_l_refused) .none kV19 dc19 pm19 an19 cd19 ct19), sl19⟩) (c19 : PySem.W.codeIn K cd19 "_law_refused" = true) (k19 : PySem.W.keepIn K (.ref f19) = true)
    (a20 : PySem.W.nsIn K mainGlobals "law" = some (some (.ref f20))) (l20 : K.lookup f20 = some ⟨oc20, od20, .func (PySem.W.fnOf "law" "law" (defArgs s_law) (defBody s_law) (defScope s_law) .none kV20 dc20 pm20 an20 cd20 ct20), sl20⟩) (c20 : PySem.W.codeIn K cd20 "law" = true) (k20 : PySem.W.keepIn K (.ref f20) = true)
    (z_all : PySem.W.nsIn K mainGlobals "all" = some none) (z_bool : PySem.W.nsIn K mainGlobals "bool" = some none) (z_enumerate : PySem.W.nsIn K mainGlobals "enumerate" = some none) (z_int : PySem.W.nsIn K mainGlobals "int" = some none) (z_isinstance : PySem.W.nsIn K mainGlobals "isinstance" = some none) (z_len : PySem.W.nsIn K mainGlobals "len" = some none) (z_list : PySem.W.nsIn K mainGlobals "list" = some none) (z_max : PySem.W.nsIn K mainGlobals "max" = some none) (z_min : PySem.W.nsIn K mainGlobals "min" = some none) (z_ord : PySem.W.nsIn K mainGlobals "ord" = some none) (z_range : PySem.W.nsIn K mainGlobals "range" = some none) (z_repr : PySem.W.nsIn K mainGlobals "repr" = some none) (z_str : PySem.W.nsIn K mainGlobals "str" = some none) (z_sum : PySem.W.nsIn K mainGlobals "sum" = some none) (z_tuple : PySem.W.nsIn K mainGlobals "tuple" = some none) (z_zip : PySem.W.nsIn K mainGlobals "zip" = some none)
    {u_ADD : Value} (y_ADD : PySem.W.nsIn K mainGlobals "ADD" = some (some u_ADD)) (r_ADD : RelV (.str "add") u_ADD) {u_CUT : Value} (y_CUT : PySem.W.nsIn K mainGlobals "CUT" = some (some u_CUT)) (r_CUT : RelV (.str "cut") u_CUT) {u_KEEP : Value} (y_KEEP : PySem.W.nsIn K mainGlobals "KEEP" = some (some u_KEEP)) (r_KEEP : RelV (.str "keep") u_KEEP) {u_MOST_LONG : Value} (y_MOST_LONG : PySem.W.nsIn K mainGlobals "MOST_LONG" = some (some u_MOST_LONG)) (r_MOST_LONG : RelV (.int 200) u_MOST_LONG) {u_MOST_SIGNS : Value} (y_MOST_SIGNS : PySem.W.nsIn K mainGlobals "MOST_SIGNS" = some (some u_MOST_SIGNS)) (r_MOST_SIGNS : RelV (.int 60) u_MOST_SIGNS) {u_PER_CENT : Value} (y_PER_CENT : PySem.W.nsIn K mainGlobals "PER_CENT" = some (some u_PER_CENT)) (r_PER_CENT : RelV (.int 37) u_PER_CENT)
    (ac_PeerError : PySem.W.nsIn K mainGlobals "PeerError" = some (some (.ref C_PeerError)))
    (ac_Absent : PySem.W.nsIn K mainGlobals "Absent" = some (some (.ref C_Absent)))
    (ac_Barred : PySem.W.nsIn K mainGlobals "Barred" = some (some (.ref C_Barred)))
    (ac_NoText : PySem.W.nsIn K mainGlobals "NoText" = some (some (.ref C_NoText)))
    (vb_NoText : veB K C_NoText = true)
    (sa_NoText : PySem.W.findIn K (.ref C_NoText) "__setattr__" = some (some (.builtin "object.__setattr__")))
    (ex_NoText : PySem.W.subIn K (.ref C_NoText) (.type "BaseException") = some true)
    (ty_NoText : PySem.W.typeIn K (.ref C_NoText) = some (.type "type"))
    (kc_NoText : PySem.W.keepIn K (.ref C_NoText) = true)
    (xf_NoText : xfB K C_NoText = true)
    (no_NoText : PySem.W.findIn K (.ref C_NoText) "found" = some none)
    (ic_NoText : PySem.W.findIn K (.ref C_NoText) "__init__" = some (some (.ref fi_NoText)))
    (ti_NoText : PySem.W.typeIn K (.ref fi_NoText) = some (.type "function"))
    (li_NoText : K.lookup fi_NoText = some ⟨oci_NoText, odi_NoText, .func (PySem.W.fnOf "__init__" "NoText.__init__" (defArgs si_NoText) (defBody si_NoText) (defScope si_NoText) .none kVi_NoText dci_NoText pmi_NoText ani_NoText cdi_NoText cti_NoText), sli_NoText⟩)
    (cc_NoText : PySem.W.codeIn K cdi_NoText "NoText.__init__" = true)
    (ki_NoText : PySem.W.keepIn K (.ref fi_NoText) = true)
    (rd_PeerError : PySem.W.readsIn K C_PeerError (.type "type") = true)
    (ga_PeerError : PySem.W.specialIn K (.ref C_PeerError) "__getattribute__" = some (some (.builtin "type.__getattribute__")))
    (at_PeerError : PySem.W.findCls K (.ref C_PeerError) (.type "type") "__init__" = some (.val (.builtin "ValueError.__init__")))
    (ie_NoText_NoText : PySem.W.exmOne K (.ref C_NoText) (.ref C_NoText) = some true) :
    ∃ fd : FuncData, (∀ (s : Shared) (v : Value), BindsTo s fd ⟨[v], []⟩ [("script", v)]) ∧ ∀ base : Heap, K.In base → base.Ns mainGlobals mg → FnG l.prog w K mg base CX0 7 fa fd ["script"] (spD K sd_law) := by
  have e := hfa.symm.trans (PySem.W.mg_of X G a20)
  cases e
  have T : Txt K mg (fun i => ([.ref C_PeerError, .ref C_Absent, .ref C_Barred, .ref C_NoText] : List Value).getD i .none) (fun i => ([f4, f6] : List Addr).getD i f0) := ⟨PySem.W.mg_none_of X G z_all, PySem.W.mg_none_of X G z_bool, PySem.W.mg_none_of X G z_enumerate, PySem.W.mg_none_of X G z_int, PySem.W.mg_none_of X G z_isinstance, PySem.W.mg_none_of X G z_len, PySem.W.mg_none_of X G z_list, PySem.W.mg_none_of X G z_max, PySem.W.mg_none_of X G z_min, PySem.W.mg_none_of X G z_ord, PySem.W.mg_none_of X G z_range, PySem.W.mg_none_of X G z_repr, PySem.W.mg_none_of X G z_str, PySem.W.mg_none_of X G z_sum, PySem.W.mg_none_of X G z_tuple, PySem.W.mg_none_of X G z_zip, ⟨_, PySem.W.mg_of X G y_ADD, r_ADD⟩, ⟨_, PySem.W.mg_of X G y_CUT, r_CUT⟩, ⟨_, PySem.W.mg_of X G y_KEEP, r_KEEP⟩, ⟨_, PySem.W.mg_of X G y_MOST_LONG, r_MOST_LONG⟩, ⟨_, PySem.W.mg_of X G y_MOST_SIGNS, r_MOST_SIGNS⟩, ⟨_, PySem.W.mg_of X G y_PER_CENT, r_PER_CENT⟩, PySem.W.mg_of X G ac_PeerError, PySem.W.mg_of X G ac_NoText, ⟨PySem.W.mg_of X G a4, k4⟩, ⟨PySem.W.mg_of X G a6, k6⟩⟩
  refine ⟨PySem.W.fnOf "law" "law" (defArgs s_law) (defBody s_law) (defScope s_law) .none kV20 dc20 pm20 an20 cd20 ct20, fun s v => .of_eq rfl, fun base _ _ => ?_⟩
  have isa : isaOk K (fun i => ([.ref C_PeerError, .ref C_Absent, .ref C_Barred, .ref C_NoText] : List Value).getD i .none) isaT := by
    intro x y b h
    match x, y, h with
    | 0, y, h => exact (match y, h with | 0, h => nomatch h | 1, h => nomatch h | 2, h => nomatch h | 3, h => nomatch h | n + 4, h => nomatch h)
    | 1, y, h => exact (match y, h with | 0, h => nomatch h | 1, h => nomatch h | 2, h => nomatch h | 3, h => nomatch h | n + 4, h => nomatch h)
    | 2, y, h => exact (match y, h with | 0, h => nomatch h | 1, h => nomatch h | 2, h => nomatch h | 3, h => nomatch h | n + 4, h => nomatch h)
    | 3, y, h => exact (match y, h with | 0, h => nomatch h | 1, h => nomatch h | 2, h => nomatch h | 3, h => by cases h; exact ie_NoText_NoText | n + 4, h => nomatch h)
    | n + 4, y, h => exact nomatch h
  have F_NoText := fun_mk (st := si_NoText) li_NoText cc_NoText ki_NoText
  have XT : XTxt l.prog w K mg (fun i => ([.ref C_PeerError, .ref C_Absent, .ref C_Barred, .ref C_NoText] : List Value).getD i .none) base := ⟨isa, ⟨_, rfl, xcl_VE (PySem.W.mg_of X G ac_NoText) ⟨veB_ok vb_NoText, sa_NoText, ex_NoText, ty_NoText, kc_NoText⟩ (xfB_ok xf_NoText) no_NoText ic_NoText ti_NoText (xi_NoText ⟨rd_PeerError, ga_PeerError, at_PeerError⟩ (PySem.W.mg_of X G ac_PeerError) F_NoText) (F_NoText.binds (ps := ["self", "found"]) fun _ _ _ _ _ _ us hl => match us, hl with | [_, _], _ => rfl) (by decide)⟩⟩
  have c_is_text : Cal l.prog w K mg base "is_text" s_is_text 1 ["thing"] sd_is_text := k_is_text T  (fun_mk (st := s_is_text) l0 c0 k0) (PySem.W.mg_of X G a0) len_is_text sp_is_text
  have c_need_long : CalX l.prog w K mg (fun i => ([.ref C_PeerError, .ref C_Absent, .ref C_Barred, .ref C_NoText] : List Value).getD i .none) base "need_long" s_need_long 3 ["text"] sd_need_long := k_need_long T XT c_is_text (fun_mk (st := s_need_long) l1 c1 k1) (PySem.W.mg_of X G a1) len_need_long sp_need_long
  have c_common_table : Cal l.prog w K mg base "common_table" s_common_table 1 ["old", "new"] sd_common_table := k_common_table T  (fun_mk (st := s_common_table) l2 c2 k2) (PySem.W.mg_of X G a2) len_common_table sp_common_table
  have c_steps_between : Cal l.prog w K mg base "steps_between" s_steps_between 2 ["old", "new"] sd_steps_between := k_steps_between T c_common_table (fun_mk (st := s_steps_between) l3 c3 k3) (PySem.W.mg_of X G a3) len_steps_between sp_steps_between
  have c_changes : CalX l.prog w K mg (fun i => ([.ref C_PeerError, .ref C_Absent, .ref C_Barred, .ref C_NoText] : List Value).getD i .none) base "changes" s_changes 4 ["old", "new"] sd_changes := k_changes T XT c_need_long c_steps_between (fun_mk (st := s_changes) l4 c4 k4) (PySem.W.mg_of X G a4) len_changes sp_changes
  have c_signs_changed : Cal l.prog w K mg base "signs_changed" s_signs_changed 1 ["rows"] sd_signs_changed := k_signs_changed T  (fun_mk (st := s_signs_changed) l5 c5 k5) (PySem.W.mg_of X G a5) len_signs_changed sp_signs_changed
  have c_fewest_signs : CalX l.prog w K mg (fun i => ([.ref C_PeerError, .ref C_Absent, .ref C_Barred, .ref C_NoText] : List Value).getD i .none) base "fewest_signs" s_fewest_signs 5 ["old", "new"] sd_fewest_signs := k_fewest_signs T XT c_changes c_signs_changed (fun_mk (st := s_fewest_signs) l6 c6 k6) (PySem.W.mg_of X G a6) len_fewest_signs sp_fewest_signs
  have c_is_run : Cal l.prog w K mg base "is_run" s_is_run 1 ["thing"] sd_is_run := k_is_run T  (fun_mk (st := s_is_run) l7 c7 k7) (PySem.W.mg_of X G a7) len_is_run sp_is_run
  have c_shows_changes : CalX l.prog w K mg (fun i => ([.ref C_PeerError, .ref C_Absent, .ref C_Barred, .ref C_NoText] : List Value).getD i .none) base "shows_changes" s_shows_changes 4 ["old", "new", "thing"] sd_shows_changes := k_shows_changes T XT c_need_long c_is_run (fun_mk (st := s_shows_changes) l8 c8 k8) (PySem.W.mg_of X G a8) len_shows_changes sp_shows_changes
  have c_l_truth : Cal l.prog w K mg base "_law_truth" s_l_truth 1 ["told", "due"] sd_l_truth := k_l_truth T  (fun_mk (st := s_l_truth) l9 c9 k9) (PySem.W.mg_of X G a9) len_l_truth sp_l_truth
  have c_l_cell : Cal l.prog w K mg base "_law_cell" s_l_cell 1 ["script", "k"] sd_l_cell := k_l_cell T  (fun_mk (st := s_l_cell) l10 c10 k10) (PySem.W.mg_of X G a10) len_l_cell sp_l_cell
  have c_l_box : Cal l.prog w K mg base "_law_box" s_l_box 1 ["cell"] sd_l_box := k_l_box T  (fun_mk (st := s_l_box) l11 c11 k11) (PySem.W.mg_of X G a11) len_l_box sp_l_box
  have c_l_take : Cal l.prog w K mg base "_law_take" s_l_take 1 ["box", "many"] sd_l_take := k_l_take T  (fun_mk (st := s_l_take) l12 c12 k12) (PySem.W.mg_of X G a12) len_l_take sp_l_take
  have c_l_drawn : Cal l.prog w K mg base "_law_drawn" s_l_drawn 2 ["box", "size"] sd_l_drawn := k_l_drawn T c_l_take (fun_mk (st := s_l_drawn) l13 c13 k13) (PySem.W.mg_of X G a13) len_l_drawn sp_l_drawn
  have c_l_changed : Cal l.prog w K mg base "_law_changed" s_l_changed 2 ["box", "text"] sd_l_changed := k_l_changed T c_l_take (fun_mk (st := s_l_changed) l14 c14 k14) (PySem.W.mg_of X G a14) len_l_changed sp_l_changed
  have c_l_common : Cal l.prog w K mg base "_law_common" s_l_common 1 ["old", "new"] sd_l_common := k_l_common T  (fun_mk (st := s_l_common) l15 c15 k15) (PySem.W.mg_of X G a15) len_l_common sp_l_common
  have c_l_is_change : Cal l.prog w K mg base "_law_is_change" s_l_is_change 1 ["old", "new", "thing"] sd_l_is_change := k_l_is_change T  (fun_mk (st := s_l_is_change) l16 c16 k16) (PySem.W.mg_of X G a16) len_l_is_change sp_l_is_change
  have c_l_things : Cal l.prog w K mg base "_law_things" s_l_things 2 ["box", "old", "new", "told"] sd_l_things := k_l_things T c_l_take (fun_mk (st := s_l_things) l17 c17 k17) (PySem.W.mg_of X G a17) len_l_things sp_l_things
  have c_l_right : Cal l.prog w K mg base "_law_right" s_l_right 6 ["box", "old", "new"] sd_l_right := k_l_right T c_changes c_fewest_signs c_shows_changes c_l_truth c_l_common c_l_is_change c_l_things (fun_mk (st := s_l_right) l18 c18 k18) (PySem.W.mg_of X G a18) len_l_right sp_l_right
  have c_l_refused : CalX l.prog w K mg (fun i => ([.ref C_PeerError, .ref C_Absent, .ref C_Barred, .ref C_NoText] : List Value).getD i .none) base "_law_refused" s_l_refused 6 ["box"] sd_l_refused := k_l_refused T XT c_changes c_fewest_signs c_shows_changes c_l_take (fun_mk (st := s_l_refused) l19 c19 k19) (PySem.W.mg_of X G a19) len_l_refused sp_l_refused
  exact FunG.ok (FunG.of (fun_mk (st := s_law) l20 c20 k20)) sc_law len_law (fun cdv A outer s H E hgd hr => d_law T c_l_cell c_l_box c_l_take c_l_drawn c_l_changed c_l_right c_l_refused hgd hr) sp_law

theorem walk {l : PySem.W.OpenLaw} {q : Program} {loose : List Str} {XP : (Str → Option Value) → Heap → Prop} {YP : World → Heap → Prop} {d : DefRec} {K : Params → PySem.W.Frag} (hn : l.most = some 63) (hdf : d.params.defaults = [])
    (hY : ∀ (w : World) (h : Heap), YP w h → (K w.params).In h)
    (F : ∀ (w : World) (mg : Str → Option Value) (fa : Addr) (h : Heap), (K w.params).In h → h.Ns mainGlobals mg → mg d.name = some (.ref fa) →
      ∃ fd : FuncData, (∀ (s : Shared) (u : Value), BindsTo s fd ⟨[u], []⟩ [("script", u)]) ∧ ∀ base : Heap, (K w.params).In base → base.Ns mainGlobals mg → FnG l.prog w (K w.params) mg base CX0 7 fa fd ["script"] (spD (K w.params) sd_law)) :
    PySem.W.WalkO q loose XP YP l.row.toRowW d [] (fun f vs => PySem.call f vs) :=
  walkG (n := 63) hn (by decide) hdf ⟨rfl, by decide, by decide⟩ hY F law_true
end Law
open PySem PySem.W PyProof.Rows
set_option maxRecDepth 100000 in
set_option maxHeartbeats 0 in
theorem PySem.Challenge.cw_peershold_k96_whole_fewest_signs_changed_holds : PySem.Challenge.rw_peershold_k96_whole_fewest_signs_changed.Holds := by
  w_on; o_law; k_head; (case hw => w_witness2)
  k_fill
  refine Law.walk (l := PySem.Challenge.rw_peershold_k96_whole_fewest_signs_changed) rfl rfl (fun w h Y => PySem.W.kIn_of Y) ?F
  case F =>
    intro w mg fa h KX G hmg
    refine' Law.all_mk KX G hmg ?a0 ?l0 ?c0 ?k0 ?a1 ?l1 ?c1 ?k1 ?a2 ?l2 ?c2 ?k2 ?a3 ?l3 ?c3 ?k3 ?a4 ?l4 ?c4 ?k4 ?a5 ?l5 ?c5 ?k5 ?a6 ?l6 ?c6 ?k6 ?a7 ?l7 ?c7 ?k7 ?a8 ?l8 ?c8 ?k8 ?a9 ?l9 ?c9 ?k9 ?a10 ?l10 ?c10 ?k10 ?a11 ?l11 ?c11 ?k11 ?a12 ?l12 ?c12 ?k12 ?a13 ?l13 ?c13 ?k13 ?a14 ?l14 ?c14 ?k14 ?a15 ?l15 ?c15 ?k15 ?a16 ?l16 ?c16 ?k16 ?a17 ?l17 ?c17 ?k17 ?a18 ?l18 ?c18 ?k18 ?a19 ?l19 ?c19 ?k19 ?a20 ?l20 ?c20 ?k20 ?z_all ?z_bool ?z_enumerate ?z_int ?z_isinstance ?z_len ?z_list ?z_max ?z_min ?z_ord ?z_range ?z_repr ?z_str ?z_sum ?z_tuple ?z_zip ?y_ADD ?r_ADD ?y_CUT ?r_CUT ?y_KEEP ?r_KEEP ?y_MOST_LONG ?r_MOST_LONG ?y_MOST_SIGNS ?r_MOST_SIGNS ?y_PER_CENT ?r_PER_CENT ?ac_PeerError ?ac_Absent ?ac_Barred ?ac_NoText ?vb_NoText ?sa_NoText ?ex_NoText ?ty_NoText ?kc_NoText ?xf_NoText ?no_NoText ?ic_NoText ?ti_NoText ?li_NoText ?cc_NoText ?ki_NoText ?rd_PeerError ?ga_PeerError ?at_PeerError ?ie_NoText_NoText
    (case a0 => k_is); (case l0 => k_is); (case c0 => k_is); (case k0 => k_is); (case a1 => k_is); (case l1 => k_is); (case c1 => k_is); (case k1 => k_is); (case a2 => k_is); (case l2 => k_is); (case c2 => k_is); (case k2 => k_is); (case a3 => k_is); (case l3 => k_is); (case c3 => k_is); (case k3 => k_is); (case a4 => k_is); (case l4 => k_is); (case c4 => k_is); (case k4 => k_is); (case a5 => k_is); (case l5 => k_is); (case c5 => k_is); (case k5 => k_is); (case a6 => k_is); (case l6 => k_is); (case c6 => k_is); (case k6 => k_is); (case a7 => k_is); (case l7 => k_is); (case c7 => k_is); (case k7 => k_is); (case a8 => k_is); (case l8 => k_is); (case c8 => k_is); (case k8 => k_is); (case a9 => k_is); (case l9 => k_is); (case c9 => k_is); (case k9 => k_is); (case a10 => k_is); (case l10 => k_is); (case c10 => k_is); (case k10 => k_is); (case a11 => k_is); (case l11 => k_is); (case c11 => k_is); (case k11 => k_is); (case a12 => k_is); (case l12 => k_is); (case c12 => k_is); (case k12 => k_is); (case a13 => k_is); (case l13 => k_is); (case c13 => k_is); (case k13 => k_is); (case a14 => k_is); (case l14 => k_is); (case c14 => k_is); (case k14 => k_is); (case a15 => k_is); (case l15 => k_is); (case c15 => k_is); (case k15 => k_is); (case a16 => k_is); (case l16 => k_is); (case c16 => k_is); (case k16 => k_is); (case a17 => k_is); (case l17 => k_is); (case c17 => k_is); (case k17 => k_is); (case a18 => k_is); (case l18 => k_is); (case c18 => k_is); (case k18 => k_is); (case a19 => k_is); (case l19 => k_is); (case c19 => k_is); (case k19 => k_is); (case a20 => k_is); (case l20 => k_is); (case c20 => k_is); (case k20 => k_is); (case z_all => k_is); (case z_bool => k_is); (case z_enumerate => k_is); (case z_int => k_is); (case z_isinstance => k_is); (case z_len => k_is); (case z_list => k_is); (case z_max => k_is); (case z_min => k_is); (case z_ord => k_is); (case z_range => k_is); (case z_repr => k_is); (case z_str => k_is); (case z_sum => k_is); (case z_tuple => k_is); (case z_zip => k_is); (case y_ADD => k_is); (case r_ADD => exact ⟨_, rfl⟩); (case y_CUT => k_is); (case r_CUT => exact ⟨_, rfl⟩); (case y_KEEP => k_is); (case r_KEEP => exact ⟨_, rfl⟩); (case y_MOST_LONG => k_is); (case r_MOST_LONG => exact ⟨_, rfl⟩); (case y_MOST_SIGNS => k_is); (case r_MOST_SIGNS => exact ⟨_, rfl⟩); (case y_PER_CENT => k_is); (case r_PER_CENT => exact ⟨_, rfl⟩); (case ac_PeerError => k_is); (case ac_Absent => k_is); (case ac_Barred => k_is); (case ac_NoText => k_is); (case vb_NoText => first | rfl | kernel_rfl); (case sa_NoText => k_is); (case ex_NoText => k_is); (case ty_NoText => k_is); (case kc_NoText => k_is); (case xf_NoText => first | rfl | kernel_rfl); (case no_NoText => k_is); (case ic_NoText => k_is); (case ti_NoText => k_is); (case li_NoText => k_is); (case cc_NoText => k_is); (case ki_NoText => k_is); (case rd_PeerError => k_is); (case ga_PeerError => k_is); (case at_PeerError => k_is); (case ie_NoText_NoText => first | rfl | kernel_rfl)
