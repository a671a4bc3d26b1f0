import PyProof.Rows.All
import Wide.All
import OpenK.AllK
import Wide.FinOn
import HandS.ForMost
import HandS.Evl
import HandS.Wide
import HandS.TupLe
import HandS.TupAny
import HandS.IsInst
import HandS.Strs
import HandS.SortInts
import HandS.StrMore
import HandS.NoneIn
import HandS.DictComp
import HandS.Replace
import HandS.Style
import HandS.Deep
import HandS.TupSets
import PyProof.ReprRoads
import PyProof.FitsInt
import KE.GoesEnum
import HandS.ForExc
import HandS.ExcInit
import HandS.ExcField
import HandS.WordsExc
import KE.KExcInit
import HandS.Iter
import KE.KRevSl
import PyProof.SliceStr2
import PyProof.EnumMake
import PyProof.Draws
import HandS.MakeKwOnly
import HandS.SetBool
import HandS.SetKeys
import HandS.Comp
import PyProof.Rows.SortShellAny
import HandS.Conv
import HandS.Zip
import KE.GoesZip
import KE.GoesMore
import PyProof.ListStr
import PyProof.TupleOfStr
import KE.IntTextLaws
import PySem.Challenge.RW_peershold_k91_edits_read
set_option Elab.async false
set_option linter.all false
set_option maxRecDepth 100000
set_option maxHeartbeats 4000000
set_option autoImplicit false
/-! DL1: data trees over the hand layer: values as trees, slots, states, what an expression and a statement come to. -/
namespace DL
open PySem L2 Evl

inductive D where
  | non | bl (b : Bool) | int (i : Int) | str (x : Str) | lst (xs : List D) | tup (xs : List D) | dic (kvs : List (Key × D)) | scr (ns : List Int)
  | fn (a : Addr) | obj (C : Addr) (fs : List (Str × D)) | exc (a dd : Addr) (fs : List (Str × D))

mutual
inductive Rep (K : PySem.W.Frag) (F : Hp) : V → D → Prop
  | non : Rep K F .non .non
  | bl (b : Bool) : Rep K F (.bl b) (.bl b)
  | int (i : Int) : Rep K F (.int i) (.int i)
  | str (x : Str) : PyData.strOk x = true → Rep K F (.str x) (.str x)
  | lst {a : Addr} {vs : List V} {ds : List D} : F a = some (.lst vs) → RepL K F vs ds → Rep K F (.ref a) (.lst ds)
  | tup {a : Addr} {vs : List V} {ds : List D} : SqT K F a vs → RepL K F vs ds → Rep K F (.ref a) (.tup ds)
  | dic {a : Addr} {kvs : List (Key × V)} {ks : List (Key × D)} : F a = some (.dK kvs) → kvs.map (·.1) = ks.map (·.1) → RepL K F (kvs.map (·.2)) (ks.map (·.2)) → Rep K F (.ref a) (.dic ks)
  | scr {a : Addr} {ns : List Int} : SqL K F a (ns.map V.int) → Rep K F (.ref a) (.scr ns)
  | fn (a : Addr) : PySem.W.keepIn K (.ref a) = true → Rep K F (.ref a) (.fn a)
  | obj {a C dx : Addr} {kvs : List (Str × V)} {fs : List (Str × D)} : F a = some (.ins C dx kvs) → kvs.map (·.1) = fs.map (·.1) → RepL K F (kvs.map (·.2)) (fs.map (·.2)) → Rep K F (.ref a) (.obj C fs)
  | exc {a dd : Addr} {kvs : List (Str × V)} {fs : List (Str × D)} : F dd = some (.xd kvs) → kvs.map (·.1) = fs.map (·.1) → RepL K F (kvs.map (·.2)) (fs.map (·.2)) → Rep K F (.ref a) (.exc a dd fs)
inductive RepL (K : PySem.W.Frag) (F : Hp) : List V → List D → Prop
  | nil : RepL K F [] []
  | cons {v : V} {vs : List V} {d : D} {ds : List D} : Rep K F v d → RepL K F vs ds → RepL K F (v :: vs) (d :: ds)
end

section
variable {K : PySem.W.Frag} {F F' H : Hp}
mutual
theorem Rep.mono (e : Ex F F') : ∀ {v : V} {d : D}, Rep K F v d → Rep K F' v d
  | _, _, .non => .non
  | _, _, .bl b => .bl b
  | _, _, .int i => .int i
  | _, _, .str x h => .str x h
  | _, _, .lst h r => .lst (e _ _ h) (RepL.mono e r)
  | _, _, .tup h r => .tup (ex_t e h) (RepL.mono e r)
  | _, _, .dic h k r => .dic (e _ _ h) k (RepL.mono e r)
  | _, _, .scr h => .scr (ex_l e h)
  | _, _, .fn a h => .fn a h
  | _, _, .obj h k r => .obj (e _ _ h) k (RepL.mono e r)
  | _, _, .exc h k r => .exc (e _ _ h) k (RepL.mono e r)
theorem RepL.mono (e : Ex F F') : ∀ {vs : List V} {ds : List D}, RepL K F vs ds → RepL K F' vs ds
  | _, _, .nil => .nil
  | _, _, .cons a b => .cons (Rep.mono e a) (RepL.mono e b)
end
theorem RepL.length : ∀ {vs : List V} {ds : List D}, RepL K F vs ds → vs.length = ds.length
  | _, _, .nil => rfl
  | _, _, .cons _ r => congrArg (· + 1) (RepL.length r)
theorem RepL.get : ∀ {vs : List V} {ds : List D} {i : Nat} {d : D}, RepL K F vs ds → ds[i]? = some d → ∃ v, vs[i]? = some v ∧ Rep K F v d
  | _, _, _, _, .nil, e => by simp at e
  | _, _, 0, _, .cons a _, e => by simp at e; subst e; exact ⟨_, rfl, a⟩
  | _, _, i + 1, _, .cons _ r, e => by
    obtain ⟨v, h1, h2⟩ := RepL.get (i := i) r (by simpa using e)
    exact ⟨v, by simpa using h1, h2⟩
theorem RepL.getV : ∀ {vs : List V} {ds : List D} {i : Nat} {v : V}, RepL K F vs ds → vs[i]? = some v → ∃ d, ds[i]? = some d ∧ Rep K F v d
  | _, _, _, _, .nil, e => by simp at e
  | _, _, 0, _, .cons a _, e => by simp at e; subst e; exact ⟨_, rfl, a⟩
  | _, _, i + 1, _, .cons _ r, e => by
    obtain ⟨v, h1, h2⟩ := RepL.getV (i := i) r (by simpa using e)
    exact ⟨v, by simpa using h1, h2⟩
theorem RepL.append : ∀ {vs ws : List V} {ds es : List D}, RepL K F vs ds → RepL K F ws es → RepL K F (vs ++ ws) (ds ++ es)
  | _, _, _, _, .nil, s => s
  | _, _, _, _, .cons a r, s => .cons a (RepL.append r s)
theorem RepL.take : ∀ {vs : List V} {ds : List D} (n : Nat), RepL K F vs ds → RepL K F (vs.take n) (ds.take n)
  | _, _, 0, _ => by simp; exact .nil
  | _, _, _ + 1, .nil => by simp; exact .nil
  | _, _, n + 1, .cons a r => by simp; exact .cons a (RepL.take n r)
theorem RepL.drop : ∀ {vs : List V} {ds : List D} (n : Nat), RepL K F vs ds → RepL K F (vs.drop n) (ds.drop n)
  | _, _, 0, r => by simpa using r
  | _, _, _ + 1, .nil => by simp; exact .nil
  | _, _, n + 1, .cons _ r => by simpa using RepL.drop n r
theorem RepL.set {v : V} {d : D} (a : Rep K F v d) : ∀ {vs : List V} {ds : List D} (i : Nat), RepL K F vs ds → RepL K F (vs.set i v) (ds.set i d)
  | _, _, _, .nil => by simp; exact .nil
  | _, _, 0, .cons _ r => by simp; exact .cons a r
  | _, _, i + 1, .cons b r => by simp; exact .cons b (RepL.set a i r)
theorem RepL.reverse : ∀ {vs : List V} {ds : List D}, RepL K F vs ds → RepL K F vs.reverse ds.reverse
  | _, _, .nil => by simp; exact .nil
  | _, _, .cons a r => by simp; exact RepL.append (RepL.reverse r) (.cons a .nil)
theorem RepL.ints : ∀ {vs : List V} {ns : List Int}, RepL K F vs (ns.map D.int) → vs = ns.map V.int
  | _, [], .nil => rfl
  | _, _ :: _, .cons (.int _) r => by rw [RepL.ints r]; rfl
theorem RepL.strs : ∀ {vs : List V} {ns : List Str}, RepL K F vs (ns.map D.str) → vs = ns.map V.str
  | _, [], .nil => rfl
  | _, _ :: _, .cons (.str _ _) r => by rw [RepL.strs r]; rfl
theorem RepL.bls : ∀ {vs : List V} {ns : List Bool}, RepL K F vs (ns.map D.bl) → vs = ns.map V.bl
  | _, [], .nil => rfl
  | _, _ :: _, .cons (.bl _) r => by rw [RepL.bls r]; rfl
theorem RepL.ofInts : ∀ ns : List Int, RepL K F (ns.map V.int) (ns.map D.int)
  | [] => .nil
  | n :: ns => .cons (.int n) (RepL.ofInts ns)
theorem RepL.ofStrs : ∀ ns : List Str, (∀ n ∈ ns, PyData.strOk n = true) → RepL K F (ns.map V.str) (ns.map D.str)
  | [], _ => .nil
  | n :: ns, h => .cons (.str n (h n (by simp))) (RepL.ofStrs ns fun m q => h m (by simp [q]))
theorem RepL.sOk : ∀ {vs : List V} {ns : List Str}, RepL K F vs (ns.map D.str) → ∀ n ∈ ns, PyData.strOk n = true
  | _, _ :: ns, .cons (.str _ h) r, m, q => by
    rcases List.mem_cons.mp q with rfl | q
    · exact h
    · exact RepL.sOk r m q
theorem RepL.ofBls : ∀ ns : List Bool, RepL K F (ns.map V.bl) (ns.map D.bl)
  | [] => .nil
  | n :: ns => .cons (.bl n) (RepL.ofBls ns)

def RepO (K : PySem.W.Frag) (F : Hp) : HO → D → Prop
  | .lst vs, .lst ds => RepL K F vs ds
  | .dK kvs, .dic ks => kvs.map (·.1) = ks.map (·.1) ∧ RepL K F (kvs.map (·.2)) (ks.map (·.2))
  | _, _ => False
theorem RepO.mono (e : Ex F F') : ∀ {o : HO} {d : D}, RepO K F o d → RepO K F' o d := by
  intro o d h
  unfold RepO at h ⊢
  split at h
  · exact RepL.mono e h
  · exact ⟨h.1, RepL.mono e h.2⟩
  · exact h.elim
theorem RepO.rep {p : Addr} {o : HO} {d : D} (h : RepO K F o d) (hp : F p = some o) : Rep K F (.ref p) d := by
  unfold RepO at h
  split at h
  · exact .lst hp h
  · exact .dic hp h.1 h.2
  · exact h.elim
end

/-! ### slots and states -/
inductive Slot where
  | no | val (d : D) | own (pin : Bool) (d : D)

structure Ct where
  G : Hp
  F0 : Hp
  W : Addr → Prop
  par : List V
  pin : Nat → Prop

def Owns (env : List Slot) (σ : L2.St) (i : Nat) (p : Addr) : Prop := ∃ b d, env[i]? = some (.own b d) ∧ σ[i]? = some (some (.ref p))

structure Ok (K : PySem.W.Frag) (C : Ct) (F : Hp) (env : List Slot) (σ : L2.St) (H : Hp) : Prop where
  len : σ.length = env.length
  sub : Ex F H
  keep : ∀ a o, C.G a = some o → ¬ C.W a → H a = some o
  all : ∀ a, C.G a ≠ none → H a ≠ none
  new : ∀ a, C.G a ≠ none → C.F0 a = none → F a = none
  bas : Ex C.F0 F
  vals : ∀ (i : Nat) (d : D), env[i]? = some (.val d) → ∃ v, σ[i]? = some (some v) ∧ Rep K F v d
  owns : ∀ (i : Nat) (b : Bool) (d : D), env[i]? = some (.own b d) → ∃ p o, σ[i]? = some (some (.ref p)) ∧ H p = some o ∧ RepO K F o d ∧ F p = none ∧ (b = false → C.G p = none) ∧ (b = true → C.par[i]? = some (.ref p) ∧ C.W p ∧ C.G p ≠ none)
  sep : ∀ i j p, Owns env σ i p → Owns env σ j p → i = j
  pins : ∀ i, C.pin i → ∃ d, env[i]? = some (.own true d)

def Sub (env env' : List Slot) : Prop := ∀ (i : Nat) (b : Bool) (d : D), env'[i]? = some (.own b d) → ∃ d', env[i]? = some (.own b d')
theorem Sub.refl (env : List Slot) : Sub env env := fun _ _ d h => ⟨d, h⟩
theorem Sub.trans {a b c : List Slot} (h : Sub a b) (k : Sub b c) : Sub a c := fun i x d e => by
  obtain ⟨d', e'⟩ := k i x d e
  exact h i x d' e'
theorem Sub.owns {env env' : List Slot} {σ : L2.St} (s : Sub env env') {i : Nat} {p : Addr} (h : Owns env' σ i p) : Owns env σ i p := by
  obtain ⟨b, d, h1, h2⟩ := h
  obtain ⟨d', h3⟩ := s i b d h1
  exact ⟨b, d', h3, h2⟩

structure Aft (K : PySem.W.Frag) (C : Ct) (F : Hp) (env : List Slot) (σ : L2.St) (H : Hp) (F' : Hp) (env' : List Slot) (H' : Hp) : Prop where
  ok : Ok K C F' env' σ H'
  ex : Ex F F'
  fr : ∀ a o, H a = some o → (∀ i, ¬ Owns env σ i a) → H' a = some o
  nw : ∀ a, H a ≠ none → F a = none → (∀ i, ¬ Owns env σ i a) → F' a = none
  al : ∀ a, H a ≠ none → H' a ≠ none
  le : Sub env env'

section
variable {K : PySem.W.Frag} {C : Ct} {F F' F1 F2 H H' H1 H2 : Hp} {env env' env1 env2 : List Slot} {σ : L2.St}
theorem Ok.aft (h : Ok K C F env σ H) : Aft K C F env σ H F env H := ⟨h, Ex.refl F, fun _ _ e _ => e, fun _ _ e _ => e, fun _ e => e, Sub.refl env⟩
theorem Aft.trans (a : Aft K C F env σ H F1 env1 H1) (b : Aft K C F1 env1 σ H1 F2 env2 H2) : Aft K C F env σ H F2 env2 H2 where
  ok := b.ok
  ex := a.ex.trans b.ex
  fr := fun x o e n => b.fr x o (a.fr x o e n) fun i q => n i (a.le.owns q)
  nw := fun x e z n => b.nw x (by
    cases q : H x with
    | none => exact absurd q e
    | some o => rw [a.fr x o q n]; exact fun z => nomatch z) (a.nw x e z n) fun i q => n i (a.le.owns q)
  al := fun x e => b.al x (a.al x e)
  le := a.le.trans b.le
theorem Ok.tmp (h : Ok K C F env σ H) {p : Addr} (hp : H p = none) (o : HO) : Aft K C F env σ H F env (upd H p o) where
  ok := { len := h.len, sub := fun a u e => by rw [upd_ne (ne_of_none (h.sub a u e) hp)]; exact h.sub a u e
          keep := fun a u e n => by
            have q := h.keep a u e n
            rw [upd_ne (ne_of_none q hp)]; exact q
          all := fun a e => by
            by_cases q : a = p
            · subst q; rw [upd_same]; exact fun z => nomatch z
            · rw [upd_ne q]; exact h.all a e
          new := h.new, bas := h.bas, vals := h.vals
          owns := fun i b d e => by
            obtain ⟨q, u, h1, h2, h3, h4, h5, h6⟩ := h.owns i b d e
            exact ⟨q, u, h1, by rw [upd_ne (ne_of_none h2 hp)]; exact h2, h3, h4, h5, h6⟩
          sep := h.sep, pins := h.pins }
  ex := Ex.refl F
  fr := fun a u e _ => by rw [upd_ne (ne_of_none e hp)]; exact e
  nw := fun _ _ e _ => e
  al := fun a e => by
    by_cases q : a = p
    · subst q; rw [upd_same]; exact fun z => nomatch z
    · rw [upd_ne q]; exact e
  le := Sub.refl env
theorem Ok.gnone (h : Ok K C F env σ H) {p : Addr} (hp : H p = none) : C.G p = none := by
  cases q : C.G p with
  | none => rfl
  | some o => exact absurd hp (h.all p (by rw [q]; exact fun z => nomatch z))
theorem Ok.fnone (h : Ok K C F env σ H) {p : Addr} (hp : H p = none) : F p = none := by
  cases q : F p with
  | none => rfl
  | some o => have := h.sub p o q; rw [hp] at this; cases this
theorem Ok.unowned (h : Ok K C F env σ H) {p : Addr} (hp : H p = none) (i : Nat) : ¬ Owns env σ i p := fun ⟨b, d, e, s⟩ => by
  obtain ⟨q, o, h1, h2, _⟩ := h.owns i b d e
  rw [s] at h1; cases h1
  rw [hp] at h2; cases h2
theorem Ok.hold (h : Ok K C F env σ H) {p : Addr} {o : HO} (hp : H p = some o) (hF : F p = none) (hG : C.G p = none) (hn : ∀ i, ¬ Owns env σ i p) : Ok K C (upd F p o) env σ H where
  len := h.len
  sub := fun a u e => by
    by_cases q : a = p
    · subst q; rw [upd_same] at e; cases e; exact hp
    · rw [upd_ne q] at e; exact h.sub a u e
  keep := h.keep
  all := h.all
  new := fun a e z => by
    by_cases q : a = p
    · subst q; exact absurd hG e
    · rw [upd_ne q]; exact h.new a e z
  bas := fun a u e => by rw [upd_ne (ne_of_none (h.bas a u e) hF)]; exact h.bas a u e
  vals := fun i d e => by
    obtain ⟨v, h1, h2⟩ := h.vals i d e
    exact ⟨v, h1, h2.mono (Ex.new hF)⟩
  owns := fun i b d e => by
    obtain ⟨q, u, h1, h2, h3, h4, h5, h6⟩ := h.owns i b d e
    refine ⟨q, u, h1, h2, h3.mono (Ex.new hF), ?_, h5, h6⟩
    rw [upd_ne (fun z => hn i ⟨b, d, e, by rw [h1, z]⟩)]
    exact h4
  sep := h.sep
  pins := h.pins
end

/-! ### what an expression gives: a thing held still, a new object, what a slot holds -/
inductive RV where
  | vl (d : D) | tm (d : D) | sl (i : Nat)
@[simp] def RV.con (env : List Slot) (R : D → Prop) : RV → Prop
  | .vl d => R d
  | .tm d => R d
  | .sl i => match env[i]? with
    | some (.val d) => R d
    | some (.own _ d) => R d
    | _ => False
@[simp] def RV.get (env : List Slot) (R : D → Prop) : RV → Prop
  | .vl d => R d
  | .tm d => R d
  | .sl i => match env[i]? with
    | some (.val d) => R d
    | _ => False
def RVOk (K : PySem.W.Frag) (C : Ct) (F : Hp) (env : List Slot) (σ : L2.St) (H0 H : Hp) (v : V) : RV → Prop
  | .vl d => Rep K F v d
  | .tm d => ∃ p o, v = .ref p ∧ H p = some o ∧ RepO K F o d ∧ F p = none ∧ C.G p = none ∧ (∀ i, ¬ Owns env σ i p) ∧ H0 p = none
  | .sl i => σ[i]? = some (some v)

abbrev DM := List Slot → (RV → List Slot → Prop) → Prop
abbrev DMB := List Slot → (Bool → List Slot → Prop) → Prop
abbrev DML := List Slot → (List D → List Slot → Prop) → Prop

def EvD (K : PySem.W.Frag) (m : DM) (t : TE) : Prop := ∀ C F env σ H R Q, Ok K C F env σ H → m env R →
  (∀ l env' F' v H', R l env' → Aft K C F env σ H F' env' H' → RVOk K C F' env' σ H H' v l → Q v H') → t σ H Q
def EvB (K : PySem.W.Frag) (m : DMB) (t : TT) : Prop := ∀ C F env σ H R (Q : Bool → Hp → Prop), Ok K C F env σ H → m env R →
  (∀ b env' F' H', R b env' → Aft K C F env σ H F' env' H' → Q b H') → t σ H Q
def EvL (K : PySem.W.Frag) (m : DML) (t : TA) : Prop := ∀ C F env σ H R (Q : List V → Hp → Prop), Ok K C F env σ H → m env R →
  (∀ ds env' F' vs H', R ds env' → Aft K C F env σ H F' env' H' → RepL K F' vs ds → Q vs H') → t σ H Q

def DE (X : Cx) (e : Expr) (m : DM) : Prop := ∃ t, PE X e t ∧ EvD X.K m t
def DT (X : Cx) (e : Expr) (m : DMB) : Prop := ∃ t, PT X e t ∧ EvB X.K m t
def DW (X : Cx) (e : Expr) (m : DMB) : Prop := ∃ t, PW X e t ∧ EvB X.K m t
def DL (X : Cx) (es : List Expr) (m : DML) : Prop := ∃ t, PA X es t ∧ EvL X.K m t

section
variable {K : PySem.W.Frag} {C : Ct} {F F' F1 F2 H H' H1 H2 : Hp} {env env' env1 env2 : List Slot} {σ : L2.St} {v : V} {l : RV} {d : D}
theorem Aft.keepIt (a : Aft K C F env σ H F' env' H') (r : RVOk K C F' env' σ H H' v l) {R : D → Prop} (h : l.get env' R) : ∃ F2 d, R d ∧ Aft K C F env σ H F2 env' H' ∧ Ex F' F2 ∧ Rep K F2 v d := by
  cases l with
  | vl d => exact ⟨F', d, h, a, Ex.refl _, r⟩
  | tm d =>
    obtain ⟨p, o, rfl, h1, h2, h3, h4, h5, h6⟩ := r
    have e := Ex.new (o := o) h3
    exact ⟨upd F' p o, d, h, ⟨a.ok.hold h1 h3 h4 h5, a.ex.trans e, a.fr, fun x n z w => by
      rw [upd_ne (fun q => n (by rw [q]; exact h6))]
      exact a.nw x n z w, a.al, a.le⟩, e, (h2.mono e).rep upd_same⟩
  | sl i =>
    have h' : (match env'[i]? with | some (.val d) => R d | _ => False) := h
    split at h'
    · rename_i d e
      obtain ⟨w, h1, h2⟩ := a.ok.vals i d e
      have r' : σ[i]? = some (some v) := r
      rw [r'] at h1; cases h1
      exact ⟨F', d, h', a, Ex.refl _, h2⟩
    · exact h'.elim
theorem Aft.back (a : Aft K C F env σ H F' env' H') {p : Addr} (h : H' p = none) : H p = none := by
  cases q : H p with
  | none => rfl
  | some o => exact absurd h (a.al p (by rw [q]; exact fun z => nomatch z))
theorem RVOk.from {H0 : Hp} (r : RVOk K C F env σ H1 H v l) (h : ∀ p, H1 p = none → H0 p = none) : RVOk K C F env σ H0 H v l := by
  cases l with
  | vl d => exact r
  | tm d =>
    obtain ⟨p, o, rfl, h1, h2, h3, h4, h5, h6⟩ := r
    exact ⟨p, o, rfl, h1, h2, h3, h4, h5, h p h6⟩
  | sl i => exact r
theorem RVOk.on (a : Aft K C F1 env1 σ H1 F2 env2 H2) (r : RVOk K C F1 env1 σ H H1 v l) : RVOk K C F2 env2 σ H H2 v l := by
  cases l with
  | vl d => exact Rep.mono a.ex r
  | tm d =>
    obtain ⟨p, o, rfl, h1, h2, h3, h4, h5, h6⟩ := r
    exact ⟨p, o, rfl, a.fr p o h1 h5, h2.mono a.ex, a.nw p (by rw [h1]; exact fun z => nomatch z) h3 h5, h4, fun i q => h5 i (a.le.owns q), h6⟩
  | sl i => exact r

inductive See (K : PySem.W.Frag) (F H : Hp) : V → D → Prop
  | rep {v : V} {d : D} : Rep K F v d → See K F H v d
  | obj {p : Addr} {o : HO} {d : D} : H p = some o → RepO K F o d → See K F H (.ref p) d
theorem Ok.see (h : Ok K C F env σ H) (r : RVOk K C F env σ H1 H v l) {R : D → Prop} (c : l.con env R) : ∃ d, R d ∧ See K F H v d := by
  cases l with
  | vl d => exact ⟨d, c, .rep r⟩
  | tm d =>
    obtain ⟨p, o, rfl, h1, h2, _⟩ := r
    exact ⟨d, c, .obj h1 h2⟩
  | sl i =>
    have c' : (match env[i]? with | some (.val d) => R d | some (.own _ d) => R d | _ => False) := c
    have r' : σ[i]? = some (some v) := r
    split at c'
    · rename_i d e
      obtain ⟨w, h1, h2⟩ := h.vals i d e
      rw [r'] at h1; cases h1
      exact ⟨d, c', .rep h2⟩
    · rename_i b d e
      obtain ⟨p, o, h1, h2, h3, _⟩ := h.owns i b d e
      rw [r'] at h1; cases h1
      exact ⟨d, c', .obj h2 h3⟩
    · exact c'.elim
theorem See.lst (h : Ex F H) {ds : List D} (s : See K F H v (.lst ds)) : ∃ p vs, v = .ref p ∧ H p = some (.lst vs) ∧ RepL K F vs ds := by
  cases s with
  | rep r => cases r with | lst e r => exact ⟨_, _, rfl, h _ _ e, r⟩
  | obj e r =>
    unfold RepO at r
    split at r
    · rename_i q; cases q; exact ⟨_, _, rfl, e, r⟩
    · rename_i q; cases q
    · exact r.elim
theorem See.dic (h : Ex F H) {ks : List (Key × D)} (s : See K F H v (.dic ks)) : ∃ p kvs, v = .ref p ∧ H p = some (.dK kvs) ∧ kvs.map (·.1) = ks.map (·.1) ∧ RepL K F (kvs.map (·.2)) (ks.map (·.2)) := by
  cases s with
  | rep r => cases r with | dic e k r => exact ⟨_, _, rfl, h _ _ e, k, r⟩
  | obj e r =>
    unfold RepO at r
    split at r
    · rename_i q; cases q
    · rename_i q; cases q; exact ⟨_, _, rfl, e, r.1, r.2⟩
    · exact r.elim
theorem See.tup {ds : List D} (s : See K F H v (.tup ds)) : ∃ p vs, v = .ref p ∧ SqT K F p vs ∧ RepL K F vs ds := by
  cases s with
  | rep r => cases r with | tup e r => exact ⟨_, _, rfl, e, r⟩
  | obj e r =>
    unfold RepO at r
    split at r <;> first | (rename_i q; cases q) | exact r.elim
theorem See.int {i : Int} (s : See K F H v (.int i)) : v = .int i := by
  cases s with
  | rep r => cases r; rfl
  | obj e r => unfold RepO at r; split at r <;> first | (rename_i q; cases q) | exact r.elim
theorem See.str {i : Str} (s : See K F H v (.str i)) : v = .str i ∧ PyData.strOk i = true := by
  cases s with
  | rep r => cases r with | str _ h => exact ⟨rfl, h⟩
  | obj e r => unfold RepO at r; split at r <;> first | (rename_i q; cases q) | exact r.elim
theorem See.bl {i : Bool} (s : See K F H v (.bl i)) : v = .bl i := by
  cases s with
  | rep r => cases r; rfl
  | obj e r => unfold RepO at r; split at r <;> first | (rename_i q; cases q) | exact r.elim
theorem See.non (s : See K F H v .non) : v = .non := by
  cases s with
  | rep r => cases r; rfl
  | obj e r => unfold RepO at r; split at r <;> first | (rename_i q; cases q) | exact r.elim
theorem See.scr {ns : List Int} (s : See K F H v (.scr ns)) : ∃ p, v = .ref p ∧ SqL K F p (ns.map V.int) := by
  cases s with
  | rep r => cases r with | scr h => exact ⟨_, rfl, h⟩
  | obj e r => unfold RepO at r; split at r <;> first | (rename_i q; cases q) | exact r.elim
end

/-! ### ends of operations on values -/
abbrev Gives (K : PySem.W.Frag) (C : Ct) (F : Hp) (env : List Slot) (σ : L2.St) (H : Hp) (R : RV → Prop) (Q : VK) : Prop :=
  ∀ l F' v H', R l → Aft K C F env σ H F' env H' → RVOk K C F' env σ H H' v l → Q v H'
section
variable {K : PySem.W.Frag} {C : Ct} {F H : Hp} {env : List Slot} {σ : L2.St} {R : RV → Prop} {Q : VK}
theorem Gives.here (g : Gives K C F env σ H R Q) (h : Ok K C F env σ H) {v : V} {d : D} (r : R (.vl d)) (a : Rep K F v d) : Q v H := g _ F v H r h.aft a
theorem Gives.bl (g : Gives K C F env σ H R Q) (h : Ok K C F env σ H) {b : Bool} (r : R (.vl (.bl b))) : Q (.bl b) H := g.here h r (.bl b)
theorem Gives.int (g : Gives K C F env σ H R Q) (h : Ok K C F env σ H) {b : Int} (r : R (.vl (.int b))) : Q (.int b) H := g.here h r (.int b)
theorem Gives.str (g : Gives K C F env σ H R Q) (h : Ok K C F env σ H) {b : Str} (o : PyData.strOk b = true) (r : R (.vl (.str b))) : Q (.str b) H := g.here h r (.str b o)
theorem Gives.obj (g : Gives K C F env σ H R Q) (h : Ok K C F env σ H) {o : HO} {d : D} (r : R (.tm d)) (a : RepO K F o d) (p : Addr) (hp : H p = none) : Q (.ref p) (upd H p o) :=
  g _ F _ _ r (h.tmp hp o) ⟨p, o, rfl, upd_same, a, h.fnone hp, h.gnone hp, h.unowned hp, hp⟩
theorem Gives.lst (g : Gives K C F env σ H R Q) (h : Ok K C F env σ H) {vs : List V} {ds : List D} (r : R (.tm (.lst ds))) (a : RepL K F vs ds) (p : Addr) (hp : H p = none) : Q (.ref p) (upd H p (.lst vs)) := g.obj h (o := .lst vs) r a p hp
theorem Ok.lay (h : Ok K C F env σ H) {p : Addr} (hp : H p = none) (o : HO) : Aft K C F env σ H (upd F p o) env (upd H p o) where
  ok := (h.tmp hp o).ok.hold upd_same (h.fnone hp) (h.gnone hp) (h.unowned hp)
  ex := Ex.new (h.fnone hp)
  fr := (h.tmp hp o).fr
  nw := fun a n z _ => by rw [upd_ne (fun q => n (by rw [q]; exact hp))]; exact z
  al := (h.tmp hp o).al
  le := Sub.refl env
theorem Gives.tup (g : Gives K C F env σ H R Q) (h : Ok K C F env σ H) {vs : List V} {ds : List D} (r : R (.vl (.tup ds))) (a : RepL K F vs ds) (p : Addr) (hp : H p = none) : Q (.ref p) (upd H p (.tup vs)) :=
  g _ _ _ _ r (h.lay hp _) (Rep.tup (st_of upd_same) (RepL.mono (Ex.new (h.fnone hp)) a))
end
end DL

set_option Elab.async false
set_option linter.all false
set_option maxRecDepth 100000
set_option maxHeartbeats 4000000
set_option autoImplicit false
/-! DL2: rules of expressions over data. -/
namespace DL
open PySem L2 Evl

section
variable {X : Cx} {pos : Pos}
/-! ### names and constants -/
@[simp] def mC (d : D) : DM := fun env R => R (.vl d) env
@[simp] def mVar (i : Nat) : DM := fun env R => (match env[i]? with
  | some (.val _) => True
  | some (.own _ _) => True
  | _ => False) ∧ R (.sl i) env
theorem evd_var {K : PySem.W.Frag} (i : Nat) : EvD K (mVar i) (tVar i) := by
  intro C F env σ H R Q I h k
  obtain ⟨h1, h2⟩ := h
  have : ∃ v, σ[i]? = some (some v) := by
    split at h1
    · rename_i d e
      obtain ⟨v, q, _⟩ := I.vals i d e
      exact ⟨v, q⟩
    · rename_i b d e
      obtain ⟨p, o, q, _⟩ := I.owns i b d e
      exact ⟨_, q⟩
    · exact h1.elim
  obtain ⟨v, q⟩ := this
  exact ⟨v, q, k _ env F v H h2 I.aft q⟩
theorem dvar (i : Nat) {x : Str} (hN : X.N[i]? = some x := by rfl) (hv : Vis X.env.scope x := by first | exact Or.inl rfl | exact Or.inr (Or.inl rfl) | exact Or.inr (Or.inr rfl)) (hd : (x == ("__debug__" : Str)) = false := by decide)
    (hcd : (x == ("__classdict__" : Str)) = false := by decide) : DE X (.Name x pos) (mVar i) := ⟨_, pe_var hN hv hd hcd, evd_var i⟩
theorem evd_c {K : PySem.W.Frag} {v : V} {d : D} (r : ∀ F, Rep K F v d) : EvD K (mC d) (tC v) := fun C F env σ H R Q I h k => k _ env F v H h I.aft (r F)
theorem dint {i : Int} {j : Nat} : DE X (.Constant (.int i) j pos) (mC (.int i)) := ⟨_, pe_int, evd_c fun _ => .int i⟩
theorem dbl {b : Bool} {j : Nat} : DE X (.Constant (.bool b) j pos) (mC (.bl b)) := ⟨_, pe_bl, evd_c fun _ => .bl b⟩
theorem dnon {j : Nat} : DE X (.Constant .none j pos) (mC .non) := ⟨_, pe_non, evd_c fun _ => .non⟩
theorem dstr {x : Str} {j : Nat} (h : PyData.strOk x = true := by decide +kernel) : DE X (.Constant (.str x) j pos) (mC (.str x)) := ⟨_, pe_str, evd_c fun _ => .str x h⟩
theorem dglob {x : Str} {v : V} {u : Value} {d : D} (hg : Gl X x) (hm : X.mg x = some u) (r : RelV v u) (rep : ∀ F, Rep X.K F v d) (hd : (x == ("__debug__" : Str)) = false := by decide) : DE X (.Name x pos) (mC d) := ⟨_, pe_glob hg hm r hd, evd_c rep⟩
theorem dgint {x : Str} {u : Value} {i : Int} (hg : Gl X x) (hm : X.mg x = some u) (r : RelV (.int i) u) (hd : (x == ("__debug__" : Str)) = false := by decide) : DE X (.Name x pos) (mC (.int i)) := dglob hg hm r (fun _ => .int i) hd
theorem dgstr {x : Str} {u : Value} {i : Str} (hg : Gl X x) (hm : X.mg x = some u) (r : RelV (.str i) u) (h : PyData.strOk i = true) (hd : (x == ("__debug__" : Str)) = false := by decide) : DE X (.Name x pos) (mC (.str i)) := dglob hg hm r (fun _ => .str i h) hd

/-! ### two operands -/
def Op2 (K : PySem.W.Frag) (r : R2) (f : D → D → (RV → Prop) → Prop) : Prop := ∀ (C : Ct) (F : Hp) (env : List Slot) (σ : L2.St) (H : Hp) (v w : V) (d e : D) (R : RV → Prop) (Q : VK),
  Ok K C F env σ H → See K F H v d → See K F H w e → f d e R → Gives K C F env σ H R Q → r v w H Q
@[simp] def mOp2 (f : D → D → (RV → Prop) → Prop) (a b : DM) : DM := fun env R => a env fun x e1 => b e1 fun y e2 => x.con e2 fun d => y.con e2 fun e => f d e fun l => R l e2
theorem evd_op2 {K : PySem.W.Frag} {r : R2} {f : D → D → (RV → Prop) → Prop} {m1 m2 : DM} {ta tb : TE} (hf : Op2 K r f) (ha : EvD K m1 ta) (hb : EvD K m2 tb) : EvD K (mOp2 f m1 m2) (tOp r ta tb) := by
  intro C F env σ H R Q I h k
  refine ha C F env σ H _ _ I h ?_
  intro x e1 F1 v H1 h1 A1 r1
  refine hb C F1 e1 σ H1 _ _ A1.ok h1 ?_
  intro y e2 F2 w H2 h2 A2 r2
  obtain ⟨d, h3, s1⟩ := A2.ok.see (r1.on A2) h2
  obtain ⟨e, h4, s2⟩ := A2.ok.see r2 h3
  have A := A1.trans A2
  exact hf C F2 e2 σ H2 v w d e _ _ A2.ok s1 s2 h4 fun l F3 u H3 hl A3 r3 => k l e2 F3 u H3 hl (A.trans A3) (r3.from fun p => A.back)
theorem dop {op : Operator} {r : R2} {f : D → D → (RV → Prop) → Prop} {a b : Expr} {m1 m2 : DM} (ho : OpR X (binaryOp op) r) (hf : Op2 X.K r f) (ha : DE X a m1) (hb : DE X b m2) : DE X (.BinOp a op b pos) (mOp2 f m1 m2) := by
  obtain ⟨ta, pa, ea⟩ := ha
  obtain ⟨tb, pb, eb⟩ := hb
  exact ⟨_, pe_op ho pa pb, evd_op2 hf ea eb⟩
theorem dcmp {op : CmpOp} {r : R2} {f : D → D → (RV → Prop) → Prop} {a b : Expr} {m1 m2 : DM} (ho : OpR X (compareOp op) r) (hf : Op2 X.K r f) (ha : DE X a m1) (hb : DE X b m2) (hm : behindInMarks op b = false := by first | exact nomark _ | rfl | with_unfolding_all rfl) : DE X (.Compare a [op] [b] pos) (mOp2 f m1 m2) := by
  obtain ⟨ta, pa, ea⟩ := ha
  obtain ⟨tb, pb, eb⟩ := hb
  exact ⟨_, pe_cmpR ho pa pb hm, evd_op2 hf ea eb⟩
@[simp] def mB (a : DM) : DMB := fun env R => a env fun x e1 => x.con e1 fun d => match d with
  | .bl b => R b e1
  | _ => False
theorem evb_of {K : PySem.W.Frag} {m : DM} {t : TE} (h : EvD K m t) : EvB K (mB m) (tTest t) := by
  intro C F env σ H R Q I hm k
  refine h C F env σ H _ _ I hm ?_
  intro x e1 F1 v H1 h1 A1 r1
  obtain ⟨d, h3, s1⟩ := A1.ok.see r1 h1
  cases d with
  | bl b => exact ⟨b, s1.bl, k b e1 F1 H1 h3 A1⟩
  | _ => exact h3.elim
theorem dtcmp {op : CmpOp} {r : R2} {f : D → D → (RV → Prop) → Prop} {a b : Expr} {m1 m2 : DM} (ho : OpR X (compareOp op) r) (hf : Op2 X.K r f) (ha : DE X a m1) (hb : DE X b m2) (hm : behindInMarks op b = false := by first | exact nomark _ | rfl | with_unfolding_all rfl) : DT X (.Compare a [op] [b] pos) (mB (mOp2 f m1 m2)) := by
  obtain ⟨ta, pa, ea⟩ := ha
  obtain ⟨tb, pb, eb⟩ := hb
  exact ⟨_, pt_cmpR ho pa pb hm, evb_of (evd_op2 hf ea eb)⟩
@[simp] def mChain (f g : D → D → (RV → Prop) → Prop) (a b c : DM) : DM := fun env R => a env fun x e1 => b e1 fun y e2 => x.con e2 fun d => y.con e2 fun e => f d e fun l => l.con e2 fun z => match z with
  | .bl b => if b = true then c e2 fun w e3 => y.con e3 fun e' => w.con e3 fun u => g e' u fun l => R l e3 else R (.vl (.bl false)) e2
  | _ => False
theorem evd_chain {K : PySem.W.Frag} {r r' : R2} {f g : D → D → (RV → Prop) → Prop} {m1 m2 m3 : DM} {ta tb tc : TE} (hf : Op2 K r f) (hg : Op2 K r' g) (ha : EvD K m1 ta) (hb : EvD K m2 tb) (hc : EvD K m3 tc) : EvD K (mChain f g m1 m2 m3) (tChain r r' ta tb tc) := by
  intro C F env σ H R Q I h k
  refine ha C F env σ H _ _ I h ?_
  intro x e1 F1 v H1 h1 A1 r1
  refine hb C F1 e1 σ H1 _ _ A1.ok h1 ?_
  intro y e2 F2 w H2 h2 A2 r2
  obtain ⟨d, h3, s1⟩ := A2.ok.see (r1.on A2) h2
  obtain ⟨e, h4, s2⟩ := A2.ok.see r2 h3
  have A := A1.trans A2
  refine hf C F2 e2 σ H2 v w d e _ _ A2.ok s1 s2 h4 ?_
  intro l F3 u H3 hl A3 r3
  obtain ⟨z, h5, s3⟩ := A3.ok.see r3 hl
  cases z with
  | bl b =>
    refine ⟨b, s3.bl, ?_⟩
    cases b with
    | false =>
      rw [if_neg Bool.false_ne_true]
      exact k _ e2 F3 _ H3 h5 (A.trans A3) (Rep.bl false)
    | true =>
      rw [if_pos rfl]
      refine hc C F3 e2 σ H3 _ _ A3.ok h5 ?_
      intro w' e3 F4 v4 H4 h6 A4 r4
      have ry := (r2.on A3).on A4
      obtain ⟨e', h7, s4⟩ := A4.ok.see ry h6
      obtain ⟨u', h8, s5⟩ := A4.ok.see r4 h7
      have B := (A.trans A3).trans A4
      exact hg C F4 e3 σ H4 w v4 e' u' _ _ A4.ok s4 s5 h8 fun l F5 u5 H5 hl A5 r5 => k l e3 F5 u5 H5 hl (B.trans A5) (r5.from fun p => B.back)
  | _ => exact h5.elim
theorem dchain {op op' : CmpOp} {r r' : R2} {f g : D → D → (RV → Prop) → Prop} {a b c : Expr} {m1 m2 m3 : DM} (ho : OpR X (compareOp op) r) (hf : Op2 X.K r f) (ho' : OpR X (compareOp op') r') (hg : Op2 X.K r' g) (ha : DE X a m1) (hb : DE X b m2) (hc : DE X c m3)
    (hm : lastMarks [op, op'] [b, c] = false := by with_unfolding_all rfl) : DE X (.Compare a [op, op'] [b, c] pos) (mChain f g m1 m2 m3) := by
  obtain ⟨ta, pa, ea⟩ := ha
  obtain ⟨tb, pb, eb⟩ := hb
  obtain ⟨tc, pc, ec⟩ := hc
  exact ⟨_, pe_chain ho ho' pa pb pc hm, evd_chain hf hg ea eb ec⟩
theorem dtchain {op op' : CmpOp} {r r' : R2} {f g : D → D → (RV → Prop) → Prop} {a b c : Expr} {m1 m2 m3 : DM} (ho : OpR X (compareOp op) r) (hf : Op2 X.K r f) (ho' : OpR X (compareOp op') r') (hg : Op2 X.K r' g) (ha : DE X a m1) (hb : DE X b m2) (hc : DE X c m3)
    (hm : lastMarks [op, op'] [b, c] = false := by with_unfolding_all rfl) : DT X (.Compare a [op, op'] [b, c] pos) (mB (mChain f g m1 m2 m3)) := by
  obtain ⟨ta, pa, ea⟩ := ha
  obtain ⟨tb, pb, eb⟩ := hb
  obtain ⟨tc, pc, ec⟩ := hc
  exact ⟨_, pt_chain ho ho' pa pb pc hm, evb_of (evd_chain hf hg ea eb ec)⟩

/-! ### truth, and, or, not, if -/
@[simp] def aTru (d : D) (R : Bool → Prop) : Prop := match d with
  | .non => R false
  | .bl b => R b
  | .int i => R (i != 0)
  | .str s => s.length ≤ sizeLine ∧ R ((s.length : Int) != 0)
  | .lst xs => R (!xs.isEmpty)
  | .tup xs => R (!xs.isEmpty)
  | .dic ks => R (!ks.isEmpty)
  | .scr ns => R (!ns.isEmpty)
  | _ => False
@[simp] def mTru (a : DM) : DMB := fun env R => a env fun x e1 => x.con e1 fun d => aTru d fun b => R b e1
theorem RepL.isEmpty {K : PySem.W.Frag} {F : Hp} {vs : List V} {ds : List D} (r : RepL K F vs ds) : vs.isEmpty = ds.isEmpty := by cases r <;> rfl
theorem tru_of {K : PySem.W.Frag} {C : Ct} {F H : Hp} {env : List Slot} {σ : L2.St} {v : V} {d : D} {R : Bool → Prop} (I : Ok K C F env σ H) (s : See K F H v d) (h : aTru d R) : ∃ b, TruV K v H b ∧ R b := by
  cases d with
  | non => exact ⟨false, by rw [s.non]; rfl, h⟩
  | bl b => exact ⟨b, by rw [s.bl]; rfl, h⟩
  | int i => exact ⟨_, by rw [s.int]; rfl, h⟩
  | str x => exact ⟨_, by rw [s.str.1]; exact ⟨h.1, rfl⟩, h.2⟩
  | lst xs =>
    obtain ⟨p, vs, rfl, e, r⟩ := s.lst I.sub
    exact ⟨_, Or.inl ⟨vs, sq_of e, rfl⟩, by rw [r.isEmpty]; exact h⟩
  | tup xs =>
    obtain ⟨p, vs, rfl, e, r⟩ := s.tup
    exact ⟨_, Or.inr (Or.inl ⟨vs, ex_t I.sub e, rfl⟩), by rw [r.isEmpty]; exact h⟩
  | dic ks =>
    obtain ⟨p, kvs, rfl, e, k, r⟩ := s.dic I.sub
    refine ⟨_, Or.inr (Or.inr ⟨kvs, e, rfl⟩), ?_⟩
    have : kvs.isEmpty = ks.isEmpty := by
      have := congrArg List.length k
      simp at this
      cases kvs <;> cases ks <;> simp_all
    rw [this]; exact h
  | scr ns =>
    obtain ⟨p, rfl, e⟩ := s.scr
    refine ⟨_, Or.inl ⟨_, ex_l I.sub e, rfl⟩, ?_⟩
    cases ns <;> exact h
  | fn a => exact h.elim
  | obj C fs => exact h.elim
  | exc a dd fs => exact h.elim
theorem dtru {a : Expr} {m : DM} (h : DE X a m) (he : ∀ whole, isTrue a X.env whole = (do let v ← whole; standAt a.pos; holding [v] (truthy v)) := by intro _; rfl) : DT X a (mTru m) := by
  obtain ⟨t, p, ev⟩ := h
  refine ⟨_, pt_truth p he, ?_⟩
  intro C F env σ H R Q I hm k
  refine ev C F env σ H _ _ I hm ?_
  intro x e1 F1 v H1 h1 A1 r1
  obtain ⟨d, h3, s1⟩ := A1.ok.see r1 h1
  obtain ⟨b, h4, h5⟩ := tru_of A1.ok s1 h3
  exact ⟨b, h4, k b e1 F1 H1 h5 A1⟩
@[simp] def mAndT (a b : DMB) : DMB := fun env R => a env fun x e1 => if x = true then b e1 R else R false e1
@[simp] def mOrT (a b : DMB) : DMB := fun env R => a env fun x e1 => if x = true then R true e1 else b e1 R
@[simp] def mNotT (a : DMB) : DMB := fun env R => a env fun x e1 => R (!x) e1
theorem evb_and {K : PySem.W.Frag} {m1 m2 : DMB} {t u : TT} (ha : EvB K m1 t) (hb : EvB K m2 u) : EvB K (mAndT m1 m2) (tAnd t u) := by
  intro C F env σ H R Q I h k
  refine ha C F env σ H _ _ I h ?_
  intro b e1 F1 H1 h1 A1
  cases b with
  | false =>
    have h1' : R false e1 := by simpa using h1
    show (if false = true then u σ H1 Q else Q false H1)
    rw [if_neg Bool.false_ne_true]
    exact k false e1 F1 H1 h1' A1
  | true =>
    have h1' : m2 e1 R := by simpa using h1
    show (if true = true then u σ H1 Q else Q false H1)
    rw [if_pos rfl]
    exact hb C F1 e1 σ H1 _ _ A1.ok h1' fun b e2 F2 H2 h2 A2 => k b e2 F2 H2 h2 (A1.trans A2)
theorem evb_or {K : PySem.W.Frag} {m1 m2 : DMB} {t u : TT} (ha : EvB K m1 t) (hb : EvB K m2 u) : EvB K (mOrT m1 m2) (tOr t u) := by
  intro C F env σ H R Q I h k
  refine ha C F env σ H _ _ I h ?_
  intro b e1 F1 H1 h1 A1
  cases b with
  | true =>
    have h1' : R true e1 := by simpa using h1
    show (if true = true then Q true H1 else u σ H1 Q)
    rw [if_pos rfl]
    exact k true e1 F1 H1 h1' A1
  | false =>
    have h1' : m2 e1 R := by simpa using h1
    show (if false = true then Q true H1 else u σ H1 Q)
    rw [if_neg Bool.false_ne_true]
    exact hb C F1 e1 σ H1 _ _ A1.ok h1' fun b e2 F2 H2 h2 A2 => k b e2 F2 H2 h2 (A1.trans A2)
theorem dw_and1 {a : Expr} {m : DMB} (h : DT X a m) : DW X (.BoolOp .And [a] pos) m := by
  obtain ⟨t, p, e⟩ := h
  exact ⟨t, pw_and1 p, e⟩
theorem dw_or1 {a : Expr} {m : DMB} (h : DT X a m) : DW X (.BoolOp .Or [a] pos) m := by
  obtain ⟨t, p, e⟩ := h
  exact ⟨t, pw_or1 p, e⟩
theorem dw_and {a b : Expr} {rest : List Expr} {m1 m2 : DMB} (ha : DT X a m1) (hb : DW X (.BoolOp .And (b :: rest) pos) m2) : DW X (.BoolOp .And (a :: b :: rest) pos) (mAndT m1 m2) := by
  obtain ⟨t, p, e⟩ := ha
  obtain ⟨u, q, e2⟩ := hb
  exact ⟨_, pw_and p q, evb_and e e2⟩
theorem dw_or {a b : Expr} {rest : List Expr} {m1 m2 : DMB} (ha : DT X a m1) (hb : DW X (.BoolOp .Or (b :: rest) pos) m2) : DW X (.BoolOp .Or (a :: b :: rest) pos) (mOrT m1 m2) := by
  obtain ⟨t, p, e⟩ := ha
  obtain ⟨u, q, e2⟩ := hb
  exact ⟨_, pw_or p q, evb_or e e2⟩
theorem dtw {a : Expr} {m : DMB} (h : DW X a m) : DT X a m := by
  obtain ⟨t, p, e⟩ := h
  exact ⟨t, p.pt, e⟩
theorem dtnot {a : Expr} {m : DMB} (h : DT X a m) : DT X (.UnaryOp .Not a pos) (mNotT m) := by
  obtain ⟨t, p, e⟩ := h
  refine ⟨_, pt_not p, ?_⟩
  intro C F env σ H R Q I h k
  refine e C F env σ H _ _ I h ?_
  intro b e1 F1 H1 h1 A1
  exact k (!b) e1 F1 H1 h1 A1
@[simp] def mAndV (a b : DM) : DM := fun env R => a env fun x e1 => x.con e1 fun d => match d with
  | .bl c => if c = true then b e1 R else R (.vl (.bl false)) e1
  | _ => False
@[simp] def mOrV (a b : DM) : DM := fun env R => a env fun x e1 => x.con e1 fun d => match d with
  | .bl c => if c = true then R (.vl (.bl true)) e1 else b e1 R
  | _ => False
@[simp] def mNotV (a : DM) : DM := fun env R => a env fun x e1 => x.con e1 fun d => match d with
  | .bl b => R (.vl (.bl (!b))) e1
  | _ => False
theorem done1 {op : BoolOp} {a : Expr} {m : DM} (h : DE X a m) : DE X (.BoolOp op [a] pos) m := by
  obtain ⟨t, p, e⟩ := h
  exact ⟨t, pe_one p, e⟩
theorem dand {a b : Expr} {rest : List Expr} {m1 m2 : DM} (ha : DE X a m1) (hb : DE X (.BoolOp .And (b :: rest) pos) m2) : DE X (.BoolOp .And (a :: b :: rest) pos) (mAndV m1 m2) := by
  obtain ⟨t, p, ea⟩ := ha
  obtain ⟨u, q, eb⟩ := hb
  refine ⟨_, pe_and p q, ?_⟩
  intro C F env σ H R Q I h k
  refine ea C F env σ H _ _ I h ?_
  intro x e1 F1 v H1 h1 A1 r1
  obtain ⟨d, h3, s1⟩ := A1.ok.see r1 h1
  cases d with
  | bl b =>
    refine ⟨b, s1.bl, ?_⟩
    cases b with
    | true =>
      rw [if_pos rfl]
      exact eb C F1 e1 σ H1 _ _ A1.ok h3 fun l e2 F2 w H2 h2 A2 r2 => k l e2 F2 w H2 h2 (A1.trans A2) (r2.from fun p => A1.back)
    | false =>
      rw [if_neg Bool.false_ne_true]
      exact k _ e1 F1 _ H1 h3 A1 (Rep.bl false)
  | _ => exact h3.elim
theorem dor {a b : Expr} {rest : List Expr} {m1 m2 : DM} (ha : DE X a m1) (hb : DE X (.BoolOp .Or (b :: rest) pos) m2) : DE X (.BoolOp .Or (a :: b :: rest) pos) (mOrV m1 m2) := by
  obtain ⟨t, p, ea⟩ := ha
  obtain ⟨u, q, eb⟩ := hb
  refine ⟨_, pe_or p q, ?_⟩
  intro C F env σ H R Q I h k
  refine ea C F env σ H _ _ I h ?_
  intro x e1 F1 v H1 h1 A1 r1
  obtain ⟨d, h3, s1⟩ := A1.ok.see r1 h1
  cases d with
  | bl b =>
    refine ⟨b, s1.bl, ?_⟩
    cases b with
    | false =>
      rw [if_neg Bool.false_ne_true]
      exact eb C F1 e1 σ H1 _ _ A1.ok h3 fun l e2 F2 w H2 h2 A2 r2 => k l e2 F2 w H2 h2 (A1.trans A2) (r2.from fun p => A1.back)
    | true =>
      rw [if_pos rfl]
      exact k _ e1 F1 _ H1 h3 A1 (Rep.bl true)
  | _ => exact h3.elim
theorem dnot {a : Expr} {m : DM} (ha : DE X a m) : DE X (.UnaryOp .Not a pos) (mNotV m) := by
  obtain ⟨t, p, ea⟩ := ha
  refine ⟨_, pe_not p, ?_⟩
  intro C F env σ H R Q I h k
  refine ea C F env σ H _ _ I h ?_
  intro x e1 F1 v H1 h1 A1 r1
  obtain ⟨d, h3, s1⟩ := A1.ok.see r1 h1
  cases d with
  | bl b => exact ⟨b, s1.bl, k _ e1 F1 _ H1 h3 A1 (Rep.bl _)⟩
  | _ => exact h3.elim
@[simp] def mIf (t : DMB) (a b : DM) : DM := fun env R => t env fun x e1 => if x = true then a e1 R else b e1 R
theorem dif {c a b : Expr} {t : DMB} {m1 m2 : DM} (hc : DT X c t) (ha : DE X a m1) (hb : DE X b m2) : DE X (.IfExp c a b pos) (mIf t m1 m2) := by
  obtain ⟨tc, pc, ec⟩ := hc
  obtain ⟨ta, pa, ea⟩ := ha
  obtain ⟨tb, pb, eb⟩ := hb
  refine ⟨_, pe_ifExp pc pa pb, ?_⟩
  intro C F env σ H R Q I h k
  refine ec C F env σ H _ _ I h ?_
  intro b e1 F1 H1 h1 A1
  cases b with
  | true =>
    have h1' : m1 e1 R := by simpa using h1
    show (if true = true then ta σ H1 Q else tb σ H1 Q)
    rw [if_pos rfl]
    exact ea C F1 e1 σ H1 _ _ A1.ok h1' fun l e2 F2 w H2 h2 A2 r2 => k l e2 F2 w H2 h2 (A1.trans A2) (r2.from fun p => A1.back)
  | false =>
    have h1' : m2 e1 R := by simpa using h1
    show (if false = true then ta σ H1 Q else tb σ H1 Q)
    rw [if_neg Bool.false_ne_true]
    exact eb C F1 e1 σ H1 _ _ A1.ok h1' fun l e2 F2 w H2 h2 A2 r2 => k l e2 F2 w H2 h2 (A1.trans A2) (r2.from fun p => A1.back)

/-! ### arguments, displays -/
@[simp] def mNil : DML := fun env R => R [] env
@[simp] def mCons (a : DM) (r : DML) : DML := fun env R => a env fun x e1 => x.get e1 fun d => r e1 fun ds e2 => R (d :: ds) e2
theorem dl_nil : DL X [] mNil := ⟨_, pa_nil, fun C F env σ H R Q I h k => k [] env F [] H h I.aft .nil⟩
theorem dl_cons {e : Expr} {es : List Expr} {m : DM} {ml : DML} (h : DE X e m) (hr : DL X es ml) (hs : starEach (e :: es) X.env = (false, eval e X.env) :: starEach es X.env := by rfl) : DL X (e :: es) (mCons m ml) := by
  obtain ⟨t, p, ev⟩ := h
  obtain ⟨u, q, er⟩ := hr
  refine ⟨_, pa_cons p q hs, ?_⟩
  intro C F env σ H R Q I h k
  refine ev C F env σ H _ _ I h ?_
  intro x e1 F1 v H1 h1 A1 r1
  obtain ⟨F2, d, h2, A2, ex, rp⟩ := A1.keepIt r1 h1
  refine er C F2 e1 σ H1 _ _ A2.ok h2 ?_
  intro ds e3 F3 vs H3 h3 A3 r3
  exact k (d :: ds) e3 F3 (v :: vs) H3 h3 (A2.trans A3) (.cons (rp.mono A3.ex) r3)
@[simp] def mTup (a : DML) : DM := fun env R => a env fun ds e1 => ds.length ≤ 100000 ∧ R (.vl (.tup ds)) e1
@[simp] def mLst (a : DML) : DM := fun env R => a env fun ds e1 => ds.length ≤ 100000 ∧ R (.tm (.lst ds)) e1
theorem dtup {es : List Expr} {x1 : _} {ml : DML} (h : DL X es ml) : DE X (.Tuple es x1 pos) (mTup ml) := by
  obtain ⟨t, p, ev⟩ := h
  refine ⟨_, pe_tup p, ?_⟩
  intro C F env σ H R Q I h k
  refine ev C F env σ H _ _ I h ?_
  intro ds e1 F1 vs H1 h1 A1 r1
  refine ⟨by rw [r1.length]; exact sz_of h1.1, fun q hq => ?_⟩
  have B := A1.ok.lay hq (.tup vs)
  exact k _ e1 _ _ _ h1.2 (A1.trans B) (Rep.tup (st_of upd_same) (r1.mono B.ex))
theorem dlst {es : List Expr} {ml : DML} (h : DL X es ml) : DE X (.List es pos) (mLst ml) := by
  obtain ⟨t, p, ev⟩ := h
  refine ⟨_, pe_lst p, ?_⟩
  intro C F env σ H R Q I h k
  refine ev C F env σ H _ _ I h ?_
  intro ds e1 F1 vs H1 h1 A1 r1
  refine ⟨by rw [r1.length]; exact sz_of h1.1, fun q hq => ?_⟩
  have g : Gives X.K C F1 e1 σ H1 (fun l => R l e1) Q := fun l F3 u H3 hl A3 r3 => k l e1 F3 u H3 hl (A1.trans A3) (r3.from fun p => A1.back)
  exact g.lst A1.ok h1.2 r1 q hq
end
end DL

set_option Elab.async false
set_option linter.all false
set_option maxRecDepth 100000
set_option maxHeartbeats 4000000
set_option autoImplicit false
/-! DL3: statements over data; a def's promise; calls. -/
namespace DL
open PySem L2 Evl

/-! ### statements -/
structure Post where
  nx : List Slot → Prop
  rt : RV → List Slot → Prop
  bk : List Slot → Prop := fun _ => False
  ct : List Slot → Prop := fun _ => False
  r2 : RV → RV → List Slot → Prop := fun _ _ _ => False
  ex : Nat → List (Str × D) → List Slot → Prop := fun _ _ _ => False
def RetOk (K : PySem.W.Frag) (C : Ct) (F H : Hp) (v : V) : RV → Prop
  | .vl d => Rep K F v d
  | .tm d => ∃ p o, v = .ref p ∧ H p = some o ∧ RepO K F o d ∧ F p = none ∧ C.G p = none
  | .sl _ => False
def Ret2 (K : PySem.W.Frag) (C : Ct) (F H : Hp) (v : V) (x y : RV) : Prop := ∃ T u w, v = .ref T ∧ SqT K H T [u, w] ∧ RetOk K C F H u x ∧ RetOk K C F H w y ∧ ((∃ d, x = .tm d) → (∃ d, y = .tm d) → u ≠ w)
structure Conn (K : PySem.W.Frag) (C : Ct) (D : Ends) (P : Post) : Prop where
  nx : ∀ F env σ H, Ok K C F env σ H → P.nx env → D.nx σ H
  bk : ∀ F env σ H, Ok K C F env σ H → P.bk env → D.bk σ H
  ct : ∀ F env σ H, Ok K C F env σ H → P.ct env → D.ct σ H
  rt : ∀ F env σ H v r, Ok K C F env σ H → RetOk K C F H v r → P.rt r env → D.rt v H
  r2 : ∀ F env σ H v x y, Ok K C F env σ H → Ret2 K C F H v x y → P.r2 x y env → D.rt v H
abbrev DStm := Post → List Slot → Prop
def EvS (K : PySem.W.Frag) (m : DStm) (t : TS) : Prop := ∀ C F env σ H D P, Ok K C F env σ H → m P env → Conn K C D P → t D σ H
def DS (X : Cx) (st : Stmt) (m : DStm) : Prop := ∃ t, PS X st t ∧ EvS X.K m t
def DB (X : Cx) (sts : List Stmt) (m : DStm) : Prop := ∃ t, PSs X sts t ∧ EvS X.K m t

section
variable {K : PySem.W.Frag} {C : Ct} {F F' H H' : Hp} {env env' : List Slot} {σ : L2.St} {v : V} {d : D} {j : Nat}
@[simp] def Pl : Slot → Prop
  | .own true _ => False
  | _ => True
@[simp] def Free (env : List Slot) (j : Nat) : Prop := match env[j]? with
  | some s => Pl s
  | none => False
theorem Free.pins {i : Nat} {s : Slot} (f : Free env j) (h : ∃ d, env[i]? = some (.own true d)) : ∃ d, (env.set j s)[i]? = some (.own true d) := by
  obtain ⟨d, e⟩ := h
  refine ⟨d, ?_⟩
  rw [List.getElem?_set_ne]
  · exact e
  · rintro rfl
    unfold Free at f
    rw [e] at f
    exact f
theorem Ok.setVal (h : Ok K C F env σ H) (f : Free env j) (r : Rep K F v d) : Ok K C F (env.set j (.val d)) (σ.set j (some v)) H where
  len := by rw [List.length_set, List.length_set]; exact h.len
  sub := h.sub
  keep := h.keep
  all := h.all
  new := h.new
  bas := h.bas
  vals := fun i d' e => by
    by_cases q : j = i
    · subst q
      have hj : j < env.length := by
        rcases Nat.lt_or_ge j env.length with z | z
        · exact z
        · rw [List.getElem?_eq_none (by simpa using z)] at e; cases e
      rw [List.getElem?_set_self hj] at e
      cases e
      exact ⟨v, by rw [List.getElem?_set_self (by rw [h.len]; exact hj)], r⟩
    · rw [List.getElem?_set_ne q] at e ⊢
      exact h.vals i d' e
  owns := fun i b d' e => by
    by_cases q : j = i
    · subst q
      have hj : j < env.length := by
        rcases Nat.lt_or_ge j env.length with z | z
        · exact z
        · rw [List.getElem?_eq_none (by simpa using z)] at e; cases e
      rw [List.getElem?_set_self hj] at e
      cases e
    · rw [List.getElem?_set_ne q] at e ⊢
      exact h.owns i b d' e
  sep := fun i k p ⟨b, d1, e1, s1⟩ ⟨b2, d2, e2, s2⟩ => by
    have hne : ∀ (i : Nat) (b : Bool) (d1 : D), (env.set j (.val d))[i]? = some (.own b d1) → j ≠ i := fun i b d1 e q => by
      subst q
      rw [List.getElem?_set] at e
      split at e
      · split at e <;> cases e
      · exact absurd rfl ‹¬ _›
    have q1 := hne _ _ _ e1
    have q2 := hne _ _ _ e2
    rw [List.getElem?_set_ne q1] at e1 s1
    rw [List.getElem?_set_ne q2] at e2 s2
    exact h.sep i k p ⟨b, d1, e1, s1⟩ ⟨b2, d2, e2, s2⟩
  pins := fun i q => Free.pins f (h.pins i q)
theorem Ok.setOwn {p : Addr} {o : HO} (h : Ok K C F env σ H) (f : Free env j) (ho : H p = some o) (r : RepO K F o d) (hF : F p = none) (hG : C.G p = none) (hn : ∀ i, ¬ Owns env σ i p) : Ok K C F (env.set j (.own false d)) (σ.set j (some (.ref p))) H where
  len := by rw [List.length_set, List.length_set]; exact h.len
  sub := h.sub
  keep := h.keep
  all := h.all
  new := h.new
  bas := h.bas
  vals := fun i d' e => by
    by_cases q : j = i
    · subst q
      rw [List.getElem?_set] at e
      split at e
      · split at e <;> cases e
      · exact absurd rfl ‹¬ _›
    · rw [List.getElem?_set_ne q] at e ⊢
      exact h.vals i d' e
  owns := fun i b d' e => by
    by_cases q : j = i
    · subst q
      have hj : j < env.length := by
        rcases Nat.lt_or_ge j env.length with z | z
        · exact z
        · rw [List.getElem?_eq_none (by simpa using z)] at e; cases e
      rw [List.getElem?_set_self hj] at e
      cases e
      exact ⟨p, o, by rw [List.getElem?_set_self (by rw [h.len]; exact hj)], ho, r, hF, fun _ => hG, fun z => by cases z⟩
    · rw [List.getElem?_set_ne q] at e ⊢
      exact h.owns i b d' e
  sep := fun i k q ⟨b, d1, e1, s1⟩ ⟨b2, d2, e2, s2⟩ => by
    by_cases q1 : j = i
    · by_cases q2 : j = k
      · rw [← q1, ← q2]
      · subst q1
        rw [List.getElem?_set_ne q2] at e2 s2
        have : q = p := by
          rw [List.getElem?_set] at s1
          split at s1
          · split at s1
            · cases s1; rfl
            · cases s1
          · exact absurd rfl ‹¬ _›
        subst this
        exact absurd ⟨b2, d2, e2, s2⟩ (hn k)
    · rw [List.getElem?_set_ne q1] at e1 s1
      by_cases q2 : j = k
      · subst q2
        have : q = p := by
          rw [List.getElem?_set] at s2
          split at s2
          · split at s2
            · cases s2; rfl
            · cases s2
          · exact absurd rfl ‹¬ _›
        subst this
        exact absurd ⟨b, d1, e1, s1⟩ (hn i)
      · rw [List.getElem?_set_ne q2] at e2 s2
        exact h.sep i k q ⟨b, d1, e1, s1⟩ ⟨b2, d2, e2, s2⟩
  pins := fun i q => Free.pins f (h.pins i q)
theorem Ok.change {b : Bool} {p : Addr} {o : HO} {d0 : D} (h : Ok K C F env σ H) (e : env[j]? = some (.own b d0)) (s : σ[j]? = some (some (.ref p))) (r : RepO K F o d) : Ok K C F (env.set j (.own b d)) σ (upd H p o) := by
  obtain ⟨p', o', h1, h2, h3, h4, h5, h6⟩ := h.owns j b d0 e
  rw [s] at h1; cases h1
  have hj : j < env.length := by
    rcases Nat.lt_or_ge j env.length with z | z
    · exact z
    · rw [List.getElem?_eq_none (by simpa using z)] at e; cases e
  have ow : ∀ i q, Owns (env.set j (.own b d)) σ i q → Owns env σ i q := fun i q ⟨b1, d1, e1, s1⟩ => by
    by_cases z : j = i
    · subst z
      rw [List.getElem?_set_self hj] at e1; cases e1
      exact ⟨b, d0, e, s1⟩
    · rw [List.getElem?_set_ne z] at e1
      exact ⟨b1, d1, e1, s1⟩
  exact {
    len := by rw [List.length_set]; exact h.len
    sub := fun a u q => by rw [upd_ne (ne_of_none q h4)]; exact h.sub a u q
    keep := fun a u q n => by
      rw [upd_ne]
      · exact h.keep a u q n
      · rintro rfl
        cases b with
        | true => exact n (h6 rfl).2.1
        | false => rw [h5 rfl] at q; cases q
    all := fun a q => by
      by_cases z : a = p
      · subst z; rw [upd_same]; exact fun w => nomatch w
      · rw [upd_ne z]; exact h.all a q
    new := h.new
    bas := h.bas
    vals := fun i d' q => by
      by_cases z : j = i
      · subst z; rw [List.getElem?_set_self hj] at q; cases q
      · rw [List.getElem?_set_ne z] at q; exact h.vals i d' q
    owns := fun i b' d' q => by
      by_cases z : j = i
      · subst z
        rw [List.getElem?_set_self hj] at q; cases q
        exact ⟨p, o, s, upd_same, r, h4, h5, h6⟩
      · rw [List.getElem?_set_ne z] at q
        obtain ⟨p2, o2, g1, g2, g3⟩ := h.owns i b' d' q
        refine ⟨p2, o2, g1, ?_, g3⟩
        rw [upd_ne]
        · exact g2
        · rintro rfl
          exact z (h.sep j i _ ⟨b, d0, e, s⟩ ⟨b', d', q, g1⟩)
    sep := fun i k q h1 h2 => h.sep i k q (ow i q h1) (ow k q h2)
    pins := fun i q => by
      obtain ⟨d', e'⟩ := h.pins i q
      by_cases z : j = i
      · subst z
        rw [e] at e'; cases e'
        exact ⟨d, by rw [List.getElem?_set_self hj]⟩
      · exact ⟨d', by rw [List.getElem?_set_ne z]; exact e'⟩ }
@[simp] def freeze (env : List Slot) (i : Nat) : List Slot := match env[i]? with
  | some (.own false d) => env.set i (.val d)
  | _ => env
theorem Ok.freeze (h : Ok K C F env σ H) (i : Nat) : ∃ F', Ex F F' ∧ Ok K C F' (freeze env i) σ H := by
  unfold DL.freeze
  split
  · rename_i d e
    obtain ⟨p, o, h1, h2, h3, h4, h5, h6⟩ := h.owns i false d e
    have hj : i < env.length := by
      rcases Nat.lt_or_ge i env.length with z | z
      · exact z
      · rw [List.getElem?_eq_none (by simpa using z)] at e; cases e
    have ne : ∀ (k : Nat) (b : Bool) (d1 : D), (env.set i (.val d))[k]? = some (.own b d1) → i ≠ k ∧ env[k]? = some (.own b d1) := fun k b d1 q => by
      by_cases z : i = k
      · subst z; rw [List.getElem?_set_self hj] at q; cases q
      · rw [List.getElem?_set_ne z] at q; exact ⟨z, q⟩
    have ow : ∀ k q, Owns (env.set i (.val d)) σ k q → i ≠ k ∧ Owns env σ k q := fun k q ⟨b1, d1, e1, s1⟩ => ⟨(ne k b1 d1 e1).1, b1, d1, (ne k b1 d1 e1).2, s1⟩
    refine ⟨upd F p o, Ex.new h4, ?_⟩
    exact {
      len := by rw [List.length_set]; exact h.len
      sub := fun a u q => by
        by_cases z : a = p
        · subst z; rw [upd_same] at q; cases q; exact h2
        · rw [upd_ne z] at q; exact h.sub a u q
      keep := h.keep
      all := h.all
      new := fun a q z => by
        by_cases w : a = p
        · subst w; exact absurd (h5 rfl) q
        · rw [upd_ne w]; exact h.new a q z
      bas := fun a u q => by rw [upd_ne (ne_of_none (h.bas a u q) h4)]; exact h.bas a u q
      vals := fun k d' q => by
        by_cases z : i = k
        · subst z
          rw [List.getElem?_set_self hj] at q; cases q
          exact ⟨_, h1, (h3.mono (Ex.new h4)).rep upd_same⟩
        · rw [List.getElem?_set_ne z] at q
          obtain ⟨v, g1, g2⟩ := h.vals k d' q
          exact ⟨v, g1, g2.mono (Ex.new h4)⟩
      owns := fun k b d' q => by
        obtain ⟨z, q'⟩ := ne k b d' q
        obtain ⟨p2, o2, g1, g2, g3, g4, g5⟩ := h.owns k b d' q'
        refine ⟨p2, o2, g1, g2, g3.mono (Ex.new h4), ?_, g5⟩
        rw [upd_ne]
        · exact g4
        · rintro rfl
          exact z (h.sep i k _ ⟨false, d, e, h1⟩ ⟨b, d', q', g1⟩)
      sep := fun a k q g1 g2 => h.sep a k q (ow a q g1).2 (ow k q g2).2
      pins := fun k q => by
        obtain ⟨d', e'⟩ := h.pins k q
        refine ⟨d', ?_⟩
        rw [List.getElem?_set_ne]
        · exact e'
        · rintro rfl
          rw [e] at e'; cases e' }
  · exact ⟨F, Ex.refl F, h⟩
end

section
variable {X : Cx} {pos : Pos}
@[simp] def mSkip : DStm := fun P env => P.nx env
@[simp] def mSeq (a b : DStm) : DStm := fun P env => a { P with nx := b P } env
@[simp] def mNever : DStm := fun _ _ => False
@[simp] def mBreak : DStm := fun P env => P.bk env
@[simp] def mCont : DStm := fun P env => P.ct env
@[simp] def mDrop (a : DM) : DStm := fun P env => a env fun _ e => P.nx e
@[simp] def mIfS (t : DMB) (a b : DStm) : DStm := fun P env => t env fun x e => if x = true then a P e else b P e
@[simp] def mSet (j : Nat) (a : DM) : DStm := fun P env => a env fun x e => x.get e fun d => Free e j ∧ P.nx (e.set j (.val d))
@[simp] def mSetO (j : Nat) (a : DM) : DStm := fun P env => a env fun x e => match x with
  | .tm d => Free e j ∧ P.nx (e.set j (.own false d))
  | _ => False
@[simp] def mRet (a : DM) : DStm := fun P env => a env fun x e => match x with
  | .vl d => P.rt (.vl d) e
  | .tm d => P.rt (.tm d) e
  | .sl i => match e[i]? with
    | some (.val d) => P.rt (.vl d) e
    | some (.own false d) => P.rt (.tm d) e
    | _ => False
@[simp] def mRetN : DStm := fun P env => P.rt (.vl .non) env
@[simp] def mFrz (i : Nat) (a : DStm) : DStm := fun P env => a P (freeze env i)
theorem db_nil : DB X [] mSkip := ⟨_, pss_nil, fun C F env σ H D P I h k => k.nx F env σ H I h⟩
theorem db_cons {st : Stmt} {rest : List Stmt} {a b : DStm} (ha : DS X st a) (hb : DB X rest b) : DB X (st :: rest) (mSeq a b) := by
  obtain ⟨t, p, ea⟩ := ha
  obtain ⟨u, q, eb⟩ := hb
  refine ⟨_, pss_cons p q, ?_⟩
  intro C F env σ H D P I h k
  exact ea C F env σ H { D with nx := u D } { P with nx := b P } I h ⟨fun F env σ H I h => eb C F env σ H D P I h k, k.bk, k.ct, k.rt, k.r2⟩
theorem db_one {st : Stmt} {a : DStm} (ha : DS X st a) : DB X [st] a := by
  obtain ⟨t, p, ea⟩ := ha
  exact ⟨_, pss_one p, ea⟩
theorem ds_never {st : Stmt} : DS X st mNever := ⟨_, ps_never, fun _ _ _ _ _ _ _ _ h _ => h.elim⟩
theorem ds_pass : DS X (.Pass pos) mSkip := ⟨_, ps_pass, fun C F env σ H D P I h k => k.nx F env σ H I h⟩
theorem ds_break : DS X (.Break pos) mBreak := ⟨_, ps_break, fun C F env σ H D P I h k => k.bk F env σ H I h⟩
theorem ds_cont : DS X (.Continue pos) mCont := ⟨_, ps_continue, fun C F env σ H D P I h k => k.ct F env σ H I h⟩
theorem ds_frz (i : Nat) {st : Stmt} {a : DStm} (ha : DS X st a) : DS X st (mFrz i a) := by
  obtain ⟨t, p, ea⟩ := ha
  refine ⟨t, p, ?_⟩
  intro C F env σ H D P I h k
  obtain ⟨F', _, I'⟩ := I.freeze i
  exact ea C F' _ σ H D P I' h k
theorem ds_expr {e : Expr} {m : DM} (h : DE X e m) (hs : swapsWith e none pos.line X.env = pure false := by rfl) : DS X (.Expr e pos) (mDrop m) := by
  obtain ⟨t, p, ev⟩ := h
  refine ⟨_, ps_expr p hs, ?_⟩
  intro C F env σ H D P I h k
  exact ev C F env σ H _ _ I h fun l e1 F1 v H1 h1 A1 r1 => k.nx F1 e1 σ H1 A1.ok h1
theorem ds_if {c : Expr} {a b : List Stmt} {t : DMB} {m1 m2 : DStm} (hc : DT X c t) (ha : DB X a m1) (hb : DB X b m2) : DS X (.If c a b pos) (mIfS t m1 m2) := by
  obtain ⟨tc, pc, ec⟩ := hc
  obtain ⟨ta, pa, ea⟩ := ha
  obtain ⟨tb, pb, eb⟩ := hb
  refine ⟨_, ps_if pc pa pb, ?_⟩
  intro C F env σ H D P I h k
  refine ec C F env σ H _ _ I h ?_
  intro x e1 F1 H1 h1 A1
  cases x with
  | true =>
    have h1' : m1 P e1 := by simpa using h1
    show (if true = true then ta D σ H1 else tb D σ H1)
    rw [if_pos rfl]
    exact ea C F1 e1 σ H1 D P A1.ok h1' k
  | false =>
    have h1' : m2 P e1 := by simpa using h1
    show (if false = true then ta D σ H1 else tb D σ H1)
    rw [if_neg Bool.false_ne_true]
    exact eb C F1 e1 σ H1 D P A1.ok h1' k
theorem evs_set {K : PySem.W.Frag} {j : Nat} {m : DM} {t : TE} (ev : EvD K m t) : EvS K (mSet j m) (tAsg t (gName j)) := by
  intro C F env σ H D P I h k
  refine ev C F env σ H _ _ I h ?_
  intro l e1 F1 v H1 h1 A1 r1
  obtain ⟨F2, d, h2, A2, ex, rp⟩ := A1.keepIt r1 h1
  exact k.nx F2 _ _ H1 (A2.ok.setVal h2.1 rp) h2.2
theorem evs_setO {K : PySem.W.Frag} {j : Nat} {m : DM} {t : TE} (ev : EvD K m t) : EvS K (mSetO j m) (tAsg t (gName j)) := by
  intro C F env σ H D P I h k
  refine ev C F env σ H _ _ I h ?_
  intro l e1 F1 v H1 h1 A1 r1
  cases l with
  | tm d =>
    obtain ⟨p, o, rfl, g1, g2, g3, g4, g5, g6⟩ := r1
    exact k.nx F1 _ _ H1 (A1.ok.setOwn h1.1 g1 g2 g3 g4 g5) h1.2
  | _ => exact h1.elim
theorem ds_set {j : Nat} {x : Str} {e : Expr} {m : DM} {pos' : Pos} (hN : X.N.Nodup) (hi : X.N[j]? = some x) (hx : Loc X.env.scope x) (h : DE X e m) (hs : swapsWith e (some (.Name x pos')) pos.line X.env = pure false := by rfl) (hf : X.fn x = true ∨ X.env.scope.names.lookup x = some .local := by first | exact .inl rfl | exact .inr rfl | assumption) :
    DS X (.Assign [.Name x pos'] e pos) (mSet j m) := by
  obtain ⟨t, p, ev⟩ := h
  exact ⟨_, ps_set hN hi hx p hs hf, evs_set ev⟩
theorem ds_setO {j : Nat} {x : Str} {e : Expr} {m : DM} {pos' : Pos} (hN : X.N.Nodup) (hi : X.N[j]? = some x) (hx : Loc X.env.scope x) (h : DE X e m) (hs : swapsWith e (some (.Name x pos')) pos.line X.env = pure false := by rfl) (hf : X.fn x = true ∨ X.env.scope.names.lookup x = some .local := by first | exact .inl rfl | exact .inr rfl | assumption) :
    DS X (.Assign [.Name x pos'] e pos) (mSetO j m) := by
  obtain ⟨t, p, ev⟩ := h
  exact ⟨_, ps_set hN hi hx p hs hf, evs_setO ev⟩
theorem ds_ret {e : Expr} {m : DM} (h : DE X e m) : DS X (.Return (some e) pos) (mRet m) := by
  obtain ⟨t, p, ev⟩ := h
  refine ⟨_, ps_ret p, ?_⟩
  intro C F env σ H D P I h k
  refine ev C F env σ H _ _ I h ?_
  intro l e1 F1 v H1 h1 A1 r1
  cases l with
  | vl d => exact k.rt F1 e1 σ H1 v (.vl d) A1.ok r1 h1
  | tm d =>
    obtain ⟨p, o, g0, g1, g2, g3, g4, g5, g6⟩ := r1
    exact k.rt F1 e1 σ H1 v (.tm d) A1.ok ⟨p, o, g0, g1, g2, g3, g4⟩ h1
  | sl i =>
    have h1' : (match e1[i]? with | some (.val d) => P.rt (.vl d) e1 | some (.own false d) => P.rt (.tm d) e1 | _ => False) := h1
    have r1' : σ[i]? = some (some v) := r1
    split at h1'
    · rename_i d e
      obtain ⟨w, q1, q2⟩ := A1.ok.vals i d e
      rw [r1'] at q1; cases q1
      exact k.rt F1 e1 σ H1 v (.vl d) A1.ok q2 h1'
    · rename_i d e
      obtain ⟨q, o, q1, q2, q3, q4, q5, _⟩ := A1.ok.owns i false d e
      rw [r1'] at q1; cases q1
      exact k.rt F1 e1 σ H1 _ (.tm d) A1.ok ⟨q, o, rfl, q2, q3, q4, q5 rfl⟩ h1'
    · exact h1'.elim
theorem ds_retN : DS X (.Return none pos) mRetN := ⟨_, ps_retN, fun C F env σ H D P I h k => k.rt F env σ H .non (.vl .non) I Rep.non h⟩
end
end DL

set_option Elab.async false
set_option linter.all false
set_option maxRecDepth 100000
set_option maxHeartbeats 4000000
set_option autoImplicit false
/-! DL4: what a def promises over data; its calls; the law's own call. Where no guard of repr runs is carried along. -/
namespace DL
open PySem PySem.Spec L2 Evl PyProof.Rows

structure FnG (P : Program) (w : World) (K : PySem.W.Frag) (mg : Str → Option Value) (base : Heap) (CX : CXT) (k : Nat) (f : Addr) (fd : FuncData) (ps : List Str) (sp : Sp) : Prop where
  len : ∀ vs H Q E, sp vs H Q E → vs.length = ps.length
  run : ∀ (A : Around) (outer : List PySem.Env) (s : Shared) (H : Hp) (args : Args) (us : List Value) (vs : List V) (Q : VK) (E : XK), A.guards = some [] → Room k A → Env0 P w K mg base A outer s H →
    BindsTo s fd args (ps.zip us) → Vals vs us → sp vs H Q E → codeAny (model P w) A (.call (.ref f) args) (CR CX outer P w H s Q E) s
theorem FnG.imp {P : Program} {w : World} {K : PySem.W.Frag} {mg : Str → Option Value} {base : Heap} {CX : CXT} {k : Nat} {f : Addr} {fd : FuncData} {ps : List Str} {sp sp' : Sp} (F : FnG P w K mg base CX k f fd ps sp)
    (h : ∀ vs H Q E, sp' vs H Q E → sp vs H Q E) : FnG P w K mg base CX k f fd ps sp' :=
  ⟨fun vs H Q E q => F.len vs H Q E (h _ _ _ _ q), fun A outer s H args us vs Q E hg hr he hb hv hs => F.run A outer s H args us vs Q E hg hr he hb hv (h _ _ _ _ hs)⟩

theorem fnG_of {CX : CXT} {P : Program} {w : World} {K : PySem.W.Frag} {mg : Str → Option Value} {base : Heap} {k : Nat} {f : Addr} {name qual : Str} {params : Arguments} {body : List Stmt} {scope : Scope} {dV kV doc pm cdv ct oc : Value} {an od : Option Addr}
    {osl : Array (Option Value)} {N ps : List Str} {sp : Sp} (lk : K.lookup f = some ⟨oc, od, .func (PySem.W.fnOf name qual params body scope dV kV doc pm an cdv ct), osl⟩) (hcd : PySem.W.codeIn K cdv qual = true) (S : FnScope N ps scope)
    (len : ∀ vs H Q E, sp vs H Q E → vs.length = ps.length)
    (hbody : ∀ (A : Around) (outer : List PySem.Env) (s : Shared) (H : Hp) (vs : List V) (Q : VK) (E : XK), A.guards = some [] → Room k (A.deeper (envOfC qual scope s.heap.objs.size f cdv)) → sp vs H Q E →
      ∃ t, PSs (cxOf CX P w K mg base N qual scope f cdv A outer s H E) body t ∧ t { nx := fun _ H' => Q .non H', rt := Q } (L2.start N vs) H) :
    FnG P w K mg base CX (k + 1) f (PySem.W.fnOf name qual params body scope dV kV doc pm an cdv ct) ps sp := by
  constructor
  · exact len
  intro A outer s H args us vs Q E hg hr e0 hb r hsp
  have nvs := len _ _ _ _ hsp
  have old : ∀ b o, base.get? b = some o → s.heap.get? b = some o := fun b o e => (e0.bs b o e).1
  have inK : K.In s.heap := e0.mod.kin.keeps old
  have noLim : s.heap.NoLimit := e0.mod.nolimit.keeps old
  have kinds : ∀ y ∈ ps.zip us, scope.names.lookup y.1 = some .local ∨ (scope.names.lookup y.1 = some .cell ∧ ((cellsFrom (s.heap.objs.size + 1) scope.names []).lookup y.1).isSome = true) := by
    rintro ⟨n, v⟩ hy
    cases S.par n (List.of_mem_zip hy).1 with
    | inl q => exact Or.inl q
    | inr q => exact Or.inr ⟨q, PySem.W.cellsFrom_some _ _ _ (Or.inl q)⟩
  apply codeAny_call_function hr.depth (inK _ _ lk) rfl S.co S.gen rfl (PySem.W.codeRec_of inK hcd)
  apply hb
  apply wpAny_newFunctionEnv_cells S.kind kinds
  rintro env rfl s1 x
  refine ⟨noLim.keeps x.toInCall.keep, codeAny_func ?_⟩
  obtain ⟨t, ht, hq⟩ := hbody A outer s H vs Q E hg (hr.deeper _) hsp
  have I0 : Inv (cxOf CX P w K mg base N qual scope f cdv A outer s H E) [] (L2.start N vs) H s1 := inv_start S hr.hd e0 nvs r x
  apply wpAny_mono (ht.run [] s1 (L2.start N vs) H _ I0 hq)
  · rintro fl s' hs
    cases fl with
    | ret u =>
      obtain ⟨v, σ', H', J, rv, q⟩ := hs
      exact ⟨v, H', J.os, J.bare, J.base, J.hok, rv, q⟩
    | next =>
      obtain ⟨σ', H', J, q⟩ := hs
      exact ⟨V.non, H', J.os, J.bare, J.base, J.hok, rfl, q⟩
    | brk => exact (hs.elim fun _ z => z.elim fun _ z => z.2).elim
    | cont => exact (hs.elim fun _ z => z.elim fun _ z => z.2).elim
  · exact fun e s' hs => hs

section
variable {X : Cx} {CX : CXT} {k : Nat} {f : Addr} {fd : FuncData} {ps ks : List Str} {sp : Sp} {dvs : List V} {ds : List Value} {E : XK} {x : Str} {p pos : Pos} {e : Expr} {es : List Expr} {t tk : TA} {kws : List Keyword}
theorem run_g {pins : List (Addr × Obj)} {σ : L2.St} {H : Hp} {s : Shared} {Q : VK} {us : List Value} {vs : List V} {binds : List Value} {args : Args} (F : FnG X.prog X.w X.K X.mg X.base CX k f fd ps sp) (hgd : X.A.guards = some []) (hr : Room k X.A)
    (hb : BindsTo s fd args (ps.zip us)) (hx : Passes CX X E) (I : Inv X pins σ H s) (r : Vals vs us) (h : sp vs H Q E) : wpAny (model X.prog X.w) X.A (call (.ref f) args.pos args.kw) (EP X pins σ Q) X.xe s := by
  apply wpAny_call
  apply codeAny_mono (F.run X.A X.stack s H args us vs Q E hgd hr I.env0 hb r h)
  intro r s' hq
  match r, hq with
  | .error e, hq => exact hx pins σ H s e s' I hq
  | .ok (.ret u), hq => exact I.after hq
  | .ok .next, hq => exact False.elim hq
  | .ok .brk, hq => exact False.elim hq
  | .ok .cont, hq => exact False.elim hq
theorem pe_callG (F : FnG X.prog X.w X.K X.mg X.base CX k f fd ps sp) (hgd : X.A.guards = some []) (hr : Room k X.A) (hg : Gl X x) (hm : X.mg x = some (.ref f)) (hk : PySem.W.keepIn X.K (.ref f) = true) (hb : Binds X.K fd ps ds) (hd : Vals dvs ds) (hx : Passes CX X E)
    (ha : PA X (e :: es) t) (hdb : (x == ("__debug__" : Str)) = false := by decide) (he : starEach (e :: es) X.env = (false, eval e X.env) :: starEach es X.env := by rfl) (hpl : (backTo pos (starEach es X.env)).any (·.1) = false := by rfl) :
    PE X (.Call (.Name x p) (e :: es) [] pos) (tCall sp dvs E t) := by
  constructor
  intro pins s σ H Q I h
  apply wpAny_Call_Name_kw
  apply ld_glob I hg hm _ hdb
  apply PySem.W.callWith_K (h₀ := X.base) I.ok.mod.kin hk _ he hpl
  apply thn (ha.run pos pins s σ H _ I h)
  rintro us s1 ⟨vs, H1, I1, r, q⟩
  refine ⟨I1.kIn, ?_⟩
  have r2 : Vals (vs ++ dvs) (us ++ ds) := r.append hd
  have hl : (us ++ ds).length = ps.length := r2.length.symm.trans (F.len _ _ _ _ q)
  exact run_g (args := ⟨us, []⟩) (binds := []) F hgd hr (hb s1 us I1.kIn hl) hx I1 r2 q
theorem pe_callGK {g : List Value → List Value → List Value} {gV : List V → List V → List V} (F : FnG X.prog X.w X.K X.mg X.base CX k f fd ps sp) (hgd : X.A.guards = some []) (hr : Room k X.A) (hg : Gl X x) (hm : X.mg x = some (.ref f)) (hk : PySem.W.keepIn X.K (.ref f) = true) (hb : KBinds X.K fd ps ks g gV) (hx : Passes CX X E)
    (ha : PA X (e :: es) t) (hkw : PK X kws tk) (hall : (backToKw pos (keywordEach kws X.env)).all (·.1.isSome) = true := by rfl) (hks : (backToKw pos (keywordEach kws X.env)).filterMap (·.1) = ks := by rfl)
    (hdb : (x == ("__debug__" : Str)) = false := by decide) (he : starEach (e :: es) X.env = (false, eval e X.env) :: starEach es X.env := by rfl)
    (hpl : ((backTo pos (starEach (e :: es) X.env)).any (·.1) || (backToKw pos (keywordEach kws X.env)).any (·.1.isNone)) = false := by rfl) : PE X (.Call (.Name x p) (e :: es) kws pos) (tCallK sp gV E t tk) := by
  constructor
  intro pins s σ H Q I h
  apply wpAny_Call_Name_kw
  apply ld_glob I hg hm _ hdb
  apply PySem.W.callWith_KW (h₀ := X.base) I.ok.mod.kin hk hall _ hpl he
  apply thn (ha.run pos pins s σ H _ I h)
  rintro us s1 ⟨vs, H1, I1, r, q⟩
  apply thn (hkw.run pos pins s1 σ H1 _ I1 q)
  rintro ws s2 ⟨zs, H2, I2, rz, q2⟩
  refine ⟨I2.kIn, ?_⟩
  rw [hks]
  have r2 := hb.rel r rz
  have hl : (g us ws).length = ps.length := r2.length.symm.trans (F.len _ _ _ _ q2)
  exact run_g (args := ⟨us, ks.zip ws⟩) (binds := []) F hgd hr (hb.to s2 us ws I2.kIn hl) hx I2 r2 q2
end

/-! ### a promise over data -/
abbrev DSpec := List Slot → (RV → List Slot → Prop) → Prop
def OwnW (args : List Slot) (vs : List V) (p : Addr) : Prop := ∃ i, Owns args (vs.map some) i p
def ctOf (args : List Slot) (vs : List V) (F H : Hp) : Ct := ⟨H, F, OwnW args vs, vs, fun i => ∃ b d, args[i]? = some (.own b d)⟩
def ArgsOk (K : PySem.W.Frag) (F : Hp) (args : List Slot) (vs : List V) (H : Hp) : Prop := Ok K (ctOf args vs F H) F args (vs.map some) H
def outS : Slot → Slot
  | .own b d => .own b d
  | _ => .no
@[simp] def outs (n : Nat) (env : List Slot) : List Slot := (env.take n).map outS
@[simp] theorem outS_own (b : Bool) (d : D) : outS (.own b d) = .own b d := rfl
@[simp] theorem outS_val (d : D) : outS (.val d) = .no := rfl
@[simp] theorem outS_no : outS .no = .no := rfl
structure Done (K : PySem.W.Frag) (F : Hp) (args : List Slot) (vs : List V) (H : Hp) (r : RV) (args' : List Slot) (F' : Hp) (v : V) (H' : Hp) : Prop where
  ex : Ex F F'
  sub : Ex F' H'
  keep : ∀ a o, H a = some o → ¬ OwnW args vs a → H' a = some o
  all : ∀ a, H a ≠ none → H' a ≠ none
  new : ∀ a, H a ≠ none → F a = none → F' a = none
  own : ∀ (i : Nat) (b : Bool) (d : D), args[i]? = some (.own b d) → ∃ p o d', vs[i]? = some (.ref p) ∧ args'[i]? = some (.own b d') ∧ H' p = some o ∧ RepO K F' o d'
  res : match r with
    | .vl d => Rep K F' v d
    | .tm d => ∃ p o, v = .ref p ∧ H' p = some o ∧ RepO K F' o d ∧ F' p = none ∧ H p = none
    | .sl _ => False
def spD (K : PySem.W.Frag) (sd : DSpec) : Sp := fun vs H Q _ => ∃ F args R, ArgsOk K F args vs H ∧ (∀ (i : Nat) (d : D), args[i]? ≠ some (.own false d)) ∧ sd args R ∧
  ∀ r args' F' v H', R r args' → Done K F args vs H r args' F' v H' → Q v H'

def startE (n : Nat) (args : List Slot) : List Slot := args ++ List.replicate (n - args.length) .no

theorem ok_start {K : PySem.W.Frag} {F H : Hp} {args : List Slot} {vs : List V} (N : List Str) (h : ArgsOk K F args vs H) (np : ∀ (i : Nat) (d : D), args[i]? ≠ some (.own false d)) :
    Ok K (ctOf args vs F H) F (startE N.length args) (L2.start N vs) H := by
  have hl : vs.length = args.length := by have := h.len; simpa using this
  have ge : ∀ (i : Nat) (s : Slot), s ≠ .no → (startE N.length args)[i]? = some s → args[i]? = some s ∧ i < args.length := fun i s ns e => by
    unfold startE at e
    by_cases q : i < args.length
    · rw [List.getElem?_append_left q] at e; exact ⟨e, q⟩
    · rw [List.getElem?_append_right (by omega), List.getElem?_replicate] at e
      split at e
      · cases e; exact absurd rfl ns
      · cases e
  have gs : ∀ (i : Nat), i < args.length → (L2.start N vs)[i]? = (vs.map some)[i]? := fun i q => by
    unfold L2.start
    rw [List.getElem?_append_left (by rw [List.length_map, hl]; exact q)]
  have ow : ∀ i p, Owns (startE N.length args) (L2.start N vs) i p → Owns args (vs.map some) i p := fun i p ⟨b, d, e, s⟩ => by
    obtain ⟨e1, q⟩ := ge i _ (fun z => by cases z) e
    exact ⟨b, d, e1, by rw [← gs i q]; exact s⟩
  exact {
    len := by unfold startE L2.start; simp [hl]
    sub := h.sub, keep := fun a o e _ => e, all := fun a e => e, new := h.new, bas := Ex.refl F
    vals := fun i d e => by
      obtain ⟨e1, q⟩ := ge i _ (fun z => by cases z) e
      obtain ⟨v, h1, h2⟩ := h.vals i d e1
      exact ⟨v, by rw [gs i q]; exact h1, h2⟩
    owns := fun i b d e => by
      obtain ⟨e1, q⟩ := ge i _ (fun z => by cases z) e
      obtain ⟨p, o, h1, h2, h3, h4, h5, h6⟩ := h.owns i b d e1
      exact ⟨p, o, by rw [gs i q]; exact h1, h2, h3, h4, h5, h6⟩
    sep := fun i j p a b => h.sep i j p (ow i p a) (ow j p b)
    pins := fun i ⟨b, d, e⟩ => by
      cases b with
      | false => exact absurd e (np i d)
      | true =>
        refine ⟨d, ?_⟩
        unfold startE
        rw [List.getElem?_append_left]
        · exact e
        · rcases Nat.lt_or_ge i args.length with z | z
          · exact z
          · rw [List.getElem?_eq_none (by simpa using z)] at e; cases e }

structure FunG (K : PySem.W.Frag) (qual : Str) (body : List Stmt) (scope : Scope) (f : Addr) (fd : FuncData) : Prop where
  ex : ∃ (oc : Value) (od : Option Addr) (name : Str) (params : Arguments) (dV kV doc pm : Value) (an : Option Addr) (cdv ct : Value) (osl : Array (Option Value)),
    fd = PySem.W.fnOf name qual params body scope dV kV doc pm an cdv ct ∧ K.lookup f = some ⟨oc, od, .func fd, osl⟩ ∧ PySem.W.codeIn K cdv qual = true
theorem FunG.of {K : PySem.W.Frag} {x qual : Str} {st : Stmt} {f : Addr} {fd : FuncData} (F : Fun K x qual st f fd) : FunG K qual (defBody st) (defScope st) f fd := by
  obtain ⟨⟨oc, od, kV, doc, pm, an, cdv, ct, osl, h1, h2, h3⟩, _⟩ := F
  exact ⟨oc, od, _, _, _, kV, doc, pm, an, cdv, ct, osl, h1, h2, h3⟩

theorem FunG.ok {P : Program} {w : World} {K : PySem.W.Frag} {mg : Str → Option Value} {base : Heap} {qual : Str} {body : List Stmt} {scope : Scope} {f : Addr} {fd : FuncData} {N ps : List Str} {k : Nat} {sd : DSpec} {m : DStm}
    (F : FunG K qual body scope f fd) (S : FnScope N ps scope) (len : ∀ args R, sd args R → args.length = ps.length)
    (hbody : ∀ (cdv : Value) (A : Around) (outer : List PySem.Env) (s : Shared) (H : Hp) (E : XK), A.guards = some [] → Room k (A.deeper (envOfC qual scope s.heap.objs.size f cdv)) →
      DB (cxOf CX0 P w K mg base N qual scope f cdv A outer s H E).nox body m)
    (hm : ∀ args R, sd args R → m { nx := fun e => R (.vl .non) (outs ps.length e), rt := fun r e => R r (outs ps.length e) } (startE N.length args)) :
    FnG P w K mg base CX0 (k + 1) f fd ps (spD K sd) := by
  obtain ⟨oc, od, name, params, dV, kV, doc, pm, an, cdv, ct, osl, rfl, lk, hcd⟩ := F.ex
  refine fnG_of lk hcd S ?_ ?_
  · rintro vs H Q E ⟨F, args, R, h1, _, h2, _⟩
    have := h1.len
    rw [List.length_map] at this
    rw [this, len args R h2]
  rintro A outer s H vs Q E hg hr ⟨F0, args, R, h1, np, h2, h3⟩
  obtain ⟨t, ht, ev⟩ := hbody cdv A outer s H E hg hr
  refine ⟨t, ht.nox, ?_⟩
  have hl : args.length = ps.length := len args R h2
  have hv : vs.length = args.length := by have := h1.len; rwa [List.length_map] at this
  -- what is told behind
  have fin : ∀ F' env σ H' v r, Ok K (ctOf args vs F0 H) F' env σ H' → RetOk K (ctOf args vs F0 H) F' H' v r → R r (outs ps.length env) → Q v H' := by
    intro F' env σ H' v r I' ro hR
    refine h3 r _ F' v H' hR ⟨I'.bas, I'.sub, I'.keep, I'.all, I'.new, fun i b d e => ?_, ?_⟩
    · cases b with
      | false => exact absurd e (np i d)
      | true =>
      obtain ⟨d', e'⟩ := I'.pins i ⟨true, d, e⟩
      have hi : i < ps.length := by
        rw [← hl]
        rcases Nat.lt_or_ge i args.length with z | z
        · exact z
        · rw [List.getElem?_eq_none (by simpa using z)] at e; cases e
      obtain ⟨p, o, g1, g2, g3, g4, g5, g6⟩ := I'.owns i true d' e'
      obtain ⟨q1, q2, q3⟩ := g6 rfl
      refine ⟨p, o, d', q1, ?_, g2, g3⟩
      unfold outs
      rw [List.getElem?_map, List.getElem?_take_of_lt hi, e']
      rfl
    · cases r with
      | vl d => exact ro
      | tm d => exact ro
      | sl i => exact ro.elim
  exact ev (ctOf args vs F0 H) F0 _ _ H _ _ (ok_start N h1 np) (hm args R h2) ⟨fun F env σ H' I' q => fin F env σ H' .non (.vl .non) I' Rep.non q, fun _ _ _ _ _ z => z.elim, fun _ _ _ _ _ z => z.elim, fun F env σ H' v r I' ro q => fin F env σ H' v r I' ro q, fun _ _ _ _ _ _ _ _ _ z => z.elim⟩
end DL

set_option Elab.async false
set_option linter.all false
set_option maxRecDepth 100000
set_option maxHeartbeats 4000000
set_option autoImplicit false
/-! DL5: calls over data. -/
namespace DL
open PySem PySem.Spec L2 Evl PyProof.Rows

inductive CA where
  | vl (d : D) | sl (i : Nat)
abbrev DMC := List Slot → (List CA → List Slot → Prop) → Prop
def CAOk (K : PySem.W.Frag) (F : Hp) (σ : L2.St) (v : V) : CA → Prop
  | .vl d => Rep K F v d
  | .sl i => σ[i]? = some (some v)
inductive CAs (K : PySem.W.Frag) (F : Hp) (σ : L2.St) : List V → List CA → Prop
  | nil : CAs K F σ [] []
  | cons {v : V} {vs : List V} {a : CA} {as : List CA} : CAOk K F σ v a → CAs K F σ vs as → CAs K F σ (v :: vs) (a :: as)
section
variable {K : PySem.W.Frag} {F F' : Hp} {σ : L2.St}
theorem CAOk.mono (e : Ex F F') {v : V} {a : CA} (h : CAOk K F σ v a) : CAOk K F' σ v a := by
  cases a with
  | vl d => exact Rep.mono e h
  | sl i => exact h
theorem CAs.mono (e : Ex F F') : ∀ {vs : List V} {as : List CA}, CAs K F σ vs as → CAs K F' σ vs as
  | _, _, .nil => .nil
  | _, _, .cons a r => .cons (a.mono e) (CAs.mono e r)
theorem CAs.length : ∀ {vs : List V} {as : List CA}, CAs K F σ vs as → vs.length = as.length
  | _, _, .nil => rfl
  | _, _, .cons _ r => congrArg (· + 1) (CAs.length r)
theorem CAs.get : ∀ {vs : List V} {as : List CA} {i : Nat} {a : CA}, CAs K F σ vs as → as[i]? = some a → ∃ v, vs[i]? = some v ∧ CAOk K F σ v a
  | _, _, _, _, .nil, e => by simp at e
  | _, _, 0, _, .cons a _, e => by simp at e; subst e; exact ⟨_, rfl, a⟩
  | _, _, i + 1, _, .cons _ r, e => by
    obtain ⟨v, h1, h2⟩ := CAs.get (i := i) r (by simpa using e)
    exact ⟨v, by simpa using h1, h2⟩
theorem CAs.append : ∀ {vs ws : List V} {as bs : List CA}, CAs K F σ vs as → CAs K F σ ws bs → CAs K F σ (vs ++ ws) (as ++ bs)
  | _, _, _, _, .nil, s => s
  | _, _, _, _, .cons a r, s => .cons a (CAs.append r s)
theorem CAs.ofRep : ∀ {vs : List V} {ds : List D}, RepL K F vs ds → CAs K F σ vs (ds.map .vl)
  | _, _, .nil => .nil
  | _, _, .cons a r => .cons a (CAs.ofRep r)
end
def EvC (K : PySem.W.Frag) (m : DMC) (t : TA) : Prop := ∀ C F env σ H R (Q : List V → Hp → Prop), Ok K C F env σ H → m env R →
  (∀ as env' F' vs H', R as env' → Aft K C F env σ H F' env' H' → CAs K F' σ vs as → Q vs H') → t σ H Q
def DC (X : Cx) (es : List Expr) (m : DMC) : Prop := ∃ t, PA X es t ∧ EvC X.K m t
def DK (X : Cx) (kws : List Keyword) (m : DMC) : Prop := ∃ t, PK X kws t ∧ EvC X.K m t
@[simp] def mcNil : DMC := fun env R => R [] env
@[simp] def mcCons (a : DM) (r : DMC) : DMC := fun env R => a env fun x e1 => match x with
  | .vl d => r e1 fun as e2 => R (.vl d :: as) e2
  | .tm d => r e1 fun as e2 => R (.vl d :: as) e2
  | .sl i => r e1 fun as e2 => R (.sl i :: as) e2
theorem evc_nil {K : PySem.W.Frag} : EvC K mcNil tNil := fun C F env σ H R Q I h k => k [] env F [] H h I.aft .nil
theorem evc_cons {K : PySem.W.Frag} {m : DM} {r : DMC} {t : TE} {u : TA} (ev : EvD K m t) (er : EvC K r u) : EvC K (mcCons m r) (tCons t u) := by
  intro C F env σ H R Q I h k
  refine ev C F env σ H _ _ I h ?_
  intro x e1 F1 v H1 h1 A1 r1
  have kept : ∀ d : D, x.get e1 (fun d' => d' = d) → r e1 (fun as e2 => R (.vl d :: as) e2) → u σ H1 fun xs H2 => Q (v :: xs) H2 := fun d hd h2 => by
    obtain ⟨F2, d', rfl, A2, ex, rp⟩ := A1.keepIt r1 hd
    refine er C F2 e1 σ H1 _ _ A2.ok h2 ?_
    intro as e3 F3 vs H3 h3 A3 r3
    exact k (.vl d' :: as) e3 F3 (v :: vs) H3 h3 (A2.trans A3) (.cons (rp.mono A3.ex) r3)
  cases x with
  | vl d => exact kept d rfl h1
  | tm d => exact kept d rfl h1
  | sl i =>
    refine er C F1 e1 σ H1 _ _ A1.ok h1 ?_
    intro as e3 F3 vs H3 h3 A3 r3
    exact k (.sl i :: as) e3 F3 (v :: vs) H3 h3 (A1.trans A3) (.cons r1 r3)
theorem dc_nil {X : Cx} : DC X [] mcNil := ⟨_, pa_nil, evc_nil⟩
theorem dc_cons {X : Cx} {e : Expr} {es : List Expr} {m : DM} {mc : DMC} (h : DE X e m) (hr : DC X es mc) (hs : starEach (e :: es) X.env = (false, eval e X.env) :: starEach es X.env := by rfl) : DC X (e :: es) (mcCons m mc) := by
  obtain ⟨t, p, ev⟩ := h
  obtain ⟨u, q, er⟩ := hr
  exact ⟨_, pa_cons p q hs, evc_cons ev er⟩
theorem dk_nil {X : Cx} : DK X [] mcNil := ⟨_, pk_nil, evc_nil⟩
theorem dk_cons {X : Cx} {nm : _} {kpos : _} {e : Expr} {kws : List Keyword} {m : DM} {mc : DMC} (h : DE X e m) (hr : DK X kws mc) : DK X (⟨nm, e, kpos⟩ :: kws) (mcCons m mc) := by
  obtain ⟨t, p, ev⟩ := h
  obtain ⟨u, q, er⟩ := hr
  exact ⟨_, pk_cons p q, evc_cons ev er⟩

/-! ### how the callee sees the caller's slots, and what the caller has behind -/
@[simp] def passS : Slot → Slot
  | .own _ d => .own true d
  | .val d => .val d
  | .no => .no
@[simp] def resolve (env : List Slot) : CA → Slot
  | .vl d => .val d
  | .sl i => match env[i]? with
    | some s => passS s
    | none => .no
@[simp] def isOwn (env : List Slot) (i : Nat) : Bool := match env[i]? with
  | some (.own _ _) => true
  | _ => false
@[simp] def isSl (i : Nat) : CA → Bool
  | .sl j => i == j
  | .vl _ => false
@[simp] def apart (env : List Slot) : List CA → Bool
  | [] => true
  | .sl i :: r => (!isOwn env i || !r.any (isSl i)) && apart env r
  | .vl _ :: r => apart env r
@[simp] def look : List CA → List Slot → Nat → D → D
  | .sl j :: as, .own _ d' :: ss, i, d => if j = i then d' else look as ss i d
  | _ :: as, _ :: ss, i, d => look as ss i d
  | _, _, _, d => d
@[simp] def putBack (as : List CA) (ss : List Slot) : Nat → List Slot → List Slot
  | _, [] => []
  | k, .own b d :: r => .own b (look as ss k d) :: putBack as ss (k + 1) r
  | k, .val d :: r => .val d :: putBack as ss (k + 1) r
  | k, .no :: r => .no :: putBack as ss (k + 1) r
def pbS (as : List CA) (ss : List Slot) (k : Nat) : Slot → Slot
  | .own b d => .own b (look as ss k d)
  | s => s
theorem putBack_get (as : List CA) (ss : List Slot) : ∀ (env : List Slot) (k i : Nat), (putBack as ss k env)[i]? = (env[i]?).map (pbS as ss (k + i))
  | [], k, i => by simp
  | s :: r, k, 0 => by cases s <;> simp [pbS]
  | s :: r, k, i + 1 => by
    have h := putBack_get as ss r (k + 1) i
    have e : k + 1 + i = k + (i + 1) := by omega
    rw [e] at h
    cases s <;> simpa using h
theorem putBack_length (as : List CA) (ss : List Slot) : ∀ (env : List Slot) (k : Nat), (putBack as ss k env).length = env.length
  | [], k => rfl
  | s :: r, k => by cases s <;> simp [putBack_length as ss r (k + 1)]
theorem apart_ix {env : List Slot} : ∀ {as : List CA} {i j a : Nat}, apart env as = true → isOwn env a = true → as[i]? = some (.sl a) → as[j]? = some (.sl a) → i = j
  | [], i, j, a, _, _, e, _ => by simp at e
  | c :: r, 0, 0, a, _, _, _, _ => rfl
  | c :: r, 0, j + 1, a, h, o, e1, e2 => by
    simp at e1; subst e1
    simp only [apart, Bool.and_eq_true, o, Bool.not_true, Bool.false_or, Bool.not_eq_true', List.any_eq_false] at h
    have := h.1 (.sl a) (List.mem_of_getElem? (by simpa using e2))
    simp at this
  | c :: r, i + 1, 0, a, h, o, e1, e2 => by
    simp at e2; subst e2
    simp only [apart, Bool.and_eq_true, o, Bool.not_true, Bool.false_or, Bool.not_eq_true', List.any_eq_false] at h
    have := h.1 (.sl a) (List.mem_of_getElem? (by simpa using e1))
    simp at this
  | c :: r, i + 1, j + 1, a, h, o, e1, e2 => by
    have h' : apart env r = true := by
      cases c with
      | sl q => simp only [apart, Bool.and_eq_true] at h; exact h.2
      | vl d => simpa using h
    exact congrArg (· + 1) (apart_ix h' o (by simpa using e1) (by simpa using e2))
theorem look_at : ∀ {as : List CA} {ss : List Slot} {k i : Nat} {b : Bool} {d d' : D}, as[k]? = some (.sl i) → ss[k]? = some (.own b d') → (∀ j : Nat, as[j]? = some (CA.sl i) → j = k) → look as ss i d = d'
  | [], _, _, _, _, _, _, e, _, _ => by simp at e
  | _ :: _, [], _, _, _, _, _, _, e, _ => by simp at e
  | c :: as, s :: ss, 0, i, b, d, d', e1, e2, _ => by
    simp at e1 e2; subst e1; subst e2; simp
  | c :: as, s :: ss, k + 1, i, b, d, d', e1, e2, u => by
    have r : look as ss i d = d' := look_at (k := k) (by simpa using e1) (by simpa using e2) fun j q => by
      have := u (j + 1) (by simpa using q)
      omega
    have nc : c ≠ .sl i := fun z => by
      have := u 0 (by simp [z])
      omega
    cases c with
    | vl x => simpa using r
    | sl j =>
      have : j ≠ i := fun z => nc (by rw [z])
      cases s <;> simp [this, r]
theorem look_none : ∀ {as : List CA} {ss : List Slot} {i : Nat} {d : D}, (∀ k : Nat, as[k]? ≠ some (CA.sl i)) → look as ss i d = d
  | [], ss, i, d, _ => by cases ss <;> simp
  | c :: as, [], i, d, _ => by cases c <;> simp
  | c :: as, s :: ss, i, d, h => by
    have r : look as ss i d = d := look_none fun k q => h (k + 1) (by simpa using q)
    cases c with
    | vl x => simpa using r
    | sl j =>
      have : j ≠ i := fun z => h 0 (by simp [z])
      cases s <;> simp [this, r]
@[simp] def putB : List CA → List Slot → List Slot → List Slot
  | .sl i :: as, .own _ d' :: ss, env => putB as ss (match env[i]? with
    | some (.own b _) => env.set i (.own b d')
    | _ => env)
  | _ :: as, _ :: ss, env => putB as ss env
  | _, _, env => env
theorem isOwn_set {env : List Slot} {i : Nat} {b b' : Bool} {d d' : D} (e : env[i]? = some (.own b d)) (n : Nat) : isOwn (env.set i (.own b' d')) n = isOwn env n := by
  by_cases q : i = n
  · subst q
    have hl : i < env.length := by
      rcases Nat.lt_or_ge i env.length with z | z
      · exact z
      · rw [List.getElem?_eq_none z] at e; cases e
    show (match (env.set i (.own b' d'))[i]? with | some (.own _ _) => true | _ => false) = match env[i]? with | some (.own _ _) => true | _ => false
    rw [List.getElem?_set_self hl, e]
  · show (match (env.set i (.own b' d'))[n]? with | some (.own _ _) => true | _ => false) = match env[n]? with | some (.own _ _) => true | _ => false
    rw [List.getElem?_set_ne q]
theorem apart_congr {env env' : List Slot} (h : ∀ n, isOwn env' n = isOwn env n) : ∀ as : List CA, apart env' as = apart env as
  | [] => rfl
  | .vl d :: r => by simpa using apart_congr h r
  | .sl i :: r => by
    show ((!isOwn env' i || !r.any (isSl i)) && apart env' r) = ((!isOwn env i || !r.any (isSl i)) && apart env r)
    rw [h, apart_congr h r]
theorem putB_get : ∀ (as : List CA) (ss env : List Slot) (n : Nat), apart env as = true → (putB as ss env)[n]? = (env[n]?).map (pbS as ss n)
  | [], ss, env, n, _ => by
    have : pbS [] ss n = id := funext fun s => by cases s <;> simp [pbS]
    simp [this]
  | c :: as, [], env, n, _ => by
    have : pbS (c :: as) [] n = id := funext fun s => by cases s <;> cases c <;> simp [pbS]
    cases c <;> simp [this]
  | .vl x :: as, s :: ss, env, n, ap => by
    have : pbS (.vl x :: as) (s :: ss) n = pbS as ss n := funext fun q => by cases q <;> simp [pbS]
    simp only [putB, this]
    exact putB_get as ss env n (by simpa using ap)
  | .sl i :: as, .val x :: ss, env, n, ap => by
    have : pbS (.sl i :: as) (.val x :: ss) n = pbS as ss n := funext fun q => by cases q <;> simp [pbS]
    simp only [putB, this]
    exact putB_get as ss env n (by simp only [apart, Bool.and_eq_true] at ap; exact ap.2)
  | .sl i :: as, .no :: ss, env, n, ap => by
    have : pbS (.sl i :: as) (.no :: ss) n = pbS as ss n := funext fun q => by cases q <;> simp [pbS]
    simp only [putB, this]
    exact putB_get as ss env n (by simp only [apart, Bool.and_eq_true] at ap; exact ap.2)
  | .sl i :: as, .own b0 d' :: ss, env, n, ap => by
    have ap0 : (!isOwn env i || !as.any (isSl i)) = true ∧ apart env as = true := by simpa only [apart, Bool.and_eq_true] using ap
    cases q : env[i]? with
    | none =>
      have e : putB (.sl i :: as) (.own b0 d' :: ss) env = putB as ss env := by simp only [putB, q]
      rw [e, putB_get as ss env n ap0.2]
      cases qn : env[n]? with
      | none => rfl
      | some s =>
        have hne : i ≠ n := fun z => by subst z; rw [q] at qn; cases qn
        cases s <;> simp [pbS, hne]
    | some si =>
      cases si with
      | val x =>
        have e : putB (.sl i :: as) (.own b0 d' :: ss) env = putB as ss env := by simp only [putB, q]
        rw [e, putB_get as ss env n ap0.2]
        cases qn : env[n]? with
        | none => rfl
        | some s =>
          by_cases hne : i = n
          · subst hne; rw [q] at qn; cases qn; simp [pbS]
          · cases s <;> simp [pbS, hne]
      | no =>
        have e : putB (.sl i :: as) (.own b0 d' :: ss) env = putB as ss env := by simp only [putB, q]
        rw [e, putB_get as ss env n ap0.2]
        cases qn : env[n]? with
        | none => rfl
        | some s =>
          by_cases hne : i = n
          · subst hne; rw [q] at qn; cases qn; simp [pbS]
          · cases s <;> simp [pbS, hne]
      | own b x =>
        have e : putB (.sl i :: as) (.own b0 d' :: ss) env = putB as ss (env.set i (.own b d')) := by simp only [putB, q]
        have ap1 : apart (env.set i (.own b d')) as = true := by rw [apart_congr (isOwn_set q)]; exact ap0.2
        have hl : i < env.length := by
          rcases Nat.lt_or_ge i env.length with z | z
          · exact z
          · rw [List.getElem?_eq_none z] at q; cases q
        rw [e, putB_get as ss _ n ap1]
        by_cases hne : i = n
        · subst hne
          rw [List.getElem?_set_self hl, q]
          have no : ∀ k : Nat, as[k]? ≠ some (CA.sl i) := fun k z => by
            have h1 := ap0.1
            have : isOwn env i = true := by simp [q]
            rw [this] at h1
            have h2 : as.any (isSl i) = false := by simpa using h1
            rw [List.any_eq_false] at h2
            exact h2 _ (List.mem_of_getElem? z) (by simp)
          simp [pbS, look_none no]
        · rw [List.getElem?_set_ne hne]
          cases qn : env[n]? with
          | none => rfl
          | some s => cases s <;> simp [pbS, hne]
theorem putB_eq {as : List CA} {ss env : List Slot} (ap : apart env as = true) : putB as ss env = putBack as ss 0 env := by
  apply List.ext_getElem?
  intro n
  rw [putB_get as ss env n ap, putBack_get, Nat.zero_add]
theorem resolve_own {env : List Slot} {a : CA} {b : Bool} {d : D} (h : resolve env a = .own b d) : b = true ∧ ∃ i b', a = .sl i ∧ env[i]? = some (.own b' d) := by
  cases a with
  | vl x => simp at h
  | sl i =>
    simp only [resolve] at h
    split at h
    · rename_i s e
      cases s with
      | own b' d' => simp at h; exact ⟨h.1, i, b', rfl, by rw [e, h.2]⟩
      | val d' => simp at h
      | no => simp at h
    · cases h
theorem resolve_val {env : List Slot} {a : CA} {d : D} (h : resolve env a = .val d) : a = .vl d ∨ ∃ i, a = .sl i ∧ env[i]? = some (.val d) := by
  cases a with
  | vl x => simp at h; exact Or.inl (by rw [h])
  | sl i =>
    simp only [resolve] at h
    split at h
    · rename_i s e
      cases s with
      | own b' d' => simp at h
      | val d' => simp at h; exact Or.inr ⟨i, rfl, by rw [e, h]⟩
      | no => simp at h
    · cases h

section
variable {K : PySem.W.Frag} {C : Ct} {F0 F H0 H : Hp} {env0 env : List Slot} {σ : L2.St}
theorem call_parts {vs : List V} {as : List CA} (I : Ok K C F env σ H) (ca : CAs K F σ vs as) (ap : apart env as = true) :
    ArgsOk K F (as.map (resolve env)) vs H ∧ (∀ (i : Nat) (d : D), (as.map (resolve env))[i]? ≠ some (.own false d)) ∧
      ∀ r ss F' v H', Done K F (as.map (resolve env)) vs H r ss F' v H' → Aft K C F env σ H F' (putB as ss env) H' ∧ ∀ p, H p = none → ∀ i, ¬ Owns (putB as ss env) σ i p := by
  have hl := ca.length
  have getA : ∀ (i : Nat) (s : Slot), (as.map (resolve env))[i]? = some s → ∃ a v, as[i]? = some a ∧ vs[i]? = some v ∧ CAOk K F σ v a ∧ resolve env a = s := fun i s e => by
    rw [List.getElem?_map] at e
    cases q : as[i]? with
    | none => rw [q] at e; cases e
    | some a =>
      rw [q] at e
      obtain ⟨v, h1, h2⟩ := ca.get q
      exact ⟨a, v, rfl, h1, h2, by simpa using e⟩
  -- an owned argument is an owned slot
  have ownA : ∀ (i : Nat) (p : Addr), Owns (as.map (resolve env)) (vs.map some) i p → ∃ j, as[i]? = some (.sl j) ∧ Owns env σ j p := fun i p ⟨b, d, e, s⟩ => by
    obtain ⟨a, v, h1, h2, h3, h4⟩ := getA i _ e
    obtain ⟨_, j, b', rfl, h5⟩ := resolve_own h4
    rw [List.getElem?_map, h2] at s
    simp at s
    have h3' : σ[j]? = some (some v) := h3
    exact ⟨j, h1, b', d, h5, by rw [h3', s]⟩
  have isO : ∀ {j : Nat} {p : Addr}, Owns env σ j p → isOwn env j = true := fun {j p} ⟨b, d, e, _⟩ => by simp [e]
  refine ⟨?_, ?_, ?_⟩
  · exact {
      len := by rw [List.length_map, List.length_map, hl]
      sub := I.sub, keep := fun a o e _ => e, all := fun a e => e, new := fun a _ e => e, bas := Ex.refl F
      vals := fun i d e => by
        obtain ⟨a, v, h1, h2, h3, h4⟩ := getA i _ e
        refine ⟨v, by rw [List.getElem?_map, h2]; rfl, ?_⟩
        rcases resolve_val h4 with rfl | ⟨j, rfl, h5⟩
        · exact h3
        · obtain ⟨w, q1, q2⟩ := I.vals j d h5
          have h3' : σ[j]? = some (some v) := h3
          rw [h3'] at q1; cases q1
          exact q2
      owns := fun i b d e => by
        obtain ⟨a, v, h1, h2, h3, h4⟩ := getA i _ e
        obtain ⟨rfl, j, b', rfl, h5⟩ := resolve_own h4
        obtain ⟨p, o, q1, q2, q3, q4, q5, q6⟩ := I.owns j b' d h5
        have h3' : σ[j]? = some (some v) := h3
        rw [h3'] at q1; cases q1
        have hs : (vs.map some)[i]? = some (some (.ref p)) := by rw [List.getElem?_map, h2]; rfl
        exact ⟨p, o, hs, q2, q3, q4, (fun z => by cases z), fun _ => ⟨h2, ⟨i, true, d, e, hs⟩, by show H p ≠ none; rw [q2]; exact fun z => nomatch z⟩⟩
      sep := fun i j p a b => by
        obtain ⟨x, h1, h2⟩ := ownA i p a
        obtain ⟨y, h3, h4⟩ := ownA j p b
        have := I.sep x y p h2 h4
        subst this
        exact apart_ix ap (isO h2) h1 h3
      pins := fun i ⟨b, d, e⟩ => by
        obtain ⟨a, v, h1, h2, h3, h4⟩ := getA i _ e
        obtain ⟨rfl, _⟩ := resolve_own h4
        exact ⟨d, e⟩ }
  · intro i d e
    obtain ⟨a, v, h1, h2, h3, h4⟩ := getA i _ e
    obtain ⟨q, _⟩ := resolve_own h4
    cases q
  intro r ss F' v H' dn
  rw [putB_eq ap]
  have notW : ∀ a, (∀ i, ¬ Owns env σ i a) → ¬ OwnW (as.map (resolve env)) vs a := fun a n ⟨i, q⟩ => by
    obtain ⟨j, _, h2⟩ := ownA i a q
    exact n j h2
  have pbO : ∀ (i : Nat) (b : Bool) (d : D), (putBack as ss 0 env)[i]? = some (.own b d) → ∃ d0, env[i]? = some (.own b d0) ∧ d = look as ss i d0 := fun i b d e => by
    rw [putBack_get, Nat.zero_add] at e
    cases q : env[i]? with
    | none => rw [q] at e; cases e
    | some s =>
      rw [q] at e
      cases s with
      | own b' d' => simp [pbS] at e; exact ⟨d', by rw [e.1], e.2.symm⟩
      | val d' => simp [pbS] at e
      | no => simp [pbS] at e
  have ow2 : ∀ i p, Owns (putBack as ss 0 env) σ i p → Owns env σ i p := fun i p ⟨b, d, e, s⟩ => by
    obtain ⟨d0, h1, _⟩ := pbO i b d e
    exact ⟨b, d0, h1, s⟩
  have B : Aft K C F env σ H F' (putBack as ss 0 env) H' := {
    ok := {
      len := by rw [putBack_length]; exact I.len
      sub := dn.sub
      keep := fun a o e n => by
        refine dn.keep a o (I.keep a o e n) (notW a fun i q => ?_)
        obtain ⟨b, d, h1, h2⟩ := q
        obtain ⟨p, u, q1, q2, q3, q4, q5, q6⟩ := I.owns i b d h1
        rw [h2] at q1; cases q1
        cases b with
        | false => have := q5 rfl; rw [e] at this; cases this
        | true => exact n (q6 rfl).2.1
      all := fun a e => dn.all a (I.all a e)
      new := fun a e z => dn.new a (I.all a e) (I.new a e z)
      bas := I.bas.trans dn.ex
      vals := fun i d e => by
        rw [putBack_get, Nat.zero_add] at e
        cases q : env[i]? with
        | none => rw [q] at e; cases e
        | some s =>
          rw [q] at e
          cases s with
          | own b' d' => simp [pbS] at e
          | val d' =>
            simp [pbS] at e
            subst e
            obtain ⟨w, q1, q2⟩ := I.vals i d' q
            exact ⟨w, q1, q2.mono dn.ex⟩
          | no => simp [pbS] at e
      owns := fun i b d e => by
        obtain ⟨d0, h1, h2⟩ := pbO i b d e
        obtain ⟨p, o, q1, q2, q3, q4, q5, q6⟩ := I.owns i b d0 h1
        have hF : F' p = none := dn.new p (by rw [q2]; exact fun z => nomatch z) q4
        by_cases w : ∃ k : Nat, as[k]? = some (CA.sl i)
        · obtain ⟨k', hk'⟩ := w
          have ea : (as.map (resolve env))[k']? = some (.own true d0) := by rw [List.getElem?_map, hk']; simp [h1]
          obtain ⟨p', o', d', g1, g2, g3, g4⟩ := dn.own k' true d0 ea
          obtain ⟨v', g5, g6⟩ := ca.get hk'
          rw [g1] at g5; cases g5
          have g6' : σ[i]? = some (some (.ref p')) := g6
          rw [q1] at g6'; cases g6'
          have : look as ss i d0 = d' := look_at hk' g2 fun j hj => apart_ix ap (isO ⟨b, d0, h1, q1⟩) hj hk'
          rw [h2, this]
          exact ⟨p, o', q1, g3, g4, hF, q5, q6⟩
        · have : look as ss i d0 = d0 := look_none fun k q => w ⟨k, q⟩
          rw [h2, this]
          refine ⟨p, o, q1, dn.keep p o q2 ?_, q3.mono dn.ex, hF, q5, q6⟩
          rintro ⟨k', q⟩
          obtain ⟨j, z1, z2⟩ := ownA k' p q
          have := I.sep j i p z2 ⟨b, d0, h1, q1⟩
          subst this
          exact w ⟨k', z1⟩
      sep := fun i j p a b => I.sep i j p (ow2 i p a) (ow2 j p b)
      pins := fun i q => by
        obtain ⟨d, e⟩ := I.pins i q
        exact ⟨look as ss i d, by rw [putBack_get, e]; simp [pbS]⟩ }
    ex := dn.ex
    fr := fun a o e n => dn.keep a o e (notW a n)
    nw := fun a e z _ => dn.new a e z
    al := dn.all
    le := fun i b d e => let ⟨d0, h1, _⟩ := pbO i b d e; ⟨d0, h1⟩ }
  exact ⟨B, fun p g4 i q => I.unowned g4 i (ow2 i p q)⟩
theorem call_core {sd : DSpec} {vs : List V} {as : List CA} {R : RV → List Slot → Prop} {Q : VK} {E : XK} (A : Aft K C F0 env0 σ H0 F env H) (ca : CAs K F σ vs as) (ap : apart env as = true)
    (h : sd (as.map (resolve env)) R)
    (k : ∀ r ss F' v H', R r ss → Aft K C F0 env0 σ H0 F' (putB as ss env) H' → RVOk K C F' (putB as ss env) σ H0 H' v r → Q v H') : spD K sd vs H Q E := by
  obtain ⟨h1, h2, h3⟩ := call_parts A.ok ca ap
  refine ⟨F, as.map (resolve env), R, h1, h2, h, ?_⟩
  intro r ss F' v H' hR dn
  obtain ⟨B, no⟩ := h3 r ss F' v H' dn
  refine k r ss F' v H' hR (A.trans B) ?_
  have rs := dn.res
  cases r with
  | vl d => exact rs
  | tm d =>
    obtain ⟨p, o, rfl, g1, g2, g3, g4⟩ := rs
    exact ⟨p, o, rfl, g1, g2, g3, A.ok.gnone g4, no p g4, A.back g4⟩
  | sl i => exact rs.elim
end

@[simp] def mCall (sd : DSpec) (dds : List D) (a : DMC) : DM := fun env R => a env fun as e => apart e as = true ∧ sd ((as ++ dds.map CA.vl).map (resolve e)) fun r ss => R r (putB as ss e)
theorem apart_app {env : List Slot} : ∀ {as : List CA} {dds : List D}, apart env as = true → apart env (as ++ dds.map CA.vl) = true
  | [], [], _ => rfl
  | [], d :: dds, h => apart_app (as := []) (dds := dds) h
  | .vl d :: as, dds, h => apart_app (as := as) h
  | .sl i :: as, dds, h => by
    simp only [apart, Bool.and_eq_true] at h
    show ((!isOwn env i || !(as ++ dds.map CA.vl).any (isSl i)) && apart env (as ++ dds.map CA.vl)) = true
    rw [List.any_append]
    have e : (dds.map CA.vl).any (isSl i) = false := by
      rw [List.any_map]
      induction dds with
      | nil => rfl
      | cons d r ih => simp
    rw [e, Bool.or_false, h.1, apart_app h.2]
    rfl
theorem look_app {dds : List D} : ∀ {as : List CA} {ss : List Slot} {i : Nat} {d : D}, look (as ++ dds.map CA.vl) ss i d = look as ss i d
  | [], ss, i, d => by
    have : ∀ (l : List D) (ss : List Slot), look (l.map CA.vl) ss i d = d := fun l ss => look_none fun k q => by
      rw [List.getElem?_map] at q
      cases h : l[k]? <;> simp [h] at q
    show look (dds.map CA.vl) ss i d = look [] ss i d
    rw [this]
    cases ss <;> rfl
  | c :: as, [], i, d => by cases c <;> simp
  | .vl x :: as, s :: ss, i, d => by
    show look (as ++ dds.map CA.vl) ss i d = look as ss i d
    exact look_app
  | .sl j :: as, .own b d' :: ss, i, d => by
    show (if j = i then d' else look (as ++ dds.map CA.vl) ss i d) = if j = i then d' else look as ss i d
    rw [look_app]
  | .sl j :: as, .val d' :: ss, i, d => by
    show look (as ++ dds.map CA.vl) ss i d = look as ss i d
    exact look_app
  | .sl j :: as, .no :: ss, i, d => by
    show look (as ++ dds.map CA.vl) ss i d = look as ss i d
    exact look_app
theorem putB_vl {dds : List D} : ∀ {ss env : List Slot}, putB (dds.map CA.vl) ss env = env := by
  induction dds with
  | nil => intro ss env; rfl
  | cons d r ih =>
    intro ss env
    cases ss with
    | nil => rfl
    | cons s ss => exact ih
theorem putB_app {dds : List D} : ∀ {as : List CA} {ss env : List Slot}, putB (as ++ dds.map CA.vl) ss env = putB as ss env
  | [], ss, env => by
    show putB (dds.map CA.vl) ss env = putB [] ss env
    rw [putB_vl]; cases ss <;> rfl
  | c :: as, [], env => by cases c <;> rfl
  | .vl x :: as, s :: ss, env => by
    show putB (as ++ dds.map CA.vl) ss env = putB as ss env
    exact putB_app
  | .sl i :: as, s :: ss, env => by
    cases s with
    | own b d => exact putB_app (as := as) (ss := ss)
    | val d => exact putB_app (as := as) (ss := ss)
    | no => exact putB_app (as := as) (ss := ss)
section
variable {X : Cx} {k : Nat} {f : Addr} {fd : FuncData} {ps ks : List Str} {sd : DSpec} {dvs : List V} {dds : List D} {ds : List Value} {x : Str} {p pos : Pos} {e : Expr} {es : List Expr} {kws : List Keyword}
theorem dcallD (F : FnG X.prog X.w X.K X.mg X.base CX0 k f fd ps (spD X.K sd)) (hgd : X.A.guards = some []) (hr : Room k X.A) (hg : Gl X x) (hm : X.mg x = some (.ref f)) (hk : PySem.W.keepIn X.K (.ref f) = true) (hb : Binds X.K fd ps ds) (hd : Vals dvs ds) (rd : ∀ F, RepL X.K F dvs dds)
    {mc : DMC} (h : DC X (e :: es) mc) (hdb : (x == ("__debug__" : Str)) = false := by decide) (he : starEach (e :: es) X.env = (false, eval e X.env) :: starEach es X.env := by rfl) (hpl : (backTo pos (starEach es X.env)).any (·.1) = false := by rfl) :
    DE X (.Call (.Name x p) (e :: es) [] pos) (mCall sd dds mc) := by
  obtain ⟨t, pa, ev⟩ := h
  refine ⟨_, pe_callG (E := E0) F hgd hr hg hm hk hb hd pass0 pa hdb he hpl, ?_⟩
  intro C F env σ H R Q I h k
  refine ev C F env σ H _ _ I h ?_
  intro as e1 F1 vs H1 h1 A1 r1
  refine call_core A1 (r1.append (CAs.ofRep (rd F1))) (apart_app h1.1) h1.2 fun r ss F' v H' hR A2 r2 => ?_
  rw [putB_app] at A2 r2
  exact k r _ F' v H' hR A2 r2
theorem dcall (F : FnG X.prog X.w X.K X.mg X.base CX0 k f fd ps (spD X.K sd)) (hgd : X.A.guards = some []) (hr : Room k X.A) (hg : Gl X x) (hm : X.mg x = some (.ref f)) (hk : PySem.W.keepIn X.K (.ref f) = true) (hb : Binds X.K fd ps [])
    {mc : DMC} (h : DC X (e :: es) mc) (hdb : (x == ("__debug__" : Str)) = false := by decide) (he : starEach (e :: es) X.env = (false, eval e X.env) :: starEach es X.env := by rfl) (hpl : (backTo pos (starEach es X.env)).any (·.1) = false := by rfl) :
    DE X (.Call (.Name x p) (e :: es) [] pos) (mCall sd [] mc) := dcallD F hgd hr hg hm hk hb .nil (fun _ => .nil) h hdb he hpl
end
end DL

set_option Elab.async false
set_option linter.all false
set_option maxRecDepth 100000
set_option maxHeartbeats 4000000
set_option autoImplicit false
/-! DL6: what is walked, targets, for, while, comprehensions. -/
namespace DL
open PySem PySem.Spec L2 Evl PyProof.Rows

/-! ### targets -/
abbrev DTg := D → List Slot → (List Slot → Prop) → Prop
abbrev DTgs := List D → List Slot → (List Slot → Prop) → Prop
def Keeps (js : List Nat) (env env' : List Slot) (σ σ' : L2.St) : Prop :=
  σ'.length = σ.length ∧ (∀ i, i ∉ js → σ'[i]? = σ[i]?) ∧ (∀ (i : Nat) (b : Bool) (d : D), env'[i]? = some (.own b d) → env[i]? = some (.own b d))
theorem Keeps.trans {js : List Nat} {a b c : List Slot} {x y z : L2.St} (h : Keeps js a b x y) (k : Keeps js b c y z) : Keeps js a c x z :=
  ⟨k.1.trans h.1, fun i n => (k.2.1 i n).trans (h.2.1 i n), fun i q d e => h.2.2 i q d (k.2.2 i q d e)⟩
theorem Keeps.mono {js ks : List Nat} {a b : List Slot} {x y : L2.St} (h : Keeps js a b x y) (s : ∀ i ∈ js, i ∈ ks) : Keeps ks a b x y :=
  ⟨h.1, fun i n => h.2.1 i fun q => n (s i q), h.2.2⟩
def EvG (K : PySem.W.Frag) (js : List Nat) (g : DTg) (t : TG) : Prop := ∀ C F env σ H v d R Q, Ok K C F env σ H → Rep K F v d → g d env R →
  (∀ env' σ', R env' → Ok K C F env' σ' H → Keeps js env env' σ σ' → Q σ' H) → t v σ H Q
def EvGs (K : PySem.W.Frag) (js : List Nat) (g : DTgs) (t : TGs) : Prop := ∀ C F env σ H vs ds R Q, Ok K C F env σ H → RepL K F vs ds → g ds env R →
  (∀ env' σ', R env' → Ok K C F env' σ' H → Keeps js env env' σ σ' → Q σ' H) → t vs σ H Q
def DG (X : Cx) (tg : Expr) (js : List Nat) (g : DTg) : Prop := ∃ t, PG X tg t ∧ EvG X.K js g t
def DGs (X : Cx) (tgs : List Expr) (js : List Nat) (g : DTgs) : Prop := ∃ t, PGs X tgs t ∧ EvGs X.K js g t
@[simp] def gN (j : Nat) : DTg := fun d env R => Free env j ∧ R (env.set j (.val d))
@[simp] def gsNil : DTgs := fun ds env R => match ds with
  | [] => R env
  | _ => False
@[simp] def gsCons (g : DTg) (gs : DTgs) : DTgs := fun ds env R => match ds with
  | d :: r => g d env fun e => gs r e R
  | [] => False
@[simp] def gT (n : Nat) (gs : DTgs) : DTg := fun d env R => match d with
  | .tup ds => ds.length = n ∧ gs ds env R
  | _ => False
section
variable {X : Cx} {pos : Pos}
theorem dg_name (j : Nat) {x : Str} (hN : X.N.Nodup) (hi : X.N[j]? = some x) (hx : Loc X.env.scope x) (hf : X.fn x = true ∨ X.env.scope.names.lookup x = some .local := by first | exact .inl rfl | exact .inr rfl | assumption) : DG X (.Name x pos) [j] (gN j) := by
  refine ⟨_, pg_name hN hi hx hf, ?_⟩
  intro C F env σ H v d R Q I r h k
  refine k _ _ h.2 (I.setVal h.1 r) ⟨by simp, fun i n => ?_, fun i b d' e => ?_⟩
  · rw [List.getElem?_set_ne]
    rintro rfl
    exact n (by simp)
  · by_cases q : j = i
    · subst q
      rw [List.getElem?_set] at e
      split at e
      · split at e <;> cases e
      · exact absurd rfl ‹¬ _›
    · rw [List.getElem?_set_ne q] at e; exact e
theorem dgs_nil : DGs X [] [] gsNil := by
  refine ⟨_, pgs_nil, ?_⟩
  intro C F env σ H vs ds R Q I r h k
  cases r with
  | nil => exact ⟨rfl, k env σ h I ⟨rfl, fun _ _ => rfl, fun _ _ _ e => e⟩⟩
  | cons _ _ => exact h.elim
theorem dgs_cons {e : Expr} {es : List Expr} {js ks : List Nat} {g : DTg} {gs : DTgs} (h1 : DG X e js g) (h2 : DGs X es ks gs)
    (hs : (assignEach (e :: es) X.env).map (·.2) = assign e X.env :: (assignEach es X.env).map (·.2) := by rfl) : DGs X (e :: es) (js ++ ks) (gsCons g gs) := by
  obtain ⟨t, p, ev⟩ := h1
  obtain ⟨u, q, er⟩ := h2
  refine ⟨_, pgs_cons p q hs, ?_⟩
  intro C F env σ H vs ds R Q I r h k
  cases r with
  | nil => exact h.elim
  | cons a r =>
    refine ⟨_, _, rfl, ?_⟩
    refine ev C F env σ H _ _ _ _ I a h ?_
    intro e1 σ1 h1 I1 k1
    refine er C F e1 σ1 H _ _ _ _ I1 r h1 ?_
    intro e2 σ2 h2 I2 k2
    exact k e2 σ2 h2 I2 ((k1.mono fun i z => List.mem_append_left _ z).trans (k2.mono fun i z => List.mem_append_right _ z))
theorem dg_tup {es : List Expr} {kk : Nat} {js : List Nat} {gs : DTgs} {n : Nat} (hc : X.calm = true) (h : DGs X es js gs) (hn : (assignEach es X.env).length = n := by rfl) (hst : (assignEach es X.env).findIdx? (·.1) = none := by rfl) : DG X (.Tuple es kk pos) js (gT n gs) := by
  obtain ⟨t, p, ev⟩ := h
  refine ⟨_, pg_tup hc p hn hst, ?_⟩
  intro C F env σ H v d R Q I r h k
  cases r with
  | tup s r =>
    refine ⟨_, _, rfl, ex_t I.sub s, r.length.trans h.1, ?_⟩
    exact ev C F env σ H _ _ _ _ I r h.2 k
  | _ => exact h.elim
end

/-! ### what is walked -/
abbrev Holds := List (Nat × List D)
abbrev DMI := List Slot → (List D → Holds → List Slot → Prop) → Prop
@[simp] def holdE : Holds → List Slot → Prop
  | [], _ => True
  | (i, l) :: r, env => (match env[i]? with
    | some (.own _ (.lst l')) => l' = l
    | _ => False) ∧ holdE r env
@[simp] def pinE : Holds → List Slot → Prop
  | [], _ => True
  | (i, l) :: r, env => (match env[i]? with
    | some (.own true (.lst l')) => l' = l
    | _ => False) ∧ pinE r env
theorem holdE.get : ∀ {h : Holds} {env : List Slot}, holdE h env → ∀ p ∈ h, ∃ b, env[p.1]? = some (.own b (.lst p.2))
  | (i, l) :: r, env, h, p, m => by
    rcases List.mem_cons.mp m with rfl | m
    · have h1 := h.1
      split at h1
      · rename_i b l' e; subst h1; exact ⟨b, e⟩
      · exact h1.elim
    · exact holdE.get h.2 p m
theorem pinE.get : ∀ {h : Holds} {env : List Slot}, pinE h env → ∀ p ∈ h, env[p.1]? = some (.own true (.lst p.2))
  | (i, l) :: r, env, h, p, m => by
    rcases List.mem_cons.mp m with rfl | m
    · have h1 := h.1
      split at h1
      · rename_i l' e; subst h1; exact e
      · exact h1.elim
    · exact pinE.get h.2 p m
theorem pinE.hold : ∀ {h : Holds} {env : List Slot}, pinE h env → holdE h env
  | [], _, _ => trivial
  | (i, l) :: r, env, h => by
    refine ⟨?_, pinE.hold h.2⟩
    have h1 := h.1
    split at h1
    · rename_i l' e; rw [e]; exact h1
    · exact h1.elim
def IterOk (K : PySem.W.Frag) (C : Ct) (F0 : Hp) (σ0 : L2.St) (J : It) (items : List D) (hold : Holds) : Prop :=
  ∀ (i : Nat) (F : Hp) (env : List Slot) (σ : L2.St) (H : Hp), Ok K C F env σ H → Ex F0 F → holdE hold env → (∀ p ∈ hold, σ[p.1]? = σ0[p.1]?) →
    (i < items.length → J.go i H ∧ ∀ x H', J.yld i H x H' → ∃ F' d, items[i]? = some d ∧ Aft K C F env σ H F' env H' ∧ Rep K F' x d) ∧ (items.length ≤ i → J.stop i H)
def EvI (K : PySem.W.Frag) (m : DMI) (wi : TI) : Prop := ∀ C F env σ H R (Q : It → Hp → Prop), Ok K C F env σ H → m env R →
  (∀ items hold env' F' H' J, R items hold env' → Aft K C F env σ H F' env' H' → IterOk K C F' σ J items hold → holdE hold env' → Q J H') → wi σ H Q
def DI (X : Cx) (tg iter : Expr) (m : DMI) : Prop := ∃ wi, PI X tg iter wi ∧ EvI X.K m wi

def NowL (K : PySem.W.Frag) (C : Ct) (F0 : Hp) (σ0 : L2.St) (a : Addr) (ds : List D) (hold : Holds) : Prop :=
  ∀ (F : Hp) (env : List Slot) (σ : L2.St) (H : Hp), Ok K C F env σ H → Ex F0 F → holdE hold env → (∀ p ∈ hold, σ[p.1]? = σ0[p.1]?) → ∃ vs, SqL K H a vs ∧ RepL K F vs ds
def NowT (K : PySem.W.Frag) (C : Ct) (F0 : Hp) (σ0 : L2.St) (a : Addr) (ds : List D) (hold : Holds) : Prop :=
  ∀ (F : Hp) (env : List Slot) (σ : L2.St) (H : Hp), Ok K C F env σ H → Ex F0 F → holdE hold env → (∀ p ∈ hold, σ[p.1]? = σ0[p.1]?) → ∃ vs, SqT K H a vs ∧ RepL K F vs ds
@[simp] def enumD : Nat → List D → List D
  | _, [] => []
  | k, x :: xs => .tup [.int (k : Int), x] :: enumD (k + 1) xs
theorem enumD_length : ∀ (k : Nat) (xs : List D), (enumD k xs).length = xs.length
  | _, [] => rfl
  | k, x :: xs => congrArg (· + 1) (enumD_length (k + 1) xs)
theorem enumD_get : ∀ (k : Nat) (xs : List D) (i : Nat), (enumD k xs)[i]? = (xs[i]?).map fun x => .tup [.int ((k + i : Nat) : Int), x]
  | _, [], i => by simp
  | k, x :: xs, 0 => by simp
  | k, x :: xs, i + 1 => by
    have h := enumD_get (k + 1) xs i
    have e : k + 1 + i = k + (i + 1) := by omega
    rw [e] at h
    simpa using h
@[simp] def zipD (xs ys : List D) : List D := List.zipWith (fun x y => .tup [x, y]) xs ys
section
variable {K : PySem.W.Frag} {C : Ct} {F0 : Hp} {σ0 : L2.St} {a b : Addr} {ds es : List D} {hold hold' : Holds}
theorem it_list (n : NowL K C F0 σ0 a ds hold) : IterOk K C F0 σ0 (Itl K a) ds hold := by
  intro i F env σ H I e h s
  obtain ⟨vs, q, r⟩ := n F env σ H I e h s
  refine ⟨fun hi => ?_, fun hi => ⟨vs, q, by rw [r.length]; exact hi⟩⟩
  obtain ⟨v, h1, h2⟩ := r.get (List.getElem?_eq_getElem hi)
  refine ⟨⟨vs, v, q, h1⟩, fun x H' y => ?_⟩
  obtain ⟨rfl, y⟩ := y
  have := y vs q
  rw [h1] at this; cases this
  exact ⟨F, _, List.getElem?_eq_getElem hi, I.aft, h2⟩
theorem it_tup (n : NowT K C F0 σ0 a ds hold) : IterOk K C F0 σ0 (Itt K a) ds hold := by
  intro i F env σ H I e h s
  obtain ⟨vs, q, r⟩ := n F env σ H I e h s
  refine ⟨fun hi => ?_, fun hi => ⟨vs, q, by rw [r.length]; exact hi⟩⟩
  obtain ⟨v, h1, h2⟩ := r.get (List.getElem?_eq_getElem hi)
  refine ⟨⟨vs, v, q, h1⟩, fun x H' y => ?_⟩
  obtain ⟨rfl, y⟩ := y
  have := y vs q
  rw [h1] at this; cases this
  exact ⟨F, _, List.getElem?_eq_getElem hi, I.aft, h2⟩
theorem lay_pair {F H : Hp} {env : List Slot} {σ : L2.St} {T : Addr} {u v : V} {d e : D} (I : Ok K C F env σ H) (hT : H T = none) (r1 : Rep K F u d) (r2 : Rep K F v e) : ∃ F', Aft K C F env σ H F' env (upd H T (.tup [u, v])) ∧ Rep K F' (.ref T) (.tup [d, e]) := by
  have B := I.lay hT (.tup [u, v])
  exact ⟨_, B, Rep.tup (st_of upd_same) (.cons (r1.mono B.ex) (.cons (r2.mono B.ex) .nil))⟩
theorem it_enum (n : NowL K C F0 σ0 a ds hold) : IterOk K C F0 σ0 (Ite K a) (enumD 0 ds) hold := by
  intro i F env σ H I e h s
  obtain ⟨vs, q, r⟩ := n F env σ H I e h s
  rw [enumD_length]
  refine ⟨fun hi => ?_, fun hi => ⟨vs, q, by rw [r.length]; exact hi⟩⟩
  obtain ⟨v, h1, h2⟩ := r.get (List.getElem?_eq_getElem hi)
  refine ⟨⟨vs, v, q, h1⟩, fun x H' y => ?_⟩
  obtain ⟨T, x', rfl, hT, rfl, y⟩ := y
  have := y vs q
  rw [h1] at this; cases this
  obtain ⟨F', B, rp⟩ := lay_pair I hT (Rep.int (i : Int)) h2
  refine ⟨F', _, ?_, B, rp⟩
  rw [enumD_get, List.getElem?_eq_getElem hi, Nat.zero_add]
  rfl
theorem it_zip (n : NowL K C F0 σ0 a ds hold) (n2 : NowL K C F0 σ0 b es hold) : IterOk K C F0 σ0 (Itz K a b) (zipD ds es) hold := by
  intro i F env σ H I e h s
  obtain ⟨vs, q, r⟩ := n F env σ H I e h s
  obtain ⟨ws, q2, r2⟩ := n2 F env σ H I e h s
  unfold zipD
  rw [List.length_zipWith]
  refine ⟨fun hi => ?_, fun hi => ⟨vs, ws, q, q2, by rw [r.length, r2.length]; omega⟩⟩
  have i1 : i < ds.length := by omega
  have i2 : i < es.length := by omega
  obtain ⟨v, h1, h2⟩ := r.get (List.getElem?_eq_getElem i1)
  obtain ⟨w, h3, h4⟩ := r2.get (List.getElem?_eq_getElem i2)
  refine ⟨⟨vs, ws, v, w, q, q2, h1, h3⟩, fun x H' y => ?_⟩
  obtain ⟨T, x', y', rfl, hT, rfl, y1, y2⟩ := y
  have := y1 vs q
  rw [h1] at this; cases this
  have := y2 ws q2
  rw [h3] at this; cases this
  obtain ⟨F', B, rp⟩ := lay_pair I hT h2 h4
  refine ⟨F', _, ?_, B, rp⟩
  rw [List.getElem?_zipWith, List.getElem?_eq_getElem i1, List.getElem?_eq_getElem i2]
theorem NowL.more (n : NowL K C F0 σ0 a ds hold) (s : ∀ p ∈ hold, p ∈ hold') (hh : ∀ env, holdE hold' env → holdE hold env) : NowL K C F0 σ0 a ds hold' :=
  fun F env σ H I e h z => n F env σ H I e (hh env h) fun p m => z p (s p m)
end
@[simp] def lsOf (l : RV) (env : List Slot) (R : List D → Holds → Prop) : Prop := match l with
  | .vl (.lst ds) => R ds []
  | .tm (.lst ds) => R ds []
  | .sl i => match env[i]? with
    | some (.val (.lst ds)) => R ds []
    | some (.own _ (.lst ds)) => R ds [(i, ds)]
    | _ => False
  | _ => False
section
variable {K : PySem.W.Frag}
theorem now_of {C : Ct} {F F' H H' : Hp} {env env' : List Slot} {σ : L2.St} {v : V} {l : RV} (A : Aft K C F env σ H F' env' H') (r : RVOk K C F' env' σ H H' v l) {R : List D → Holds → Prop}
    (h : lsOf l env' R) : ∃ F2 a ds hold, v = .ref a ∧ R ds hold ∧ Aft K C F env σ H F2 env' H' ∧ Ex F' F2 ∧ NowL K C F2 σ a ds hold ∧ holdE hold env' ∧ ∃ vs, H' a = some (.lst vs) := by
  have kept : ∀ ds, l.get env' (fun d => d = .lst ds) → R ds [] → ∃ F2 a ds hold, v = .ref a ∧ R ds hold ∧ Aft K C F env σ H F2 env' H' ∧ Ex F' F2 ∧ NowL K C F2 σ a ds hold ∧ holdE hold env' ∧ ∃ vs, H' a = some (.lst vs) := fun ds hd hR => by
    obtain ⟨F2, d, rfl, A2, ex, rp⟩ := A.keepIt r hd
    cases rp with
    | lst e q => exact ⟨F2, _, ds, [], rfl, hR, A2, ex, fun F env σ H I x _ _ => ⟨_, sq_of (I.sub _ _ (x _ _ e)), q.mono x⟩, trivial, _, A2.ok.sub _ _ e⟩
  cases l with
  | vl d =>
    cases d with
    | lst ds => exact kept ds rfl h
    | _ => exact h.elim
  | tm d =>
    cases d with
    | lst ds => exact kept ds rfl h
    | _ => exact h.elim
  | sl i =>
    have h' : (match env'[i]? with | some (.val (.lst ds)) => R ds [] | some (.own _ (.lst ds)) => R ds [(i, ds)] | _ => False) := h
    split at h'
    · rename_i ds e
      exact kept ds (by simp [e]) h'
    · rename_i b ds e
      have r' : σ[i]? = some (some v) := r
      obtain ⟨p, o, q1, q2, q3, _⟩ := A.ok.owns i b _ e
      rw [r'] at q1; cases q1
      have ho : ∃ vs, o = .lst vs := by
        unfold RepO at q3
        split at q3
        · exact ⟨_, rfl⟩
        · rename_i z; cases z
        · exact q3.elim
      obtain ⟨vs0, rfl⟩ := ho
      refine ⟨F', p, ds, [(i, ds)], rfl, h', A, Ex.refl _, fun F env2 σ2 H I x hh ss => ?_, by simp [e], vs0, q2⟩
      obtain ⟨b2, e2⟩ := holdE.get hh (i, ds) (by simp)
      obtain ⟨p2, o2, g1, g2, g3, _⟩ := I.owns i b2 _ e2
      have s2 := ss (i, ds) (by simp)
      rw [r', g1] at s2
      cases s2
      unfold RepO at g3
      split at g3
      · rename_i z; cases z; exact ⟨_, sq_of g2, g3⟩
      · rename_i z; cases z
      · exact g3.elim
    · exact h'.elim
end
@[simp] def signsD (s : Str) : List D := s.cps.toList.map fun c => .str ⟨#[c]⟩
@[simp] def mItD (d : D) (R : List D → Prop) : Prop := match d with
  | .lst ds => R ds
  | .tup ds => R ds
  | .str s => R (signsD s)
  | .scr ns => R (ns.map .int)
  | _ => False
@[simp] def mIt (m : DM) : DMI := fun env R => m env fun x e1 => match x with
  | .vl d => mItD d fun ds => R ds [] e1
  | .tm d => mItD d fun ds => R ds [] e1
  | .sl i => match e1[i]? with
    | some (.val d) => mItD d fun ds => R ds [] e1
    | some (.own _ (.lst ds)) => R ds [(i, ds)] e1
    | _ => False
def iAny (K : PySem.W.Frag) (te : TE) : TI := fun σ H R => te σ H fun x H1 => (∃ a, x = .ref a ∧ (∃ xs, SqL K H1 a xs) ∧ R (Itl K a) H1) ∨ (∃ a, x = .ref a ∧ (∃ xs, SqT K H1 a xs) ∧ R (Itt K a) H1) ∨ ∃ z, x = .str z ∧ R (Its z) H1
section
variable {X : Cx} {tg e : Expr} {te : TE}
theorem pi_any (he : PE X e te) : PI X tg e (iAny X.K te) := by
  constructor
  intro pins s σ H R I h
  apply thn (he.run pins s σ H _ I h)
  rintro v s1 ⟨x, H1, I1, r1, q1⟩
  rcases q1 with ⟨a, rfl, ⟨xs, hq⟩, q⟩ | ⟨a, rfl, ⟨xs, hq⟩, q⟩ | ⟨z, rfl, q⟩
  · cases r1
    obtain ⟨its, _, p, _⟩ := I1.list hq
    exact wpAny_pyIter_list p.isList (pi_one (tk := s1.toks) I1 _ (turn_list a _) ⟨_, Heap.get?_push_size _ rfl, rfl, rfl⟩ q)
  · cases r1
    obtain ⟨its, _, p, _⟩ := I1.tuple hq
    exact wpAny_pyIter_tuple (show s1.heap.IsTuple a its.toArray from p) (pi_one (tk := s1.toks) I1 _ (turn_tuple a _) ⟨_, Heap.get?_push_size _ rfl, rfl, rfl⟩ q)
  · obtain ⟨t, rfl⟩ := r1
    by_cases ha : z.cps.all (· < 128) = true
    · exact wpAny_pyIter_ascii ha (pi_one (tk := s1.toks) I1 _ (turn_str _ z t "str_ascii_iterator" (.inl rfl)) ⟨_, Heap.get?_push_size _ rfl, rfl, rfl⟩ q)
    · exact wpAny_pyIter_wide (by simpa using ha) (pi_one (tk := s1.toks) I1 _ (turn_str _ z t "str_iterator" (.inr rfl)) ⟨_, Heap.get?_push_size _ rfl, rfl, rfl⟩ q)
theorem strOk_sign {s : Str} {i c : Nat} (h : PyData.strOk s = true) (e : s.cps.toList[i]? = some c) : PyData.strOk ⟨#[c]⟩ = true := by
  unfold PyData.strOk at h ⊢
  rw [Array.all_eq_true'] at h
  have := h c (by rw [← Array.mem_toList_iff]; exact List.mem_of_getElem? e)
  simpa using this
theorem di_any {m : DM} (h : DE X e m) : DI X tg e (mIt m) := by
  obtain ⟨t, p, ev⟩ := h
  refine ⟨_, pi_any p, ?_⟩
  intro C F env σ H R Q I h k
  refine ev C F env σ H _ _ I h ?_
  intro x e1 F1 v H1 h1 A1 r1
  have kept : ∀ d, x.get e1 (fun d' => d' = d) → (mItD d fun ds => R ds [] e1) → (∃ a, v = .ref a ∧ (∃ xs, SqL X.K H1 a xs) ∧ Q (Itl X.K a) H1) ∨ (∃ a, v = .ref a ∧ (∃ xs, SqT X.K H1 a xs) ∧ Q (Itt X.K a) H1) ∨ ∃ z, v = .str z ∧ Q (Its z) H1 := fun d hd hm => by
    obtain ⟨F2, d', rfl, A2, ex, rp⟩ := A1.keepIt r1 hd
    cases rp with
    | lst e q => exact Or.inl ⟨_, rfl, ⟨_, sq_of (A2.ok.sub _ _ e)⟩, k _ [] e1 F2 H1 _ hm A2 (it_list fun F env σ H I x _ _ => ⟨_, sq_of (I.sub _ _ (x _ _ e)), q.mono x⟩) trivial⟩
    | tup e q => exact Or.inr (Or.inl ⟨_, rfl, ⟨_, ex_t A2.ok.sub e⟩, k _ [] e1 F2 H1 _ hm A2 (it_tup fun F env σ H I x _ _ => ⟨_, ex_t I.sub (ex_t x e), q.mono x⟩) trivial⟩)
    | scr e => exact Or.inl ⟨_, rfl, ⟨_, ex_l A2.ok.sub e⟩, k _ [] e1 F2 H1 _ hm A2 (it_list fun F env σ H I x _ _ => ⟨_, ex_l I.sub (ex_l x e), RepL.ofInts _⟩) trivial⟩
    | str s hs =>
      refine Or.inr (Or.inr ⟨s, rfl, k _ [] e1 F2 H1 _ hm A2 ?_ trivial⟩)
      intro i F env σ H I x _ _
      have hl : (signsD s).length = s.cps.size := by simp
      rw [hl]
      refine ⟨fun hi => ⟨hi, fun y H' yl => ?_⟩, fun hi => hi⟩
      obtain ⟨rfl, c, hc, rfl⟩ := yl
      have hc' : s.cps.toList[i]? = some c := by simpa using hc
      exact ⟨F, .str ⟨#[c]⟩, by simp [hc], I.aft, Rep.str _ (strOk_sign hs hc')⟩
    | _ => exact hm.elim
  cases x with
  | vl d => exact kept d rfl h1
  | tm d => exact kept d rfl h1
  | sl i =>
    have h' : (match e1[i]? with | some (.val d) => mItD d (fun ds => R ds [] e1) | some (.own _ (.lst ds)) => R ds [(i, ds)] e1 | _ => False) := h1
    split at h'
    · rename_i d q
      exact kept d (by simp [q]) h'
    · rename_i b ds q
      obtain ⟨F2, a, ds', hold, rfl, hR, A2, ex, nw, hh, vs, hv⟩ := now_of A1 r1 (R := fun ds hold => R ds hold e1) (by simp [q]; exact h')
      exact Or.inl ⟨a, rfl, ⟨vs, sq_of hv⟩, k _ _ e1 F2 H1 _ hR A2 (it_list nw) hh⟩
    · exact h'.elim
end
@[simp] def mLs (m : DM) : DMI := fun env R => m env fun x e1 => lsOf x e1 fun ds hold => R ds hold e1
@[simp] def mEnum (m : DM) : DMI := fun env R => mLs m env fun ds hold e1 => R (enumD 0 ds) hold e1
@[simp] def mZip (m n : DM) : DMI := fun env R => mLs m env fun ds hold e1 => mLs n e1 fun es hold' e2 => holdE hold e2 ∧ R (zipD ds es) (hold ++ hold') e2
@[simp] def rangeD (lo : Int) (n : Nat) : List D := (List.range n).map fun (i : Nat) => .int (lo + (i : Int))
@[irreducible] def Fits62 (n : Int) : Prop := -(2 ^ 62) ≤ n ∧ n < 2 ^ 62
theorem fits62 {n : Int} (h : -4611686018427387904 ≤ n) (k : n < 4611686018427387904) : Fits62 n := by unfold Fits62; exact ⟨h, k⟩
theorem Fits62.lo {n : Int} (h : Fits62 n) : -(2 ^ 62) ≤ n := by unfold Fits62 at h; exact h.1
theorem Fits62.hi {n : Int} (h : Fits62 n) : n < 2 ^ 62 := by unfold Fits62 at h; exact h.2
@[simp] def mRange1 (m : DM) : DMI := fun env R => m env fun x e1 => x.con e1 fun d => match d with
  | .int n => Fits62 n ∧ R (rangeD 0 n.toNat) [] e1
  | _ => False
@[simp] def mRange2 (m1 m2 : DM) : DMI := fun env R => m1 env fun x e1 => m2 e1 fun y e2 => x.con e2 fun d => y.con e2 fun d' => match d, d' with
  | .int i, .int j => Fits62 i ∧ Fits62 j ∧ R (rangeD i (j - i).toNat) [] e2
  | _, _ => False
theorem holdE_app : ∀ {a b : Holds} {env : List Slot}, holdE (a ++ b) env ↔ holdE a env ∧ holdE b env
  | [], b, env => by simp
  | (i, l) :: a, b, env => by
    show _ ∧ holdE (a ++ b) env ↔ (_ ∧ holdE a env) ∧ holdE b env
    rw [holdE_app]
    exact and_assoc.symm
section
variable {X : Cx} {e f : Expr} {p pos tpos : Pos} {elts : List Expr} {kk : Nat} {tg : Expr}
theorem di_enum {m : DM} (hg : Gl X "enumerate") (hm : X.mg "enumerate" = none) (h : DE X e m) (hs : starEach [e] X.env = [(false, eval e X.env)] := by rfl) (hs' : starEach [e] X.env = (false, eval e X.env) :: starEach [] X.env := by rfl) : DI X (.Tuple elts kk tpos) (.Call (.Name "enumerate" p) [e] [] pos) (mEnum m) := by
  obtain ⟨t, q, ev⟩ := h
  refine ⟨_, pi_enum hg hm (pa_cons q pa_nil hs') hs, ?_⟩
  intro C F env σ H R Q I h k
  refine ev C F env σ H _ _ I h ?_
  intro x e1 F1 v H1 h1 A1 r1
  obtain ⟨F2, a, ds, hold, rfl, hR, A2, ex, nw, hh, vs, hv⟩ := now_of A1 r1 (R := fun ds hold => R (enumD 0 ds) hold e1) h1
  exact ⟨a, vs, rfl, sq_of hv, k _ _ e1 F2 H1 _ hR A2 (it_enum nw) hh⟩
theorem di_zip {m n : DM} (hg : Gl X "zip") (hm : X.mg "zip" = none) (h : DE X e m) (h2 : DE X f n) (hs : starEach [e, f] X.env = (false, eval e X.env) :: starEach [f] X.env := by rfl) (hs2 : starEach [f] X.env = (false, eval f X.env) :: starEach [] X.env := by rfl) (hpl : (backTo pos (starEach [f] X.env)).any (·.1) = false := by rfl) :
    DI X (.Tuple elts kk tpos) (.Call (.Name "zip" p) [e, f] [] pos) (mZip m n) := by
  obtain ⟨t, q, ev⟩ := h
  obtain ⟨u, q2, ev2⟩ := h2
  refine ⟨_, pi_zip hg hm (pa_cons q (pa_cons q2 pa_nil hs2) hs) hs hpl, ?_⟩
  intro C F env σ H R Q I h k
  refine ev C F env σ H _ _ I h ?_
  intro x e1 F1 v H1 h1 A1 r1
  obtain ⟨F2, a, ds, hold, rfl, hR, A2, ex, nw, hh, vs, hv⟩ := now_of A1 r1 (R := fun ds hold => mLs n e1 fun es hold' e2 => holdE hold e2 ∧ R (zipD ds es) (hold ++ hold') e2) h1
  refine ev2 C F2 e1 σ H1 _ _ A2.ok hR ?_
  intro y e2 F3 w H3 h3 A3 r3
  obtain ⟨F4, b, es, hold', rfl, hR2, A4, ex4, nw2, hh2, ws, hw⟩ := now_of A3 r3 (R := fun es hold' => holdE hold e2 ∧ R (zipD ds es) (hold ++ hold') e2) h3
  obtain ⟨vs3, hz, _⟩ := nw F4 e2 σ H3 A4.ok (A4.ex) hR2.1 (fun _ _ => rfl)
  refine ⟨a, b, _, ws, rfl, hz, sq_of hw, k _ _ e2 F4 H3 _ hR2.2 (A2.trans A4) ?_ (holdE_app.mpr ⟨hR2.1, hh2⟩)⟩
  refine it_zip (fun F env σ' H I x hh ss => ?_) (fun F env σ' H I x hh ss => ?_)
  · exact nw F env σ' H I (A4.ex.trans x) (holdE_app.mp hh).1 fun p m => ss p (List.mem_append_left _ m)
  · exact nw2 F env σ' H I x (holdE_app.mp hh).2 fun p m => ss p (List.mem_append_right _ m)
theorem it_range {K : PySem.W.Frag} {C : Ct} {F0 : Hp} {σ0 : L2.St} {lo : Int} {n : Nat} : IterOk K C F0 σ0 (Itr lo n) (rangeD lo n) [] := by
  intro i F env σ H I _ _ _
  have hl : (rangeD lo n).length = n := by simp
  rw [hl]
  refine ⟨fun hi => ⟨hi, fun x H' y => ?_⟩, fun hi => hi⟩
  obtain ⟨rfl, rfl⟩ := y
  exact ⟨F, .int (lo + (i : Int)), by simp [hi], I.aft, Rep.int _⟩
theorem di_range1 {m : DM} (hg : Gl X "range") (hm : X.mg "range" = none) (h : DE X e m) (hs : starEach [e] X.env = [(false, eval e X.env)] := by rfl) (hs' : starEach [e] X.env = (false, eval e X.env) :: starEach [] X.env := by rfl) : DI X tg (.Call (.Name "range" p) [e] [] pos) (mRange1 m) := by
  obtain ⟨t, q, ev⟩ := h
  refine ⟨_, pi_range1 hg hm (pa_cons q pa_nil hs') hs, ?_⟩
  intro C F env σ H R Q I h k
  refine ev C F env σ H _ _ I h ?_
  intro x e1 F1 v H1 h1 A1 r1
  obtain ⟨d, h3, s1⟩ := A1.ok.see r1 h1
  cases d with
  | int n =>
    refine ⟨n, by rw [s1.int], h3.1.lo, h3.1.hi, k _ [] e1 F1 H1 _ h3.2 A1 it_range trivial⟩
  | _ => exact h3.elim
theorem di_range2 {m n : DM} (hg : Gl X "range") (hm : X.mg "range" = none) (h : DE X e m) (h2 : DE X f n) (hs : starEach [e, f] X.env = [(false, eval e X.env), (false, eval f X.env)] := by rfl) (hs2 : starEach [f] X.env = [(false, eval f X.env)] := by rfl) (hs1' : starEach [e, f] X.env = (false, eval e X.env) :: starEach [f] X.env := by rfl) (hs2' : starEach [f] X.env = (false, eval f X.env) :: starEach [] X.env := by rfl) : DI X tg (.Call (.Name "range" p) [e, f] [] pos) (mRange2 m n) := by
  obtain ⟨t, q, ev⟩ := h
  obtain ⟨u, q2, ev2⟩ := h2
  refine ⟨_, pi_range2 hg hm (pa_cons q (pa_cons q2 pa_nil hs2') hs1') hs hs2, ?_⟩
  intro C F env σ H R Q I h k
  refine ev C F env σ H _ _ I h ?_
  intro x e1 F1 v H1 h1 A1 r1
  refine ev2 C F1 e1 σ H1 _ _ A1.ok h1 ?_
  intro y e2 F2 w H2 h2 A2 r2
  obtain ⟨d, h3, s1⟩ := A2.ok.see (r1.on A2) h2
  obtain ⟨d', h4, s2⟩ := A2.ok.see r2 h3
  have A := A1.trans A2
  cases d with
  | int i =>
    cases d' with
    | int j => exact ⟨i, j, by rw [s1.int, s2.int], ⟨h4.1.lo, h4.1.hi, h4.2.1.lo, h4.2.1.hi⟩, k _ [] e2 F2 H2 _ h4.2.2 A it_range trivial⟩
    | _ => exact h4.elim
  | _ => exact h4.elim
end
end DL

set_option Elab.async false
set_option linter.all false
set_option maxRecDepth 100000
set_option maxHeartbeats 4000000
set_option autoImplicit false
/-! DL7: for, while, comprehensions over data. -/
namespace DL
open PySem PySem.Spec L2 Evl PyProof.Rows

/-! ### for -/
@[simp] def forW (hold : Holds) (g : DTg) (mb : DStm) (P : Post) : List D → List Slot → Prop
  | [], env => pinE hold env ∧ P.nx env
  | x :: xs, env => pinE hold env ∧ g x env fun e => mb { P with nx := fun e => forW hold g mb P xs e, ct := fun e => forW hold g mb P xs e, bk := P.nx } e
@[irreducible] def forI (hold : Holds) (g : DTg) (mb : DStm) (P : Post) (items : List D) (env : List Slot) : Prop := forW hold g mb P items env
theorem forI_iff {hold : Holds} {g : DTg} {mb : DStm} {P : Post} {items : List D} {env : List Slot} : forI hold g mb P items env ↔ forW hold g mb P items env := by unfold forI; exact Iff.rfl
@[simp] def mFor (mi : DMI) (g : DTg) (mb : DStm) : DStm := fun P env => mi env fun items hold e => forI hold g mb P items e
theorem Ok.rebase {K : PySem.W.Frag} {C : Ct} {F1 F H H1 : Hp} {e1 env : List Slot} {σ1 σ : L2.St} (h1 : Ok K C F1 e1 σ1 H1) (h : Ok K C F env σ H) (x : Ex F1 F) : Ok K { C with F0 := F1 } F env σ H where
  len := h.len
  sub := h.sub
  keep := h.keep
  all := h.all
  new := fun a e z => h.new a e (by
    cases q : C.F0 a with
    | none => rfl
    | some o =>
      have z' : F1 a = none := z
      rw [h1.bas a o q] at z'; cases z')
  bas := x
  vals := h.vals
  owns := h.owns
  sep := h.sep
  pins := h.pins
theorem Ok.unbase {K : PySem.W.Frag} {C : Ct} {F1 F H H1 : Hp} {e1 env : List Slot} {σ1 σ : L2.St} (h1 : Ok K C F1 e1 σ1 H1) (h : Ok K { C with F0 := F1 } F env σ H) : Ok K C F env σ H where
  len := h.len
  sub := h.sub
  keep := h.keep
  all := h.all
  new := fun a e z => h.new a e (h1.new a e z)
  bas := h1.bas.trans h.bas
  vals := h.vals
  owns := h.owns
  sep := h.sep
  pins := h.pins
section
variable {X : Cx} {pos : Pos}
theorem forW_pin {hold : Holds} {g : DTg} {mb : DStm} {P : Post} {items : List D} {env : List Slot} (h : forW hold g mb P items env) : pinE hold env := by
  cases items <;> exact h.1
theorem ds_for {tg iter : Expr} {body : List Stmt} {js : List Nat} {mi : DMI} {g : DTg} {mb : DStm} (hp : PassesOwn (model X.prog X.w) X.A X.env X.xe) (hc : X.calm = true) (hi : DI X tg iter mi) (hg : DG X tg js g) (hb : DB X body mb)
    (hs : ∀ x, foldedSetIterable iter X.env x = pure x := by intro _; rfl) : DS X (.For tg iter body [] pos) (mFor mi g mb) := by
  obtain ⟨wi, pi, ei⟩ := hi
  obtain ⟨tg', pg, eg⟩ := hg
  obtain ⟨tb, pb, eb⟩ := hb
  refine ⟨_, ps_for hp hc pi pg pb hs, ?_⟩
  intro C F env σ H D P I h k
  refine ei C F env σ H _ _ I h ?_
  intro items hold e1 F1 H1 J h1 A1 io hh
  rw [forI_iff] at h1
  have pin0 := forW_pin h1
  -- the pinned slots stay where they are
  have agree : ∀ F e σ' H, Ok X.K C F e σ' H → pinE hold e → ∀ p ∈ hold, σ'[p.1]? = σ[p.1]? := fun F e σ' H I' q p m => by
    obtain ⟨a, o, g1, _, _, _, _, g6⟩ := I'.owns p.1 true _ (pinE.get q p m)
    obtain ⟨a', o', g1', _, _, _, _, g6'⟩ := A1.ok.owns p.1 true _ (pinE.get pin0 p m)
    have := (g6 rfl).1.symm.trans (g6' rfl).1
    rw [g1, g1']; cases this; rfl
  refine ⟨fun i m σ' H' => m = items.length - i ∧ i ≤ items.length ∧ ∃ F e, Ok X.K C F e σ' H' ∧ Ex F1 F ∧ forW hold g mb P (items.drop i) e, ⟨items.length, by simp, Nat.zero_le _, F1, e1, A1.ok, Ex.refl _, by simpa using h1⟩, ?_⟩
  rintro i m σ' H' ⟨rfl, hi', F2, e2, I2, x2, w2⟩
  have io2 := io i F2 e2 σ' H' I2 x2 (forW_pin w2).hold (agree F2 e2 σ' H' I2 (forW_pin w2))
  by_cases hlt : i < items.length
  · refine Or.inr ⟨(io2.1 hlt).1, fun σ'' H'' => ∃ F e, Ok X.K C F e σ'' H'' ∧ Ex F1 F ∧ forW hold g mb P (items.drop (i + 1)) e, fun σ'' H'' q => ⟨items.length - (i + 1), by omega, rfl, hlt, q⟩, fun x H3 y => ?_⟩
    obtain ⟨F3, d, hd, A3, rp⟩ := (io2.1 hlt).2 x H3 y
    have hdr : items.drop i = d :: items.drop (i + 1) := by
      rw [List.drop_eq_getElem_cons hlt]
      rw [List.getElem?_eq_getElem hlt] at hd
      cases hd; rfl
    rw [hdr] at w2
    refine eg C F3 e2 σ' H3 _ _ _ _ A3.ok rp w2.2 ?_
    intro e4 σ4 h4 I4 k4
    have I4' := A1.ok.rebase I4 (x2.trans A3.ex)
    have back : ∀ F e σ5 H5, Ok X.K { C with F0 := F1 } F e σ5 H5 → forW hold g mb P (items.drop (i + 1)) e → ∃ F e, Ok X.K C F e σ5 H5 ∧ Ex F1 F ∧ forW hold g mb P (items.drop (i + 1)) e :=
      fun F e σ5 H5 I5 q => ⟨F, e, A1.ok.unbase I5, I5.bas, q⟩
    exact eb { C with F0 := F1 } F3 e4 σ4 H3 _ _ I4' h4 ⟨fun F e σ5 H5 I5 q => back F e σ5 H5 I5 q, fun F e σ5 H5 I5 q => k.nx F e σ5 H5 (A1.ok.unbase I5) q, fun F e σ5 H5 I5 q => back F e σ5 H5 I5 q,
      fun F e σ5 H5 v r I5 ro q => k.rt F e σ5 H5 v r (A1.ok.unbase I5) (by cases r <;> exact ro) q,
      fun F e σ5 H5 v x y I5 ro q => k.r2 F e σ5 H5 v x y (A1.ok.unbase I5) (by obtain ⟨T, u, w, a, b, c, d, e⟩ := ro; exact ⟨T, u, w, a, b, by cases x <;> exact c, by cases y <;> exact d, e⟩) q⟩
  · have e : i = items.length := by omega
    subst e
    rw [List.drop_length] at w2
    exact Or.inl ⟨io2.2 (Nat.le_refl _), k.nx F2 e2 σ' H' I2 w2.2⟩

/-! ### while -/
@[simp] def whN (t : DMB) (mb : DStm) : Nat → Post → List Slot → Prop
  | 0, _, _ => False
  | n + 1, P, env => t env fun b e => if b = true then mb { P with nx := fun e => whN t mb n P e, ct := fun e => whN t mb n P e, bk := P.nx } e else P.nx e
@[irreducible] def mWhile (t : DMB) (mb : DStm) (P : Post) (env : List Slot) : Prop := ∃ n, whN t mb n P env
theorem mWhile_iff {t : DMB} {mb : DStm} {P : Post} {env : List Slot} : mWhile t mb P env ↔ ∃ n, whN t mb n P env := by unfold mWhile; exact Iff.rfl
theorem ds_while {c : Expr} {body : List Stmt} {t : DMB} {mb : DStm} (hp : PassesOwn (model X.prog X.w) X.A X.env X.xe) (hc : DT X c t) (hb : DB X body mb) : DS X (.While c body [] pos) (mWhile t mb) := by
  obtain ⟨tc, pc, ec⟩ := hc
  obtain ⟨tb, pb, eb⟩ := hb
  refine ⟨_, ps_while hp pc pb, ?_⟩
  intro C F env σ H D P I h k
  obtain ⟨n, hn⟩ := mWhile_iff.mp h
  refine ⟨fun m σ' H' => ∃ F e, Ok X.K C F e σ' H' ∧ whN t mb m P e, ⟨n, F, env, I, hn⟩, ?_⟩
  rintro m σ' H' ⟨F1, e1, I1, w1⟩
  cases m with
  | zero => exact w1.elim
  | succ m =>
    refine ec C F1 e1 σ' H' _ _ I1 w1 ?_
    intro b e2 F2 H2 h2 A2
    cases b with
    | true =>
      have h2' : mb { P with nx := fun e => whN t mb m P e, ct := fun e => whN t mb m P e, bk := P.nx } e2 := by simpa using h2
      refine ⟨fun σ'' H'' => ∃ F e, Ok X.K C F e σ'' H'' ∧ whN t mb m P e, fun σ'' H'' q => ⟨m, Nat.lt_succ_self m, q⟩, ?_⟩
      exact eb C F2 e2 σ' H2 _ _ A2.ok h2' ⟨fun F e σ5 H5 I5 q => ⟨F, e, I5, q⟩, fun F e σ5 H5 I5 q => k.nx F e σ5 H5 I5 q, fun F e σ5 H5 I5 q => ⟨F, e, I5, q⟩, k.rt, k.r2⟩
    | false =>
      have h2' : P.nx e2 := by simpa using h2
      exact k.nx F2 e2 σ' H2 A2.ok h2'
end

/-! ### comprehensions -/
@[simp] def wipeE (env : List Slot) : List Nat → List Slot
  | [] => env
  | v :: vs => (wipeE env vs).set v .no
@[simp] def unwipe (env e : List Slot) : List Nat → List Slot
  | [] => e
  | v :: vs => (unwipe env e vs).set v (env.getD v .no)
@[simp] def noOwn (env : List Slot) (vs : List Nat) : Bool := vs.all fun v => !isOwn env v
@[simp] def compW (hold : Holds) (g : DTg) (tt : DMB) (me : DM) (vs : List Nat) : List D → List D → List Slot → (List D → List Slot → Prop) → Prop
  | [], acc, env, R => holdE hold env ∧ R acc env
  | x :: xs, acc, env, R => holdE hold env ∧ g x (wipeE env vs) fun e => tt e fun b e2 => if b = true then me e2 fun y e3 => y.get e3 fun d => acc.length < 100000 ∧ compW hold g tt me vs xs (acc ++ [d]) (unwipe env e3 vs) R else compW hold g tt me vs xs acc (unwipe env e2 vs) R
@[irreducible] def compI (hold : Holds) (g : DTg) (tt : DMB) (me : DM) (vs : List Nat) (items acc : List D) (env : List Slot) (R : List D → List Slot → Prop) : Prop := compW hold g tt me vs items acc env R
theorem compI_iff {hold : Holds} {g : DTg} {tt : DMB} {me : DM} {vs : List Nat} {items acc : List D} {env : List Slot} {R : List D → List Slot → Prop} : compI hold g tt me vs items acc env R ↔ compW hold g tt me vs items acc env R := by unfold compI; exact Iff.rfl
@[simp] def mLc (mi : DMI) (g : DTg) (tt : DMB) (me : DM) (vs : List Nat) : DM := fun env R => mi env fun items hold e => noOwn e vs = true ∧ compI hold g tt me vs items [] e fun ds e' => R (.tm (.lst ds)) e'
theorem wipeE_length (env : List Slot) : ∀ vs : List Nat, (wipeE env vs).length = env.length
  | [] => rfl
  | v :: vs => by simp [wipeE_length env vs]
theorem unwipe_length (env e : List Slot) : ∀ vs : List Nat, (unwipe env e vs).length = e.length
  | [] => rfl
  | v :: vs => by simp [unwipe_length env e vs]
theorem wipeE_get {env : List Slot} : ∀ {vs : List Nat} {i : Nat} {s : Slot}, s ≠ .no → ((wipeE env vs)[i]? = some s ↔ env[i]? = some s ∧ i ∉ vs)
  | [], i, s, _ => by simp
  | v :: vs, i, s, ns => by
    show ((wipeE env vs).set v .no)[i]? = some s ↔ _
    by_cases q : v = i
    · subst q
      rw [List.getElem?_set]
      simp only [if_true]
      constructor
      · intro e
        split at e
        · cases e; exact absurd rfl ns
        · cases e
      · rintro ⟨_, n⟩; exact absurd (List.mem_cons_self) n
    · rw [List.getElem?_set_ne q, wipeE_get ns]
      simp [fun z => q (Eq.symm z)]
      intro _ _ z
      exact q z.symm
theorem unwipe_get {env e : List Slot} (hl : env.length = e.length) : ∀ {vs : List Nat} {i : Nat}, (unwipe env e vs)[i]? = if i ∈ vs then env[i]? else e[i]?
  | [], i => by simp
  | v :: vs, i => by
    show ((unwipe env e vs).set v (env.getD v .no))[i]? = _
    by_cases q : v = i
    · subst q
      rw [List.getElem?_set]
      simp only [if_true, List.mem_cons_self]
      rw [unwipe_length]
      split
      · rename_i h
        have h' : v < env.length := by omega
        simp [h']
      · rename_i h
        have h' : env.length ≤ v := by omega
        simp [h']
    · rw [List.getElem?_set_ne q, unwipe_get hl]
      have : (i ∈ v :: vs) ↔ i ∈ vs := by simp [fun z => q (Eq.symm z)]; intro z; exact absurd z.symm q
      simp only [this]
theorem wipe_get {σ : L2.St} : ∀ {vs : List Nat} {i : Nat}, i ∉ vs → (wipe σ vs)[i]? = σ[i]?
  | [], i, _ => rfl
  | v :: vs, i, n => by
    show ((wipe σ vs).set v none)[i]? = _
    rw [List.getElem?_set_ne (fun z => n (by simp [z]))]
    exact wipe_get fun z => n (List.mem_cons_of_mem _ z)
theorem wipe_in {σ : L2.St} : ∀ {vs : List Nat} {i : Nat}, i ∈ vs → i < σ.length → (wipe σ vs)[i]? = some none
  | v :: vs, i, m, h => by
    show ((wipe σ vs).set v none)[i]? = _
    by_cases q : v = i
    · subst q
      rw [List.getElem?_set_self (by rw [wipe_length]; exact h)]
    · rw [List.getElem?_set_ne q]
      exact wipe_in ((List.mem_cons.mp m).resolve_left fun z => q z.symm) h
theorem wipe_same {σ σ2 : L2.St} {vs : List Nat} (hl : σ2.length = σ.length) (h : ∀ i, i ∉ vs → σ2[i]? = σ[i]?) : wipe σ2 vs = wipe σ vs := by
  apply List.ext_getElem?
  intro i
  by_cases q : i ∈ vs
  · by_cases l : i < σ.length
    · rw [wipe_in q l, wipe_in q (by omega)]
    · rw [List.getElem?_eq_none (by rw [wipe_length]; omega), List.getElem?_eq_none (by rw [wipe_length]; omega)]
  · rw [wipe_get q, wipe_get q]; exact h i q
section
variable {K : PySem.W.Frag} {C : Ct} {F F' H H' : Hp} {env e : List Slot} {σ σ2 : L2.St} {vs : List Nat}
theorem noOwn_no (h : noOwn env vs = true) {i : Nat} {b : Bool} {d : D} (e : env[i]? = some (.own b d)) : i ∉ vs := fun m => by
  have := List.all_eq_true.mp h i m
  simp [e] at this
theorem Ok.wiped (h : Ok K C F env σ H) (n : noOwn env vs = true) : Ok K C F (wipeE env vs) (wipe σ vs) H where
  len := by rw [wipe_length, wipeE_length]; exact h.len
  sub := h.sub
  keep := h.keep
  all := h.all
  new := h.new
  bas := h.bas
  vals := fun i d q => by
    obtain ⟨q1, q2⟩ := (wipeE_get (by simp)).mp q
    rw [wipe_get q2]; exact h.vals i d q1
  owns := fun i b d q => by
    obtain ⟨q1, q2⟩ := (wipeE_get (by simp)).mp q
    rw [wipe_get q2]; exact h.owns i b d q1
  sep := fun i j p ⟨b, d, e1, s1⟩ ⟨b2, d2, e2, s2⟩ => by
    obtain ⟨q1, q2⟩ := (wipeE_get (by simp)).mp e1
    obtain ⟨q3, q4⟩ := (wipeE_get (by simp)).mp e2
    rw [wipe_get q2] at s1
    rw [wipe_get q4] at s2
    exact h.sep i j p ⟨b, d, q1, s1⟩ ⟨b2, d2, q3, s2⟩
  pins := fun i q => by
    obtain ⟨d, e⟩ := h.pins i q
    exact ⟨d, (wipeE_get (by simp)).mpr ⟨e, noOwn_no n e⟩⟩
structure Block (env e : List Slot) (σ σ2 : L2.St) (vs : List Nat) : Prop where
  len : σ2.length = σ.length
  st : ∀ i, i ∉ vs → σ2[i]? = σ[i]?
  own : ∀ (i : Nat) (b : Bool) (d : D), e[i]? = some (.own b d) → ∃ d', env[i]? = some (.own b d') ∧ i ∉ vs
theorem Block.owns (B : Block env e σ σ2 vs) {i : Nat} {p : Addr} (h : Owns e σ2 i p) : Owns env σ i p := by
  obtain ⟨b, d, h1, h2⟩ := h
  obtain ⟨d', h3, h4⟩ := B.own i b d h1
  exact ⟨b, d', h3, by rw [← B.st i h4]; exact h2⟩
theorem Block.sub (B : Block env e σ σ2 vs) {e' : List Slot} (s : Sub e e') : Block env e' σ σ2 vs := ⟨B.len, B.st, fun i b d h => by
  obtain ⟨d', h'⟩ := s i b d h
  exact B.own i b d' h'⟩
theorem Ok.unwiped (h0 : Ok K C F env σ H) (n : noOwn env vs = true) (h : Ok K C F' e σ2 H') (x : Ex F F') (B : Block env e σ σ2 vs) : Ok K C F' (unwipe env e vs) σ H' := by
  have hl : env.length = e.length := by rw [← h0.len, ← h.len]; exact B.len.symm
  have og : ∀ (i : Nat) (b : Bool) (d : D), (unwipe env e vs)[i]? = some (.own b d) → e[i]? = some (.own b d) ∧ i ∉ vs := fun i b d q => by
    rw [unwipe_get hl] at q
    split at q
    · rename_i m; exact absurd m (noOwn_no n q)
    · rename_i m; exact ⟨q, m⟩
  exact {
    len := by rw [unwipe_length, ← hl]; exact h0.len
    sub := h.sub, keep := h.keep, all := h.all, new := h.new, bas := h.bas
    vals := fun i d q => by
      rw [unwipe_get hl] at q
      split at q
      · obtain ⟨v, h1, h2⟩ := h0.vals i d q
        exact ⟨v, h1, h2.mono x⟩
      · rename_i m
        rw [← B.st i m]; exact h.vals i d q
    owns := fun i b d q => by
      obtain ⟨q1, q2⟩ := og i b d q
      rw [← B.st i q2]; exact h.owns i b d q1
    sep := fun i j p ⟨b, d, e1, s1⟩ ⟨b2, d2, e2, s2⟩ => by
      obtain ⟨q1, q2⟩ := og i b d e1
      obtain ⟨q3, q4⟩ := og j b2 d2 e2
      exact h.sep i j p ⟨b, d, q1, by rw [B.st i q2]; exact s1⟩ ⟨b2, d2, q3, by rw [B.st j q4]; exact s2⟩
    pins := fun i q => by
      obtain ⟨d, z⟩ := h.pins i q
      obtain ⟨_, _, z2⟩ := B.own i true d z
      exact ⟨d, by rw [unwipe_get hl, if_neg z2]; exact z⟩ }
theorem Aft.unwiped {F1 H1 : Hp} (h0 : Ok K C F env σ H) (n : noOwn env vs = true) (B : Block env e σ σ2 vs) {e' : List Slot} (A : Aft K C F e σ2 H F1 e' H1) : Aft K C F env σ H F1 (unwipe env e' vs) H1 := by
  have B' := B.sub A.le
  have hl : env.length = e'.length := by rw [← h0.len, ← A.ok.len]; exact B.len.symm
  exact {
    ok := h0.unwiped n A.ok A.ex B'
    ex := A.ex
    fr := fun a o q u => A.fr a o q fun i z => u i (B.owns z)
    nw := fun a q z u => A.nw a q z fun i w => u i (B.owns w)
    al := A.al
    le := fun i b d q => by
      rw [unwipe_get hl] at q
      split at q
      · exact ⟨d, q⟩
      · obtain ⟨d', z, _⟩ := B'.own i b d q
        exact ⟨d', z⟩ }
theorem noOwn_unwipe (hl : env.length = e.length) (n : noOwn env vs = true) : noOwn (unwipe env e vs) vs = true := by
  apply List.all_eq_true.mpr
  intro v m
  have := List.all_eq_true.mp n v m
  simp only [isOwn] at this ⊢
  rw [unwipe_get hl, if_pos m]
  exact this
theorem holdE_unwipe_of {hold : Holds} : True := trivial
theorem Aft.poke {F1 H1 : Hp} {p : Addr} {u : HO} (o : HO) (A : Aft K C F env σ H F1 e H1) (hp : H1 p = some u) (hF : F1 p = none) (hG : C.G p = none) (hn : ∀ i, ¬ Owns env σ i p) (h0 : H p = none) : Aft K C F env σ H F1 e (upd H1 p o) where
  ok := {
    len := A.ok.len
    sub := fun a w q => by rw [upd_ne (ne_of_none q hF)]; exact A.ok.sub a w q
    keep := fun a w q z => by rw [upd_ne (ne_of_none q hG)]; exact A.ok.keep a w q z
    all := fun a q => by
      by_cases z : a = p
      · subst z; rw [upd_same]; exact fun w => nomatch w
      · rw [upd_ne z]; exact A.ok.all a q
    new := A.ok.new, bas := A.ok.bas, vals := A.ok.vals
    owns := fun i b d q => by
      obtain ⟨p2, o2, g1, g2, g3⟩ := A.ok.owns i b d q
      refine ⟨p2, o2, g1, ?_, g3⟩
      rw [upd_ne]
      · exact g2
      · rintro rfl
        exact hn i (A.le.owns ⟨b, d, q, g1⟩)
    sep := A.ok.sep, pins := A.ok.pins }
  ex := A.ex
  fr := fun a w q z => by rw [upd_ne (ne_of_none q h0)]; exact A.fr a w q z
  nw := A.nw
  al := fun a q => by
    by_cases z : a = p
    · subst z; rw [upd_same]; exact fun w => nomatch w
    · rw [upd_ne z]; exact A.al a q
  le := A.le
end
theorem compW_hold {hold : Holds} {g : DTg} {tt : DMB} {me : DM} {vs : List Nat} {items acc : List D} {env : List Slot} {R : List D → List Slot → Prop} (h : compW hold g tt me vs items acc env R) : holdE hold env := by
  cases items <;> exact h.1
theorem evd_lc {K : PySem.W.Frag} {mi : DMI} {g : DTg} {tt : DMB} {me : DM} {js vs : List Nat} {wi : TI} {tg : TG} {ti : TT} {te : TE} (ei : EvI K mi wi) (eg : EvG K js g tg) (et : EvB K tt ti) (ee : EvD K me te) (hj : ∀ i ∈ js, i ∈ vs) :
    EvD K (mLc mi g tt me vs) (tLc wi tg ti te vs) := by
  intro C F env σ H R Q I h k
  refine ei C F env σ H _ _ I h ?_
  intro items hold e1 F1 H1 J h1 A1 io hh
  intro p hp
  obtain ⟨n1, w1⟩ := h1
  rw [compI_iff] at w1
  refine ⟨fun i m H' => m = items.length - i ∧ i ≤ items.length ∧ ∃ F2 e acc vacc, Aft K C F1 e1 σ H1 F2 e H' ∧ H' p = some (.lst vacc) ∧ RepL K F2 vacc acc ∧ F2 p = none ∧ noOwn e vs = true ∧
    compW hold g tt me vs (items.drop i) acc e (fun ds e' => R (.tm (.lst ds)) e'), ⟨items.length, by simp, Nat.zero_le _, F1, e1, [], [], A1.ok.tmp hp _, upd_same, .nil, A1.ok.fnone hp, n1, by simpa using w1⟩, ?_⟩
  have hG : C.G p = none := A1.ok.gnone hp
  have hU : ∀ i, ¬ Owns e1 σ i p := A1.ok.unowned hp
  rintro i m H2 ⟨rfl, hi, F2, e2, acc, vacc, A2, hv, ra, hF, n2, w2⟩
  have io2 := io i F2 e2 σ H2 A2.ok A2.ex (compW_hold w2) (fun _ _ => rfl)
  by_cases hlt : i < items.length
  · refine Or.inr ⟨(io2.1 hlt).1, fun H' => ∃ F2 e acc vacc, Aft K C F1 e1 σ H1 F2 e H' ∧ H' p = some (.lst vacc) ∧ RepL K F2 vacc acc ∧ F2 p = none ∧ noOwn e vs = true ∧
      compW hold g tt me vs (items.drop (i + 1)) acc e (fun ds e' => R (.tm (.lst ds)) e'), fun H' q => ⟨items.length - (i + 1), by omega, rfl, hlt, q⟩, fun x H3 y => ?_⟩
    obtain ⟨F3, d, hd, A3, rp⟩ := (io2.1 hlt).2 x H3 y
    have hdr : items.drop i = d :: items.drop (i + 1) := by
      rw [List.drop_eq_getElem_cons hlt]
      rw [List.getElem?_eq_getElem hlt] at hd
      cases hd; rfl
    rw [hdr] at w2
    have A13 := A2.trans A3
    refine eg C F3 (wipeE e2 vs) (wipe σ vs) H3 _ _ _ _ (A3.ok.wiped n2) rp w2.2 ?_
    intro e4 σ4 h4 I4 k4
    have B4 : Block e2 e4 σ σ4 vs := ⟨by rw [k4.1, wipe_length], fun i q => (k4.2.1 i fun z => q (hj i z)).trans (wipe_get q), fun i b d q => by
      obtain ⟨q1, q2⟩ := (wipeE_get (by simp)).mp (k4.2.2 i b d q)
      exact ⟨d, q1, q2⟩⟩
    refine ⟨wipe_same B4.len B4.st |>.trans rfl, ?_⟩
    refine et C F3 e4 σ4 H3 _ _ I4 h4 ?_
    intro b e5 F5 H5 h5 A5
    have pU : ∀ {F' e' H'}, Aft K C F1 e1 σ H1 F' e' H' → ∀ i, ¬ Owns e' σ i p := fun A i q => hU i (A.le.owns q)
    have hl : ∀ {F' e' H'}, Aft K C F3 e4 σ4 H3 F' e' H' → e2.length = e'.length := fun {F' e' H'} A => by
      rw [← A2.ok.len, ← A.ok.len]; exact B4.len.symm
    -- the new list stays through the turn
    have stay : ∀ {F' e' H'}, Aft K C F3 e4 σ4 H3 F' e' H' → H' p = some (.lst vacc) ∧ F' p = none := fun {F' e' H'} A => by
      have u4 : ∀ i, ¬ Owns e4 σ4 i p := fun i q => pU A2 i (B4.owns q)
      have g3 : H3 p = some (.lst vacc) := A3.fr p _ hv (pU A2)
      have f3 : F3 p = none := A3.nw p (by rw [hv]; exact fun z => nomatch z) hF (pU A2)
      exact ⟨A.fr p _ g3 u4, A.nw p (by rw [g3]; exact fun z => nomatch z) f3 u4⟩
    cases b with
    | true =>
      have h5' : me e5 (fun y e3 => y.get e3 fun d => acc.length < 100000 ∧ compW hold g tt me vs (items.drop (i + 1)) (acc ++ [d]) (unwipe e2 e3 vs) fun ds e' => R (.tm (.lst ds)) e') := by simpa using h5
      rw [if_pos rfl]
      refine ee C F5 e5 σ4 H5 _ _ A5.ok h5' ?_
      intro l e6 F6 v6 H6 h6 A6 r6
      obtain ⟨F7, d7, h7, A7, ex7, rp7⟩ := A6.keepIt r6 h6
      have A57 := A5.trans A7
      obtain ⟨s1, s2⟩ := stay A57
      refine ⟨vacc, s1, by rw [ra.length]; exact sz_lt h7.1, F7, _, acc ++ [d7], vacc ++ [v6], Aft.poke _ (A13.trans (Aft.unwiped A3.ok n2 B4 A57)) s1 s2 hG hU hp, upd_same, ?_, s2, noOwn_unwipe (hl A57) n2, h7.2⟩
      exact (ra.mono (A3.ex.trans A57.ex)).append (.cons rp7 .nil)
    | false =>
      have h5' : compW hold g tt me vs (items.drop (i + 1)) acc (unwipe e2 e5 vs) (fun ds e' => R (.tm (.lst ds)) e') := by simpa using h5
      rw [if_neg Bool.false_ne_true]
      obtain ⟨s1, s2⟩ := stay A5
      exact ⟨F5, _, acc, vacc, A13.trans (Aft.unwiped A3.ok n2 B4 A5), s1, ra.mono (A3.ex.trans A5.ex), s2, noOwn_unwipe (hl A5) n2, h5'⟩
  · have e : i = items.length := by omega
    subst e
    rw [List.drop_length] at w2
    refine Or.inl ⟨io2.2 (Nat.le_refl _), ?_⟩
    exact k _ e2 F2 _ H2 w2.2 (A1.trans A2) ⟨p, _, rfl, hv, ra, hF, hG, fun i q => hU i (A2.le.owns q), A1.back hp⟩
end DL

set_option Elab.async false
set_option linter.all false
set_option maxRecDepth 100000
set_option maxHeartbeats 4000000
set_option autoImplicit false
/-! DL8: readings that hang on the data's reading alone; list comprehensions as expressions and as values given to a name. -/
namespace DL
open PySem PySem.Spec L2 Evl PyProof.Rows

def TD (K : PySem.W.Frag) (m : DM) : TE := fun σ H Q => ∃ C F env R, Ok K C F env σ H ∧ m env R ∧ ∀ l env' F' v H', R l env' → Aft K C F env σ H F' env' H' → RVOk K C F' env' σ H H' v l → Q v H'
def TB (K : PySem.W.Frag) (m : DMB) : TT := fun σ H Q => ∃ C F env R, Ok K C F env σ H ∧ m env R ∧ ∀ b env' F' H', R b env' → Aft K C F env σ H F' env' H' → Q b H'
def TGn (K : PySem.W.Frag) (js : List Nat) (g : DTg) : TG := fun v σ H Q => ∃ C F env d R, Ok K C F env σ H ∧ Rep K F v d ∧ g d env R ∧ ∀ env' σ', R env' → Ok K C F env' σ' H → Keeps js env env' σ σ' → Q σ' H
def TIn (K : PySem.W.Frag) (m : DMI) : TI := fun σ H Q => ∃ C F env R, Ok K C F env σ H ∧ m env R ∧ ∀ items hold env' F' H' J, R items hold env' → Aft K C F env σ H F' env' H' → IterOk K C F' σ J items hold → holdE hold env' → Q J H'
section
variable {K : PySem.W.Frag}
theorem evd_TD {m : DM} : EvD K m (TD K m) := fun C F env σ H R Q I h k => ⟨C, F, env, R, I, h, k⟩
theorem evb_TB {m : DMB} : EvB K m (TB K m) := fun C F env σ H R Q I h k => ⟨C, F, env, R, I, h, k⟩
theorem evg_TG {js : List Nat} {g : DTg} : EvG K js g (TGn K js g) := fun C F env σ H v d R Q I r h k => ⟨C, F, env, d, R, I, r, h, k⟩
theorem evi_TI {m : DMI} : EvI K m (TIn K m) := fun C F env σ H R Q I h k => ⟨C, F, env, R, I, h, k⟩
end
section
variable {X : Cx}
theorem DE.can {e : Expr} {m : DM} (h : DE X e m) : PE X e (TD X.K m) := by
  obtain ⟨t, p, ev⟩ := h
  refine ⟨fun pins s σ H Q I q => ?_⟩
  obtain ⟨C, F, env, R, O, hm, k⟩ := q
  exact p.run pins s σ H Q I (ev C F env σ H R Q O hm k)
theorem DT.can {e : Expr} {m : DMB} (h : DT X e m) : PT X e (TB X.K m) := by
  obtain ⟨t, p, ev⟩ := h
  refine ⟨fun pins s σ H Q I q => ?_⟩
  obtain ⟨C, F, env, R, O, hm, k⟩ := q
  exact p.run pins s σ H Q I (ev C F env σ H R Q O hm k)
theorem DG.can {e : Expr} {js : List Nat} {g : DTg} (h : DG X e js g) : PG X e (TGn X.K js g) := by
  obtain ⟨t, p, ev⟩ := h
  refine ⟨fun pins s σ H v u Q I rv q => ?_⟩
  obtain ⟨C, F, env, d, R, O, r, hm, k⟩ := q
  exact p.run pins s σ H v u Q I rv (ev C F env σ H v d R Q O r hm k)
theorem DI.can {tg e : Expr} {m : DMI} (h : DI X tg e m) : PI X tg e (TIn X.K m) := by
  obtain ⟨t, p, ev⟩ := h
  refine ⟨fun pins s σ H R' I q => ?_⟩
  obtain ⟨C, F, env, R, O, hm, k⟩ := q
  exact p.run pins s σ H R' I (ev C F env σ H R R' O hm k)
def DTs (X : Cx) (ifs : List Expr) (m : DMB) : Prop := PTs X ifs (TB X.K m)
@[simp] def mYes : DMB := fun env R => R true env
theorem dts_nil : DTs X [] mYes := by
  refine ⟨fun pins s σ H Q I q => ?_⟩
  obtain ⟨C, F, env, R, O, hm, k⟩ := q
  exact pts_nil.run pins s σ H Q I (k true env F H hm O.aft)
theorem dts_one {c : Expr} {m : DMB} (h : DT X c m) : DTs X [c] m := pts_one h.can
abbrev Blk (X : Cx) (scope : Scope) (s : Shared) (H : Hp) (C : Addr) (cl : List (Str × Addr)) (fp : List Addr) : Cx := X.blk s H scope (compEnvC scope cl C X.env) fp
variable {elt tg iter : Expr} {ifs : List Expr} {scope : Scope} {own : List (Str × Nat)} {pos spos py : Pos} {mi : DMI} {js : List Nat} {g : DTg} {tt : DMB} {me : DM}
theorem dlc (own : List (Str × Nat)) (hc : X.calm = true) (hN : X.N.Nodup) (ok : BlkOk X.N X.env.scope scope own) (hi : DI X tg iter mi)
    (hg : ∀ s H C cl fp, DG (Blk X scope s H C cl fp) tg js g) (ht : ∀ s H C cl fp, DTs (Blk X scope s H C cl fp) ifs tt) (he : ∀ s H C cl fp, DE (Blk X scope s H C cl fp) elt me)
    (hj : ∀ i ∈ js, i ∈ own.map (·.2) := by decide) (hs : ∀ x, foldedSetIterable iter X.env x = pure x := by intro _; rfl) :
    DE X (.ListComp elt [⟨tg, iter, ifs, 0⟩] scope pos) (mLc mi g tt me (own.map (·.2))) :=
  ⟨_, pe_lc (tt := TB X.K tt) hc hN hi.can ok (fun s H C cl fp => (hg s H C cl fp).can) (fun s H C cl fp => ht s H C cl fp) (fun s H C cl fp => (he s H C cl fp).can) hs, evd_lc evi_TI evg_TG evb_TB evd_TD hj⟩
theorem ps_lcTo {i : Nat} {y : Str} (own : List (Str × Nat)) (hc : X.calm = true) (hN : X.N.Nodup) (hy : X.N[i]? = some y) (hyl : X.env.scope.names.lookup y = some .local)
    (hsw : swapsWith (.ListComp elt [⟨tg, iter, ifs, 0⟩] scope pos) (some (.Name y py)) spos.line X.env = pure true) (ok : BlkOk X.N X.env.scope scope own) (hi : DI X tg iter mi)
    (hg : ∀ s H C cl fp, DG (Blk X scope s H C cl fp) tg js g) (ht : ∀ s H C cl fp, DTs (Blk X scope s H C cl fp) ifs tt) (he : ∀ s H C cl fp, DE (Blk X scope s H C cl fp) elt me)
    (hs : ∀ x, foldedSetIterable iter X.env x = pure x := by intro _; rfl) :
    PS X (.Assign [.Name y py] (.ListComp elt [⟨tg, iter, ifs, 0⟩] scope pos) spos) (tAsg (tLc (TIn X.K mi) (TGn X.K js g) (TB X.K tt) (TD X.K me) (own.map (·.2))) (gName i)) :=
  ps_setLc (tt := TB X.K tt) hc hN hy hyl hsw hi.can ok (fun s H C cl fp => (hg s H C cl fp).can) (fun s H C cl fp => ht s H C cl fp) (fun s H C cl fp => (he s H C cl fp).can) hs
theorem ds_setLc {i : Nat} {y : Str} (own : List (Str × Nat)) (hc : X.calm = true) (hN : X.N.Nodup) (hy : X.N[i]? = some y) (hyl : X.env.scope.names.lookup y = some .local)
    (hsw : swapsWith (.ListComp elt [⟨tg, iter, ifs, 0⟩] scope pos) (some (.Name y py)) spos.line X.env = pure true) (ok : BlkOk X.N X.env.scope scope own) (hi : DI X tg iter mi)
    (hg : ∀ s H C cl fp, DG (Blk X scope s H C cl fp) tg js g) (ht : ∀ s H C cl fp, DTs (Blk X scope s H C cl fp) ifs tt) (he : ∀ s H C cl fp, DE (Blk X scope s H C cl fp) elt me)
    (hj : ∀ i ∈ js, i ∈ own.map (·.2) := by decide) (hs : ∀ x, foldedSetIterable iter X.env x = pure x := by intro _; rfl) :
    DS X (.Assign [.Name y py] (.ListComp elt [⟨tg, iter, ifs, 0⟩] scope pos) spos) (mSet i (mLc mi g tt me (own.map (·.2)))) :=
  ⟨_, ps_lcTo own hc hN hy hyl hsw ok hi hg ht he hs, evs_set (evd_lc evi_TI evg_TG evb_TB evd_TD hj)⟩
theorem ds_setLcO {i : Nat} {y : Str} (own : List (Str × Nat)) (hc : X.calm = true) (hN : X.N.Nodup) (hy : X.N[i]? = some y) (hyl : X.env.scope.names.lookup y = some .local)
    (hsw : swapsWith (.ListComp elt [⟨tg, iter, ifs, 0⟩] scope pos) (some (.Name y py)) spos.line X.env = pure true) (ok : BlkOk X.N X.env.scope scope own) (hi : DI X tg iter mi)
    (hg : ∀ s H C cl fp, DG (Blk X scope s H C cl fp) tg js g) (ht : ∀ s H C cl fp, DTs (Blk X scope s H C cl fp) ifs tt) (he : ∀ s H C cl fp, DE (Blk X scope s H C cl fp) elt me)
    (hj : ∀ i ∈ js, i ∈ own.map (·.2) := by decide) (hs : ∀ x, foldedSetIterable iter X.env x = pure x := by intro _; rfl) :
    DS X (.Assign [.Name y py] (.ListComp elt [⟨tg, iter, ifs, 0⟩] scope pos) spos) (mSetO i (mLc mi g tt me (own.map (·.2)))) :=
  ⟨_, ps_lcTo own hc hN hy hyl hsw ok hi hg ht he hs, evs_setO (evd_lc evi_TI evg_TG evb_TB evd_TD hj)⟩
end
end DL

set_option Elab.async false
set_option linter.all false
set_option maxRecDepth 100000
set_option maxHeartbeats 4000000
set_option autoImplicit false
/-! DL9: operators on data. -/
namespace DL
open PySem PySem.Spec L2 Evl PyProof.Rows

/-! ### texts that may stand -/
theorem sOk_iff {x : Str} : PyData.strOk x = true ↔ ∀ c ∈ x.cps.toList, c < 0x110000 := by
  unfold PyData.strOk
  rw [Array.all_eq_true']
  simp
theorem sOk_append {x y : Str} (h : PyData.strOk x = true) (k : PyData.strOk y = true) : PyData.strOk (x ++ y) = true := by
  rw [sOk_iff] at *
  intro c m
  have m' : c ∈ (x.cps ++ y.cps).toList := m
  rw [Array.toList_append, List.mem_append] at m'
  exact m'.elim (h c) (k c)
theorem sOk_sub {x y : Str} (h : PyData.strOk x = true) (k : ∀ c ∈ y.cps.toList, c ∈ x.cps.toList) : PyData.strOk y = true := by
  rw [sOk_iff] at *
  exact fun c m => h c (k c m)
theorem sOk_cut {x : Str} {lo hi : Option Int} (h : PyData.strOk x = true) : PyData.strOk (cutS x lo hi) = true := by
  refine sOk_sub h fun c m => ?_
  unfold cutS at m
  rw [show (⟨((x.cps.toList.drop (HT.sIx x.length 0 lo)).take (HT.sIx x.length x.length hi - HT.sIx x.length 0 lo)).toArray⟩ : Str).cps.toList = (x.cps.toList.drop (HT.sIx x.length 0 lo)).take (HT.sIx x.length x.length hi - HT.sIx x.length 0 lo) from by simp] at m
  exact List.mem_of_mem_drop (List.mem_of_mem_take m)

section
variable {X : Cx} {K : PySem.W.Frag}

/-! ### + - * // % ** << >> & -/
@[simp] def aAdd (d e : D) (R : RV → Prop) : Prop := match d, e with
  | .int i, .int j => R (.vl (.int (i + j)))
  | .str s, .str t => s.length + t.length ≤ sizeLine ∧ R (.vl (.str (s ++ t)))
  | .lst xs, .lst ys => xs.length + ys.length ≤ 100000 ∧ R (.tm (.lst (xs ++ ys)))
  | .tup xs, .tup ys => xs ≠ [] ∧ ys ≠ [] ∧ xs.length + ys.length ≤ 100000 ∧ R (.vl (.tup (xs ++ ys)))
  | _, _ => False
def rAddD (K : PySem.W.Frag) : R2 := fun x y H Q => (∃ i j, x = .int i ∧ y = .int j ∧ Q (.int (i + j)) H) ∨ (∃ i j, x = .str i ∧ y = .str j ∧ i.length + j.length ≤ sizeLine ∧ Q (.str (i ++ j)) H) ∨ rCat x y H Q ∨ rCatT K x y H Q
theorem op_addD : OpR X (binaryOp .Add) (rAddD X.K) := by
  intro pins s σ H x y v u Q I rx ry h
  rcases h with h | h | h | h
  · exact op_add pins s σ H x y v u Q I rx ry h
  · exact op_add_str pins s σ H x y v u Q I rx ry h
  · exact op_cat pins s σ H x y v u Q I rx ry h
  · exact op_catT pins s σ H x y v u Q I rx ry h
theorem o2_add : Op2 K (rAddD K) aAdd := by
  intro C F env σ H v w d e R Q I s1 s2 h g
  unfold aAdd at h
  split at h
  · exact Or.inl ⟨_, _, s1.int, s2.int, g.int I h⟩
  · exact Or.inr (Or.inl ⟨_, _, s1.str.1, s2.str.1, h.1, g.str I (sOk_append s1.str.2 s2.str.2) h.2⟩)
  · obtain ⟨p, vs, rfl, e1, r1⟩ := s1.lst I.sub
    obtain ⟨q, ws, rfl, e2, r2⟩ := s2.lst I.sub
    exact Or.inr (Or.inr (Or.inl ⟨p, q, vs, ws, rfl, rfl, e1, e2, by rw [r1.length, r2.length]; exact sz_of h.1, fun a ha => g.lst I h.2 (r1.append r2) a ha⟩))
  · obtain ⟨p, vs, rfl, e1, r1⟩ := s1.tup
    obtain ⟨q, ws, rfl, e2, r2⟩ := s2.tup
    have n1 : vs ≠ [] := fun z => by subst z; cases r1; exact h.1 rfl
    have n2 : ws ≠ [] := fun z => by subst z; cases r2; exact h.2.1 rfl
    exact Or.inr (Or.inr (Or.inr ⟨p, q, vs, ws, rfl, rfl, ex_t I.sub e1, ex_t I.sub e2, n1, by rw [r1.length, r2.length]; exact sz_of h.2.2.1, fun z => absurd z n2, fun _ a ha => g.tup I h.2.2.2 (r1.append r2) a ha⟩))
  · exact h.elim
@[simp] def aInt (f : Int → Int → Int) (c : Int → Int → Prop) (d e : D) (R : RV → Prop) : Prop := match d, e with
  | .int i, .int j => c i j ∧ R (.vl (.int (f i j)))
  | _, _ => False
theorem o2_int {f : Int → Int → Int} {c c' : Int → Int → Prop} (hc : ∀ i j, c i j → c' i j) : Op2 K (rI c' fun i j => .int (f i j)) (aInt f c) := by
  intro C F env σ H v w d e R Q I s1 s2 h g
  unfold aInt at h
  split at h
  · exact ⟨_, _, s1.int, s2.int, hc _ _ h.1, g.int I h.2⟩
  · exact h.elim
theorem o2_int0 {f : Int → Int → Int} : Op2 K (rI0 fun i j => .int (f i j)) (aInt f fun _ _ => True) := by
  intro C F env σ H v w d e R Q I s1 s2 h g
  unfold aInt at h
  split at h
  · exact ⟨_, _, s1.int, s2.int, g.int I h.2⟩
  · exact h.elim
abbrev aSub := aInt (· - ·) fun _ _ => True
abbrev aFdiv := aInt (· / ·) fun i j => 0 < j ∧ j.natAbs.log2 < 9000
abbrev aMod := aInt (· % ·) fun i j => 0 < j
abbrev aPow := aInt (fun i j => i ^ j.toNat) CPow
abbrev aShl := aInt (fun i j => i * 2 ^ j.toNat) CPow
abbrev aShr := aInt (fun i j => i / 2 ^ j.toNat) fun i j => 0 ≤ j
abbrev aAnd := aInt (fun i j => Builtin.bitAnd i j) fun _ _ => True
theorem o2_sub : Op2 K (rI0 fun i j => .int (i - j)) aSub := o2_int0
theorem o2_fdiv : Op2 K (rI CDivW fun i j => .int (i / j)) aFdiv := o2_int fun _ _ h => h
theorem o2_mod : Op2 K (rI (fun _ j => 0 < j) fun i j => .int (i % j)) aMod := o2_int fun _ _ h => h
theorem o2_pow : Op2 K (rI CPow fun i j => .int (i ^ j.toNat)) aPow := o2_int fun _ _ h => h
theorem o2_shl : Op2 K (rI CPow fun i j => .int (i * 2 ^ j.toNat)) aShl := o2_int fun _ _ h => h
theorem o2_shr : Op2 K (rI (fun _ j => 0 ≤ j) fun i j => .int (i / 2 ^ j.toNat)) aShr := o2_int fun _ _ h => h
theorem o2_and : Op2 K (rI0 fun i j => .int (Builtin.bitAnd i j)) aAnd := o2_int0
@[simp] def aMul (d e : D) (R : RV → Prop) : Prop := match d, e with
  | .int i, .int j => CMulW i j ∧ R (.vl (.int (i * j)))
  | .lst xs, .int k => 0 ≤ k ∧ k ≤ 100000 ∧ xs.length * k.toNat ≤ 100000 ∧ R (.tm (.lst (List.flatten (List.replicate k.toNat xs))))
  | _, _ => False
def rMulD : R2 := fun x y H Q => rI CMulW (fun i j => .int (i * j)) x y H Q ∨ rRep x y H Q
theorem op_mulD : OpR X (binaryOp .Mult) rMulD := by
  intro pins s σ H x y v u Q I rx ry h
  rcases h with h | h
  · exact op_mulW pins s σ H x y v u Q I rx ry h
  · exact op_rep pins s σ H x y v u Q I rx ry h

/-! ### < <= > >= : numbers, texts -/
@[simp] def aOrd (f : Int → Int → Bool) (g : List Nat → List Nat → Bool) (d e : D) (R : RV → Prop) : Prop := match d, e with
  | .int i, .int j => R (.vl (.bl (f i j)))
  | .str s, .str t => R (.vl (.bl (g s.cps.toList t.cps.toList)))
  | _, _ => False
def rOrd (f : Int → Int → Bool) (g : List Nat → List Nat → Bool) : R2 := fun x y H Q => (∃ i j, x = .int i ∧ y = .int j ∧ Q (.bl (f i j)) H) ∨ ∃ i j : Str, x = .str i ∧ y = .str j ∧ Q (.bl (g i.cps.toList j.cps.toList)) H
theorem o2_ord {f : Int → Int → Bool} {k : List Nat → List Nat → Bool} : Op2 K (rOrd f k) (aOrd f k) := by
  intro C F env σ H v w d e R Q I s1 s2 h g
  unfold aOrd at h
  split at h
  · exact Or.inl ⟨_, _, s1.int, s2.int, g.bl I h⟩
  · exact Or.inr ⟨_, _, s1.str.1, s2.str.1, g.bl I h⟩
  · exact h.elim
abbrev aLt := aOrd (fun i j => decide (i < j)) fun s t => decide (s < t)
abbrev aLe := aOrd (fun i j => decide (i ≤ j)) fun s t => !decide (t < s)
abbrev aGt := aOrd (fun i j => decide (j < i)) fun s t => decide (t < s)
abbrev aGe := aOrd (fun i j => decide (j ≤ i)) fun s t => !decide (s < t)
theorem op_ltD : OpR X (compareOp .Lt) (rOrd (fun i j => decide (i < j)) fun s t => decide (s < t)) := by
  intro pins s σ H x y v u Q I rx ry h
  rcases h with h | h
  · exact op_lt pins s σ H x y v u Q I rx ry h
  · exact op_lt_str pins s σ H x y v u Q I rx ry h
theorem op_leD : OpR X (compareOp .LtE) (rOrd (fun i j => decide (i ≤ j)) fun s t => !decide (t < s)) := by
  intro pins s σ H x y v u Q I rx ry h
  rcases h with h | h
  · exact op_le pins s σ H x y v u Q I rx ry h
  · exact op_le_str pins s σ H x y v u Q I rx ry h
theorem op_gtD : OpR X (compareOp .Gt) (rOrd (fun i j => decide (j < i)) fun s t => decide (t < s)) := by
  intro pins s σ H x y v u Q I rx ry h
  rcases h with h | h
  · exact op_gt pins s σ H x y v u Q I rx ry h
  · exact op_gt_str pins s σ H x y v u Q I rx ry h
theorem op_geD : OpR X (compareOp .GtE) (rOrd (fun i j => decide (j ≤ i)) fun s t => !decide (s < t)) := by
  intro pins s σ H x y v u Q I rx ry h
  rcases h with h | h
  · exact op_ge pins s σ H x y v u Q I rx ry h
  · exact op_ge_str pins s σ H x y v u Q I rx ry h

/-! ### ==, != -/
mutual
@[simp] def D.py : D → PyData
  | .non => .none
  | .bl b => .bool b
  | .int i => .int i
  | .str s => .str s
  | .lst xs => .list (D.pyL xs)
  | .tup xs => .tuple (D.pyL xs)
  | .dic _ => .dict []
  | .scr _ => .dict []
  | .fn _ => .dict []
  | .obj _ _ => .dict []
  | .exc _ _ _ => .dict []
@[simp] def D.pyL : List D → List PyData
  | [] => []
  | d :: ds => D.py d :: D.pyL ds
end
@[simp] def D.lvl : Nat → D → Bool
  | _, .non => true
  | _, .bl _ => true
  | _, .int _ => true
  | _, .str _ => true
  | n + 1, .lst xs => xs.all (D.lvl n)
  | n + 1, .tup xs => xs.all (D.lvl n)
  | _, _ => false
def deq (d e : D) : Bool := PyData.eqv d.py e.py
theorem pyL_map : ∀ xs : List D, D.pyL xs = xs.map D.py
  | [] => rfl
  | x :: xs => by simp [pyL_map xs]
mutual
theorem lay_of {F : Hp} : ∀ (d : D) (v : V), Rep K F v d → ∀ n, D.lvl n d = true → d.py.canLay0 = true ∧ d.py.depth ≤ n ∧ Dp K F v d.py
  | .non, _, .non, n, _ => ⟨rfl, Nat.zero_le _, .non⟩
  | .bl b, _, .bl _, n, _ => ⟨rfl, Nat.zero_le _, .bl b⟩
  | .int i, _, .int _, n, _ => ⟨rfl, Nat.zero_le _, .int i⟩
  | .str s, _, .str _ h, n, _ => ⟨h, Nat.zero_le _, .str s⟩
  | .lst ds, _, .lst e r, 0, h => by simp [D.lvl] at h
  | .lst ds, _, .lst e r, n + 1, h => by
    have h' : ds.all (D.lvl n) = true := by simpa [D.lvl] using h
    obtain ⟨a, b, c⟩ := layL_of ds _ r n h'
    exact ⟨by simpa [PyData.canLay0] using a, by simpa [PyData.depth] using b, .lst (sq_of e) c⟩
  | .tup ds, _, .tup e r, 0, h => by simp [D.lvl] at h
  | .tup ds, _, .tup e r, n + 1, h => by
    have h' : ds.all (D.lvl n) = true := by simpa [D.lvl] using h
    obtain ⟨a, b, c⟩ := layL_of ds _ r n h'
    exact ⟨by simpa [PyData.canLay0] using a, by simpa [PyData.depth] using b, .tup e c⟩
  | .dic _, _, _, 0, h => by simp [D.lvl] at h
  | .dic _, _, _, n + 1, h => by simp [D.lvl] at h
  | .scr _, _, _, 0, h => by simp [D.lvl] at h
  | .scr _, _, _, n + 1, h => by simp [D.lvl] at h
  | .fn _, _, _, 0, h => by simp [D.lvl] at h
  | .fn _, _, _, n + 1, h => by simp [D.lvl] at h
  | .obj _ _, _, _, 0, h => by simp [D.lvl] at h
  | .obj _ _, _, _, n + 1, h => by simp [D.lvl] at h
  | .exc _ _ _, _, _, 0, h => by simp [D.lvl] at h
  | .exc _ _ _, _, _, n + 1, h => by simp [D.lvl] at h
theorem layL_of {F : Hp} : ∀ (ds : List D) (vs : List V), RepL K F vs ds → ∀ n, ds.all (D.lvl n) = true → PyData.canLayAll0 (D.pyL ds) = true ∧ PyData.depthAll (D.pyL ds) ≤ n ∧ DpAll K F vs (D.pyL ds)
  | [], _, .nil, n, _ => ⟨rfl, Nat.zero_le _, .nil⟩
  | d :: ds, _, .cons x r, n, h => by
    simp only [List.all_cons, Bool.and_eq_true] at h
    obtain ⟨a1, b1, c1⟩ := lay_of d _ x n h.1
    obtain ⟨a2, b2, c2⟩ := layL_of ds _ r n h.2
    exact ⟨by simp [PyData.canLayAll0, a1, a2], by simp [PyData.depthAll]; omega, .cons c1 c2⟩
end
mutual
theorem Dp.up {F H : Hp} (e : Ex F H) : ∀ {v : V} {d : PyData}, Dp K F v d → Dp K H v d
  | _, _, .non => .non
  | _, _, .bl b => .bl b
  | _, _, .int i => .int i
  | _, _, .str s => .str s
  | _, _, .lst h r => .lst (ex_l e h) (DpAll.up e r)
  | _, _, .tup h r => .tup (ex_t e h) (DpAll.up e r)
theorem DpAll.up {F H : Hp} (e : Ex F H) : ∀ {vs : List V} {ds : List PyData}, DpAll K F vs ds → DpAll K H vs ds
  | _, _, .nil => .nil
  | _, _, .cons a r => .cons (Dp.up e a) (DpAll.up e r)
end
theorem See.lay {F H : Hp} {v : V} {d : D} (x : Ex F H) (s : See K F H v d) (h : D.lvl 60 d = true) : SeqAt.shaped d.py = true ∧ Dp K H v d.py := by
  have main : d.py.canLay0 = true ∧ d.py.depth ≤ 60 ∧ Dp K H v d.py := by
    cases s with
    | rep r =>
      obtain ⟨a, b, c⟩ := lay_of d v r 60 h
      exact ⟨a, b, Dp.up x c⟩
    | obj e r =>
      unfold RepO at r
      split at r
      · rename_i vs ds
        have h' : ds.all (D.lvl 59) = true := by simpa [D.lvl] using h
        obtain ⟨a, b, c⟩ := layL_of ds vs r 59 h'
        exact ⟨by simpa [PyData.canLay0] using a, by simpa [PyData.depth] using b, .lst (sq_of e) (DpAll.up x c)⟩
      · simp [D.lvl] at h
      · exact r.elim
  refine ⟨?_, main.2.2⟩
  unfold SeqAt.shaped
  rw [main.1, Bool.true_and]
  exact decide_eq_true (by omega)
@[simp] def aEq (d e : D) (R : RV → Prop) : Prop := D.lvl 60 d = true ∧ D.lvl 60 e = true ∧ R (.vl (.bl (deq d e)))
@[simp] def aNe (d e : D) (R : RV → Prop) : Prop := D.lvl 60 d = true ∧ D.lvl 60 e = true ∧ R (.vl (.bl (!deq d e)))
theorem o2_eq : Op2 K (rEqD K) aEq := by
  intro C F env σ H v w d e R Q I s1 s2 h g
  obtain ⟨h1, h2, h3⟩ := h
  obtain ⟨a1, a2⟩ := s1.lay I.sub h1
  obtain ⟨b1, b2⟩ := s2.lay I.sub h2
  exact ⟨_, _, a2, b2, a1, b1, g.bl I h3⟩
theorem o2_ne : Op2 K (rNeD K) aNe := by
  intro C F env σ H v w d e R Q I s1 s2 h g
  obtain ⟨h1, h2, h3⟩ := h
  obtain ⟨a1, a2⟩ := s1.lay I.sub h1
  obtain ⟨b1, b2⟩ := s2.lay I.sub h2
  exact ⟨_, _, a2, b2, a1, b1, g.bl I h3⟩
section
@[simp] theorem deq_non : deq .non .non = true := rfl
@[simp] theorem deq_int (i j : Int) : deq (.int i) (.int j) = (i == j) := by simp [deq, PyData.eqv]
@[simp] theorem deq_str (i j : Str) : deq (.str i) (.str j) = (i == j) := by simp [deq, PyData.eqv]
@[simp] theorem deq_bl (i j : Bool) : deq (.bl i) (.bl j) = (i == j) := by simp [deq, PyData.eqv]
@[simp] theorem deq_non_int (j : Int) : deq .non (.int j) = false := by simp [deq, PyData.eqv]
@[simp] theorem deq_non_str (j : Str) : deq .non (.str j) = false := by simp [deq, PyData.eqv]
@[simp] theorem deq_non_lst (j : List D) : deq .non (.lst j) = false := by simp [deq, PyData.eqv]
@[simp] theorem deq_int_non (j : Int) : deq (.int j) .non = false := by simp [deq, PyData.eqv]
@[simp] theorem deq_str_non (j : Str) : deq (.str j) .non = false := by simp [deq, PyData.eqv]
@[simp] theorem deq_lst_non (j : List D) : deq (.lst j) .non = false := by simp [deq, PyData.eqv]
@[simp] theorem deq_str_int (i : Str) (j : Int) : deq (.str i) (.int j) = false := by simp [deq, PyData.eqv]
@[simp] theorem deq_int_str (i : Int) (j : Str) : deq (.int i) (.str j) = false := by simp [deq, PyData.eqv]
@[simp] theorem deq_nil : deq (.lst []) (.lst []) = true := by simp [deq, PyData.eqv, PyData.eqvAll]
@[simp] theorem deq_nil_cons (x : D) (xs : List D) : deq (.lst []) (.lst (x :: xs)) = false := by simp [deq, PyData.eqv, PyData.eqvAll]
@[simp] theorem deq_cons_nil (x : D) (xs : List D) : deq (.lst (x :: xs)) (.lst []) = false := by simp [deq, PyData.eqv, PyData.eqvAll]
@[simp] theorem deq_cons (x y : D) (xs ys : List D) : deq (.lst (x :: xs)) (.lst (y :: ys)) = (deq x y && deq (.lst xs) (.lst ys)) := by simp [deq, PyData.eqv, PyData.eqvAll]
@[simp] theorem deq_tnil : deq (.tup []) (.tup []) = true := by simp [deq, PyData.eqv, PyData.eqvAll]
@[simp] theorem deq_tcons (x y : D) (xs ys : List D) : deq (.tup (x :: xs)) (.tup (y :: ys)) = (deq x y && deq (.tup xs) (.tup ys)) := by simp [deq, PyData.eqv, PyData.eqvAll]
@[simp] theorem deq_tnil_cons (x : D) (xs : List D) : deq (.tup []) (.tup (x :: xs)) = false := by simp [deq, PyData.eqv, PyData.eqvAll]
@[simp] theorem deq_tcons_nil (x : D) (xs : List D) : deq (.tup (x :: xs)) (.tup []) = false := by simp [deq, PyData.eqv, PyData.eqvAll]
end

/-! ### is None, is True -/
@[simp] def D.isNon : D → Bool
  | .non => true
  | _ => false
@[simp] def aIs (d e : D) (R : RV → Prop) : Prop := match e with
  | .non => R (.vl (.bl d.isNon))
  | .bl b => match d with
    | .bl a => R (.vl (.bl (decide (a = b))))
    | _ => False
  | _ => False
@[simp] def aIsN (d e : D) (R : RV → Prop) : Prop := match e with
  | .non => R (.vl (.bl (!d.isNon)))
  | .bl b => match d with
    | .bl a => R (.vl (.bl (!decide (a = b))))
    | _ => False
  | _ => False
theorem See.isNon {F H : Hp} {v : V} {d : D} (s : See K F H v d) : decide (v = .non) = d.isNon := by
  cases s with
  | rep r => cases r <;> simp
  | obj e r =>
    unfold RepO at r
    split at r
    · simp
    · simp
    · exact r.elim
def rIsD (neg : Bool) : R2 := fun x y H Q => (y = .non ∧ Q (.bl (neg ^^ decide (x = .non))) H) ∨ ∃ a b : Bool, x = .bl a ∧ y = .bl b ∧ Q (.bl (neg ^^ decide (a = b))) H
theorem o2_is : Op2 K (rIsD false) aIs := by
  intro C F env σ H v w d e R Q I s1 s2 h g
  unfold aIs at h
  split at h
  · exact Or.inl ⟨s2.non, by rw [s1.isNon]; exact g.bl I (by simpa using h)⟩
  · split at h
    · exact Or.inr ⟨_, _, s1.bl, s2.bl, g.bl I (by simpa using h)⟩
    · exact h.elim
  · exact h.elim
theorem o2_isN : Op2 K (rIsD true) aIsN := by
  intro C F env σ H v w d e R Q I s1 s2 h g
  unfold aIsN at h
  split at h
  · exact Or.inl ⟨s2.non, by rw [s1.isNon]; exact g.bl I (by simpa using h)⟩
  · split at h
    · exact Or.inr ⟨_, _, s1.bl, s2.bl, g.bl I (by simpa using h)⟩
    · exact h.elim
  · exact h.elim
end
end DL

set_option Elab.async false
set_option linter.all false
set_option maxRecDepth 100000
set_option maxHeartbeats 4000000
set_option autoImplicit false
/-! DL10: in, subscripts, slices, built-ins, methods over data. -/
namespace DL
open PySem PySem.Spec L2 Evl PyProof.Rows

section
variable {X : Cx} {K : PySem.W.Frag} {pos : Pos}
theorem op_isD : OpR X (compareOp .Is) (rIsD false) := by
  intro pins s σ H x y v u Q I rx ry h
  rcases h with ⟨h1, h2⟩ | ⟨a, b, h1, h2, h3⟩
  · exact op_isN pins s σ H x y v u Q I rx ry ⟨h1, by simpa using h2⟩
  · exact op_isBl pins s σ H x y v u Q I rx ry ⟨a, b, h1, h2, by simpa using h3⟩
theorem op_isND : OpR X (compareOp .IsNot) (rIsD true) := by
  intro pins s σ H x y v u Q I rx ry h
  rcases h with ⟨h1, h2⟩ | ⟨a, b, h1, h2, h3⟩
  · exact op_notN pins s σ H x y v u Q I rx ry ⟨h1, by simpa using h2⟩
  · exact op_notBl pins s σ H x y v u Q I rx ry ⟨a, b, h1, h2, by simpa using h3⟩

/-! ### in -/
@[simp] def D.flat : D → Bool
  | .non => true
  | .bl _ => true
  | .int _ => true
  | .str _ => true
  | _ => false
@[simp] def feq : D → D → Bool
  | .non, .non => true
  | .bl a, .bl b => a == b
  | .bl a, .int b => (if a then 1 else 0) == b
  | .int a, .bl b => a == (if b then 1 else 0)
  | .int a, .int b => a == b
  | .str a, .str b => a == b
  | _, _ => false
@[simp] def inD (d : D) (xs : List D) : Bool := xs.any fun y => feq y d
@[simp] def inStr (s t : Str) : Bool := match s.cps.toList with
  | [c] => decide (c ∈ t.cps.toList)
  | _ => !(Builtin.Str.occurrences t s 0 t.length 1).isEmpty
@[simp] def aInB (n : Bool) (d e : D) (R : RV → Prop) : Prop := match e with
  | .lst xs => d.flat = true ∧ xs.all D.flat = true ∧ R (.vl (.bl (n ^^ inD d xs)))
  | .tup xs => d.flat = true ∧ xs.all D.flat = true ∧ R (.vl (.bl (n ^^ inD d xs)))
  | .str t => match d with
    | .str s => R (.vl (.bl (n ^^ inStr s t)))
    | _ => False
  | _ => False
abbrev aIn := aInB false
abbrev aNotIn := aInB true
def rInB (K : PySem.W.Frag) (n : Bool) : R2 := fun x y H Q => rIn K n x y H Q ∨ ∃ i j : Str, x = .str i ∧ y = .str j ∧ Q (.bl (n ^^ inStr i j)) H
theorem op_inB : OpR X (compareOp .In) (rInB X.K false) := by
  intro pins s σ H x y v u Q I rx ry h
  rcases h with h | ⟨i, j, h1, h2, h3⟩
  · exact op_in_seq pins s σ H x y v u Q I rx ry h
  · unfold inStr at h3
    split at h3
    · rename_i c e
      have ei : i = ⟨#[c]⟩ := by
        cases i with | mk a => simp at e; cases a; simp at e; simp [e]
      exact op_in_sign pins s σ H x y v u Q I rx ry ⟨c, j, by rw [h1, ei], h2, by simpa using h3⟩
    · exact op_in_str pins s σ H x y v u Q I rx ry ⟨i, j, h1, h2, by simpa using h3⟩
theorem op_notInB : OpR X (compareOp .NotIn) (rInB X.K true) := by
  intro pins s σ H x y v u Q I rx ry h
  rcases h with h | ⟨i, j, h1, h2, h3⟩
  · exact op_notIn_seq pins s σ H x y v u Q I rx ry h
  · unfold inStr at h3
    split at h3
    · rename_i c e
      have ei : i = ⟨#[c]⟩ := by
        cases i with | mk a => simp at e; cases a; simp at e; simp [e]
      exact op_notIn_sign pins s σ H x y v u Q I rx ry ⟨c, j, by rw [h1, ei], h2, by simpa using h3⟩
    · exact op_notIn_str pins s σ H x y v u Q I rx ry ⟨i, j, h1, h2, by simpa using h3⟩
theorem Rep.flat {F : Hp} {v : V} {d : D} (r : Rep K F v d) (h : d.flat = true) : flatV v = true := by
  cases r <;> first | rfl | (simp at h)
theorem Rep.eqV {F G : Hp} {v w : V} {d e : D} (r : Rep K F v d) (s : Rep K G w e) (h : d.flat = true) (k : e.flat = true) : L2.eqV v w = feq d e := by
  cases r <;> cases s <;> first | rfl | (simp at h) | (simp at k)
theorem RepL.flat {F : Hp} : ∀ {vs : List V} {ds : List D}, RepL K F vs ds → ds.all D.flat = true → vs.all flatV = true
  | _, _, .nil, _ => rfl
  | _, _, .cons a r, h => by
    simp only [List.all_cons, Bool.and_eq_true] at h ⊢
    exact ⟨a.flat h.1, RepL.flat r h.2⟩
theorem RepL.inV {F G : Hp} {v : V} {d : D} (r : Rep K F v d) (h : d.flat = true) : ∀ {vs : List V} {ds : List D}, RepL K G vs ds → ds.all D.flat = true → L2.inV v vs = inD d ds
  | _, _, .nil, _ => rfl
  | _, _, .cons a s, k => by
    simp only [List.all_cons, Bool.and_eq_true] at k
    have e := RepL.inV r h s k.2
    unfold L2.inV inD at e ⊢
    rw [List.any_cons, List.any_cons, a.eqV r k.1 h, e]
theorem See.flat {F H : Hp} {v : V} {d : D} (s : See K F H v d) (h : d.flat = true) : Rep K F v d := by
  cases s with
  | rep r => exact r
  | obj e r =>
    unfold RepO at r
    split at r
    · simp at h
    · simp at h
    · exact r.elim
theorem o2_inB {n : Bool} : Op2 K (rInB K n) (aInB n) := by
  intro C F env σ H v w d e R Q I s1 s2 h g
  have bx : ∀ b : Bool, (if n = true then !b else b) = (n ^^ b) := fun b => by cases n <;> cases b <;> rfl
  cases e with
  | lst xs =>
    obtain ⟨p, vs, rfl, e1, r1⟩ := s2.lst I.sub
    have f := s1.flat h.1
    refine Or.inl ⟨p, vs, rfl, Or.inl (sq_of e1), f.flat h.1, r1.flat h.2.1, ?_⟩
    rw [bx, RepL.inV f h.1 r1 h.2.1]
    exact g.bl I h.2.2
  | tup xs =>
    obtain ⟨p, vs, rfl, e1, r1⟩ := s2.tup
    have f := s1.flat h.1
    refine Or.inl ⟨p, vs, rfl, Or.inr (ex_t I.sub e1), f.flat h.1, r1.flat h.2.1, ?_⟩
    rw [bx, RepL.inV f h.1 r1 h.2.1]
    exact g.bl I h.2.2
  | str t =>
    cases d with
    | str s => exact Or.inr ⟨s, t, s1.str.1, s2.str.1, g.bl I h⟩
    | _ => exact h.elim
  | _ => exact h.elim

/-! ### a * b -/
theorem RepL.rep {F : Hp} {vs : List V} {ds : List D} (r : RepL K F vs ds) : ∀ n : Nat, RepL K F (List.flatten (List.replicate n vs)) (List.flatten (List.replicate n ds))
  | 0 => by simp; exact .nil
  | n + 1 => by rw [List.replicate_succ, List.replicate_succ, List.flatten_cons, List.flatten_cons]; exact r.append (RepL.rep r n)

/-! ### subscripts -/
@[simp] def aIx (d e : D) (R : RV → Prop) : Prop := match d, e with
  | .lst xs, .int i => ∃ y, atI xs i = some y ∧ R (.vl y)
  | .tup xs, .int i => ∃ y, atI xs i = some y ∧ R (.vl y)
  | .str s, .int i => s.length ≤ sizeLine ∧ ∃ c, atI s.cps.toList i = some c ∧ R (.vl (.str ⟨#[c]⟩))
  | .scr ns, .int i => ∃ n, atI ns i = some n ∧ R (.vl (.int n))
  | _, _ => False
theorem ixN_lt {n : Nat} {i : Int} {j : Nat} (h : ixN n i = some j) : j < n := by
  unfold ixN at h
  split at h
  · split at h
    · cases h; omega
    · cases h
  · split at h
    · cases h; omega
    · cases h
theorem atI_rep {F : Hp} {vs : List V} {ds : List D} (r : RepL K F vs ds) {i : Int} {y : D} (h : atI ds i = some y) : ∃ v, atI vs i = some v ∧ Rep K F v y := by
  unfold atI at h ⊢
  rw [r.length]
  cases q : ixN ds.length i with
  | none => rw [q] at h; cases h
  | some j =>
    rw [q] at h
    obtain ⟨v, h1, h2⟩ := r.get (show ds[j]? = some y from h)
    exact ⟨v, h1, h2⟩
theorem o2_ix : Op2 K (rIx K) aIx := by
  intro C F env σ H v w d e R Q I s1 s2 h g
  unfold aIx at h
  split at h
  · obtain ⟨y, h1, h2⟩ := h
    obtain ⟨p, vs, rfl, e1, r1⟩ := s1.lst I.sub
    obtain ⟨u, q1, q2⟩ := atI_rep r1 h1
    exact Or.inl ⟨p, vs, _, u, rfl, s2.int, sq_of e1, q1, g.here I h2 q2⟩
  · obtain ⟨y, h1, h2⟩ := h
    obtain ⟨p, vs, rfl, e1, r1⟩ := s1.tup
    obtain ⟨u, q1, q2⟩ := atI_rep r1 h1
    exact Or.inr (Or.inl ⟨p, vs, _, u, rfl, s2.int, ex_t I.sub e1, q1, g.here I h2 q2⟩)
  · obtain ⟨h0, c, h1, h2⟩ := h
    refine Or.inr (Or.inr ⟨_, _, c, s1.str.1, s2.int, h0, h1, g.str I ?_ h2⟩)
    unfold atI at h1
    cases q : ixN _ _ with
    | none => rw [q] at h1; cases h1
    | some j => rw [q] at h1; exact strOk_sign s1.str.2 h1
  · obtain ⟨n, h1, h2⟩ := h
    obtain ⟨p, rfl, e1⟩ := s1.scr
    refine Or.inl ⟨p, _, _, .int n, rfl, s2.int, ex_l I.sub e1, ?_, g.int I h2⟩
    unfold atI at h1 ⊢
    rw [List.length_map]
    cases q : ixN _ _ with
    | none => rw [q] at h1; cases h1
    | some j =>
      rw [q] at h1
      have h1' : (_ : List Int)[j]? = some n := h1
      simp [h1']
  · exact h.elim
theorem dix {a b : Expr} {m1 m2 : DM} (ha : DE X a m1) (hb : DE X b m2) (hs : PlainIx b := by exact fun _ _ => rfl) : DE X (.Subscript a b pos) (mOp2 aIx m1 m2) := by
  obtain ⟨ta, pa, ea⟩ := ha
  obtain ⟨tb, pb, eb⟩ := hb
  exact ⟨_, pe_ix ix_seq pa pb hs, evd_op2 o2_ix ea eb⟩

/-! ### slices -/
abbrev DMO := List Slot → (Option Int → List Slot → Prop) → Prop
def EvO (K : PySem.W.Frag) (m : DMO) (t : TO) : Prop := ∀ C F env σ H R (Q : Option Int → Hp → Prop), Ok K C F env σ H → m env R → (∀ o env' F' H', R o env' → Aft K C F env σ H F' env' H' → Q o H') → t σ H Q
def DO (X : Cx) (e : Option Expr) (m : DMO) : Prop := ∃ t, PO X e t ∧ EvO X.K m t
@[simp] def moNo : DMO := fun env R => R none env
@[simp] def moSo (a : DM) : DMO := fun env R => a env fun x e1 => x.con e1 fun d => match d with
  | .int i => R (some i) e1
  | _ => False
theorem do_none : DO X none moNo := ⟨_, po_none, fun C F env σ H R Q I h k => k none env F H h I.aft⟩
theorem do_some {e : Expr} {m : DM} (h : DE X e m) : DO X (some e) (moSo m) := by
  obtain ⟨t, p, ev⟩ := h
  refine ⟨_, po_some p, ?_⟩
  intro C F env σ H R Q I h k
  refine ev C F env σ H _ _ I h ?_
  intro x e1 F1 v H1 h1 A1 r1
  obtain ⟨d, h3, s1⟩ := A1.ok.see r1 h1
  cases d with
  | int i => exact ⟨i, s1.int, k _ e1 F1 H1 h3 A1⟩
  | _ => exact h3.elim
@[simp] def cutD (xs : List D) (lo hi : Option Int) : List D := (xs.drop (HT.sIx xs.length 0 lo)).take (HT.sIx xs.length xs.length hi - HT.sIx xs.length 0 lo)
@[simp] def aSl (d : D) (lo hi : Option Int) (R : RV → Prop) : Prop := match d with
  | .lst xs => R (.tm (.lst (cutD xs lo hi)))
  | .str s => s.length ≤ sizeLine ∧ R (.vl (.str (cutS s lo hi)))
  | .tup xs => R (.vl (.tup (cutD xs lo hi)))
  | _ => False
@[simp] def mSl (a : DM) (lo hi : DMO) : DM := fun env R => a env fun x e1 => lo e1 fun l e2 => hi e2 fun u e3 => x.con e3 fun d => aSl d l u fun r => R r e3
section
open HT
theorem getTup_whole {P : Program} {w : World} {A : Around} {E : Value → Shared → Prop} {s : Shared} {t sl : Addr} {items : Array Value} {vl vu : Value} {lo hi : Option Int} {Q : Value → Shared → Prop} (ht : PyProof.Rows.IsTup s.heap t items) (hs : s.heap.IsSliceOf sl vl vu .none) (pl : IsPart vl lo) (pu : IsPart vu hi)
    (hw : HT.sIx items.size 0 lo = 0 ∧ HT.sIx items.size items.size hi = items.size)
    (h : Q (.ref t) s) : wpAny (model P w) A (getItem (.ref t) (.ref sl)) Q E s := by
  obtain ⟨os, hos, hcs, hds⟩ := id hs
  have hTs : s.TypeIs (.ref sl) "slice" := ⟨os, hos, hcs⟩
  unfold getItem
  try with_reducible refine wpAny_holding ?_
  first | refine wpAny_bind (wpAny_pure ?_) | skip
  refine wpAny_bind (wpAny_sequenceKey ht.typeIs (by decide) ?_)
  refine wpAny_bind (wpAny_callSpecial?_slot (name := Str.ofString "__getitem__") ht.typeIs PyProof.Rows.slot_tuple_getitem
    (wpAny_call_entry PyProof.Rows.slot_tuple_getitem ht.typeIs PyProof.Rows.entry_tuple_getitem ?_ (PyProof.Rows.args_tuple_getitem _ _)))
  show wpAny _ _ (Builtin.Tuple.tupleItemsOf (.ref t) >>= _) _ _ s
  refine wpAny_bind (PyProof.Rows.tupleItemsOf_ ht ?_)
  refine wpAny_bind (wpAny_typeOf hTs ?_)
  rw [if_pos (by decide)]
  refine wpAny_bind (HT.sliceApplied_gen hs pl pu ?_)
  have hno : ((((HT.sIx items.size 0 lo : Nat) : Int) == 0 && (1 : Int) == 1 && (HT.sIx items.size items.size hi - HT.sIx items.size 0 lo) == items.size) = true) := by
    rw [hw.1, hw.2]
    simp
  show wpAny _ _ (if (((HT.sIx items.size 0 lo : Nat) : Int) == 0 && (1 : Int) == 1 && (HT.sIx items.size items.size hi - HT.sIx items.size 0 lo) == items.size) = true then _ else _) _ _ s
  rw [if_pos hno]
  refine wpAny_bind (m := Builtin.Tuple.tupleIsExact _) (wpAny_bind (wpAny_typeOf ht.typeIs (wpAny_pure ?_)))
  rw [if_pos (by decide)]
  refine wpAny_bind (wpAny_rule ?_)
  refine wpAny_pure ?_
  exact ⟨_, rfl, wpAny_pure h⟩
end
def rSlTA (K : PySem.W.Frag) : V → Option Int → Option Int → Hp → VK → Prop := fun x lo hi H Q => ∃ a xs, x = .ref a ∧ SqT K H a xs ∧
  ((HT.sIx xs.length 0 lo = 0 ∧ HT.sIx xs.length xs.length hi = xs.length) → Q (.ref a) H) ∧ ∀ p, H p = none → Q (.ref p) (upd H p (.tup (cutV xs lo hi)))
theorem sl_tupA : SlR X (rSlTA X.K) := by
  intro pins s σ H x v vl vu lo hi sl Q I rx hs pl pu h
  obtain ⟨a, xs, rfl, hx, q1, q2⟩ := h
  by_cases hw : HT.sIx xs.length 0 lo = 0 ∧ HT.sIx xs.length xs.length hi = xs.length
  · cases rx
    obtain ⟨its, r, ht, hz⟩ := I.tuple hx
    have hlen : its.toArray.size = xs.length := by rw [List.size_toArray]; exact r.length.symm
    refine ⟨"tuple", _, PyProof.Rows.slot_tuple_getitem.lookup, ht.typeIs, ?_⟩
    exact getTup_whole ht hs pl pu (by rw [hlen]; exact hw) ⟨.ref a, H, I, rfl, q1 hw⟩
  · exact sl_tup pins s σ H (.ref a) v vl vu lo hi sl Q I rx hs pl pu ⟨a, xs, rfl, hx, hw, q2⟩
def rSlD (K : PySem.W.Frag) : V → Option Int → Option Int → Hp → VK → Prop := fun x lo hi H Q => rSlL K x lo hi H Q ∨ rSlS x lo hi H Q ∨ rSlTA K x lo hi H Q
theorem sl_any : SlR X (rSlD X.K) := by
  intro pins s σ H x v vl vu lo hi sl Q I rx hs pl pu h
  rcases h with h | h | h
  · exact sl_list pins s σ H x v vl vu lo hi sl Q I rx hs pl pu h
  · exact sl_str pins s σ H x v vl vu lo hi sl Q I rx hs pl pu h
  · exact sl_tupA pins s σ H x v vl vu lo hi sl Q I rx hs pl pu h
theorem RepL.cut {F : Hp} {vs : List V} {ds : List D} (r : RepL K F vs ds) (lo hi : Option Int) : RepL K F (cutV vs lo hi) (cutD ds lo hi) := by
  unfold cutV cutD
  rw [r.length]
  exact (r.drop _).take _
theorem dslice {e : Expr} {lo hi : Option Expr} {m : DM} {ml mh : DMO} {p2 : Pos} (h : DE X e m) (hl : DO X lo ml) (hh : DO X hi mh) : DE X (.Subscript e (.Slice lo hi none p2) pos) (mSl m ml mh) := by
  obtain ⟨t, p, ev⟩ := h
  obtain ⟨tl, pl, el⟩ := hl
  obtain ⟨th, ph, eh⟩ := hh
  refine ⟨_, pe_slice sl_any p pl ph, ?_⟩
  intro C F env σ H R Q I h k
  refine ev C F env σ H _ _ I h ?_
  intro x e1 F1 v H1 h1 A1 r1
  refine el C F1 e1 σ H1 _ _ A1.ok h1 ?_
  intro l e2 F2 H2 h2 A2
  refine eh C F2 e2 σ H2 _ _ A2.ok h2 ?_
  intro u e3 F3 H3 h3 A3
  obtain ⟨d, h4, s1⟩ := A3.ok.see ((r1.on A2).on A3) h3
  have A := (A1.trans A2).trans A3
  have g : Gives X.K C F3 e3 σ H3 (fun r => R r e3) Q := fun l F' w H' hl A' r' => k l e3 F' w H' hl (A.trans A') (r'.from fun p => A.back)
  have I3 := A3.ok
  cases d with
  | lst xs =>
    obtain ⟨p, vs, rfl, q1, q2⟩ := s1.lst I3.sub
    exact Or.inl ⟨p, vs, rfl, sq_of q1, fun a ha => g.lst I3 h4 (q2.cut l u) a ha⟩
  | str s => exact Or.inr (Or.inl ⟨s, s1.str.1, h4.1, g.str I3 (sOk_cut s1.str.2) h4.2⟩)
  | tup xs =>
    obtain ⟨p, vs, rfl, q1, q2⟩ := s1.tup
    have h4 : R (.vl (.tup (cutD xs l u))) e3 := h4
    refine Or.inr (Or.inr ⟨p, vs, rfl, ex_t I3.sub q1, fun hw => ?_, fun a ha => g.tup I3 h4 (q2.cut l u) a ha⟩)
    rw [q2.length] at hw
    have e : cutD xs l u = xs := by unfold cutD; rw [hw.1, hw.2, List.drop_zero, Nat.sub_zero, List.take_length]
    rw [e] at h4
    exact g.here I3 h4 (Rep.tup q1 q2)
  | _ => exact h4.elim
@[simp] def mRev (a : DM) : DM := fun env R => a env fun x e1 => x.con e1 fun d => match d with
  | .lst xs => R (.tm (.lst xs.reverse)) e1
  | _ => False

/-! ### calls of built-ins by values -/
abbrev DMA := List Slot → (List RV → List Slot → Prop) → Prop
inductive RVs (K : PySem.W.Frag) (C : Ct) (F : Hp) (env : List Slot) (σ : L2.St) (H0 H : Hp) : List V → List RV → Prop
  | nil : RVs K C F env σ H0 H [] []
  | cons {v : V} {vs : List V} {l : RV} {ls : List RV} : RVOk K C F env σ H0 H v l → RVs K C F env σ H0 H vs ls → RVs K C F env σ H0 H (v :: vs) (l :: ls)
theorem RVs.froms {C : Ct} {F H0 H1 H : Hp} {env : List Slot} {σ : L2.St} (h : ∀ p, H1 p = none → H0 p = none) : ∀ {vs : List V} {ls : List RV}, RVs K C F env σ H1 H vs ls → RVs K C F env σ H0 H vs ls
  | _, _, .nil => .nil
  | _, _, .cons a r => .cons (a.from h) (RVs.froms h r)
def EvA (K : PySem.W.Frag) (m : DMA) (t : TA) : Prop := ∀ C F env σ H R (Q : List V → Hp → Prop), Ok K C F env σ H → m env R →
  (∀ ls env' F' vs H', R ls env' → Aft K C F env σ H F' env' H' → RVs K C F' env' σ H H' vs ls → Q vs H') → t σ H Q
def DA (X : Cx) (es : List Expr) (m : DMA) : Prop := ∃ t, PA X es t ∧ EvA X.K m t
@[simp] def maNil : DMA := fun env R => R [] env
@[simp] def maCons (a : DM) (r : DMA) : DMA := fun env R => a env fun x e1 => r e1 fun ls e2 => R (x :: ls) e2
theorem da_nil : DA X [] maNil := ⟨_, pa_nil, fun C F env σ H R Q I h k => k [] env F [] H h I.aft .nil⟩
theorem da_cons {e : Expr} {es : List Expr} {m : DM} {ma : DMA} (h : DE X e m) (hr : DA X es ma) (hs : starEach (e :: es) X.env = (false, eval e X.env) :: starEach es X.env := by rfl) : DA X (e :: es) (maCons m ma) := by
  obtain ⟨t, p, ev⟩ := h
  obtain ⟨u, q, er⟩ := hr
  refine ⟨_, pa_cons p q hs, ?_⟩
  intro C F env σ H R Q I h k
  refine ev C F env σ H _ _ I h ?_
  intro x e1 F1 v H1 h1 A1 r1
  refine er C F1 e1 σ H1 _ _ A1.ok h1 ?_
  intro ls e3 F3 vs H3 h3 A3 r3
  exact k (x :: ls) e3 F3 (v :: vs) H3 h3 (A1.trans A3) (.cons (r1.on A3) (r3.froms fun p => A1.back))
@[simp] def cons (env : List Slot) : List RV → (List D → Prop) → Prop
  | [], R => R []
  | l :: ls, R => l.con env fun d => cons env ls fun ds => R (d :: ds)
inductive Sees (K : PySem.W.Frag) (F H : Hp) : List V → List D → Prop
  | nil : Sees K F H [] []
  | cons {v : V} {vs : List V} {d : D} {ds : List D} : See K F H v d → Sees K F H vs ds → Sees K F H (v :: vs) (d :: ds)
theorem Ok.sees {C : Ct} {F H0 H : Hp} {env : List Slot} {σ : L2.St} (I : Ok K C F env σ H) : ∀ {vs : List V} {ls : List RV} {R : List D → Prop}, RVs K C F env σ H0 H vs ls → cons env ls R → ∃ ds, R ds ∧ Sees K F H vs ds
  | _, _, R, .nil, h => ⟨[], h, .nil⟩
  | _, _, R, .cons a r, h => by
    obtain ⟨d, h1, s1⟩ := I.see a h
    obtain ⟨ds, h2, s2⟩ := Ok.sees I r h1
    exact ⟨d :: ds, h2, .cons s1 s2⟩
def OpN (K : PySem.W.Frag) (r : List V → Hp → VK → Prop) (f : List D → (RV → Prop) → Prop) : Prop := ∀ (C : Ct) (F : Hp) (env : List Slot) (σ : L2.St) (H : Hp) (vs : List V) (ds : List D) (R : RV → Prop) (Q : VK),
  Ok K C F env σ H → Sees K F H vs ds → f ds R → Gives K C F env σ H R Q → r vs H Q
@[simp] def mFn (f : List D → (RV → Prop) → Prop) (a : DMA) : DM := fun env R => a env fun ls e => cons e ls fun ds => f ds fun l => R l e
theorem evd_fn {r : List V → Hp → VK → Prop} {f : List D → (RV → Prop) → Prop} {m : DMA} {t : TA} (hf : OpN K r f) (ev : EvA K m t) : EvD K (mFn f m) (tCB r t) := by
  intro C F env σ H R Q I h k
  refine ev C F env σ H _ _ I h ?_
  intro ls e1 F1 vs H1 h1 A1 r1
  obtain ⟨ds, h2, s⟩ := A1.ok.sees r1 h1
  exact hf C F1 e1 σ H1 vs ds _ _ A1.ok s h2 fun l F2 u H2 hl A2 r2 => k l e1 F2 u H2 hl (A1.trans A2) (r2.from fun p => A1.back)
theorem dfnB {id : String} {r : List V → Hp → VK → Prop} {f : List D → (RV → Prop) → Prop} {x : Str} {p : Pos} {e : Expr} {es : List Expr} {m : DMA} (hc : CallR X (.builtin id) r) (hf : OpN X.K r f) (hg : Gl X x) (hm : X.mg x = none) (hv : bootBuiltins x = some (.builtin id)) (h : DA X (e :: es) m)
    (hn : x ≠ "__name__" := by decide) (hdb : (x == ("__debug__" : Str)) = false := by decide) (he : starEach (e :: es) X.env = (false, eval e X.env) :: starEach es X.env := by rfl) (hpl : (backTo pos (starEach es X.env)).any (·.1) = false := by rfl) :
    DE X (.Call (.Name x p) (e :: es) [] pos) (mFn f m) := by
  obtain ⟨t, pa, ev⟩ := h
  exact ⟨_, pe_callB hc hg hm hv pa hn hdb he hpl, evd_fn hf ev⟩
theorem dfnT {T : String} {r : List V → Hp → VK → Prop} {f : List D → (RV → Prop) → Prop} {x : Str} {p : Pos} {e : Expr} {es : List Expr} {m : DMA} (hc : CallR X (.type T) r) (hf : OpN X.K r f) (hg : Gl X x) (hm : X.mg x = none) (hv : bootBuiltins x = some (.type T)) (h : DA X (e :: es) m)
    (hn : x ≠ "__name__" := by decide) (hdb : (x == ("__debug__" : Str)) = false := by decide) (he : starEach (e :: es) X.env = (false, eval e X.env) :: starEach es X.env := by rfl) (hpl : (backTo pos (starEach es X.env)).any (·.1) = false := by rfl) :
    DE X (.Call (.Name x p) (e :: es) [] pos) (mFn f m) := by
  obtain ⟨t, pa, ev⟩ := h
  exact ⟨_, pe_callTy hc hg hm hv pa hn hdb he hpl, evd_fn hf ev⟩

@[simp] def aLen : List D → (RV → Prop) → Prop
  | [.lst xs], R => R (.vl (.int (xs.length : Int)))
  | [.tup xs], R => R (.vl (.int (xs.length : Int)))
  | [.scr ns], R => R (.vl (.int (ns.length : Int)))
  | [.str s], R => s.length ≤ sizeLine ∧ R (.vl (.int (s.length : Int)))
  | [.dic ks], R => R (.vl (.int (ks.length : Int)))
  | _, _ => False
def rLenD (K : PySem.W.Frag) : List V → Hp → VK → Prop := fun xs H Q => (∃ x n, xs = [x] ∧ LenV K x H n ∧ Q (.int n) H) ∨ ∃ a kvs, xs = [.ref a] ∧ H a = some (.dK kvs) ∧ Q (.int kvs.length) H
theorem call_lenX : CallR X (.builtin "len") (rLenD X.K) := by
  intro pins s σ H xs us Q I r h
  rcases h with h | h
  · exact call_len pins s σ H xs us Q I r h
  · exact call_lenD pins s σ H xs us Q I r h
theorem on_len : OpN K (rLenD K) aLen := by
  intro C F env σ H vs ds R Q I s h g
  unfold aLen at h
  split at h
  · cases s with
    | cons a r =>
      cases r
      obtain ⟨p, vs, rfl, e1, r1⟩ := a.lst I.sub
      exact Or.inl ⟨_, vs.length, rfl, Or.inl ⟨vs, sq_of e1, rfl⟩, by rw [r1.length]; exact g.int I h⟩
  · cases s with
    | cons a r =>
      cases r
      obtain ⟨p, vs, rfl, e1, r1⟩ := a.tup
      exact Or.inl ⟨_, vs.length, rfl, Or.inr ⟨vs, ex_t I.sub e1, rfl⟩, by rw [r1.length]; exact g.int I h⟩
  · cases s with
    | cons a r =>
      cases r
      obtain ⟨p, rfl, e1⟩ := a.scr
      exact Or.inl ⟨_, _, rfl, Or.inl ⟨_, ex_l I.sub e1, rfl⟩, by rw [List.length_map]; exact g.int I h⟩
  · cases s with
    | cons a r =>
      cases r
      exact Or.inl ⟨_, _, rfl, by rw [a.str.1]; exact ⟨h.1, rfl⟩, g.int I h.2⟩
  · cases s with
    | cons a r =>
      cases r
      obtain ⟨p, kvs, rfl, e1, k1, r1⟩ := a.dic I.sub
      have := congrArg List.length k1
      simp at this
      exact Or.inr ⟨p, kvs, rfl, e1, by rw [this]; exact g.int I h⟩
  · exact h.elim
@[simp] def asInts : List D → Option (List Int)
  | [] => some []
  | .int i :: r => (asInts r).map (i :: ·)
  | _ => none
@[simp] def asBls : List D → Option (List Bool)
  | [] => some []
  | .bl i :: r => (asBls r).map (i :: ·)
  | _ => none
@[simp] def asStrs : List D → Option (List Str)
  | [] => some []
  | .str i :: r => (asStrs r).map (i :: ·)
  | _ => none
theorem asInts_eq : ∀ {ds : List D} {ns : List Int}, asInts ds = some ns → ds = ns.map .int
  | [], ns, h => by simp at h; subst h; rfl
  | d :: ds, ns, h => by
    cases d with
    | int i =>
      simp only [asInts, Option.map_eq_some_iff] at h
      obtain ⟨r, h1, rfl⟩ := h
      rw [asInts_eq h1]; rfl
    | _ => simp at h
theorem asBls_eq : ∀ {ds : List D} {ns : List Bool}, asBls ds = some ns → ds = ns.map .bl
  | [], ns, h => by simp at h; subst h; rfl
  | d :: ds, ns, h => by
    cases d with
    | bl i =>
      simp only [asBls, Option.map_eq_some_iff] at h
      obtain ⟨r, h1, rfl⟩ := h
      rw [asBls_eq h1]; rfl
    | _ => simp at h
theorem asStrs_eq : ∀ {ds : List D} {ns : List Str}, asStrs ds = some ns → ds = ns.map .str
  | [], ns, h => by simp at h; subst h; rfl
  | d :: ds, ns, h => by
    cases d with
    | str i =>
      simp only [asStrs, Option.map_eq_some_iff] at h
      obtain ⟨r, h1, rfl⟩ := h
      rw [asStrs_eq h1]; rfl
    | _ => simp at h
@[simp] theorem asInts_map (ns : List Int) : asInts (ns.map .int) = some ns := by induction ns <;> simp_all
@[simp] theorem asBls_map (ns : List Bool) : asBls (ns.map .bl) = some ns := by induction ns <;> simp_all
@[simp] theorem asStrs_map (ns : List Str) : asStrs (ns.map .str) = some ns := by induction ns <;> simp_all
@[simp] def aSum : List D → (RV → Prop) → Prop
  | [.lst xs], R => ∃ ns, asInts xs = some ns ∧ R (.vl (.int ns.sum))
  | _, _ => False
@[simp] def aMax : List D → (RV → Prop) → Prop
  | [.lst xs], R => ∃ ns, asInts xs = some ns ∧ 0 < ns.length ∧ ∀ m, m ∈ ns → (∀ y, y ∈ ns → y ≤ m) → R (.vl (.int m))
  | [.int i, .int j], R => R (.vl (.int (if j > i then j else i)))
  | _, _ => False
@[simp] def aMin : List D → (RV → Prop) → Prop
  | [.lst xs], R => ∃ ns, asInts xs = some ns ∧ 0 < ns.length ∧ ∀ m, m ∈ ns → (∀ y, y ∈ ns → m ≤ y) → R (.vl (.int m))
  | [.int i, .int j], R => R (.vl (.int (if j < i then j else i)))
  | _, _ => False
@[simp] def aAll : List D → (RV → Prop) → Prop
  | [.lst xs], R => ∃ bs, asBls xs = some bs ∧ R (.vl (.bl (bs.all id)))
  | _, _ => False
@[simp] def aAny : List D → (RV → Prop) → Prop
  | [.lst xs], R => ∃ bs, asBls xs = some bs ∧ R (.vl (.bl (bs.any id)))
  | _, _ => False
theorem Sees.one {F H : Hp} {vs : List V} {d : D} (s : Sees K F H vs [d]) : ∃ v, vs = [v] ∧ See K F H v d := by
  cases s with
  | cons a r => cases r; exact ⟨_, rfl, a⟩
theorem Sees.two {F H : Hp} {vs : List V} {d e : D} (s : Sees K F H vs [d, e]) : ∃ v w, vs = [v, w] ∧ See K F H v d ∧ See K F H w e := by
  cases s with
  | cons a r => obtain ⟨w, rfl, b⟩ := r.one; exact ⟨_, w, rfl, a, b⟩
theorem on_sum : OpN K (rSum K) aSum := by
  intro C F env σ H vs ds R Q I s h g
  unfold aSum at h
  split at h
  · obtain ⟨v, rfl, a⟩ := s.one
    obtain ⟨ns, h1, h2⟩ := h
    obtain ⟨p, ws, rfl, e1, r1⟩ := a.lst I.sub
    rw [asInts_eq h1] at r1
    exact ⟨p, ns, rfl, by rw [r1.ints] at e1; exact sq_of e1, g.int I h2⟩
  · exact h.elim
theorem on_all : OpN K (rAll K) aAll := by
  intro C F env σ H vs ds R Q I s h g
  unfold aAll at h
  split at h
  · obtain ⟨v, rfl, a⟩ := s.one
    obtain ⟨ns, h1, h2⟩ := h
    obtain ⟨p, ws, rfl, e1, r1⟩ := a.lst I.sub
    rw [asBls_eq h1] at r1
    exact ⟨p, ns, rfl, by rw [r1.bls] at e1; exact sq_of e1, g.bl I h2⟩
  · exact h.elim
theorem on_any : OpN K (rAny K) aAny := by
  intro C F env σ H vs ds R Q I s h g
  unfold aAny at h
  split at h
  · obtain ⟨v, rfl, a⟩ := s.one
    obtain ⟨ns, h1, h2⟩ := h
    obtain ⟨p, ws, rfl, e1, r1⟩ := a.lst I.sub
    rw [asBls_eq h1] at r1
    exact ⟨p, ns, rfl, by rw [r1.bls] at e1; exact sq_of e1, g.bl I h2⟩
  · exact h.elim
end
end DL

set_option Elab.async false
set_option linter.all false
set_option maxRecDepth 100000
set_option maxHeartbeats 4000000
set_option autoImplicit false
/-! DL11: more built-ins over data. -/
namespace DL
open PySem PySem.Spec L2 Evl PyProof.Rows

section
variable {X : Cx} {K : PySem.W.Frag} {pos : Pos}
/-! ### max, min -/
def rMaxD2 (K : PySem.W.Frag) : List V → Hp → VK → Prop := fun xs H Q => rMax K xs H Q ∨ ∃ i j, xs = [.int i, .int j] ∧ Q (.int (if j > i then j else i)) H
def rMinD2 (K : PySem.W.Frag) : List V → Hp → VK → Prop := fun xs H Q => rMin K xs H Q ∨ ∃ i j, xs = [.int i, .int j] ∧ Q (.int (if j < i then j else i)) H
theorem call_maxX (hc : X.calm = true) : CallR X (.builtin "max") (rMaxD2 X.K) := by
  intro pins s σ H xs us Q I r h
  rcases h with h | h
  · exact cr_max hc pins s σ H xs us Q I r h
  · exact call_max2 hc pins s σ H xs us Q I r h
theorem call_minX (hc : X.calm = true) : CallR X (.builtin "min") (rMinD2 X.K) := by
  intro pins s σ H xs us Q I r h
  rcases h with h | h
  · exact cr_min hc pins s σ H xs us Q I r h
  · exact call_min2 hc pins s σ H xs us Q I r h
theorem on_max : OpN K (rMaxD2 K) aMax := by
  intro C F env σ H vs ds R Q I s h g
  unfold aMax at h
  split at h
  · obtain ⟨v, rfl, a⟩ := s.one
    obtain ⟨ns, h1, h2, h3⟩ := h
    obtain ⟨p, ws, rfl, e1, r1⟩ := a.lst I.sub
    rw [asInts_eq h1] at r1
    exact Or.inl ⟨p, ns, rfl, by rw [r1.ints] at e1; exact sq_of e1, h2, fun m hm hy => g.int I (h3 m hm hy)⟩
  · obtain ⟨v, w, rfl, a, b⟩ := s.two
    exact Or.inr ⟨_, _, by rw [a.int, b.int], g.int I h⟩
  · exact h.elim
theorem on_min : OpN K (rMinD2 K) aMin := by
  intro C F env σ H vs ds R Q I s h g
  unfold aMin at h
  split at h
  · obtain ⟨v, rfl, a⟩ := s.one
    obtain ⟨ns, h1, h2, h3⟩ := h
    obtain ⟨p, ws, rfl, e1, r1⟩ := a.lst I.sub
    rw [asInts_eq h1] at r1
    exact Or.inl ⟨p, ns, rfl, by rw [r1.ints] at e1; exact sq_of e1, h2, fun m hm hy => g.int I (h3 m hm hy)⟩
  · obtain ⟨v, w, rfl, a, b⟩ := s.two
    exact Or.inr ⟨_, _, by rw [a.int, b.int], g.int I h⟩
  · exact h.elim

/-! ### sorted, list, tuple, ord, int -/
@[simp] def aSorted : List D → (RV → Prop) → Prop
  | [.lst xs], R => match asInts xs with
    | some ns => ∀ ns' : List Int, ns'.Perm ns → ns'.Pairwise (· ≤ ·) → R (.tm (.lst (ns'.map .int)))
    | none => False
  | _, _ => False
theorem on_sorted : OpN K (rSortedI K) aSorted := by
  intro C F env σ H vs ds R Q I s h g
  unfold aSorted at h
  split at h
  · obtain ⟨v, rfl, a⟩ := s.one
    split at h
    · rename_i ns h1
      obtain ⟨p, ws, rfl, e1, r1⟩ := a.lst I.sub
      rw [asInts_eq h1] at r1
      exact ⟨p, ns, rfl, by rw [r1.ints] at e1; exact sq_of e1, fun ns' q hp hs hq => g.lst I (h ns' hp hs) (RepL.ofInts ns') q hq⟩
    · exact h.elim
  · exact h.elim
@[simp] def aList : List D → (RV → Prop) → Prop
  | [.lst xs], R => R (.tm (.lst xs))
  | [.tup xs], R => R (.tm (.lst xs))
  | _, _ => False
@[simp] def aTuple : List D → (RV → Prop) → Prop
  | [.lst xs], R => R (.vl (.tup xs))
  | [.tup xs], R => R (.vl (.tup xs))
  | _, _ => False
theorem on_list : OpN K (fun xs H Q => ∃ p ys, xs = [.ref p] ∧ (SqL K H p ys ∨ SqT K H p ys) ∧ ∀ l, H l = none → Q (.ref l) (upd H l (.lst ys))) aList := by
  intro C F env σ H vs ds R Q I s h g
  unfold aList at h
  split at h
  · obtain ⟨v, rfl, a⟩ := s.one
    obtain ⟨p, ws, rfl, e1, r1⟩ := a.lst I.sub
    exact ⟨p, ws, rfl, Or.inl (sq_of e1), fun q hq => g.lst I h r1 q hq⟩
  · obtain ⟨v, rfl, a⟩ := s.one
    obtain ⟨p, ws, rfl, e1, r1⟩ := a.tup
    exact ⟨p, ws, rfl, Or.inr (ex_t I.sub e1), fun q hq => g.lst I h r1 q hq⟩
  · exact h.elim
theorem See.tupRep {F H : Hp} {v : V} {ds : List D} (s : See K F H v (.tup ds)) : Rep K F v (.tup ds) := by
  cases s with
  | rep r => exact r
  | obj e r =>
    unfold RepO at r
    split at r <;> first | (rename_i q; cases q) | exact r.elim
theorem on_tuple : OpN K (fun xs H Q => ∃ p ys, xs = [.ref p] ∧ ((SqL K H p ys ∧ ∀ l, H l = none → Q (.ref l) (upd H l (.tup ys))) ∨ (SqT K H p ys ∧ Q (.ref p) H))) aTuple := by
  intro C F env σ H vs ds R Q I s h g
  unfold aTuple at h
  split at h
  · obtain ⟨v, rfl, a⟩ := s.one
    obtain ⟨p, ws, rfl, e1, r1⟩ := a.lst I.sub
    exact ⟨p, ws, rfl, Or.inl ⟨sq_of e1, fun q hq => g.tup I h r1 q hq⟩⟩
  · obtain ⟨v, rfl, a⟩ := s.one
    obtain ⟨p, ws, e0, e1, r1⟩ := a.tup
    subst e0
    exact ⟨p, ws, rfl, Or.inr ⟨ex_t I.sub e1, g.here I h a.tupRep⟩⟩
  · exact h.elim
@[simp] def aOrd1 : List D → (RV → Prop) → Prop
  | [.str s], R => s.length = 1 ∧ R (.vl (.int (s.cps.getD 0 0 : Nat)))
  | _, _ => False
theorem on_ord : OpN K (fun xs H Q => ∃ x, xs = [.str x] ∧ x.length = 1 ∧ Q (.int (x.cps.getD 0 0 : Nat)) H) aOrd1 := by
  intro C F env σ H vs ds R Q I s h g
  unfold aOrd1 at h
  split at h
  · obtain ⟨v, rfl, a⟩ := s.one
    exact ⟨_, by rw [a.str.1], h.1, g.int I h.2⟩
  · exact h.elim
@[simp] def aIntOf : List D → (RV → Prop) → Prop
  | [.str s], R => ∃ n, PySem.intText? s = some n ∧ s.length ≤ 640 ∧ R (.vl (.int n))
  | _, _ => False
theorem on_int : OpN K (fun xs H Q => ∃ a n, xs = [.str a] ∧ PySem.intText? a = some n ∧ a.length ≤ 640 ∧ Q (.int n) H) aIntOf := by
  intro C F env σ H vs ds R Q I s h g
  unfold aIntOf at h
  split at h
  · obtain ⟨v, rfl, a⟩ := s.one
    obtain ⟨n, h1, h2, h3⟩ := h
    exact ⟨_, n, by rw [a.str.1], h1, h2, g.int I h3⟩
  · exact h.elim

/-! ### isinstance -/
@[simp] def D.ty : D → String
  | .non => "NoneType"
  | .bl _ => "bool"
  | .int _ => "int"
  | .str _ => "str"
  | .lst _ => "list"
  | .tup _ => "tuple"
  | .dic _ => "dict"
  | .scr _ => "list"
  | .fn _ => "NoneType"
  | .obj _ _ => "NoneType"
  | .exc _ _ _ => "NoneType"
@[simp] def onBi : D → Prop → Prop
  | .fn _, _ => False
  | .obj _ _, _ => False
  | .exc _ _ _, _ => False
  | _, P => P
@[simp] def isTy (d : D) (T : String) : Bool := d.ty == T || (d.ty == "bool" && T == "int")
theorem sqT_ty {H : Hp} {p : Addr} {vs : List V} (h : SqT K H p vs) : TyX K H (.ref p) (.type "tuple") := by
  rcases h with (h | ⟨o, h⟩) | ⟨o, its, n, h, hc, _⟩
  · exact .base (.tup h)
  · exact .fTuple h
  · exact .kTuple h hc
theorem sqL_ty {H : Hp} {p : Addr} {vs : List V} (h : SqL K H p vs) : TyX K H (.ref p) (.type "list") := by
  rcases h with (h | ⟨o, h⟩) | ⟨o, its, n, h, hc, _⟩
  · exact .base (.lst h)
  · exact .base (.frz h)
  · exact .kList h hc
theorem See.ty {F H : Hp} {v : V} {d : D} {P : Prop} (x : Ex F H) (s : See K F H v d) (b : onBi d P) : TyX K H v (.type d.ty) ∧ P := by
  refine ⟨?_, by cases d <;> first | exact b | exact b.elim⟩
  cases d with
  | fn a => exact b.elim
  | obj C fs => exact b.elim
  | exc a dd fs => exact b.elim
  | non => rw [s.non]; exact .base .non
  | bl b' => rw [s.bl]; exact .base (.bl b')
  | int i => rw [s.int]; exact .base (.int i)
  | str y => rw [s.str.1]; exact .base (.str y)
  | lst xs => obtain ⟨p, vs, rfl, e, _⟩ := s.lst x; exact .base (.lst e)
  | tup xs => obtain ⟨p, vs, rfl, e, _⟩ := s.tup; exact sqT_ty (ex_t x e)
  | dic ks => obtain ⟨p, vs, rfl, e, _⟩ := s.dic x; exact .base (.dK e)
  | scr ns => obtain ⟨p, rfl, e⟩ := s.scr; exact sqL_ty (ex_l x e)
@[simp] def mIsi (a : DM) (T : String) : DM := fun env R => a env fun x e1 => x.con e1 fun d => onBi d (R (.vl (.bl (isTy d T))) e1)
theorem disi {e : Expr} {m : DM} {T : String} {x : Str} {p q : Pos} (h : DE X e m) (hg : Gl X "isinstance") (hm : X.mg "isinstance" = none) (hgT : Gl X x) (hmT : X.mg x = none) (hvT : bootBuiltins x = some (.type T))
    (kit : ∀ d : D, PySem.W.kitOne X.K (.type d.ty) (.type T) = some (isTy d T))
    (hn : x ≠ "__name__" := by decide) (hdb : (x == ("__debug__" : Str)) = false := by decide)
    (hs1 : starEach [e, .Name x q] X.env = (false, eval e X.env) :: starEach [.Name x q] X.env := by rfl) (hs2 : starEach [.Name x q] X.env = (false, eval (.Name x q) X.env) :: starEach [] X.env := by rfl)
    (hpl : (backTo pos (starEach [.Name x q] X.env)).any (·.1) = false := by rfl) :
    DE X (.Call (.Name "isinstance" p) [e, .Name x q] [] pos) (mIsi m T) := by
  obtain ⟨t, pe, ev⟩ := h
  have pt : PE X (.Name x q) (tC (.ty T)) := pe_bltn (v := .ty T) hgT hmT hvT rfl hn hdb
  refine ⟨_, pe_callB call_isi hg hm PyProof.Rows.boot_isinstance (pa_cons pe (pa_cons pt pa_nil hs2) hs1) (by decide) (by decide) hs1 hpl, ?_⟩
  intro C F env σ H R Q I h k
  refine ev C F env σ H _ _ I h ?_
  intro y e1 F1 v H1 h1 A1 r1
  obtain ⟨d, h3, s1⟩ := A1.ok.see r1 h1
  exact ⟨v, .ty T, .type d.ty, .type T, isTy d T, rfl, .ty T, (s1.ty A1.ok.sub h3).1, kit d, k _ e1 F1 _ H1 (s1.ty A1.ok.sub h3).2 A1 (Rep.bl _)⟩
@[simp] def mIsi2 (a : DM) (T U : String) : DM := fun env R => a env fun x e1 => x.con e1 fun d => onBi d (R (.vl (.bl (isTy d T || isTy d U))) e1)
theorem disi2 {e : Expr} {m : DM} {T U : String} {x y : Str} {p q q2 qt : Pos} {kk : Nat} (h : DE X e m) (hg : Gl X "isinstance") (hm : X.mg "isinstance" = none)
    (hgT : Gl X x) (hmT : X.mg x = none) (hvT : bootBuiltins x = some (.type T)) (hgU : Gl X y) (hmU : X.mg y = none) (hvU : bootBuiltins y = some (.type U))
    (kit : ∀ d : D, PySem.W.kitAny X.K (.type d.ty) [.type T, .type U] = some (isTy d T || isTy d U))
    (hn : x ≠ "__name__" := by decide) (hdb : (x == ("__debug__" : Str)) = false := by decide) (hn2 : y ≠ "__name__" := by decide) (hdb2 : (y == ("__debug__" : Str)) = false := by decide)
    (ht1 : starEach [.Name x q, .Name y q2] X.env = (false, eval (.Name x q) X.env) :: starEach [.Name y q2] X.env := by rfl) (ht2 : starEach [.Name y q2] X.env = (false, eval (.Name y q2) X.env) :: starEach [] X.env := by rfl)
    (hs1 : starEach [e, .Tuple [.Name x q, .Name y q2] kk qt] X.env = (false, eval e X.env) :: starEach [.Tuple [.Name x q, .Name y q2] kk qt] X.env := by rfl)
    (hs2 : starEach [.Tuple [.Name x q, .Name y q2] kk qt] X.env = (false, eval (.Tuple [.Name x q, .Name y q2] kk qt) X.env) :: starEach [] X.env := by rfl)
    (hpl : (backTo pos (starEach [.Tuple [.Name x q, .Name y q2] kk qt] X.env)).any (·.1) = false := by rfl) :
    DE X (.Call (.Name "isinstance" p) [e, .Tuple [.Name x q, .Name y q2] kk qt] [] pos) (mIsi2 m T U) := by
  obtain ⟨t, pe, ev⟩ := h
  have pt : PE X (.Name x q) (tC (.ty T)) := pe_bltn (v := .ty T) hgT hmT hvT rfl hn hdb
  have pu : PE X (.Name y q2) (tC (.ty U)) := pe_bltn (v := .ty U) hgU hmU hvU rfl hn2 hdb2
  refine ⟨_, pe_callB call_isiT hg hm PyProof.Rows.boot_isinstance (pa_cons pe (pa_cons (pe_tup (pa_cons pt (pa_cons pu pa_nil ht2) ht1)) pa_nil hs2) hs1) (by decide) (by decide) hs1 hpl, ?_⟩
  intro C F env σ H R Q I h k
  refine ev C F env σ H _ _ I h ?_
  intro z e1 F1 v H1 h1 A1 r1
  obtain ⟨d, h3, s1⟩ := A1.ok.see r1 h1
  refine ⟨by show 2 ≤ sizeLine; decide, fun T' hT' => ?_⟩
  have B := A1.ok.tmp hT' (.tup [.ty T, .ty U])
  have s1' : See X.K F1 (upd H1 T' (.tup [.ty T, .ty U])) v d := by
    cases s1 with
    | rep r => exact .rep r
    | obj e r => exact .obj (by rw [upd_ne (ne_of_none e hT')]; exact e) r
  exact ⟨v, T', [.ty T, .ty U], .type d.ty, [.type T, .type U], _, rfl, upd_same, .cons (.ty T) (.cons (.ty U) .nil), (s1'.ty B.ok.sub h3).1, kit d, k _ e1 F1 _ _ (s1'.ty B.ok.sub h3).2 (A1.trans B) (Rep.bl _)⟩
end

/-! ### repr -/
section
theorem toNat_lt (c : Char) : c.toNat < 0x110000 := by
  have h := c.valid
  simp only [UInt32.isValidChar, Nat.isValidChar] at h
  have : c.toNat = c.val.toNat := rfl
  omega
theorem mem_map_toNat {l : List Char} {n : Nat} (h : n ∈ l.map Char.toNat) : n < 0x110000 := by
  obtain ⟨c, _, rfl⟩ := List.mem_map.mp h
  exact toNat_lt c
theorem sOk_ofString (s : String) : PyData.strOk (Str.ofString s) = true := by
  rw [sOk_iff]
  rw [Str.ofString_eq_toList]
  intro c h
  exact mem_map_toNat (by simpa using h)
theorem sOk_join {sep : Str} (h : PyData.strOk sep = true) : ∀ {ts : List Str}, (∀ t ∈ ts, PyData.strOk t = true) → PyData.strOk (Str.join sep ts) = true
  | [], _ => by rw [sOk_iff]; intro c m; exact absurd m (by simp [Str.join, Str.empty])
  | [x], k => k x (by simp)
  | x :: y :: r, k => by
    show PyData.strOk (x ++ sep ++ Str.join sep (y :: r)) = true
    exact sOk_append (sOk_append (k x (by simp)) h) (sOk_join h fun t m => k t (List.mem_cons_of_mem _ m))
theorem sOk_textFrom : ∀ {ts : List Str} {k : Nat} {acc : Str}, PyData.strOk acc = true → (∀ t ∈ ts, PyData.strOk t = true) → PyData.strOk (textFrom k acc ts) = true
  | [], k, acc, h, _ => h
  | t :: r, k, acc, h, q => by
    show PyData.strOk (textFrom (k + 1) (acc ++ (if k > 0 then ", " else "" : String) ++ t) r) = true
    refine sOk_textFrom (sOk_append (sOk_append h (sOk_ofString _)) (q t (by simp))) fun u m => q u (List.mem_cons_of_mem _ m)
theorem reprChar_ok {q c n : Nat} (hc : c < 0x110000) (h : n ∈ Builtin.Str.reprChar q c) : n < 0x110000 := by
  unfold Builtin.Str.reprChar at h
  have hx : ∀ w, n ∈ (List.replicate (w - ((Nat.toDigits 16 c).map Char.toNat).length) 48 ++ (Nat.toDigits 16 c).map Char.toNat) → n < 0x110000 := fun w m => by
    rcases List.mem_append.mp m with m | m
    · have := (List.mem_replicate.mp m).2; omega
    · exact mem_map_toNat m
  have two : ∀ a b : Nat, a < 0x110000 → b < 0x110000 → n ∈ [a, b] → n < 0x110000 := fun a b ha hb m => by
    simp at m; rcases m with rfl | rfl <;> assumption
  dsimp only at h
  split at h
  · exact two _ _ (by omega) hc h
  · split at h
    · exact two _ _ (by omega) (by omega) h
    · split at h
      · exact two _ _ (by omega) (by omega) h
      · split at h
        · exact two _ _ (by omega) (by omega) h
        · split at h
          · simp at h; omega
          · split at h
            · rcases List.mem_append.mp h with h | h
              · exact two _ _ (by omega) (by omega) h
              · exact hx _ h
            · split at h
              · rcases List.mem_append.mp h with h | h
                · exact two _ _ (by omega) (by omega) h
                · exact hx _ h
              · rcases List.mem_append.mp h with h | h
                · exact two _ _ (by omega) (by omega) h
                · exact hx _ h
theorem reprFold_ok {q : Nat} : ∀ {l : List Nat} {acc : Array Nat}, (∀ c ∈ l, c < 0x110000) → (∀ c ∈ acc.toList, c < 0x110000) → ∀ c ∈ (l.foldl (fun out c => out ++ (Builtin.Str.reprChar q c).toArray) acc).toList, c < 0x110000
  | [], acc, _, h => h
  | x :: l, acc, hl, h => by
    refine reprFold_ok (l := l) (fun c m => hl c (List.mem_cons_of_mem _ m)) fun c m => ?_
    rw [Array.toList_append, List.mem_append] at m
    exact m.elim (h c) fun m => reprChar_ok (hl x (by simp)) m
theorem sOk_repr {s : Str} (h : PyData.strOk s = true) : PyData.strOk (reprText s) = true := by
  rw [sOk_iff] at h ⊢
  intro c m
  unfold reprText at m
  have q : reprQuote s < 0x110000 := by unfold reprQuote; split <;> omega
  rw [← Array.foldl_toList] at m
  simp only [Array.toList_push, List.mem_append, List.mem_singleton] at m
  rcases m with m | rfl
  · exact reprFold_ok h (by simpa using q) c m
  · exact q
mutual
theorem sOk_shown : ∀ d : PyData, d.canLay0 = true → PyData.strOk d.shown = true
  | .none, _ => by simp only [PyData.shown]; exact sOk_ofString _
  | .bool b, _ => by simp only [PyData.shown]; split <;> exact sOk_ofString _
  | .int i, _ => by simp only [PyData.shown]; exact sOk_ofString _
  | .str s, h => by simp only [PyData.shown]; exact sOk_repr (by simpa [PyData.canLay0] using h)
  | .list xs, h => by
    simp only [PyData.shown, listText]
    exact sOk_append (sOk_textFrom (sOk_ofString _) (sOk_shownAll xs (by simpa [PyData.canLay0] using h))) (sOk_ofString _)
  | .tuple xs, h => by
    simp only [PyData.shown, tupleText]
    exact sOk_append (sOk_append (sOk_ofString _) (sOk_join (sOk_ofString _) (sOk_shownAll xs (by simpa [PyData.canLay0] using h)))) (sOk_ofString _)
  | .dict _, h => by simp [PyData.canLay0] at h
theorem sOk_shownAll : ∀ ds : List PyData, PyData.canLayAll0 ds = true → ∀ t ∈ PyData.shownAll ds, PyData.strOk t = true
  | [], _, t, m => by simp [PyData.shownAll] at m
  | d :: ds, h, t, m => by
    simp only [PyData.canLayAll0, Bool.and_eq_true] at h
    simp only [PyData.shownAll, List.mem_cons] at m
    rcases m with rfl | m
    · exact sOk_shown d h.1
    · exact sOk_shownAll ds h.2 t m
end
/-! a bound of what repr tells -/
mutual
@[simp] def D.wt : D → Nat
  | .non => 4
  | .bl _ => 5
  | .int _ => 1921
  | .str s => 10 * s.length + 2
  | .lst xs => D.wtL xs + 4
  | .tup xs => D.wtL xs + 4
  | _ => 0
@[simp] def D.wtL : List D → Nat
  | [] => 0
  | d :: ds => D.wt d + 2 + D.wtL ds
end
theorem wtL_append : ∀ xs ys : List D, D.wtL (xs ++ ys) = D.wtL xs + D.wtL ys
  | [], ys => by simp
  | x :: xs, ys => by simp [wtL_append xs ys]; omega
theorem wtL_le {k : Nat} : ∀ {xs : List D}, (∀ d ∈ xs, d.wt ≤ k) → D.wtL xs ≤ xs.length * (k + 2)
  | [], _ => by simp
  | x :: xs, h => by
    have h1 := h x (by simp)
    have h2 := wtL_le (xs := xs) fun d m => h d (List.mem_cons_of_mem _ m)
    simp only [D.wtL, List.length_cons, Nat.add_mul]
    omega
/-! numbers that repr writes -/
mutual
@[simp] def D.shw : D → Bool
  | .int i => decide (i.natAbs.log2 < 1920)
  | .lst xs => D.shwL xs
  | .tup xs => D.shwL xs
  | _ => true
@[simp] def D.shwL : List D → Bool
  | [] => true
  | d :: ds => D.shw d && D.shwL ds
end
theorem shwL_all : ∀ {xs : List D}, (∀ d ∈ xs, d.shw = true) → D.shwL xs = true
  | [], _ => rfl
  | x :: xs, h => by
    simp only [D.shwL, Bool.and_eq_true]
    exact ⟨h x (by simp), shwL_all fun d m => h d (List.mem_cons_of_mem _ m)⟩
theorem reprChar_len {q c : Nat} (hc : c < 0x110000) : (Builtin.Str.reprChar q c).length ≤ 10 := by
  unfold Builtin.Str.reprChar
  have hx : ∀ w, w ≤ 8 → (List.replicate (w - ((Nat.toDigits 16 c).map Char.toNat).length) 48 ++ (Nat.toDigits 16 c).map Char.toNat).length ≤ 8 := fun w h => by
    have := (Nat.length_toDigits_le_iff (b := 16) (n := c) (k := 8) (by decide) (by decide)).mpr (by omega)
    simp only [List.length_append, List.length_replicate, List.length_map]
    omega
  dsimp only
  have h2 := hx 2 (by decide)
  have h4 := hx 4 (by decide)
  have h8 := hx 8 (by decide)
  split
  · simp
  · split
    · simp
    · split
      · simp
      · split
        · simp
        · split
          · simp
          · split
            · rw [List.length_append]; simp only [List.length_cons, List.length_nil]; omega
            · split
              · rw [List.length_append]; simp only [List.length_cons, List.length_nil]; omega
              · rw [List.length_append]; simp only [List.length_cons, List.length_nil]; omega
theorem reprFold_len {q : Nat} : ∀ {l : List Nat} {acc : Array Nat}, (∀ c ∈ l, c < 0x110000) → (l.foldl (fun out c => out ++ (Builtin.Str.reprChar q c).toArray) acc).size ≤ acc.size + 10 * l.length
  | [], acc, _ => by simp
  | x :: l, acc, hl => by
    have h1 := reprFold_len (q := q) (l := l) (acc := acc ++ (Builtin.Str.reprChar q x).toArray) fun c m => hl c (List.mem_cons_of_mem _ m)
    have h2 := reprChar_len (q := q) (hl x (by simp))
    simp only [List.foldl_cons, Array.size_append, List.size_toArray, List.length_cons] at h1 ⊢
    omega
theorem repr_len {s : Str} (h : PyData.strOk s = true) : (reprText s).length ≤ 10 * s.length + 2 := by
  rw [sOk_iff] at h
  unfold reprText
  rw [← Array.foldl_toList]
  have := reprFold_len (q := reprQuote s) (acc := #[reprQuote s]) h
  show (Array.push _ _).size ≤ _
  rw [Array.size_push]
  have e : s.cps.toList.length = s.length := by simp [Str.length]
  rw [e] at this
  have e1 : (#[reprQuote s] : Array Nat).size = 1 := rfl
  rw [e1] at this
  omega
theorem textFrom_size : ∀ (ts : List Str) (k : Nat) (acc : Str), (textFrom k acc ts).length ≤ acc.length + (ts.map fun t => t.length + 2).sum
  | [], k, acc => by show acc.length ≤ _; omega
  | t :: r, k, acc => by
    have h := textFrom_size r (k + 1) (acc ++ (if k > 0 then ", " else "" : String) ++ t)
    have e : (acc ++ (if k > 0 then ", " else "" : String) ++ t).length ≤ acc.length + 2 + t.length := by
      rw [strLen_append, strLen_append]
      split
      · have : Str.length (", " : String) = 2 := rfl
        omega
      · have : Str.length ("" : String) = 0 := rfl
        omega
    show (textFrom (k + 1) _ r).length ≤ _
    simp only [List.map_cons, List.sum_cons]
    omega
theorem join_size : ∀ ts : List Str, (Str.join (", " : String) ts).length ≤ (ts.map fun t => t.length + 2).sum
  | [] => Nat.zero_le _
  | [x] => by show x.length ≤ _; simp
  | x :: y :: r => by
    have h := join_size (y :: r)
    show (x ++ (", " : String) ++ Str.join (", " : String) (y :: r)).length ≤ _
    rw [strLen_append, strLen_append]
    have : Str.length (", " : String) = 2 := rfl
    simp only [List.map_cons, List.sum_cons] at h ⊢
    omega
mutual
theorem shown_size {K : PySem.W.Frag} {F : Hp} : ∀ (d : D) (v : V), Rep K F v d → ∀ n, D.lvl n d = true → d.shw = true → d.py.showable = true ∧ d.py.shown.length ≤ d.wt
  | .non, _, .non, n, _, _ => ⟨rfl, by simp only [D.py, PyData.shown]; exact Nat.le_refl _⟩
  | .bl b, _, .bl _, n, _, _ => ⟨rfl, by cases b <;> simp only [D.py, PyData.shown] <;> decide⟩
  | .int i, _, .int _, n, _, h => by
    have h' : i.natAbs.log2 < 1920 := by simpa using h
    refine ⟨by simpa [PyData.showable] using h', ?_⟩
    simp only [D.py, PyData.shown, D.wt, PySem.ofString_length]
    exact int_text_length_le (by decide) h'
  | .str s, _, .str _ o, n, _, _ => ⟨rfl, by simp only [D.py, PyData.shown, D.wt]; exact repr_len o⟩
  | .lst ds, _, .lst e r, 0, h, _ => by simp [D.lvl] at h
  | .lst ds, _, .lst e r, n + 1, h, k => by
    obtain ⟨a, b⟩ := shownL_size ds _ r n (by simpa [D.lvl] using h) (by simpa using k)
    refine ⟨by simpa [PyData.showable] using a, ?_⟩
    simp only [D.py, PyData.shown, D.wt, listText]
    have := textFrom_size (PyData.shownAll (D.pyL ds)) 0 ("[" : String)
    have e1 : Str.length ("[" : String) = 1 := rfl
    have e2 : Str.length ("]" : String) = 1 := rfl
    rw [strLen_append]
    omega
  | .tup ds, _, .tup e r, 0, h, _ => by simp [D.lvl] at h
  | .tup ds, _, .tup e r, n + 1, h, k => by
    obtain ⟨a, b⟩ := shownL_size ds _ r n (by simpa [D.lvl] using h) (by simpa using k)
    refine ⟨by simpa [PyData.showable] using a, ?_⟩
    simp only [D.py, PyData.shown, D.wt, tupleText]
    have := join_size (PyData.shownAll (D.pyL ds))
    have e1 : Str.length ("(" : String) = 1 := rfl
    rw [strLen_append, strLen_append]
    have e2 : Str.length (if ((PyData.shownAll (D.pyL ds)).length == 1) = true then ",)" else ")" : String) ≤ 2 := by
      split
      · exact Nat.le_refl 2
      · exact (by decide : (1 : Nat) ≤ 2)
    omega
  | .dic _, _, _, 0, h, _ => by simp [D.lvl] at h
  | .dic _, _, _, n + 1, h, _ => by simp [D.lvl] at h
  | .scr _, _, _, 0, h, _ => by simp [D.lvl] at h
  | .scr _, _, _, n + 1, h, _ => by simp [D.lvl] at h
  | .fn _, _, _, 0, h, _ => by simp [D.lvl] at h
  | .fn _, _, _, n + 1, h, _ => by simp [D.lvl] at h
  | .obj _ _, _, _, 0, h, _ => by simp [D.lvl] at h
  | .obj _ _, _, _, n + 1, h, _ => by simp [D.lvl] at h
  | .exc _ _ _, _, _, 0, h, _ => by simp [D.lvl] at h
  | .exc _ _ _, _, _, n + 1, h, _ => by simp [D.lvl] at h
theorem shownL_size {K : PySem.W.Frag} {F : Hp} : ∀ (ds : List D) (vs : List V), RepL K F vs ds → ∀ n, ds.all (D.lvl n) = true → D.shwL ds = true → PyData.showableAll (D.pyL ds) = true ∧ ((PyData.shownAll (D.pyL ds)).map fun t => t.length + 2).sum ≤ D.wtL ds
  | [], _, .nil, n, _, _ => ⟨rfl, by simp [PyData.shownAll]⟩
  | d :: ds, _, .cons x r, n, h, k => by
    simp only [List.all_cons, Bool.and_eq_true] at h
    simp only [D.shwL, Bool.and_eq_true] at k
    obtain ⟨a1, b1⟩ := shown_size d _ x n h.1 k.1
    obtain ⟨a2, b2⟩ := shownL_size ds _ r n h.2 k.2
    refine ⟨by simp [PyData.showableAll, a1, a2], ?_⟩
    simp only [D.pyL, PyData.shownAll, List.map_cons, List.sum_cons, D.wtL]
    omega
end
end
def reprD (d : D) : Str := d.py.shown
@[simp] def aRepr : List D → (RV → Prop) → Prop
  | [d], R => D.lvl 60 d = true ∧ d.shw = true ∧ d.wt ≤ 16000000 ∧ R (.vl (.str (reprD d)))
  | _, _ => False
section
variable {X : Cx} {K : PySem.W.Frag}
theorem See.plain {F H : Hp} {v : V} {d : D} (x : Ex F H) (s : See K F H v d) (h : D.lvl 60 d = true) : ∃ F', Ex F F' ∧ (F' = F ∨ ∃ p o, F' = upd F p o ∧ H p = some o) ∧ Rep K F' v d := by
  cases s with
  | rep r => exact ⟨F, Ex.refl F, Or.inl rfl, r⟩
  | obj e r =>
    rename_i p o
    cases q : F p with
    | none => exact ⟨upd F p o, Ex.new q, Or.inr ⟨p, o, rfl, e⟩, (r.mono (Ex.new q)).rep upd_same⟩
    | some u =>
      have := x p u q
      rw [e] at this; cases this
      exact ⟨F, Ex.refl F, Or.inl rfl, r.rep q⟩
def rRepr (K : PySem.W.Frag) : List V → Hp → VK → Prop := fun xs H Q => ∃ x d, xs = [x] ∧ Dp K H x d ∧ d.canLay0 = true ∧ d.showable = true ∧ d.depth ≤ 60 ∧ d.shown.length ≤ sizeLine ∧ Q (.str d.shown) H
theorem call_repr (hgd : X.A.guards = some []) (hu : X.A.units + 64 < cLine) : CallR X (.builtin "repr") (rRepr X.K) := by
  intro pins s σ H xs us Q I r h
  obtain ⟨x, d, rfl, hd, hl, hs, hp, hz, q⟩ := h
  obtain ⟨u, rfl, rx⟩ := vals1 r
  obtain ⟨as, rd⟩ := Dp.reads I d x u hd rx
  cases hd with
  | non =>
    cases rx
    simp only [PyData.shown] at q
    exact PySem.P.repr_of_none ⟨.str _, H, I.tok _, ⟨_, rfl⟩, q⟩
  | bl b =>
    cases rx
    simp only [PyData.shown] at q
    refine PySem.P.repr_of_bool ⟨.str _, H, I.tok _, ⟨_, rfl⟩, ?_⟩
    exact q
  | int i =>
    obtain ⟨t, rfl⟩ := rx
    simp only [PyData.shown] at q
    exact PySem.P.repr_of_int (by simpa [PyData.showable] using hs) ⟨.str _, H, I.tok _, ⟨_, rfl⟩, q⟩
  | str z =>
    obtain ⟨t, rfl⟩ := rx
    simp only [PyData.shown] at q hz
    exact PySem.P.repr_of_str ⟨.str _, H, I.tok _, ⟨_, rfl⟩, q⟩ hz
  | lst _ _ =>
    cases rx
    refine repr_of_reads' rd hs (fun h => ?_) hgd (by omega) (fun _ _ e => e) (fun h' u tk hk => ⟨.str _, H, I.kept hk, ⟨_, rfl⟩, q⟩) hz
    rw [PyData.hasDict_of_canLay _ hl] at h; cases h
  | tup _ _ =>
    cases rx
    refine repr_of_reads' rd hs (fun h => ?_) hgd (by omega) (fun _ _ e => e) (fun h' u tk hk => ⟨.str _, H, I.kept hk, ⟨_, rfl⟩, q⟩) hz
    rw [PyData.hasDict_of_canLay _ hl] at h; cases h
theorem on_repr : OpN K (rRepr K) aRepr := by
  intro C F env σ H vs ds R Q I s h g
  unfold aRepr at h
  split at h
  · obtain ⟨v, rfl, a⟩ := s.one
    obtain ⟨h1, h2, h3, h4⟩ := h
    obtain ⟨F', ex, hF', rp⟩ := a.plain I.sub h1
    have ex' : Ex F' H := by
      rcases hF' with rfl | ⟨p, o, rfl, hp⟩
      · exact I.sub
      · intro b u e
        by_cases z : b = p
        · subst z; rw [upd_same] at e; cases e; exact hp
        · rw [upd_ne z] at e; exact I.sub b u e
    obtain ⟨a1, a2, a3⟩ := lay_of _ v rp 60 h1
    obtain ⟨b1, b2⟩ := shown_size _ v rp 60 h1 h2
    exact ⟨v, _, rfl, Dp.up ex' a3, a1, b1, a2, by rw [sizeLine_eq]; omega, g.str I (sOk_shown _ a1) h4⟩
  · exact h.elim
end
end DL

set_option Elab.async false
set_option linter.all false
set_option maxRecDepth 100000
set_option maxHeartbeats 4000000
set_option autoImplicit false
/-! DL12: stores, dicts, several targets, methods of texts. -/
namespace DL
open PySem PySem.Spec L2 Evl PyProof.Rows

section
variable {X : Cx} {K : PySem.W.Frag} {pos : Pos}
/-! ### x.append(e), x.extend(e), x[k] = e, of an owned list -/
@[simp] def putOwn (env : List Slot) (i : Nat) (f : D → (D → Prop) → Prop) (R : List Slot → Prop) : Prop := match env[i]? with
  | some (.own b d) => f d fun d' => R (env.set i (.own b d'))
  | _ => False
@[simp] def ownL (env : List Slot) (i : Nat) : Prop := match env[i]? with
  | some (.own _ (.lst _)) => True
  | _ => False
@[simp] def ownD (env : List Slot) (i : Nat) : Prop := match env[i]? with
  | some (.own _ (.dic _)) => True
  | _ => False
@[simp] def mApp (i : Nat) (a : DM) : DStm := fun P env => ownL env i ∧ a env fun x e => x.get e fun d => putOwn e i (fun c R => match c with
  | .lst xs => xs.length < 100000 ∧ R (.lst (xs ++ [d]))
  | _ => False) P.nx
@[simp] def mExt (i : Nat) (a : DM) : DStm := fun P env => ownL env i ∧ a env fun x e => x.con e fun d => putOwn e i (fun c R => match c, d with
  | .lst xs, .lst ys => xs.length + ys.length ≤ 100000 ∧ R (.lst (xs ++ ys))
  | _, _ => False) P.nx
theorem ownL_at {C : Ct} {F H : Hp} {env : List Slot} {σ : L2.St} {i : Nat} (I : Ok K C F env σ H) (h : ownL env i) : ∃ p vs, σ[i]? = some (some (.ref p)) ∧ H p = some (.lst vs) := by
  unfold ownL at h
  split at h
  · rename_i b xs e
    obtain ⟨p, o, h1, h2, h3, _⟩ := I.owns i b _ e
    unfold RepO at h3
    split at h3
    · exact ⟨p, _, h1, h2⟩
    · rename_i z; cases z
    · exact h3.elim
  · exact h.elim
theorem putOwn_at {C : Ct} {F H : Hp} {env : List Slot} {σ : L2.St} {i : Nat} {f : D → (D → Prop) → Prop} {R : List Slot → Prop} (I : Ok K C F env σ H) (h : putOwn env i f R) :
    ∃ p o b d, env[i]? = some (.own b d) ∧ σ[i]? = some (some (.ref p)) ∧ H p = some o ∧ RepO K F o d ∧ F p = none ∧ (f d fun d' => R (env.set i (.own b d'))) ∧
      ∀ o' d', RepO K F o' d' → Ok K C F (env.set i (.own b d')) σ (upd H p o') := by
  unfold putOwn at h
  split at h
  · rename_i b d e
    obtain ⟨p, o, h1, h2, h3, h4, _⟩ := I.owns i b _ e
    exact ⟨p, o, b, d, e, h1, h2, h3, h4, h, fun o' d' r => I.change e h1 r⟩
  · exact h.elim
theorem lst_of {F : Hp} {o : HO} {xs : List D} (h : RepO K F o (.lst xs)) : ∃ vs, o = .lst vs ∧ RepL K F vs xs := by
  unfold RepO at h
  split at h
  · rename_i z; cases z; exact ⟨_, rfl, h⟩
  · rename_i z; cases z
  · exact h.elim
theorem dic_of {F : Hp} {o : HO} {ks : List (Key × D)} (h : RepO K F o (.dic ks)) : ∃ kvs, o = .dK kvs ∧ kvs.map (·.1) = ks.map (·.1) ∧ RepL K F (kvs.map (·.2)) (ks.map (·.2)) := by
  unfold RepO at h
  split at h
  · rename_i z; cases z
  · rename_i z; cases z; exact ⟨_, rfl, h.1, h.2⟩
  · exact h.elim
theorem ds_app (i : Nat) {x : Str} {e : Expr} {m : DM} {px apos cpos : Pos} (hN : X.N[i]? = some x) (hv : Vis X.env.scope x) (h : DE X e m)
    (hd : (x == ("__debug__" : Str)) = false := by decide) (hcd : (x == ("__classdict__" : Str)) = false := by decide)
    (h1 : attributeBase (.Name x px) "append" X.env (eval (.Name x px) X.env) = eval (.Name x px) X.env := by rfl)
    (h2 : ((((backTo cpos (starEach [e] X.env)).all fun x => !x.fst) && (backToKw cpos (keywordEach [] X.env)).all fun x => x.fst.isSome) && decide (([e].length + ([] : List Keyword).length + if ([] : List Keyword).isEmpty = true then 0 else 1) < 30)) = true := by rfl)
    (h3 : (apos.endLine == cpos.line) = true := by rfl) (h4 : starEach [e] X.env = (false, eval e X.env) :: starEach [] X.env := by rfl) (h5 : ((backTo cpos (starEach [] X.env)).any fun x => x.fst) = false := by rfl)
    (hs : swapsWith (.Call (.Attribute (.Name x px) "append" apos) [e] [] cpos) none pos.line X.env = pure false := by rfl) : DS X (.Expr (.Call (.Attribute (.Name x px) "append" apos) [e] [] cpos) pos) (mApp i m) := by
  obtain ⟨t, p, ev⟩ := h
  refine ⟨_, ps_expr (pe_bm PySem.F.plainAttrs_list PySem.F.slot_list_append PySem.F.type_list_append mt_append (pe_var hN hv hd hcd) (pa_cons p pa_nil h4) h1 h2 h3 h4 h5) hs, ?_⟩
  intro C F env σ H D P I h k
  obtain ⟨p0, vs0, q0, q1⟩ := ownL_at I h.1
  refine ⟨.ref p0, q0, Or.inl ⟨rfl, _, sq_of q1⟩, ?_⟩
  refine ev C F env σ H _ _ I h.2 ?_
  intro l e1 F1 v H1 h1 A1 r1
  obtain ⟨F2, d, h2, A2, ex, rp⟩ := A1.keepIt r1 h1
  obtain ⟨p, o, b, c, z1, z2, z3, z4, z5, z6, z7⟩ := putOwn_at A2.ok h2
  rw [q0] at z2; cases z2
  cases c with
  | lst xs =>
    obtain ⟨vs, rfl, rl⟩ := lst_of z4
    exact ⟨p0, vs, v, rfl, rfl, z3, by rw [rl.length]; exact sz_lt z6.1, k.nx F2 _ σ _ (z7 (.lst (vs ++ [v])) (.lst (xs ++ [d])) (rl.append (.cons rp .nil))) z6.2⟩
  | _ => exact z6.elim
theorem ds_ext (i : Nat) {x : Str} {e : Expr} {m : DM} {px apos cpos : Pos} (hN : X.N[i]? = some x) (hv : Vis X.env.scope x) (h : DE X e m)
    (hd : (x == ("__debug__" : Str)) = false := by decide) (hcd : (x == ("__classdict__" : Str)) = false := by decide)
    (h1 : attributeBase (.Name x px) "extend" X.env (eval (.Name x px) X.env) = eval (.Name x px) X.env := by rfl)
    (h2 : ((((backTo cpos (starEach [e] X.env)).all fun x => !x.fst) && (backToKw cpos (keywordEach [] X.env)).all fun x => x.fst.isSome) && decide (([e].length + ([] : List Keyword).length + if ([] : List Keyword).isEmpty = true then 0 else 1) < 30)) = true := by rfl)
    (h3 : (apos.endLine == cpos.line) = true := by rfl) (h4 : starEach [e] X.env = (false, eval e X.env) :: starEach [] X.env := by rfl) (h5 : ((backTo cpos (starEach [] X.env)).any fun x => x.fst) = false := by rfl)
    (hs : swapsWith (.Call (.Attribute (.Name x px) "extend" apos) [e] [] cpos) none pos.line X.env = pure false := by rfl) : DS X (.Expr (.Call (.Attribute (.Name x px) "extend" apos) [e] [] cpos) pos) (mExt i m) := by
  obtain ⟨t, p, ev⟩ := h
  refine ⟨_, ps_expr (pe_bm PySem.F.plainAttrs_list PySem.F.slot_list_extend PySem.F.type_list_extend mt_extend (pe_var hN hv hd hcd) (pa_cons p pa_nil h4) h1 h2 h3 h4 h5) hs, ?_⟩
  intro C F env σ H D P I h k
  obtain ⟨p0, vs0, q0, q1⟩ := ownL_at I h.1
  refine ⟨.ref p0, q0, Or.inl ⟨rfl, _, sq_of q1⟩, ?_⟩
  refine ev C F env σ H _ _ I h.2 ?_
  intro l e1 F1 v H1 h1 A1 r1
  obtain ⟨d, h2, s1⟩ := A1.ok.see r1 h1
  obtain ⟨p, o, b, c, z1, z2, z3, z4, z5, z6, z7⟩ := putOwn_at A1.ok h2
  rw [q0] at z2; cases z2
  cases c with
  | lst xs =>
    cases d with
    | lst ys =>
      obtain ⟨vs, rfl, rl⟩ := lst_of z4
      obtain ⟨q, ws, rfl, e2, r2⟩ := s1.lst A1.ok.sub
      exact ⟨p0, q, vs, ws, rfl, rfl, z3, e2, by rw [rl.length, r2.length]; exact sz_of z6.1, k.nx F1 _ σ _ (z7 (.lst (vs ++ ws)) (.lst (xs ++ ys)) (rl.append r2)) z6.2⟩
    | _ => exact z6.elim
  | _ => exact z6.elim
@[simp] def mSetIx (i : Nat) (mk mv : DM) : DStm := fun P env => mv env fun x e1 => x.get e1 fun d => ownL e1 i ∧ mk e1 fun y e2 => y.con e2 fun kd => putOwn e2 i (fun c R => match c, kd with
  | .lst xs, .int j => ∃ n, ixN xs.length j = some n ∧ R (.lst (xs.set n d))
  | _, _ => False) P.nx
theorem ds_setIx (i : Nat) {x : Str} {ek ev : Expr} {mk mv : DM} {px ps : Pos} (hN : X.N[i]? = some x) (hv : Vis X.env.scope x) (hk : DE X ek mk) (hw : DE X ev mv)
    (hd : (x == ("__debug__" : Str)) = false := by decide) (hcd : (x == ("__classdict__" : Str)) = false := by decide)
    (ha : ∀ v, assign (.Subscript (.Name x px) ek ps) X.env v = (do
      let ov ← holding [v] (eval (.Name x px) X.env)
      let iv ← holding [v, ov] (eval ek X.env)
      standAt ps
      holding [v, ov, iv] (setItem ov iv v)
      release [v, ov, iv] []) := by intro _; rfl)
    (hs : swapsWithSole [.Subscript (.Name x px) ek ps] ev pos.line X.env = pure false := by rfl) (hw2 : swappedStores [.Subscript (.Name x px) ek ps] ev X.env = pure none := by rfl)
    (h1 : (assignEach [.Subscript (.Name x px) ek ps] X.env).map (·.2) = [assign (.Subscript (.Name x px) ek ps) X.env] := by rfl) : DS X (.Assign [.Subscript (.Name x px) ek ps] ev pos) (mSetIx i mk mv) := by
  obtain ⟨tk, pk, evk⟩ := hk
  obtain ⟨tv, pv', evv⟩ := hw
  refine ⟨_, ps_asg pv' (pg_sub (pe_var hN hv hd hcd) pk set_list ha) hs hw2 h1, ?_⟩
  intro C F env σ H D P I h k
  refine evv C F env σ H _ _ I h ?_
  intro l e1 F1 v H1 h1 A1 r1
  obtain ⟨F2, d, h2, A2, ex, rp⟩ := A1.keepIt r1 h1
  obtain ⟨p0, vs0, q0, q1⟩ := ownL_at A2.ok h2.1
  refine ⟨.ref p0, q0, ?_⟩
  refine evk C F2 e1 σ H1 _ _ A2.ok h2.2 ?_
  intro l2 e2 F3 w H3 h3 A3 r3
  obtain ⟨kd, h4, s3⟩ := A3.ok.see r3 h3
  obtain ⟨p, o, b, c, z1, z2, z3, z4, z5, z6, z7⟩ := putOwn_at A3.ok h4
  rw [q0] at z2; cases z2
  cases c with
  | lst xs =>
    cases kd with
    | int j =>
      obtain ⟨n, y1, y2⟩ := z6
      obtain ⟨vs, rfl, rl⟩ := lst_of z4
      exact ⟨p0, vs, j, n, rfl, s3.int, z3, by rw [rl.length]; exact y1, k.nx F3 _ σ _ (z7 (.lst (vs.set n v)) (.lst (xs.set n d)) (rl.set (rp.mono A3.ex) n)) y2⟩
    | _ => exact z6.elim
  | _ => exact z6.elim

/-! ### x op= e, of things -/
@[simp] def aAug (f : D → D → (RV → Prop) → Prop) (j : Nat) (a : DM) : DStm := fun P env => match env[j]? with
  | some (.val d) => a env fun x e => x.con e fun y => f d y fun l => l.get e fun z => Free e j ∧ P.nx (e.set j (.val z))
  | _ => False
def rAugAdd : TIp := fun x y H Q => (∃ i j, x = .int i ∧ y = .int j ∧ Q (.int (i + j)) H) ∨ ∃ i j, x = .str i ∧ y = .str j ∧ i.length + j.length ≤ sizeLine ∧ Q (.str (i ++ j)) H
theorem ip_addD : PIp X .Add rAugAdd := by
  intro pins s σ H x y v u Q I rx ry h
  rcases h with h | h
  · exact ip_add pins s σ H x y v u Q I rx ry h
  · exact iop_add_str pins s σ H x y v u Q I rx ry h
@[simp] def bAdd (d e : D) (R : RV → Prop) : Prop := match d, e with
  | .int i, .int j => R (.vl (.int (i + j)))
  | .str s, .str t => s.length + t.length ≤ sizeLine ∧ R (.vl (.str (s ++ t)))
  | _, _ => False
@[simp] def bSub (d e : D) (R : RV → Prop) : Prop := match d, e with
  | .int i, .int j => R (.vl (.int (i - j)))
  | _, _ => False
def Ip2 (K : PySem.W.Frag) (r : TIp) (f : D → D → (RV → Prop) → Prop) : Prop := ∀ (C : Ct) (F : Hp) (env : List Slot) (σ : L2.St) (H : Hp) (v w : V) (d e : D) (R : RV → Prop) (Q : VK),
  Ok K C F env σ H → See K F H v d → See K F H w e → f d e R → Gives K C F env σ H R Q → r v w H Q
theorem i2_add : Ip2 K rAugAdd bAdd := by
  intro C F env σ H v w d e R Q I s1 s2 h g
  unfold bAdd at h
  split at h
  · exact Or.inl ⟨_, _, s1.int, s2.int, g.int I h⟩
  · exact Or.inr ⟨_, _, s1.str.1, s2.str.1, h.1, g.str I (sOk_append s1.str.2 s2.str.2) h.2⟩
  · exact h.elim
theorem i2_sub : Ip2 K (ipI fun i j => i - j) bSub := by
  intro C F env σ H v w d e R Q I s1 s2 h g
  unfold bSub at h
  split at h
  · exact ⟨_, _, s1.int, s2.int, g.int I h⟩
  · exact h.elim
theorem ds_aug (j : Nat) {x : Str} {e : Expr} {m : DM} {op : Operator} {r : TIp} {f : D → D → (RV → Prop) → Prop} {pos' : Pos} (hN : X.N.Nodup) (hi : X.N[j]? = some x) (hx : Loc X.env.scope x) (ho : PIp X op r) (hf : Ip2 X.K r f) (h : DE X e m)
    (hfn : X.fn x = true ∨ X.env.scope.names.lookup x = some .local := by first | exact .inl rfl | exact .inr rfl | assumption) : DS X (.AugAssign (.Name x pos') op e pos) (aAug f j m) := by
  obtain ⟨t, p, ev⟩ := h
  refine ⟨_, ps_aug hN hi hx p ho hfn, ?_⟩
  intro C F env σ H D P I h k
  unfold aAug at h
  split at h
  · rename_i d e0
    obtain ⟨v, q1, q2⟩ := I.vals j d e0
    refine ⟨v, q1, ?_⟩
    refine ev C F env σ H _ _ I h ?_
    intro l e1 F1 w H1 h1 A1 r1
    obtain ⟨y, h2, s1⟩ := A1.ok.see r1 h1
    refine hf C F1 e1 σ H1 v w d y _ _ A1.ok (.rep (q2.mono A1.ex)) s1 h2 ?_
    intro l2 F2 u H2 h3 A2 r2
    obtain ⟨F3, z, h4, A3, ex, rp⟩ := A2.keepIt r2 h3
    exact k.nx F3 _ _ H2 (A3.ok.setVal h4.1 rp) h4.2
  · exact h.elim

/-! ### several targets -/
@[simp] def mUn (n : Nat) (gs : DTgs) (a : DM) : DStm := fun P env => a env fun x e => x.get e fun d => match d with
  | .tup ds => ds.length = n ∧ gs ds e P.nx
  | _ => False
theorem ds_un {es : List Expr} {e : Expr} {js : List Nat} {gs : DTgs} {m : DM} {kk : Nat} {pt : Pos} {n : Nat} (hc : X.calm = true) (hg : DGs X es js gs) (h : DE X e m) (hn : (assignEach es X.env).length = n := by rfl) (hst : (assignEach es X.env).findIdx? (·.1) = none := by rfl)
    (hs : swapsWithSole [.Tuple es kk pt] e pos.line X.env = pure false := by rfl) (hw : swappedStores [.Tuple es kk pt] e X.env = pure none := by rfl) (h1 : (assignEach [.Tuple es kk pt] X.env).map (·.2) = [assign (.Tuple es kk pt) X.env] := by rfl) :
    DS X (.Assign [.Tuple es kk pt] e pos) (mUn n gs m) := by
  obtain ⟨tg, pg, eg⟩ := hg
  obtain ⟨t, p, ev⟩ := h
  refine ⟨_, ps_asg p (pg_tup hc pg hn hst) hs hw h1, ?_⟩
  intro C F env σ H D P I h k
  refine ev C F env σ H _ _ I h ?_
  intro l e1 F1 v H1 h1 A1 r1
  obtain ⟨F2, d, h2, A2, ex, rp⟩ := A1.keepIt r1 h1
  cases rp with
  | tup s r =>
    refine ⟨_, _, rfl, ex_t A2.ok.sub s, r.length.trans h2.1, ?_⟩
    exact eg C F2 e1 σ H1 _ _ _ _ A2.ok r h2.2 fun env' σ' q I' kp => k.nx F2 env' σ' H1 I' q
  | _ => exact h2.elim
@[simp] def mUnL (n : Nat) (gs : DTgs) (a : DM) : DStm := fun P env => a env fun x e => x.get e fun d => match d with
  | .lst ds => ds.length = n ∧ gs ds e P.nx
  | _ => False
theorem ds_unL {es : List Expr} {e : Expr} {js : List Nat} {gs : DTgs} {m : DM} {kk : Nat} {pt : Pos} {n : Nat} (hc : X.calm = true) (hg : DGs X es js gs) (h : DE X e m) (hn : (assignEach es X.env).length = n := by rfl) (hst : (assignEach es X.env).findIdx? (·.1) = none := by rfl)
    (hs : swapsWithSole [.Tuple es kk pt] e pos.line X.env = pure false := by rfl) (hw : swappedStores [.Tuple es kk pt] e X.env = pure none := by rfl) (h1 : (assignEach [.Tuple es kk pt] X.env).map (·.2) = [assign (.Tuple es kk pt) X.env] := by rfl) :
    DS X (.Assign [.Tuple es kk pt] e pos) (mUnL n gs m) := by
  obtain ⟨tg, pg, eg⟩ := hg
  obtain ⟨t, p, ev⟩ := h
  refine ⟨_, ps_asg p (pg_unl hc pg hn hst) hs hw h1, ?_⟩
  intro C F env σ H D P I h k
  refine ev C F env σ H _ _ I h ?_
  intro l e1 F1 v H1 h1 A1 r1
  obtain ⟨F2, d, h2, A2, ex, rp⟩ := A1.keepIt r1 h1
  cases rp with
  | lst s r =>
    refine ⟨_, _, rfl, sq_of (A2.ok.sub _ _ s), r.length.trans h2.1, ?_⟩
    exact eg C F2 e1 σ H1 _ _ _ _ A2.ok r h2.2 fun env' σ' q I' kp => k.nx F2 env' σ' H1 I' q
  | _ => exact h2.elim
@[simp] def mPar2 (i j : Nat) (a : DML) : DStm := fun P env => a env fun ds e => match ds with
  | [d, d'] => Free e i ∧ Free (e.set i (.val d)) j ∧ P.nx ((e.set i (.val d)).set j (.val d'))
  | _ => False
theorem ds_par2 {i j : Nat} {x y : Str} {a b : Expr} {m : DML} {px py pt : Pos} {kt k2 pt2} (hc : X.calm = true) (hN : X.N.Nodup) (hi : X.N[i]? = some x) (hj : X.N[j]? = some y) (hij : i ≠ j)
    (hx : X.env.scope.names.lookup x = some .local) (hy : X.env.scope.names.lookup y = some .local) (h : DL X [a, b] m)
    (hw : swappedStores [.Tuple [.Name x px, .Name y py] kt pt] (.Tuple [a, b] k2 pt2) X.env = pure (some [x, y]))
    (hs : swapsWithSole [.Tuple [.Name x px, .Name y py] kt pt] (.Tuple [a, b] k2 pt2) pos.line X.env = pure false := by rfl) :
    DS X (.Assign [.Tuple [.Name x px, .Name y py] kt pt] (.Tuple [a, b] k2 pt2) pos) (mPar2 i j m) := by
  obtain ⟨t, p, ev⟩ := h
  refine ⟨_, ps_par hc hN hi hj hij hx hy p hw hs, ?_⟩
  intro C F env σ H D P I h k
  refine ev C F env σ H _ _ I h ?_
  intro ds e1 F1 vs H1 h1 A1 r1
  cases r1 with
  | cons ra r =>
    cases r with
    | cons rb r =>
      cases r with
      | nil => exact ⟨_, _, rfl, k.nx F1 _ _ H1 ((A1.ok.setVal h1.1 ra).setVal h1.2.1 rb) h1.2.2⟩
      | cons _ _ => exact h1.elim
    | nil => exact h1.elim
  | nil => exact h1.elim
@[simp] def mPar3 (i j l : Nat) (a : DML) : DStm := fun P env => a env fun ds e => match ds with
  | [d, d', d''] => Free e i ∧ Free (e.set i (.val d)) j ∧ Free ((e.set i (.val d)).set j (.val d')) l ∧ P.nx (((e.set i (.val d)).set j (.val d')).set l (.val d''))
  | _ => False
theorem ds_par3 {i j l : Nat} {x y z : Str} {a b c : Expr} {m : DML} {px py pz pt : Pos} {kt k2 pt2} (hc : X.calm = true) (hN : X.N.Nodup) (hi : X.N[i]? = some x) (hj : X.N[j]? = some y) (hl : X.N[l]? = some z) (hij : i ≠ j) (hil : i ≠ l) (hjl : j ≠ l)
    (hx : X.env.scope.names.lookup x = some .local) (hy : X.env.scope.names.lookup y = some .local) (hz : X.env.scope.names.lookup z = some .local) (h : DL X [a, b, c] m)
    (hw : swappedStores [.Tuple [.Name x px, .Name y py, .Name z pz] kt pt] (.Tuple [a, b, c] k2 pt2) X.env = pure (some [x, y, z]))
    (hs : swapsWithSole [.Tuple [.Name x px, .Name y py, .Name z pz] kt pt] (.Tuple [a, b, c] k2 pt2) pos.line X.env = pure false := by rfl) :
    DS X (.Assign [.Tuple [.Name x px, .Name y py, .Name z pz] kt pt] (.Tuple [a, b, c] k2 pt2) pos) (mPar3 i j l m) := by
  obtain ⟨t, p, ev⟩ := h
  refine ⟨_, ps_par3 hc hN hi hj hl hij hil hjl hx hy hz p hw hs, ?_⟩
  intro C F env σ H D P I h k
  refine ev C F env σ H _ _ I h ?_
  intro ds e1 F1 vs H1 h1 A1 r1
  cases r1 with
  | cons ra r =>
    cases r with
    | cons rb r =>
      cases r with
      | cons rc r =>
        cases r with
        | nil => exact ⟨_, _, _, rfl, k.nx F1 _ _ H1 (((A1.ok.setVal h1.1 ra).setVal h1.2.1 rb).setVal h1.2.2.1 rc) h1.2.2.2⟩
        | cons _ _ => exact h1.elim
      | nil => exact h1.elim
    | nil => exact h1.elim
  | nil => exact h1.elim

/-! ### dicts with keys that are numbers or texts -/
@[simp] def keyOf : D → Option Key
  | .int i => some (.inl i)
  | .str s => some (.inr s)
  | _ => none
@[simp] def dGet (ks : List (Key × D)) (k : Key) : Option D := (ks.find? fun p => decide (p.1 = k)).map (·.2)
def dPut (ks : List (Key × D)) (k : Key) (v : D) : List (Key × D) :=
  if (ks.any fun p => decide (p.1 = k)) = true then ks.map (fun p => if p.1 = k then (p.1, v) else p) else ks ++ [(k, v)]
theorem keyOf_V {F H : Hp} {v : V} {d : D} {k : Key} (s : See K F H v d) (h : keyOf d = some k) : v = kV k := by
  cases d with
  | int i => cases h; exact s.int
  | str i => cases h; exact s.str.1
  | _ => cases h
@[simp] def mDNew : DM := fun env R => R (.tm (.dic [])) env
theorem ddnew : DE X (.Dict [] [] pos) mDNew := by
  refine ⟨_, pe_dnewK, ?_⟩
  intro C F env σ H R Q I h k p hp
  exact k _ env F _ _ h (I.tmp hp (.dK [])) ⟨p, .dK [], rfl, upd_same, ⟨rfl, .nil⟩, I.fnone hp, I.gnone hp, I.unowned hp, hp⟩
theorem find_rep {F : Hp} : ∀ {kvs : List (Key × V)} {ks : List (Key × D)}, kvs.map (·.1) = ks.map (·.1) → RepL K F (kvs.map (·.2)) (ks.map (·.2)) → ∀ k : Key,
    (∃ v d, valV kvs k = some v ∧ dGet ks k = some d ∧ Rep K F v d) ∨ (valV kvs k = none ∧ dGet ks k = none)
  | [], [], _, _, k => Or.inr ⟨rfl, rfl⟩
  | [], _ :: _, h, _, _ => by simp at h
  | _ :: _, [], h, _, _ => by simp at h
  | p :: kvs, q :: ks, h, r, k => by
    simp only [List.map_cons, List.cons.injEq] at h
    cases r with
    | cons a r =>
      by_cases e : q.1 = k
      · refine Or.inl ⟨p.2, q.2, ?_, ?_, a⟩
        · unfold valV; rw [List.find?_cons, decide_eq_true (h.1.trans e)]; rfl
        · simp [e]
      · have e' : ¬ p.1 = k := fun z => e (h.1.symm.trans z)
        have ih := find_rep h.2 r k
        have e1 : valV (p :: kvs) k = valV kvs k := by unfold valV; rw [List.find?_cons, decide_eq_false e']
        have e2 : dGet (q :: ks) k = dGet ks k := by simp [e]
        rw [e1, e2]; exact ih
@[simp] def aDIn (n : Bool) (d e : D) (R : RV → Prop) : Prop := match e, keyOf d with
  | .dic ks, some k => R (.vl (.bl (n ^^ (dGet ks k).isSome)))
  | _, _ => False
def rDIn (n : Bool) : R2 := fun y x H Q => ∃ a o, x = .ref a ∧ DGet H a y o ∧ Q (.bl (n ^^ o.isSome)) H
theorem o2_din {n : Bool} : Op2 K (rDIn n) (aDIn n) := by
  intro C F env σ H v w d e R Q I s1 s2 h g
  unfold aDIn at h
  split at h
  · rename_i ks k hk
    obtain ⟨p, kvs, rfl, e1, k1, r1⟩ := s2.dic I.sub
    have hv := keyOf_V s1 hk
    refine ⟨p, valV kvs k, rfl, by rw [hv]; exact DGet.k e1, ?_⟩
    rcases find_rep k1 r1 k with ⟨a, b, q1, q2, _⟩ | ⟨q1, q2⟩
    · rw [q1]; rw [q2] at h; exact g.bl I h
    · rw [q1]; rw [q2] at h; exact g.bl I h
  · exact h.elim
theorem ddin {a b : Expr} {m1 m2 : DM} (hu : X.A.units + 1 < cLine) (ha : DE X a m1) (hb : DE X b m2) (h1 : behindInMarks .In b = false := by first | exact nobehind _ (by decide) (by decide) | rfl | with_unfolding_all rfl) : DE X (.Compare a [.In] [b] pos) (mOp2 (aDIn false) m1 m2) := by
  obtain ⟨ta, pa, ea⟩ := ha
  obtain ⟨tb, pb, eb⟩ := hb
  refine ⟨_, pe_cmp (pc_din hu pa pb) h1, ?_⟩
  have := evd_op2 (o2_din (n := false)) ea eb
  intro C F env σ H R Q I h k
  have q := this C F env σ H R Q I h k
  simpa [tOp, tDIn, rDIn] using q
theorem ddnotin {a b : Expr} {m1 m2 : DM} (hu : X.A.units + 1 < cLine) (ha : DE X a m1) (hb : DE X b m2) (h1 : behindInMarks .NotIn b = false := by first | exact nobehind _ (by decide) (by decide) | rfl | with_unfolding_all rfl) : DE X (.Compare a [.NotIn] [b] pos) (mOp2 (aDIn true) m1 m2) := by
  obtain ⟨ta, pa, ea⟩ := ha
  obtain ⟨tb, pb, eb⟩ := hb
  refine ⟨_, pe_cmp (pc_dnotin hu pa pb) h1, ?_⟩
  have := evd_op2 (o2_din (n := true)) ea eb
  intro C F env σ H R Q I h k
  have q := this C F env σ H R Q I h k
  simpa [tOp, tDNotIn, rDIn] using q
@[simp] def aDIx (d e : D) (R : RV → Prop) : Prop := match d, keyOf e with
  | .dic ks, some k => ∃ y, dGet ks k = some y ∧ R (.vl y)
  | _, _ => False
def rDIx : R2 := fun x y H Q => ∃ a v, x = .ref a ∧ DGet H a y (some v) ∧ Q v H
theorem o2_dix : Op2 K rDIx aDIx := by
  intro C F env σ H v w d e R Q I s1 s2 h g
  unfold aDIx at h
  split at h
  · rename_i ks k hk
    obtain ⟨y, h1, h2⟩ := h
    obtain ⟨p, kvs, rfl, e1, k1, r1⟩ := s1.dic I.sub
    have hv := keyOf_V s2 hk
    rcases find_rep k1 r1 k with ⟨a, b, q1, q2, q3⟩ | ⟨q1, q2⟩
    · rw [h1] at q2; cases q2
      exact ⟨p, a, rfl, by rw [hv, ← q1]; exact DGet.k e1, g.here I h2 q3⟩
    · rw [h1] at q2; cases q2
  · exact h.elim
theorem ddix {a b : Expr} {m1 m2 : DM} (hu : X.A.units + 1 < cLine) (ha : DE X a m1) (hb : DE X b m2) (hs : NoSl b := by exact fun _ _ => rfl) : DE X (.Subscript a b pos) (mOp2 aDIx m1 m2) := by
  obtain ⟨ta, pa, ea⟩ := ha
  obtain ⟨tb, pb, eb⟩ := hb
  exact ⟨_, pe_dget hu pa pb hs, evd_op2 o2_dix ea eb⟩
theorem keys_any {k : Key} : ∀ {kvs : List (Key × V)} {ks : List (Key × D)}, kvs.map (·.1) = ks.map (·.1) → (kvs.any fun p => decide (p.1 = k)) = ks.any fun p => decide (p.1 = k)
  | [], [], _ => rfl
  | [], _ :: _, h => by simp at h
  | _ :: _, [], h => by simp at h
  | p :: kvs, q :: ks, h => by
    simp only [List.map_cons, List.cons.injEq] at h
    rw [List.any_cons, List.any_cons, keys_any h.2, h.1]
theorem put_map {F : Hp} {v : V} {d : D} (a : Rep K F v d) (k : Key) : ∀ {kvs : List (Key × V)} {ks : List (Key × D)}, kvs.map (·.1) = ks.map (·.1) → RepL K F (kvs.map (·.2)) (ks.map (·.2)) →
    (kvs.map fun p => if p.1 = k then (p.1, v) else p).map (·.1) = (ks.map fun p => if p.1 = k then (p.1, d) else p).map (·.1) ∧ RepL K F ((kvs.map fun p => if p.1 = k then (p.1, v) else p).map (·.2)) ((ks.map fun p => if p.1 = k then (p.1, d) else p).map (·.2))
  | [], [], _, _ => ⟨rfl, .nil⟩
  | [], _ :: _, h, _ => by simp at h
  | _ :: _, [], h, _ => by simp at h
  | p :: kvs, q :: ks, h, r => by
    simp only [List.map_cons, List.cons.injEq] at h
    cases r with
    | cons b r =>
      obtain ⟨h1, h2⟩ := put_map a k h.2 r
      rw [List.map_cons, List.map_cons, List.map_cons, List.map_cons, List.map_cons, List.map_cons, h1]
      by_cases e : q.1 = k
      · have e' : p.1 = k := h.1.trans e
        rw [if_pos e, if_pos e']
        exact ⟨by rw [h.1], .cons a h2⟩
      · have e' : ¬ p.1 = k := fun z => e (h.1.symm.trans z)
        rw [if_neg e, if_neg e']
        exact ⟨by rw [h.1], .cons b h2⟩
theorem put_rep {F : Hp} {v : V} {d : D} (a : Rep K F v d) (k : Key) {kvs : List (Key × V)} {ks : List (Key × D)} (h : kvs.map (·.1) = ks.map (·.1)) (r : RepL K F (kvs.map (·.2)) (ks.map (·.2))) :
    (putK kvs k v).map (·.1) = (dPut ks k d).map (·.1) ∧ RepL K F ((putK kvs k v).map (·.2)) ((dPut ks k d).map (·.2)) := by
  unfold putK dPut
  rw [keys_any h]
  split
  · exact put_map a k h r
  · rw [List.map_append, List.map_append, List.map_append, List.map_append, h]
    exact ⟨rfl, r.append (.cons a .nil)⟩
@[simp] def mDPut (i : Nat) (mk mv : DM) : DStm := fun P env => mv env fun x e1 => x.get e1 fun d => ownD e1 i ∧ mk e1 fun y e2 => y.con e2 fun kd => putOwn e2 i (fun c R => match c, keyOf kd with
  | .dic ks, some k => ks.length < 100000 ∧ R (.dic (dPut ks k d))
  | _, _ => False) P.nx
theorem ownD_at {C : Ct} {F H : Hp} {env : List Slot} {σ : L2.St} {i : Nat} (I : Ok K C F env σ H) (h : ownD env i) : ∃ p vs, σ[i]? = some (some (.ref p)) ∧ H p = some (.dK vs) := by
  unfold ownD at h
  split at h
  · rename_i b xs e
    obtain ⟨p, o, h1, h2, h3, _⟩ := I.owns i b _ e
    obtain ⟨kvs, rfl, _⟩ := dic_of h3
    exact ⟨p, _, h1, h2⟩
  · exact h.elim
theorem ds_dput (i : Nat) {x : Str} {ek ev : Expr} {mk mv : DM} {px ps : Pos} (hu : X.A.units + 1 < cLine) (hN : X.N[i]? = some x) (hv : Vis X.env.scope x) (hk : DE X ek mk) (hw : DE X ev mv)
    (hd : (x == ("__debug__" : Str)) = false := by decide) (hcd : (x == ("__classdict__" : Str)) = false := by decide)
    (hs : swapsWith ev (some (.Subscript (.Name x px) ek ps)) pos.line X.env = pure false := by rfl) : DS X (.Assign [.Subscript (.Name x px) ek ps] ev pos) (mDPut i mk mv) := by
  obtain ⟨tk, pk, evk⟩ := hk
  obtain ⟨tv, pv', evv⟩ := hw
  refine ⟨_, ps_dput hu (pe_var hN hv hd hcd) pk pv' hs, ?_⟩
  intro C F env σ H D P I h k
  refine evv C F env σ H _ _ I h ?_
  intro l e1 F1 v H1 h1 A1 r1
  obtain ⟨F2, d, h2, A2, ex, rp⟩ := A1.keepIt r1 h1
  obtain ⟨p0, vs0, q0, q1⟩ := ownD_at A2.ok h2.1
  refine ⟨.ref p0, q0, ?_⟩
  refine evk C F2 e1 σ H1 _ _ A2.ok h2.2 ?_
  intro l2 e2 F3 w H3 h3 A3 r3
  obtain ⟨kd, h4, s3⟩ := A3.ok.see r3 h3
  obtain ⟨p, o, b, c, z1, z2, z3, z4, z5, z6, z7⟩ := putOwn_at A3.ok h4
  rw [q0] at z2; cases z2
  split at z6
  · rename_i ks kk hkk
    obtain ⟨kvs, rfl, y1, y2⟩ := dic_of z4
    have hv := keyOf_V s3 hkk
    obtain ⟨g1, g2⟩ := put_rep (rp.mono A3.ex) kk y1 y2
    have hl : kvs.length = ks.length := by simpa using congrArg List.length y1
    exact ⟨p0, _, rfl, by rw [hv]; exact DPut.k z3 (by rw [hl]; exact sz_lt z6.1), k.nx F3 _ σ _ (z7 (.dK (putK kvs kk v)) (.dic (dPut ks kk d)) ⟨g1, g2⟩) z6.2⟩
  · exact z6.elim

/-! ### methods of texts -/
theorem sOk_list {l : List Nat} (h : ∀ c ∈ l, c < 0x110000) : PyData.strOk ⟨l.toArray⟩ = true := by
  rw [sOk_iff]; simpa using h
@[simp] def mM1 (f : D → D → (RV → Prop) → Prop) (a b : DM) : DM := fun env R => a env fun x e1 => x.con e1 fun d => match d with
  | .str _ => b e1 fun y e2 => y.con e2 fun e => f d e fun l => R l e2
  | _ => False
def Mt1 (K : PySem.W.Frag) (r : V → List V → Hp → VK → Prop) (f : D → D → (RV → Prop) → Prop) : Prop := ∀ (C : Ct) (F : Hp) (env : List Slot) (σ : L2.St) (H : Hp) (s : Str) (w : V) (e : D) (R : RV → Prop) (Q : VK),
  Ok K C F env σ H → PyData.strOk s = true → See K F H w e → f (.str s) e R → Gives K C F env σ H R Q → r (.str s) [w] H Q
theorem evd_m1 {K : PySem.W.Frag} {r : V → List V → Hp → VK → Prop} {f : D → D → (RV → Prop) → Prop} {m1 m2 : DM} {ta tb : TE} (hf : Mt1 K r f) (ha : EvD K m1 ta) (hb : EvD K m2 tb) : EvD K (mM1 f m1 m2) (tM1 r ta tb) := by
  intro C F env σ H R Q I h k
  refine ha C F env σ H _ _ I h ?_
  intro x e1 F1 v H1 h1 A1 r1
  obtain ⟨d, h2, s1⟩ := A1.ok.see r1 h1
  cases d with
  | str s =>
    have hv := s1.str
    refine ⟨⟨s, hv.1⟩, ?_⟩
    refine hb C F1 e1 σ H1 _ _ A1.ok h2 ?_
    intro y e2 F2 w H2 h3 A2 r2
    obtain ⟨e, h4, s2⟩ := A2.ok.see r2 h3
    rw [hv.1]
    have A := A1.trans A2
    exact hf C F2 e2 σ H2 s w e _ _ A2.ok hv.2 s2 h4 fun l F3 u H3 hl A3 r3 => k l e2 F3 u H3 hl (A.trans A3) (r3.from fun p => A.back)
  | _ => exact h2.elim
@[simp] def aJoin (d e : D) (R : RV → Prop) : Prop := match d, e with
  | .str s, .lst xs => ∃ ys, asStrs xs = some ys ∧ (ys.map (·.length)).sum + ys.length * s.length ≤ 16777216 ∧ R (.vl (.str (Txt.join s ys)))
  | _, _ => False
end
end DL

set_option Elab.async false
set_option linter.all false
set_option maxRecDepth 100000
set_option maxHeartbeats 4000000
set_option autoImplicit false
/-! DL13: more of texts; the law's own call. -/
namespace DL
open PySem PySem.Spec L2 Evl PyProof.Rows

section
variable {X : Cx} {K : PySem.W.Frag} {pos : Pos}
theorem djoin {o e : Expr} {m1 m2 : DM} {apos : Pos} (ho : DE X o m1) (he : DE X e m2) (hs : starEach [e] X.env = [(false, eval e X.env)] := by rfl) (hb : attributeBase o "join" X.env (eval o X.env) = eval o X.env := by rfl) (hl : (apos.endLine == pos.line) = true := by rfl) :
    DE X (.Call (.Attribute o "join" apos) [e] [] pos) (mM1 aJoin m1 m2) := by
  obtain ⟨t, p, ev⟩ := ho
  obtain ⟨u, q, ev2⟩ := he
  refine ⟨_, pe_join p q hs hb hl, evd_m1 ?_ ev ev2⟩
  intro C F env σ H s w e R Q I hs s2 h g
  unfold aJoin at h
  split at h
  · rename_i xs e1
    cases e1
    obtain ⟨ys, h1, h2, h3⟩ := h
    obtain ⟨p, vs, rfl, q1, q2⟩ := s2.lst I.sub
    rw [asStrs_eq h1] at q2
    refine ⟨_, p, ys, rfl, rfl, Or.inl (by rw [q2.strs] at q1; exact sq_of q1), h2, g.str I ?_ h3⟩
    rw [TL.join_eq]
    exact sOk_join hs fun t m => RepL.sOk q2 t m
  · exact h.elim
@[simp] def aSplit (d e : D) (R : RV → Prop) : Prop := match d, e with
  | .str s, .str t => (t.length == 0) = false ∧ s.length + 2 ≤ sizeLine ∧ (∀ x ∈ Txt.split s t, PyData.strOk x = true) ∧ R (.tm (.lst ((Txt.split s t).map .str)))
  | _, _ => False
theorem dsplit {o e : Expr} {m1 m2 : DM} {apos : Pos} (ho : DE X o m1) (he : DE X e m2) (hs : starEach [e] X.env = [(false, eval e X.env)] := by rfl) (hb : attributeBase o "split" X.env (eval o X.env) = eval o X.env := by rfl) (hl : (apos.endLine == pos.line) = true := by rfl) :
    DE X (.Call (.Attribute o "split" apos) [e] [] pos) (mM1 aSplit m1 m2) := by
  obtain ⟨t, p, ev⟩ := ho
  obtain ⟨u, q, ev2⟩ := he
  refine ⟨_, pe_split p q hs hb hl, evd_m1 ?_ ev ev2⟩
  intro C F env σ H s w e R Q I hs s2 h g
  unfold aSplit at h
  split at h
  · rename_i t e1
    cases e1
    exact ⟨_, _, rfl, by rw [s2.str.1], h.1, h.2.1, fun q hq => g.lst I h.2.2.2 (RepL.ofStrs _ h.2.2.1) q hq⟩
  · exact h.elim
theorem drev {e : Expr} {m : DM} {k : Nat} {p1 p2 p3 : Pos} (he : DE X e m) : DE X (.Subscript e (.Slice none none (some (.UnaryOp .USub (.Constant (.int 1) k p1) p2)) p3) pos) (mRev m) := by
  obtain ⟨t, p, ev⟩ := he
  refine ⟨_, pe_revL p, ?_⟩
  intro C F env σ H R Q I h k
  refine ev C F env σ H _ _ I h ?_
  intro x e1 F1 v H1 h1 A1 r1
  obtain ⟨d, h2, s1⟩ := A1.ok.see r1 h1
  cases d with
  | lst xs =>
    obtain ⟨p, vs, rfl, q1, q2⟩ := s1.lst A1.ok.sub
    refine ⟨p, vs, rfl, sq_of q1, fun q hq => ?_⟩
    have g : Gives X.K C F1 e1 σ H1 (fun r => R r e1) Q := fun l F' w H' hl A' r' => k l e1 F' w H' hl (A1.trans A') (r'.from fun p => A1.back)
    exact g.lst A1.ok h2 q2.reverse q hq
  | _ => exact h2.elim
/-! ### unary minus -/
@[simp] def mNeg (a : DM) : DM := fun env R => a env fun x e1 => x.con e1 fun d => match d with
  | .int i => R (.vl (.int (-i))) e1
  | _ => False
theorem dneg {e : Expr} {m : DM} (he : DE X e m) : DE X (.UnaryOp .USub e pos) (mNeg m) := by
  obtain ⟨t, p, ev⟩ := he
  refine ⟨_, pe_un un_neg p, ?_⟩
  intro C F env σ H R Q I h k
  refine ev C F env σ H _ _ I h ?_
  intro x e1 F1 v H1 h1 A1 r1
  obtain ⟨d, h2, s1⟩ := A1.ok.see r1 h1
  cases d with
  | int i => exact ⟨i, s1.int, k _ e1 F1 _ H1 h2 A1 (Rep.int _)⟩
  | _ => exact h2.elim
end

/-! ### calls with keywords -/
section
variable {X : Cx} {CX : CXT} {k : Nat} {f : Addr} {fd : FuncData} {ps ks : List Str} {sp : Sp} {sd : DSpec} {E : XK} {x : Str} {p pos : Pos} {e : Expr} {es : List Expr} {t tk : TA} {kws : List Keyword}
theorem pe_callG0 {g : List Value → List Value → List Value} {gV : List V → List V → List V} (F : FnG X.prog X.w X.K X.mg X.base CX k f fd ps sp) (hgd : X.A.guards = some []) (hr : Room k X.A) (hg : Gl X x) (hm : X.mg x = some (.ref f)) (hk : PySem.W.keepIn X.K (.ref f) = true) (hb : KBinds X.K fd ps ks g gV) (hx : Passes CX X E)
    (hkw : PK X kws tk) (hall : (backToKw pos (keywordEach kws X.env)).all (·.1.isSome) = true := by rfl) (hks : (backToKw pos (keywordEach kws X.env)).filterMap (·.1) = ks := by rfl)
    (hdb : (x == ("__debug__" : Str)) = false := by decide) (hpl : ((backTo pos (starEach [] X.env)).any (·.1) || (backToKw pos (keywordEach kws X.env)).any (·.1.isNone)) = false := by rfl) : PE X (.Call (.Name x p) [] kws pos) (tCallK sp gV E tNil tk) := by
  constructor
  intro pins s σ H Q I h
  apply wpAny_Call_Name_kw
  apply ld_glob I hg hm _ hdb
  apply PySem.W.callWith_KW0 (h₀ := X.base) I.ok.mod.kin hk hall _ hpl
  apply thn (hkw.run pos pins s σ H _ I h)
  rintro ws s2 ⟨zs, H2, I2, rz, q2⟩
  refine ⟨I2.kIn, ?_⟩
  rw [hks]
  have r2 := hb.rel (vs := []) (us := []) .nil rz
  have hl : (g [] ws).length = ps.length := r2.length.symm.trans (F.len _ _ _ _ q2)
  exact run_g (args := ⟨[], ks.zip ws⟩) (binds := []) F hgd hr (hb.to s2 [] ws I2.kIn hl) hx I2 r2 q2
def ArrC (gV : List V → List V → List V) (gC : List CA → List CA → List CA) : Prop := ∀ (K : PySem.W.Frag) (F : Hp) (σ : L2.St) (vs zs : List V) (as bs : List CA), CAs K F σ vs as → CAs K F σ zs bs → CAs K F σ (gV vs zs) (gC as bs)
@[simp] def mCallK (sd : DSpec) (gC : List CA → List CA → List CA) (a b : DMC) : DM := fun env R => a env fun as e => b e fun bs e2 => apart e2 (gC as bs) = true ∧ sd ((gC as bs).map (resolve e2)) fun r ss => R r (putB (gC as bs) ss e2)
theorem evd_callK {K : PySem.W.Frag} {gV : List V → List V → List V} {gC : List CA → List CA → List CA} {mc mk : DMC} {t tk : TA} (hA : ArrC gV gC) (ev : EvC K mc t) (ek : EvC K mk tk) : EvD K (mCallK sd gC mc mk) (tCallK (spD K sd) gV E0 t tk) := by
  intro C F env σ H R Q I h k
  refine ev C F env σ H _ _ I h ?_
  intro as e1 F1 vs H1 h1 A1 r1
  refine ek C F1 e1 σ H1 _ _ A1.ok h1 ?_
  intro bs e2 F2 zs H2 h2 A2 r2
  exact call_core (A1.trans A2) (hA K F2 σ vs zs as bs (r1.mono A2.ex) r2) h2.1 h2.2 fun r ss F' v H' hR A3 r3 => k r _ F' v H' hR A3 r3
theorem dcallK {g : List Value → List Value → List Value} {gV : List V → List V → List V} (gC : List CA → List CA → List CA) (F : FnG X.prog X.w X.K X.mg X.base CX0 k f fd ps (spD X.K sd)) (hgd : X.A.guards = some []) (hr : Room k X.A) (hg : Gl X x) (hm : X.mg x = some (.ref f)) (hk : PySem.W.keepIn X.K (.ref f) = true) (hb : KBinds X.K fd ps ks g gV)
    (hA : ArrC gV gC) {mc mk : DMC} (h : DC X (e :: es) mc) (h2 : DK X kws mk) (hall : (backToKw pos (keywordEach kws X.env)).all (·.1.isSome) = true := by rfl) (hks : (backToKw pos (keywordEach kws X.env)).filterMap (·.1) = ks := by rfl)
    (hdb : (x == ("__debug__" : Str)) = false := by decide) (he : starEach (e :: es) X.env = (false, eval e X.env) :: starEach es X.env := by rfl)
    (hpl : ((backTo pos (starEach (e :: es) X.env)).any (·.1) || (backToKw pos (keywordEach kws X.env)).any (·.1.isNone)) = false := by rfl) : DE X (.Call (.Name x p) (e :: es) kws pos) (mCallK sd gC mc mk) := by
  obtain ⟨t, pa, ev⟩ := h
  obtain ⟨tk, pk, ek⟩ := h2
  exact ⟨_, pe_callGK (E := E0) F hgd hr hg hm hk hb pass0 pa pk hall hks hdb he hpl, evd_callK hA ev ek⟩
theorem dcallK0 {g : List Value → List Value → List Value} {gV : List V → List V → List V} (gC : List CA → List CA → List CA) (F : FnG X.prog X.w X.K X.mg X.base CX0 k f fd ps (spD X.K sd)) (hgd : X.A.guards = some []) (hr : Room k X.A) (hg : Gl X x) (hm : X.mg x = some (.ref f)) (hk : PySem.W.keepIn X.K (.ref f) = true) (hb : KBinds X.K fd ps ks g gV)
    (hA : ArrC gV gC) {mk : DMC} (h2 : DK X kws mk) (hall : (backToKw pos (keywordEach kws X.env)).all (·.1.isSome) = true := by rfl) (hks : (backToKw pos (keywordEach kws X.env)).filterMap (·.1) = ks := by rfl)
    (hdb : (x == ("__debug__" : Str)) = false := by decide) (hpl : ((backTo pos (starEach [] X.env)).any (·.1) || (backToKw pos (keywordEach kws X.env)).any (·.1.isNone)) = false := by rfl) : DE X (.Call (.Name x p) [] kws pos) (mCallK sd gC mcNil mk) := by
  obtain ⟨tk, pk, ek⟩ := h2
  exact ⟨_, pe_callG0 (E := E0) F hgd hr hg hm hk hb pass0 pk hall hks hdb hpl, evd_callK hA evc_nil ek⟩
end

/-! ### the law's own call -/
theorem law_callG {P : Program} {w : World} {K : PySem.W.Frag} {mg mb : Str → Option Value} {k : Nat} {fa a : Addr} {fd : FuncData} {x : Str} {sd : DSpec} {s₁ : Shared} {vs : List Value} {ns : List Int}
    (KX : K.In s₁.heap) (hns : s₁.heap.Ns mainGlobals mg) (hb : s₁.heap.Ns builtinsNs mb) (hbb : ∀ x : Str, x ≠ "__name__" → mb x = bootBuiltins x) (hlim : s₁.heap.NoLimit) (hg : s₁.gens = #[])
    (ha : s₁.heap.get? a = some { cls := .type "list", data := .seq vs.toArray }) (hi : IntsAre vs ns) (hl : ns.length ≤ sizeLine) (hr : Room k callerA)
    (F : ∀ base : Heap, K.In base → base.Ns mainGlobals mg → FnG P w K mg base CX0 k fa fd [x] (spD K sd)) (hbind : ∀ (s : Shared) (u : Value), BindsTo s fd ⟨[u], []⟩ [(x, u)])
    (hsd : sd [.val (.scr ns)] fun r _ => r = .vl (.bl true)) :
    codeAny (model P w) callerA (.call (.ref fa) ⟨[.ref a], []⟩) (fun r s' => r = .ok (.ret (.bool true)) ∧ OldK s₁.heap s'.heap ∧ s'.os = s₁.os ∧ AllBare s'.gens) s₁ := by
  have lenV := hi.length
  -- H tells nothing, or of the script alone
  have main : ∀ H : Hp, (∀ b u, H b = some u → b = a ∧ u = .frz { cls := .type "list", data := .seq vs.toArray } (.lst (ns.map V.int))) → SqL K H a (ns.map V.int) → HOk P w H s₁.heap → (H a ≠ none → K.lookup a = none) →
      codeAny (model P w) callerA (.call (.ref fa) ⟨[.ref a], []⟩) (fun r s' => r = .ok (.ret (.bool true)) ∧ OldK s₁.heap s'.heap ∧ s'.os = s₁.os ∧ AllBare s'.gens) s₁ := by
    intro H hO hS ok nK
    have plainD : ∀ {b : Addr} {o : Obj} {es : Array DictEntry} {ep : Nat}, s₁.heap.get? b = some o → o.data = .dict es ep → H b = none := by
      intro b o es ep e d
      match q : H b with
      | none => rfl
      | some u =>
        obtain ⟨rfl, _⟩ := hO b u q
        rw [ha] at e
        cases e
        exact nomatch d
    have carry : ∀ {b : Addr} {m : Str → Option Value}, s₁.heap.Ns b m → (hidT s₁.heap H).Ns b m := by
      rintro b m ⟨o, es, ep, e, d, r⟩
      exact ⟨o, es, ep, hidT_get e (plainD e d), d, r⟩
    have inB : K.In (hidT s₁.heap H) := by
      intro b o e
      refine hidT_get (KX b o e) ?_
      match q : H b with
      | none => rfl
      | some u =>
        obtain ⟨rfl, _⟩ := hO b u q
        rw [nK (by rw [q]; exact fun z => nomatch z)] at e
        cases e
    obtain ⟨ml, hl1, hl2⟩ := hlim
    have e0 : Env0 P w K mg (hidT s₁.heap H) callerA [] s₁ H := {
      frames := rfl
      mod := ⟨inB, carry hns, ⟨mb, carry hb, hbb⟩, ⟨ml, carry hl1, hl2⟩⟩
      bs := fun b o e => of_hidT e
      bsz := Nat.le_of_eq (hidT_size _ _)
      funs := trivial
      frf := fun b hb => nomatch (show b ∈ ([] : List Addr) from hb)
      hok := ok
      bare := .of_eq hg }
    have hsp : spD K sd [.ref a] H (fun v _ => v = .bl true) E0 := by
      refine ⟨H, [.val (.scr ns)], _, ?_, ?_, hsd, ?_⟩
      · exact {
          len := rfl, sub := Ex.refl H, keep := fun b o e _ => e, all := fun b e => e, new := fun b _ e => e, bas := Ex.refl H
          vals := fun i d e => by
            match i, e with
            | 0, e => cases e; exact ⟨.ref a, rfl, .scr hS⟩
          owns := fun i b d e => by
            match i, e with
            | 0, e => cases e
          sep := fun i j p ⟨b, d, e, _⟩ _ => by
            match i, e with
            | 0, e => cases e
          pins := fun i ⟨b, d, e⟩ => by
            match i, e with
            | 0, e => cases e }
      · intro i d e
        match i, e with
        | 0, e => cases e
      · rintro r args' F' v H' rfl dn
        have := dn.res
        cases (show Rep K F' v (.bl true) from this)
        rfl
    apply codeAny_mono ((F _ inB (carry hns)).run callerA [] s₁ H ⟨[.ref a], []⟩ [.ref a] [.ref a] _ _ rfl hr e0 (hbind s₁ (.ref a)) (.cons rfl .nil) hsp)
    intro r s' h
    match r, h with
    | .error e, h => exact h.elim
    | .ok .next, h => exact False.elim h
    | .ok .brk, h => exact False.elim h
    | .ok .cont, h => exact False.elim h
    | .ok (.ret u), h =>
      obtain ⟨v, H', os, bare, un, ok', rv, rfl⟩ := h
      cases (show u = Value.bool true from rv)
      refine ⟨rfl, OldK.of_keep ?_, os, bare⟩
      intro b o e
      match q : H b with
      | none => exact un.keep b o e q (fun z => nomatch z) (fun z => nomatch z)
      | some u =>
        obtain ⟨rfl, rfl⟩ := hO b u q
        obtain ⟨e1, _⟩ := ok b _ q
        obtain ⟨e2, _⟩ := ok' b _ (un.frzs b _ _ q)
        rw [e] at e1
        cases e1
        exact e2
  have rv := vals_ints hi
  match hk : K.lookup a with
  | some o =>
    have e := KX a o hk
    rw [ha] at e
    cases e
    refine main (fun _ => none) (fun b u z => nomatch z) (Or.inr ⟨_, vs.toArray, _, hk, rfl, rfl, rfl, ?_, ?_⟩) (fun b u z => nomatch z) (fun z => absurd rfl z)
    · rw [List.size_toArray, lenV]; exact hl
    · simpa using rv
  | none =>
    refine main (fun b => if b = a then some (.frz { cls := .type "list", data := .seq vs.toArray } (.lst (ns.map V.int))) else none) ?_ (Or.inl (Or.inr ⟨_, if_pos rfl⟩)) ?_ fun _ => hk
    · intro b u z
      by_cases hb : b = a
      · have z' := (if_pos hb).symm.trans z
        cases z'; exact ⟨hb, rfl⟩
      · have z' := (if_neg hb).symm.trans z
        cases z'
    · intro b u z
      by_cases hb : b = a
      · have z' := (if_pos hb).symm.trans z
        cases z'
        subst hb
        exact ⟨ha, by rw [List.length_map]; exact hl, vs, _, rv, ha⟩
      · have z' := (if_neg hb).symm.trans z
        cases z'

theorem walkG {l : PySem.W.OpenLaw} {n k : Nat} {q : Program} {loose : List Str} {XP : (Str → Option Value) → Heap → Prop} {YP : World → Heap → Prop} {d : DefRec} {K : Params → PySem.W.Frag} {sd : DSpec} {x : Str}
    (hn : l.most = some n) (hn2 : n ≤ sizeLine) (hdf : d.params.defaults = []) (hr : Room k callerA) (hY : ∀ (w : World) (h : Heap), YP w h → (K w.params).In h)
    (F : ∀ (w : World) (mg : Str → Option Value) (fa : Addr) (h : Heap), (K w.params).In h → h.Ns mainGlobals mg → mg d.name = some (.ref fa) →
      ∃ fd : FuncData, (∀ (s : Shared) (u : Value), BindsTo s fd ⟨[u], []⟩ [(x, u)]) ∧ ∀ base : Heap, (K w.params).In base → base.Ns mainGlobals mg → FnG l.prog w (K w.params) mg base CX0 k fa fd [x] (spD (K w.params) sd))
    (hsd : ∀ ns : List Int, ns.length ≤ n → sd [.val (.scr ns)] fun r _ => r = .vl (.bl true)) :
    PySem.W.WalkO q loose XP YP l.row.toRowW d [] (fun f vs => PySem.call f vs) := by
  apply Att.attach_call hn hdf
  intro w s₀ s₁ mg mb fa o pm cd doc a vs ns G Y ho hd hcd hmg hobj hints hlen hg
  obtain ⟨fd, hb, hF⟩ := F w mg fa _ (hY w _ Y) G.T.g hmg
  exact law_callG (hY w _ Y) G.T.g G.T.b G.T.builtins G.T.nolimit hg hobj hints (Nat.le_trans hlen hn2) hr hF hb (hsd ns hlen)
end DL

set_option Elab.async false
set_option linter.all false
set_option maxRecDepth 100000
set_option maxHeartbeats 4000000
set_option autoImplicit false
/-! DL14: words for printed derivations. -/
namespace DL
open PySem PySem.Spec L2 Evl PyProof.Rows

section
variable {X : Cx} {pos : Pos}
theorem dgintE {x : Str} {i : Int} (hg : Gl X x) (h : ∃ u, X.mg x = some u ∧ RelV (.int i) u) (hd : (x == ("__debug__" : Str)) = false := by decide) : DE X (.Name x pos) (mC (.int i)) := by
  obtain ⟨u, h1, h2⟩ := h
  exact dgint hg h1 h2 hd
theorem dgstrE {x : Str} {i : Str} (hg : Gl X x) (h : ∃ u, X.mg x = some u ∧ RelV (.str i) u) (ho : PyData.strOk i = true := by decide +kernel) (hd : (x == ("__debug__" : Str)) = false := by decide) : DE X (.Name x pos) (mC (.str i)) := by
  obtain ⟨u, h1, h2⟩ := h
  exact dgstr hg h1 h2 ho hd
structure Cal (P : Program) (w : World) (K : PySem.W.Frag) (mg : Str → Option Value) (base : Heap) (x : Str) (st : Stmt) (k : Nat) (ps : List Str) (sd : DSpec) : Prop where
  ex : ∃ f fd, Fun K x x st f fd ∧ FnG P w K mg base CX0 k f fd ps (spD K sd) ∧ mg x = some (.ref f) ∧ Binds K fd ps []
variable {k : Nat} {st : Stmt} {ps ks : List Str} {sd : DSpec} {x : Str} {p : Pos} {e : Expr} {es : List Expr} {kws : List Keyword}
theorem dcallC (c : Cal X.prog X.w X.K X.mg X.base x st k ps sd) (hgd : X.A.guards = some []) (hr : Room k X.A) (hg : Gl X x) {mc : DMC} (h : DC X (e :: es) mc)
    (hdb : (x == ("__debug__" : Str)) = false := by decide) (he : starEach (e :: es) X.env = (false, eval e X.env) :: starEach es X.env := by rfl) (hpl : (backTo pos (starEach es X.env)).any (·.1) = false := by rfl) :
    DE X (.Call (.Name x p) (e :: es) [] pos) (mCall sd [] mc) := by
  obtain ⟨f, fd, F, G, hm, hb⟩ := c.ex
  exact dcall G hgd hr hg hm F.kp hb h hdb he hpl
def arr {α : Type} (perm : List Nat) (us ws : List α) : List α := perm.filterMap fun i => (us ++ ws)[i]?
theorem arr_vals {perm : List Nat} : ∀ {vs : List V} {us : List Value} {zs : List V} {ws : List Value}, Vals vs us → Vals zs ws → Vals (arr perm vs zs) (arr perm us ws) := by
  intro vs us zs ws r1 r2
  have r := r1.append r2
  unfold arr
  induction perm with
  | nil => exact .nil
  | cons i l ih =>
    rw [List.filterMap_cons, List.filterMap_cons]
    cases q : (vs ++ zs)[i]? with
    | none => rw [r.none_of q]; exact ih
    | some v =>
      obtain ⟨u, hu, ru⟩ := r.get q
      rw [hu]
      exact .cons ru ih
theorem arr_ca {perm : List Nat} : ArrC (arr perm) (arr perm) := by
  intro K F σ vs zs as bs r1 r2
  have r := r1.append r2
  unfold arr
  induction perm with
  | nil => exact .nil
  | cons i l ih =>
    rw [List.filterMap_cons, List.filterMap_cons]
    cases q : (as ++ bs)[i]? with
    | none =>
      have q' : (vs ++ zs)[i]? = none := by
        rw [List.getElem?_eq_none_iff] at q ⊢
        rw [r.length]; exact q
      rw [q']; exact ih
    | some a =>
      obtain ⟨v, hv, rv⟩ := r.get q
      rw [hv]
      exact .cons rv ih
def arrN {α : Type} (n m : Nat) (perm : List Nat) (us ws : List α) : List α := if us.length = n ∧ ws.length = m then arr perm us ws else []
theorem arrN_vals {n m : Nat} {perm : List Nat} : ∀ {vs : List V} {us : List Value} {zs : List V} {ws : List Value}, Vals vs us → Vals zs ws → Vals (arrN n m perm vs zs) (arrN n m perm us ws) := by
  intro vs us zs ws r1 r2
  unfold arrN
  rw [r1.length, r2.length]
  split
  · exact arr_vals r1 r2
  · exact .nil
theorem arrN_ca {n m : Nat} {perm : List Nat} : ArrC (arrN n m perm) (arrN n m perm) := by
  intro K F σ vs zs as bs r1 r2
  unfold arrN
  rw [r1.length, r2.length]
  split
  · exact arr_ca K F σ vs zs as bs r1 r2
  · exact .nil
theorem kbinds_of {K : PySem.W.Frag} {y qual : Str} {f : Addr} {fd : FuncData} (F : Fun K y qual st f fd) (n m : Nat) (perm : List Nat) (hp : ps ≠ [])
    (h : ∀ (kV doc pm : Value) (an : Option Addr) (cdv ct : Value) (us ws : List Value), us.length = n → ws.length = m → bindArgs (PySem.W.fnOf y qual (defArgs st) (defBody st) (defScope st) .none kV doc pm an cdv ct) ⟨us, ks.zip ws⟩ = pure (ps.zip (arr perm us ws))) :
    KBinds K fd ps ks (arrN n m perm) (arrN n m perm) := by
  obtain ⟨oc, od, kV, doc, pm, an, cdv, ct, osl, rfl, lk, hcd⟩ := F.ex
  refine ⟨fun s us ws _ hl => .of_eq ?_, arrN_vals⟩
  unfold arrN at hl ⊢
  split at hl
  · rename_i hc
    rw [if_pos hc]
    exact h kV doc pm an cdv ct us ws hc.1 hc.2
  · exact absurd (List.length_eq_zero_iff.mp hl.symm) hp
theorem dcallKC (c : Cal X.prog X.w X.K X.mg X.base x st k ps sd) (n m : Nat) (perm : List Nat) (hgd : X.A.guards = some []) (hr : Room k X.A) (hg : Gl X x) (hp : ps ≠ [])
    (hb : ∀ (kV doc pm : Value) (an : Option Addr) (cdv ct : Value) (us ws : List Value), us.length = n → ws.length = m → bindArgs (PySem.W.fnOf x x (defArgs st) (defBody st) (defScope st) .none kV doc pm an cdv ct) ⟨us, ks.zip ws⟩ = pure (ps.zip (arr perm us ws)))
    {mc mk : DMC} (h : DC X (e :: es) mc) (h2 : DK X kws mk) (hall : (backToKw pos (keywordEach kws X.env)).all (·.1.isSome) = true := by rfl) (hks : (backToKw pos (keywordEach kws X.env)).filterMap (·.1) = ks := by rfl)
    (hdb : (x == ("__debug__" : Str)) = false := by decide) (he : starEach (e :: es) X.env = (false, eval e X.env) :: starEach es X.env := by rfl)
    (hpl : ((backTo pos (starEach (e :: es) X.env)).any (·.1) || (backToKw pos (keywordEach kws X.env)).any (·.1.isNone)) = false := by rfl) : DE X (.Call (.Name x p) (e :: es) kws pos) (mCallK sd (arrN n m perm) mc mk) := by
  obtain ⟨f, fd, F, G, hm, _⟩ := c.ex
  exact dcallK (arrN n m perm) G hgd hr hg hm F.kp (kbinds_of F n m perm hp hb) arrN_ca h h2 hall hks hdb he hpl
theorem dcallKC0 (c : Cal X.prog X.w X.K X.mg X.base x st k ps sd) (m : Nat) (perm : List Nat) (hgd : X.A.guards = some []) (hr : Room k X.A) (hg : Gl X x) (hp : ps ≠ [])
    (hb : ∀ (kV doc pm : Value) (an : Option Addr) (cdv ct : Value) (us ws : List Value), us.length = 0 → ws.length = m → bindArgs (PySem.W.fnOf x x (defArgs st) (defBody st) (defScope st) .none kV doc pm an cdv ct) ⟨us, ks.zip ws⟩ = pure (ps.zip (arr perm us ws)))
    {mk : DMC} (h2 : DK X kws mk) (hall : (backToKw pos (keywordEach kws X.env)).all (·.1.isSome) = true := by rfl) (hks : (backToKw pos (keywordEach kws X.env)).filterMap (·.1) = ks := by rfl)
    (hdb : (x == ("__debug__" : Str)) = false := by decide)
    (hpl : ((backTo pos (starEach [] X.env)).any (·.1) || (backToKw pos (keywordEach kws X.env)).any (·.1.isNone)) = false := by rfl) : DE X (.Call (.Name x p) [] kws pos) (mCallK sd (arrN 0 m perm) mcNil mk) := by
  obtain ⟨f, fd, F, G, hm, _⟩ := c.ex
  exact dcallK0 (arrN 0 m perm) G hgd hr hg hm F.kp (kbinds_of F 0 m perm hp hb) arrN_ca h2 hall hks hdb hpl
end
end DL

set_option Elab.async false
set_option linter.all false
set_option maxRecDepth 100000
set_option maxHeartbeats 4000000
set_option autoImplicit false
/-! DL15: times; a dict's names as tests; enumerate of tuples; range with a step. -/
namespace DL
open PySem PySem.Spec L2 Evl PyProof.Rows

section
variable {X : Cx} {K : PySem.W.Frag} {pos : Pos}
theorem o2_mul : Op2 K rMulD aMul := by
  intro C F env σ H v w d e R Q I s1 s2 h g
  unfold aMul at h
  split at h
  · exact Or.inl ⟨_, _, s1.int, s2.int, h.1, g.int I h.2⟩
  · rename_i xs k
    obtain ⟨p, vs, rfl, e1, r1⟩ := s1.lst I.sub
    obtain ⟨h0, h1, h2, h3⟩ := h
    exact Or.inr ⟨p, k, vs, rfl, s2.int, e1, by omega, by omega, by rw [r1.length]; exact sz_of h2, fun q hq => g.lst I h3 (r1.rep _) q hq⟩
  · exact h.elim
theorem dtdin {a b : Expr} {m1 m2 : DM} (hu : X.A.units + 1 < cLine) (ha : DE X a m1) (hb : DE X b m2) (h1 : behindInMarks .In b = false := by first | exact nobehind _ (by decide) (by decide) | rfl | with_unfolding_all rfl) : DT X (.Compare a [.In] [b] pos) (mB (mOp2 (aDIn false) m1 m2)) := by
  obtain ⟨ta, pa, ea⟩ := ha
  obtain ⟨tb, pb, eb⟩ := hb
  refine ⟨_, pt_cmp (pc_din hu pa pb) h1, ?_⟩
  have := evb_of (evd_op2 (o2_din (n := false)) ea eb)
  intro C F env σ H R Q I h k
  have q := this C F env σ H R Q I h k
  simpa [tOp, tDIn, rDIn, tB, tTest] using q
theorem dtdnotin {a b : Expr} {m1 m2 : DM} (hu : X.A.units + 1 < cLine) (ha : DE X a m1) (hb : DE X b m2) (h1 : behindInMarks .NotIn b = false := by first | exact nobehind _ (by decide) (by decide) | rfl | with_unfolding_all rfl) : DT X (.Compare a [.NotIn] [b] pos) (mB (mOp2 (aDIn true) m1 m2)) := by
  obtain ⟨ta, pa, ea⟩ := ha
  obtain ⟨tb, pb, eb⟩ := hb
  refine ⟨_, pt_cmp (pc_dnotin hu pa pb) h1, ?_⟩
  have := evb_of (evd_op2 (o2_din (n := true)) ea eb)
  intro C F env σ H R Q I h k
  have q := this C F env σ H R Q I h k
  simpa [tOp, tDNotIn, rDIn, tB, tTest] using q
end

/-! ### enumerate of a tuple, of a text -/
theorem enum_new1 {v : Value} {o : Obj} {H : Heap → Prop} (B : Begins v o H) :
    Meets (Builtin.«enumerate.__new__» ⟨[.type "enumerate", v], []⟩) (fun _ R s => H s.heap ∧
      R (.ok (.ret (.ref (s.heap.push o).objs.size))) { s with heap := (s.heap.push o).push { cls := .type "enumerate", data := .fields #[.none, .bool false, .ref s.heap.objs.size, rawInt 0, .none, .none] } }) :=
  .of_wp fun prog w A R s h => by
    obtain ⟨hp, g, d, tk, os⟩ := s; obtain ⟨h1, h⟩ := h
    have hsub := sub_enumerate
    have q1 : ∀ {A' : Around} {E : Value → Shared → Prop} {Q : Value → Shared → Prop}, Q (.ref hp.objs.size) ⟨hp.push o, g, d, tk, os⟩ → wpAny (model prog w) A' (pyIter v) Q E ⟨hp, g, d, tk, os⟩ :=
      fun q => B.iter prog w _ _ ⟨hp, g, d, tk, os⟩ _ h1 q
    wp_walk using q1
    refine wpAny_stack_any fun st => wpAny_pure ?_
    split
    · rename_i c _ _ _ _ _
      cases (c == Value.type "enumerate")
      · wp_walk using q1
        exact ⟨_, rfl, h⟩
      · wp_walk using q1
        exact ⟨_, rfl, h⟩
    · wp_walk using q1
      exact ⟨_, rfl, h⟩
section
variable {prog : Program} {w : World} {A : Around} {E : Value → Shared → Prop} {s : Shared}
theorem enum_begins1 {v : Value} {o : Obj} {H : Heap → Prop} {Q : Value → Shared → Prop} (B : Begins v o H) (h1 : H s.heap)
    (h : ∀ h', IsEnum h' (s.heap.objs.size + 1) s.heap.objs.size 0 .none → h'.get? s.heap.objs.size = some o → h'.objs.size = s.heap.objs.size + 2 →
      (∀ b o, s.heap.get? b = some o → h'.get? b = some o) → Q (.ref (s.heap.objs.size + 1)) { s with heap := h' }) :
    wpAny (model prog w) A (call (.type "enumerate") [v]) Q E s := by
  refine callType_new F.called_enumerate (by decide) (F.typeCall_enumerate_1 _) (F.newCall_enumerate_1 _) (fun obj => F.args_object_init_2 obj _) F.entry_enumerate_new
    (enum_new1 B) ⟨h1, ?_⟩
  have hz : (s.heap.push o).objs.size = s.heap.objs.size + 1 := Heap.size_push ..
  show _ ∧ _
  rw [hz]
  have he : IsEnum ((s.heap.push o).push { cls := .type "enumerate", data := .fields #[.none, .bool false, .ref s.heap.objs.size, rawInt 0, .none, .none] }) (s.heap.objs.size + 1) s.heap.objs.size 0 .none := by
    have := Heap.get?_push_size (s.heap.push o) (o := { cls := .type "enumerate", data := .fields #[.none, .bool false, .ref s.heap.objs.size, rawInt 0, .none, .none] }) rfl
    rw [hz] at this; exact this
  refine ⟨⟨_, he, rfl⟩, h _ he (Heap.get?_push_of_some _ (Heap.get?_push_size _ B.free)) (by rw [Heap.size_push, hz]) fun b o x => Heap.get?_push_of_some _ (Heap.get?_push_of_some _ x)⟩
end
def Iten (K : PySem.W.Frag) (a : Addr) : It :=
  ⟨fun i H => ∃ (xs : List V) (x : V), SqT K H a xs ∧ xs[i]? = some x, fun i H v H' => ∃ T x, v = .ref T ∧ H T = none ∧ H' = upd H T (.tup [.int (i : Nat), x]) ∧ ∀ xs, SqT K H a xs → xs[i]? = some x, fun i H => ∃ xs : List V, SqT K H a xs ∧ xs.length ≤ i⟩
theorem turn_enumT {P : Program} {w : World} {K : PySem.W.Frag} {elts : List Expr} {kk : Nat} {tpos : Pos} (a e it : Addr) :
    Turn P w K (.Tuple elts kk tpos) (Iten K a) [e, it] e (fun i h => (∃ old, IsEnum h e it ((i : Nat) : Int) old) ∧ h.IsTupleIter it a i ∧ e ≠ it ∧ a ≠ it ∧ e ≠ a) where
  mem := by simp
  obj := fun i h st b hb => by
    obtain ⟨⟨old, he⟩, ⟨o, ho, hc, hd⟩, _⟩ := st
    have e' : b = e ∨ b = it := by simpa using hb
    rcases e' with z | z
    · rw [z]; exact ⟨_, he, fun v q => nomatch q⟩
    · rw [z]; exact ⟨o, ho, fun v q => by rw [hd] at q; cases q⟩
  keep := fun i h h' st k => let ⟨⟨old, he⟩, hi, hne⟩ := st; ⟨⟨old, k e (by simp) _ he⟩, hi.at fun o q => k it (by simp) o q, hne⟩
  item := by
    intro X hP hw hK hc i pins s σ H E I hf st hg
    subst hP hw hK
    obtain ⟨⟨old, he⟩, hit, hne, hai, hea⟩ := st
    obtain ⟨xs, x, hq, hx⟩ := hg
    obtain ⟨its, rv, p, hz⟩ := I.tuple hq
    obtain ⟨u, hu, ru⟩ := rv.get hx
    have hel : e < s.heap.objs.size := Heap.lt_size he
    have hil : it < s.heap.objs.size := by obtain ⟨_, q, _⟩ := hit; exact Heap.lt_size q
    have hi : i < its.toArray.size := by
      rcases Nat.lt_or_ge i its.length with z | z
      · simpa using z
      · rw [List.getElem?_eq_none (by simpa using z)] at hu; cases hu
    refine wpAny_pyNext_enum_itemD (Draws.tuple (A := X.A.in1) (I.ok.hd hc) it a hai its.toArray) he ⟨hit, show s.heap.IsTuple a its.toArray from p⟩ hi hne (by simp [hne, hea]) fun v h' tk hP ho hst hT hsz hk => ?_
    have hv : v = u := by
      have h1 : its[i]? = some v := by simpa using hP
      rw [hu] at h1; cases h1; rfl
    subst hv
    refine ⟨_, rfl, wpAny_letOwnedTupleGo_enum (s := { s with heap := h', toks := tk + 1 }) ho fun h'' he' sb => ?_⟩
    have hT2 : h''.get? s.heap.objs.size = some { cls := .type "tuple", data := .seq #[.int i tk, v] } := (sb.2 _ (Nat.ne_of_gt hel)).trans hT
    have new : ObjOk X.prog X.w (upd H s.heap.objs.size (.tup [.int (i : Nat), x])) h'' s.heap.objs.size (.tup [.int (i : Nat), x]) :=
      ⟨by show 2 ≤ sizeLine; decide, [.int i tk, v], .cons ⟨_, rfl⟩ (.cons ru .nil), ⟨_, hT2, rfl, _, rfl⟩⟩
    have I1 : Inv X pins σ (upd H s.heap.objs.size (.tup [.int (i : Nat), x])) { s with heap := h'', toks := tk + 1 } :=
      I.turnedNew (ch := [e, it]) (fun b ob hb q => (sb.2 b (fun z => hb (by simp [z]))).trans (hk b ob (fun z => hb (by simp [z])) (fun z => hb (by simp [z])) q)) hf (Nat.le_refl _) new
    refine ⟨.ref s.heap.objs.size, _, I1, rfl, ⟨_, x, rfl, I.hok.fresh (Nat.le_refl _), rfl, fun ys hy => by rw [I.tuple_inj hy hq]; exact hx⟩, ⟨⟨v, ?_⟩, hst.1.at fun o q => (sb.2 it (Ne.symm hne)).trans q, hne, hai, hea⟩, fun b hb => ?_⟩
    · have e1 : ((i + 1 : Nat) : Int) = (i : Int) + 1 := by omega
      rw [e1]; exact he'
    · have hb' : b < s.heap.objs.size := by
        have e' : b = e ∨ b = it := by simpa using hb
        rcases e' with z | z
        · rw [z]; exact hel
        · rw [z]; exact hil
      rw [upd_ne (Nat.ne_of_lt hb')]
      exact (hf b hb).1
  done := by
    intro X hP hw hK hc i pins s σ H E I hf st hg
    subst hP hw hK
    obtain ⟨⟨old, he⟩, hit, hne, hai, hea⟩ := st
    obtain ⟨xs, hq, hx⟩ := hg
    obtain ⟨its, rv, p, hz⟩ := I.tuple hq
    obtain ⟨f0, f1, f2, f3, f4, f5⟩ := hf it (by simp)
    have hl := rv.length
    have D : Draws X.prog X.w X.A.in1 it [it, a] i (fun _ _ => True) (fun j h => j = i ∧ h.IsTupleIter it a i ∧ h.IsTuple a its.toArray) := {
      live := fun _ _ st => let ⟨o, ho, _⟩ := st.2.1; ⟨o, ho⟩
      frame := fun _ _ _ st hk => ⟨st.1, st.2.1.at fun o e => hk it (by simp) o e, st.2.2.at fun o e => hk a (by simp) o e⟩
      item := fun j s Q E hj st hQ => absurd st.1 (Nat.ne_of_lt hj)
      done := fun s Q E st hE => wpAny_nextOf_tuple_end (A := X.A.in1) (I.ok.hd hc) st.2.1 st.2.2 (by simp; omega) hE }
    exact wpAny_pyNext_enum_endD D he ⟨rfl, hit, show s.heap.IsTuple a its.toArray from p⟩ fun h' eb => ⟨rfl, I.turned (t' := s.toks) (fun b o hb q => eb b o hb q) f0 f1 f3 f4 f5⟩
  self := fun A i s Q E st h => let ⟨⟨_, he⟩, _⟩ := st; wpAny_pyIter_enum he h
def iEnumA (K : PySem.W.Frag) (ta : TA) : TI := fun σ H R => ta σ H fun vs H1 => ∃ a, vs = [.ref a] ∧ ((∃ xs, SqL K H1 a xs ∧ R (Ite K a) H1) ∨ ∃ xs, SqT K H1 a xs ∧ R (Iten K a) H1)
theorem pi_enumA {X : Cx} {e : Expr} {ta : TA} {p pos tpos : Pos} {elts : List Expr} {kk : Nat} (hg : Gl X "enumerate") (hm : X.mg "enumerate" = none) (ha : PA X [e] ta) (hs : starEach [e] X.env = [(false, eval e X.env)] := by rfl) :
    PI X (.Tuple elts kk tpos) (.Call (.Name "enumerate" p) [e] [] pos) (iEnumA X.K ta) := by
  refine ⟨fun pins s σ H R I h => ?_⟩
  refine Call_ (ld_blt I hg hm boot_enumerate (PyProof.Rows.callWith_type1 (thn (ha.run pos pins s σ H _ I h) fun us s1 ⟨vs, H1, I1, r1, q1⟩ => ?_) hs rfl))
  obtain ⟨a, ex, q1⟩ := q1
  subst ex
  cases r1 with
  | cons r rr =>
    cases rr
    cases r
    have fo : ∀ b ∈ [s1.heap.objs.size + 1, s1.heap.objs.size], FpOk X pins H1 b := fun b hb => by
      have e' : b = s1.heap.objs.size + 1 ∨ b = s1.heap.objs.size := by simpa using hb
      have hle : s1.heap.objs.size ≤ b := by
        rcases e' with z | z
        · rw [z]; exact Nat.le_add_right _ _
        · rw [z]; exact Nat.le_refl _
      exact I1.fpOk hle (I1.hok.fresh hle)
    rcases q1 with ⟨xs, hq, q⟩ | ⟨xs, hq, q⟩
    · obtain ⟨its, rv, p', hz⟩ := I1.list hq
      refine call_enumerate_list p'.isList fun h' he hit hsz hk => wpAny_pyIter_enum he ?_
      have I2 : Inv X pins σ H1 { s1 with heap := h' } := I1.kept (t' := s1.toks) hk
      exact ⟨s1.heap.objs.size + 1, [s1.heap.objs.size + 1, s1.heap.objs.size], _, _, H1, rfl, I2, turn_enum a (s1.heap.objs.size + 1) s1.heap.objs.size, ⟨⟨.none, he⟩, hit, Nat.succ_ne_self _⟩, fo, q⟩
    · obtain ⟨its, rv, p', hz⟩ := I1.tuple hq
      have pt : s1.heap.IsTuple a its.toArray := p'
      have hal : a < s1.heap.objs.size := by obtain ⟨_, z, _⟩ := pt; exact Heap.lt_size z
      refine enum_begins1 (begins_tuple a its.toArray) pt fun h' he hit hsz hk => wpAny_pyIter_enum he ?_
      have I2 : Inv X pins σ H1 { s1 with heap := h' } := I1.kept (t' := s1.toks) hk
      exact ⟨s1.heap.objs.size + 1, [s1.heap.objs.size + 1, s1.heap.objs.size], _, _, H1, rfl, I2, turn_enumT a (s1.heap.objs.size + 1) s1.heap.objs.size, ⟨⟨.none, he⟩, ⟨_, hit, rfl, rfl⟩, Nat.succ_ne_self _, Nat.ne_of_lt hal, Nat.ne_of_gt (Nat.lt_succ_of_lt hal)⟩, fo, q⟩
theorem it_enumT {K : PySem.W.Frag} {C : Ct} {F0 : Hp} {σ0 : L2.St} {a : Addr} {ds : List D} {hold : Holds} (n : NowT K C F0 σ0 a ds hold) : IterOk K C F0 σ0 (Iten K a) (enumD 0 ds) hold := by
  intro i F env σ H I e h s
  obtain ⟨vs, q, r⟩ := n F env σ H I e h s
  rw [enumD_length]
  refine ⟨fun hi => ?_, fun hi => ⟨vs, q, by rw [r.length]; exact hi⟩⟩
  obtain ⟨v, h1, h2⟩ := r.get (List.getElem?_eq_getElem hi)
  refine ⟨⟨vs, v, q, h1⟩, fun x H' y => ?_⟩
  obtain ⟨T, x', rfl, hT, rfl, y⟩ := y
  have := y vs q
  rw [h1] at this; cases this
  obtain ⟨F', B, rp⟩ := lay_pair I hT (Rep.int (i : Int)) h2
  refine ⟨F', _, ?_, B, rp⟩
  rw [enumD_get, List.getElem?_eq_getElem hi, Nat.zero_add]
  rfl
@[simp] def sqOf (l : RV) (env : List Slot) (R : List D → Holds → Prop) : Prop := match l with
  | .vl (.lst ds) => R ds []
  | .vl (.tup ds) => R ds []
  | .tm (.lst ds) => R ds []
  | .sl i => match env[i]? with
    | some (.val (.lst ds)) => R ds []
    | some (.val (.tup ds)) => R ds []
    | some (.own _ (.lst ds)) => R ds [(i, ds)]
    | _ => False
  | _ => False
theorem nowA_of {K : PySem.W.Frag} {C : Ct} {F F' H H' : Hp} {env env' : List Slot} {σ : L2.St} {v : V} {l : RV} (A : Aft K C F env σ H F' env' H') (r : RVOk K C F' env' σ H H' v l) {R : List D → Holds → Prop}
    (h : sqOf l env' R) : ∃ F2 a ds hold, v = .ref a ∧ R ds hold ∧ Aft K C F env σ H F2 env' H' ∧ Ex F' F2 ∧ holdE hold env' ∧ ((NowL K C F2 σ a ds hold ∧ ∃ vs, H' a = some (.lst vs)) ∨ (NowT K C F2 σ a ds hold ∧ ∃ vs, SqT K H' a vs)) := by
  have ls : lsOf l env' R → ∃ F2 a ds hold, v = .ref a ∧ R ds hold ∧ Aft K C F env σ H F2 env' H' ∧ Ex F' F2 ∧ holdE hold env' ∧ ((NowL K C F2 σ a ds hold ∧ ∃ vs, H' a = some (.lst vs)) ∨ (NowT K C F2 σ a ds hold ∧ ∃ vs, SqT K H' a vs)) := fun h => by
    obtain ⟨F2, a, ds, hold, e, hR, A2, ex, nw, hh, hv⟩ := now_of A r h
    exact ⟨F2, a, ds, hold, e, hR, A2, ex, hh, Or.inl ⟨nw, hv⟩⟩
  have tp : ∀ ds, l.get env' (fun d => d = .tup ds) → R ds [] → ∃ F2 a ds hold, v = .ref a ∧ R ds hold ∧ Aft K C F env σ H F2 env' H' ∧ Ex F' F2 ∧ holdE hold env' ∧ ((NowL K C F2 σ a ds hold ∧ ∃ vs, H' a = some (.lst vs)) ∨ (NowT K C F2 σ a ds hold ∧ ∃ vs, SqT K H' a vs)) := fun ds hd hR => by
    obtain ⟨F2, d, rfl, A2, ex, rp⟩ := A.keepIt r hd
    cases rp with
    | tup e q => exact ⟨F2, _, ds, [], rfl, hR, A2, ex, trivial, Or.inr ⟨fun F env σ H I x _ _ => ⟨_, ex_t I.sub (ex_t x e), q.mono x⟩, _, ex_t A2.ok.sub e⟩⟩
  cases l with
  | vl d =>
    cases d with
    | lst ds => exact ls h
    | tup ds => exact tp ds rfl h
    | _ => exact h.elim
  | tm d =>
    cases d with
    | lst ds => exact ls h
    | _ => exact h.elim
  | sl i =>
    have h' : (match env'[i]? with | some (.val (.lst ds)) => R ds [] | some (.val (.tup ds)) => R ds [] | some (.own _ (.lst ds)) => R ds [(i, ds)] | _ => False) := h
    split at h'
    · rename_i ds e; exact ls (by simp [e]; exact h')
    · rename_i ds e; exact tp ds (by simp [e]) h'
    · rename_i b ds e; exact ls (by simp [e]; exact h')
    · exact h'.elim
@[simp] def mSq (m : DM) : DMI := fun env R => m env fun x e1 => sqOf x e1 fun ds hold => R ds hold e1
@[simp] def mEnumA (m : DM) : DMI := fun env R => mSq m env fun ds hold e1 => R (enumD 0 ds) hold e1
theorem di_enumA {X : Cx} {e : Expr} {p pos tpos : Pos} {elts : List Expr} {kk : Nat} {m : DM} (hg : Gl X "enumerate") (hm : X.mg "enumerate" = none) (h : DE X e m) (hs : starEach [e] X.env = [(false, eval e X.env)] := by rfl) (hs' : starEach [e] X.env = (false, eval e X.env) :: starEach [] X.env := by rfl) : DI X (.Tuple elts kk tpos) (.Call (.Name "enumerate" p) [e] [] pos) (mEnumA m) := by
  obtain ⟨t, q, ev⟩ := h
  refine ⟨_, pi_enumA hg hm (pa_cons q pa_nil hs') hs, ?_⟩
  intro C F env σ H R Q I h k
  refine ev C F env σ H _ _ I h ?_
  intro x e1 F1 v H1 h1 A1 r1
  obtain ⟨F2, a, ds, hold, rfl, hR, A2, ex, hh, nw⟩ := nowA_of A1 r1 (R := fun ds hold => R (enumD 0 ds) hold e1) h1
  rcases nw with ⟨nw, vs, hv⟩ | ⟨nw, vs, hv⟩
  · exact ⟨a, rfl, Or.inl ⟨vs, sq_of hv, k _ _ e1 F2 H1 _ hR A2 (it_enum nw) hh⟩⟩
  · exact ⟨a, rfl, Or.inr ⟨vs, hv, k _ _ e1 F2 H1 _ hR A2 (it_enumT nw) hh⟩⟩

/-! ### what isinstance tells of built-in types -/
section
variable {K : PySem.W.Frag}
theorem kt_int : ∀ d : D, PySem.W.kitOne K (.type d.ty) (.type "int") = some (isTy d "int")
  | .non => by rfl
  | .bl _ => by rfl
  | .int _ => by rfl
  | .str _ => by rfl
  | .lst _ => by rfl
  | .tup _ => by rfl
  | .dic _ => by rfl
  | .scr _ => by rfl
  | .fn _ => by rfl
  | .obj _ _ => by rfl
  | .exc _ _ _ => by rfl
theorem kt_bool : ∀ d : D, PySem.W.kitOne K (.type d.ty) (.type "bool") = some (isTy d "bool")
  | .non => by rfl
  | .bl _ => by rfl
  | .int _ => by rfl
  | .str _ => by rfl
  | .lst _ => by rfl
  | .tup _ => by rfl
  | .dic _ => by rfl
  | .scr _ => by rfl
  | .fn _ => by rfl
  | .obj _ _ => by rfl
  | .exc _ _ _ => by rfl
theorem kt_str : ∀ d : D, PySem.W.kitOne K (.type d.ty) (.type "str") = some (isTy d "str")
  | .non => by rfl
  | .bl _ => by rfl
  | .int _ => by rfl
  | .str _ => by rfl
  | .lst _ => by rfl
  | .tup _ => by rfl
  | .dic _ => by rfl
  | .scr _ => by rfl
  | .fn _ => by rfl
  | .obj _ _ => by rfl
  | .exc _ _ _ => by rfl
theorem kt_list : ∀ d : D, PySem.W.kitOne K (.type d.ty) (.type "list") = some (isTy d "list")
  | .non => by rfl
  | .bl _ => by rfl
  | .int _ => by rfl
  | .str _ => by rfl
  | .lst _ => by rfl
  | .tup _ => by rfl
  | .dic _ => by rfl
  | .scr _ => by rfl
  | .fn _ => by rfl
  | .obj _ _ => by rfl
  | .exc _ _ _ => by rfl
theorem kt_tuple : ∀ d : D, PySem.W.kitOne K (.type d.ty) (.type "tuple") = some (isTy d "tuple")
  | .non => by rfl
  | .bl _ => by rfl
  | .int _ => by rfl
  | .str _ => by rfl
  | .lst _ => by rfl
  | .tup _ => by rfl
  | .dic _ => by rfl
  | .scr _ => by rfl
  | .fn _ => by rfl
  | .obj _ _ => by rfl
  | .exc _ _ _ => by rfl
theorem kt_dict : ∀ d : D, PySem.W.kitOne K (.type d.ty) (.type "dict") = some (isTy d "dict")
  | .non => by rfl
  | .bl _ => by rfl
  | .int _ => by rfl
  | .str _ => by rfl
  | .lst _ => by rfl
  | .tup _ => by rfl
  | .dic _ => by rfl
  | .scr _ => by rfl
  | .fn _ => by rfl
  | .obj _ _ => by rfl
  | .exc _ _ _ => by rfl
theorem kt2 {T U : String} (h1 : ∀ d : D, PySem.W.kitOne K (.type d.ty) (.type T) = some (isTy d T)) (h2 : ∀ d : D, PySem.W.kitOne K (.type d.ty) (.type U) = some (isTy d U)) (d : D) :
    PySem.W.kitAny K (.type d.ty) [.type T, .type U] = some (isTy d T || isTy d U) := by
  unfold PySem.W.kitAny
  rw [h1 d]
  cases isTy d T
  · unfold PySem.W.kitAny
    rw [h2 d]
    cases isTy d U <;> rfl
  · rfl
end
end DL

set_option Elab.async false
set_option linter.all false
set_option maxRecDepth 100000
set_option maxHeartbeats 4000000
set_option autoImplicit false
/-! DL16: pairs of results; two names given new things at once; a loop over two names that changes what they hold for the last time. -/
namespace DL
open PySem PySem.Spec L2 Evl PyProof.Rows

section
variable {K : PySem.W.Frag} {C : Ct} {F F' H H0 H' : Hp} {env env' : List Slot} {σ : L2.St} {u w : V}
@[simp] def putR (j : Nat) (x : RV) (env : List Slot) (R : List Slot → Prop) : Prop := match x with
  | .vl d => Free env j ∧ R (env.set j (.val d))
  | .tm d => Free env j ∧ R (env.set j (.own false d))
  | .sl _ => False
theorem ok_put {j : Nat} {x : RV} {R : List Slot → Prop} (I : Ok K C F env σ H) (r : RVOk K C F env σ H0 H u x) (h : putR j x env R) :
    ∃ env', R env' ∧ Ok K C F env' (σ.set j (some u)) H ∧ ∀ y, RVOk K C F env σ H0 H w y → (∀ i, y ≠ .sl i) → ((∃ d, x = .tm d) → (∃ d, y = .tm d) → u ≠ w) → RVOk K C F env' (σ.set j (some u)) H0 H w y := by
  cases x with
  | vl d =>
    refine ⟨_, h.2, I.setVal h.1 r, fun y ry ns _ => ?_⟩
    cases y with
    | vl e => exact ry
    | tm e =>
      obtain ⟨p, o, rfl, g1, g2, g3, g4, g5, g6⟩ := ry
      refine ⟨p, o, rfl, g1, g2, g3, g4, fun i ⟨b, d1, e1, s1⟩ => ?_, g6⟩
      by_cases q : j = i
      · subst q
        rw [List.getElem?_set] at e1
        split at e1
        · split at e1 <;> cases e1
        · exact absurd rfl ‹¬ _›
      · rw [List.getElem?_set_ne q] at e1 s1
        exact g5 i ⟨b, d1, e1, s1⟩
    | sl i => exact absurd rfl (ns i)
  | tm d =>
    obtain ⟨p, o, rfl, f1, f2, f3, f4, f5, f6⟩ := r
    refine ⟨_, h.2, I.setOwn h.1 f1 f2 f3 f4 f5, fun y ry ns ne => ?_⟩
    cases y with
    | vl e => exact ry
    | tm e =>
      obtain ⟨p', o', rfl, g1, g2, g3, g4, g5, g6⟩ := ry
      refine ⟨p', o', rfl, g1, g2, g3, g4, fun i ⟨b, d1, e1, s1⟩ => ?_, g6⟩
      by_cases q : j = i
      · subst q
        rw [List.getElem?_set] at s1
        split at s1
        · split at s1
          · have := ne ⟨_, rfl⟩ ⟨_, rfl⟩
            cases s1
            exact this rfl
          · cases s1
        · exact absurd rfl ‹¬ _›
      · rw [List.getElem?_set_ne q] at e1 s1
        exact g5 i ⟨b, d1, e1, s1⟩
    | sl i => exact absurd rfl (ns i)
  | sl i => exact h.elim
@[simp] def put2 (i j : Nat) (x y : RV) (env : List Slot) (R : List Slot → Prop) : Prop := putR i x env fun e => putR j y e R
theorem put_ns {j : Nat} {y : RV} {R : List Slot → Prop} (h : putR j y env R) : ∀ i, y ≠ .sl i := by
  rintro i rfl
  exact h
end

section
variable {X : Cx} {pos : Pos}
@[simp] def mPar2X (i j : Nat) (a b : DM) : DStm := fun P env => a env fun x e1 => b e1 fun y e2 => (∀ k, y ≠ .sl k) ∧ put2 i j x y e2 P.nx
theorem ds_par2X {i j : Nat} {x y : Str} {a b : Expr} {m1 m2 : DM} {px py pt : Pos} {kt k2 pt2} (hc : X.calm = true) (hN : X.N.Nodup) (hi : X.N[i]? = some x) (hj : X.N[j]? = some y) (hij : i ≠ j)
    (hx : X.env.scope.names.lookup x = some .local) (hy : X.env.scope.names.lookup y = some .local) (h1 : DE X a m1) (h2 : DE X b m2)
    (hw : swappedStores [.Tuple [.Name x px, .Name y py] kt pt] (.Tuple [a, b] k2 pt2) X.env = pure (some [x, y]))
    (hs : swapsWithSole [.Tuple [.Name x px, .Name y py] kt pt] (.Tuple [a, b] k2 pt2) pos.line X.env = pure false := by rfl)
    (hs1 : starEach (a :: [b]) X.env = (false, eval a X.env) :: starEach [b] X.env := by rfl) (hs2 : starEach (b :: []) X.env = (false, eval b X.env) :: starEach [] X.env := by rfl) :
    DS X (.Assign [.Tuple [.Name x px, .Name y py] kt pt] (.Tuple [a, b] k2 pt2) pos) (mPar2X i j m1 m2) := by
  obtain ⟨t, p, ev⟩ := h1
  obtain ⟨t', p', ev'⟩ := h2
  refine ⟨_, ps_par hc hN hi hj hij hx hy (pa_cons p (pa_cons p' pa_nil hs2) hs1) hw hs, ?_⟩
  intro C F env σ H D P I h k
  refine ev C F env σ H _ _ I h ?_
  intro x e1 F1 v H1 h1 A1 r1
  refine ev' C F1 e1 σ H1 _ _ A1.ok h1 ?_
  intro y e2 F2 w H2 h2 A2 r2
  refine ⟨v, w, rfl, ?_⟩
  have ns := h2.1
  obtain ⟨e3, h3, I3, more⟩ := ok_put (H0 := H) A2.ok (r1.on A2) h2.2
  have r2' := more y (r2.from fun p => A1.back) ns (by
    rintro ⟨d, rfl⟩ ⟨d', rfl⟩ rfl
    obtain ⟨q, o, rfl, g1, _⟩ := r1
    obtain ⟨q', o', e, _, _, _, _, _, z⟩ := r2
    cases e
    rw [g1] at z; cases z)
  obtain ⟨e4, h4, I4, _⟩ := ok_put (H0 := H) (w := .non) I3 r2' h3
  exact k.nx F2 e4 _ H2 I4 h4
@[simp] def rv1 (x : RV) (e : List Slot) (R : RV → Prop) : Prop := match x with
  | .vl d => R (.vl d)
  | .tm d => R (.tm d)
  | .sl i => match e[i]? with
    | some (.val d) => R (.vl d)
    | some (.own false d) => R (.tm d)
    | _ => False
@[simp] def mRet2 (a b : DM) : DStm := fun P env => a env fun x e1 => b e1 fun y e2 => x ≠ y ∧ rv1 x e2 fun x' => rv1 y e2 fun y' => P.r2 x' y' e2
theorem rv1_ok {K : PySem.W.Frag} {C : Ct} {F H H0 : Hp} {env : List Slot} {σ : L2.St} {v : V} {x : RV} {R : RV → Prop} (I : Ok K C F env σ H) (r : RVOk K C F env σ H0 H v x) (h : rv1 x env R) :
    ∃ x', R x' ∧ RetOk K C F H v x' ∧ ((∃ d, x' = .tm d) → (∃ p, v = .ref p ∧ ((∃ d, x = .tm d) ∨ ∃ i, x = .sl i ∧ Owns env σ i p))) := by
  cases x with
  | vl d => exact ⟨.vl d, h, r, fun ⟨_, e⟩ => by cases e⟩
  | tm d =>
    obtain ⟨p, o, e, g1, g2, g3, g4, _⟩ := r
    exact ⟨.tm d, h, ⟨p, o, e, g1, g2, g3, g4⟩, fun _ => ⟨p, e, Or.inl ⟨d, rfl⟩⟩⟩
  | sl i =>
    have h' : (match env[i]? with | some (.val d) => R (.vl d) | some (.own false d) => R (.tm d) | _ => False) := h
    have r' : σ[i]? = some (some v) := r
    split at h'
    · rename_i d e
      obtain ⟨w, q1, q2⟩ := I.vals i d e
      rw [r'] at q1; cases q1
      exact ⟨.vl d, h', q2, fun ⟨_, e⟩ => by cases e⟩
    · rename_i d e
      obtain ⟨q, o, q1, q2, q3, q4, q5, _⟩ := I.owns i false d e
      rw [r'] at q1; cases q1
      exact ⟨.tm d, h', ⟨q, o, rfl, q2, q3, q4, q5 rfl⟩, fun _ => ⟨q, rfl, Or.inr ⟨i, rfl, false, d, e, r'⟩⟩⟩
    · exact h'.elim
theorem RetOk.tmp {K : PySem.W.Frag} {C : Ct} {F H : Hp} {v : V} {x : RV} {T : Addr} {o : HO} (hT : H T = none) (r : RetOk K C F H v x) : RetOk K C F (upd H T o) v x := by
  cases x with
  | vl d => exact r
  | tm d =>
    obtain ⟨p, u, e, g1, g2, g3, g4⟩ := r
    exact ⟨p, u, e, by rw [upd_ne (ne_of_none g1 hT)]; exact g1, g2, g3, g4⟩
  | sl i => exact r
theorem ds_ret2 {a b : Expr} {m1 m2 : DM} {kt : _} {pt : Pos} (h1 : DE X a m1) (h2 : DE X b m2) (hs1 : starEach (a :: [b]) X.env = (false, eval a X.env) :: starEach [b] X.env := by rfl) (hs2 : starEach (b :: []) X.env = (false, eval b X.env) :: starEach [] X.env := by rfl) :
    DS X (.Return (some (.Tuple [a, b] kt pt)) pos) (mRet2 m1 m2) := by
  obtain ⟨t, p, ev⟩ := h1
  obtain ⟨t', p', ev'⟩ := h2
  refine ⟨_, ps_ret (pe_tup (pa_cons p (pa_cons p' pa_nil hs2) hs1)), ?_⟩
  intro C F env σ H D P I h k
  refine ev C F env σ H _ _ I h ?_
  intro x e1 F1 v H1 h1 A1 r1
  refine ev' C F1 e1 σ H1 _ _ A1.ok h1 ?_
  intro y e2 F2 w H2 h2 A2 r2
  obtain ⟨nxy, h2⟩ := h2
  refine ⟨by show 2 ≤ sizeLine; decide, fun T hT => ?_⟩
  obtain ⟨x', h3, q1, t1⟩ := rv1_ok A2.ok (r1.on A2) h2
  obtain ⟨y', h4, q2, t2⟩ := rv1_ok A2.ok r2 h3
  have B := A2.ok.tmp hT (.tup [v, w])
  refine k.r2 F2 e2 σ _ (.ref T) x' y' B.ok ⟨T, v, w, rfl, st_of upd_same, q1.tmp hT, q2.tmp hT, fun a b => ?_⟩ h4
  rintro rfl
  obtain ⟨p1, e1', o1⟩ := t1 a
  obtain ⟨p2, e2', o2⟩ := t2 b
  subst e1'
  cases e2'
  rcases o1 with ⟨d1, rfl⟩ | ⟨i, rfl, w1⟩
  · obtain ⟨q, o, e, g1, g2, g3, g4, g5, g6⟩ := r1
    cases e
    rcases o2 with ⟨d2, rfl⟩ | ⟨j, rfl, w2⟩
    · obtain ⟨q', o', e, _, _, _, _, _, z⟩ := r2
      cases e
      rw [g1] at z; cases z
    · exact g5 j (A2.le.owns w2)
  · rcases o2 with ⟨d2, rfl⟩ | ⟨j, rfl, w2⟩
    · obtain ⟨q', o', e, _, _, _, _, z, _⟩ := r2
      cases e
      exact z i w1
    · exact nxy (by rw [A2.ok.sep i j _ w1 w2])

/-! ### a def that gives a pair -/
abbrev DSpec2 := List Slot → (RV → RV → List Slot → Prop) → Prop
def Res1 (K : PySem.W.Frag) (F' H H' : Hp) (v : V) : RV → Prop
  | .vl d => Rep K F' v d
  | .tm d => ∃ p o, v = .ref p ∧ H' p = some o ∧ RepO K F' o d ∧ F' p = none ∧ H p = none
  | .sl _ => False
def spD2 (K : PySem.W.Frag) (sd : DSpec2) : Sp := fun vs H Q _ => ∃ F args R, ArgsOk K F args vs H ∧ (∀ (i : Nat) (d : D), args[i]? ≠ some (.own false d)) ∧ sd args R ∧
  ∀ x y args' F' T u w H', R x y args' → Done K F args vs H (.vl .non) args' F' .non H' → SqT K H' T [u, w] → Res1 K F' H H' u x → Res1 K F' H H' w y → ((∃ d, x = .tm d) → (∃ d, y = .tm d) → u ≠ w) → Q (.ref T) H'
theorem FunG.ok2 {P : Program} {w : World} {K : PySem.W.Frag} {mg : Str → Option Value} {base : Heap} {qual : Str} {body : List Stmt} {scope : Scope} {f : Addr} {fd : FuncData} {N ps : List Str} {k : Nat} {sd : DSpec2} {m : DStm}
    (F : FunG K qual body scope f fd) (S : FnScope N ps scope) (len : ∀ args R, sd args R → args.length = ps.length)
    (hbody : ∀ (cdv : Value) (A : Around) (outer : List PySem.Env) (s : Shared) (H : Hp) (E : XK), A.guards = some [] → Room k (A.deeper (envOfC qual scope s.heap.objs.size f cdv)) →
      DB (cxOf CX0 P w K mg base N qual scope f cdv A outer s H E).nox body m)
    (hm : ∀ args R, sd args R → m { nx := fun _ => False, rt := fun _ _ => False, r2 := fun x y e => R x y (outs ps.length e) } (startE N.length args)) :
    FnG P w K mg base CX0 (k + 1) f fd ps (spD2 K sd) := by
  obtain ⟨oc, od, name, params, dV, kV, doc, pm, an, cdv, ct, osl, rfl, lk, hcd⟩ := F.ex
  refine fnG_of lk hcd S ?_ ?_
  · rintro vs H Q E ⟨F, args, R, h1, _, h2, _⟩
    have := h1.len
    rw [List.length_map] at this
    rw [this, len args R h2]
  rintro A outer s H vs Q E hg hr ⟨F0, args, R, h1, np, h2, h3⟩
  obtain ⟨t, ht, ev⟩ := hbody cdv A outer s H E hg hr
  refine ⟨t, ht.nox, ?_⟩
  have hl : args.length = ps.length := len args R h2
  have hv : vs.length = args.length := by have := h1.len; rwa [List.length_map] at this
  have fin : ∀ F' env σ H' v x y, Ok K (ctOf args vs F0 H) F' env σ H' → Ret2 K (ctOf args vs F0 H) F' H' v x y → R x y (outs ps.length env) → Q v H' := by
    intro F' env σ H' v x y I' ro hR
    obtain ⟨T, u, w, rfl, hq, ru, rw', ne⟩ := ro
    refine h3 x y _ F' T u w H' hR ⟨I'.bas, I'.sub, I'.keep, I'.all, I'.new, fun i b d e => ?_, Rep.non⟩ hq (by cases x <;> exact ru) (by cases y <;> exact rw') ne
    cases b with
    | false => exact absurd e (np i d)
    | true =>
      obtain ⟨d', e'⟩ := I'.pins i ⟨true, d, e⟩
      have hi : i < ps.length := by
        rw [← hl]
        rcases Nat.lt_or_ge i args.length with z | z
        · exact z
        · rw [List.getElem?_eq_none (by simpa using z)] at e; cases e
      obtain ⟨p, o, g1, g2, g3, g4, g5, g6⟩ := I'.owns i true d' e'
      obtain ⟨q1, q2, q3⟩ := g6 rfl
      refine ⟨p, o, d', q1, ?_, g2, g3⟩
      unfold outs
      rw [List.getElem?_map, List.getElem?_take_of_lt hi, e']
      rfl
  exact ev (ctOf args vs F0 H) F0 _ _ H _ _ (ok_start N h1 np) (hm args R h2) ⟨fun _ _ _ _ _ z => z.elim, fun _ _ _ _ _ z => z.elim, fun _ _ _ _ _ z => z.elim, fun _ _ _ _ _ _ _ _ z => z.elim, fun F env σ H' v x y I' ro q => fin F env σ H' v x y I' ro q⟩
structure Cal2 (P : Program) (w : World) (K : PySem.W.Frag) (mg : Str → Option Value) (base : Heap) (x : Str) (st : Stmt) (k : Nat) (ps : List Str) (sd : DSpec2) : Prop where
  ex : ∃ f fd, Fun K x x st f fd ∧ FnG P w K mg base CX0 k f fd ps (spD2 K sd) ∧ mg x = some (.ref f) ∧ Binds K fd ps []
@[simp] def mUn2 (i j : Nat) (sd : DSpec2) (a : DMC) : DStm := fun P env => a env fun as e => apart e as = true ∧ sd (as.map (resolve e)) fun x y ss => (∀ k, y ≠ .sl k) ∧ put2 i j x y (putB as ss e) P.nx
theorem ds_un2 {k : Nat} {st : Stmt} {ps : List Str} {sd : DSpec2} {f x y : Str} {p pt px py : Pos} {kt : _} {e : Expr} {es : List Expr} {i j : Nat} (hc : X.calm = true) (c : Cal2 X.prog X.w X.K X.mg X.base f st k ps sd) (hgd : X.A.guards = some []) (hr : Room k X.A) (hg : Gl X f)
    (hN : X.N.Nodup) (hi : X.N[i]? = some x) (hj : X.N[j]? = some y) (hx : Loc X.env.scope x) (hy : Loc X.env.scope y) {mc : DMC} (h : DC X (e :: es) mc)
    (hdb : (f == ("__debug__" : Str)) = false := by decide) (he : starEach (e :: es) X.env = (false, eval e X.env) :: starEach es X.env := by rfl) (hpl : (backTo p (starEach es X.env)).any (·.1) = false := by rfl)
    (hfx : X.fn x = true ∨ X.env.scope.names.lookup x = some .local := by first | exact .inl rfl | exact .inr rfl | assumption) (hfy : X.fn y = true ∨ X.env.scope.names.lookup y = some .local := by first | exact .inl rfl | exact .inr rfl | assumption)
    (hn : (assignEach [.Name x px, .Name y py] X.env).length = 2 := by rfl) (hst : (assignEach [.Name x px, .Name y py] X.env).findIdx? (·.1) = none := by rfl)
    (ha1 : (assignEach [.Name x px, .Name y py] X.env).map (·.2) = assign (.Name x px) X.env :: (assignEach [.Name y py] X.env).map (·.2) := by rfl)
    (ha2 : (assignEach [.Name y py] X.env).map (·.2) = assign (.Name y py) X.env :: (assignEach [] X.env).map (·.2) := by rfl) {pf : Pos}
    (hs : swapsWithSole [.Tuple [.Name x px, .Name y py] kt pt] (.Call (.Name f pf) (e :: es) [] p) pos.line X.env = pure false := by rfl) (hw : swappedStores [.Tuple [.Name x px, .Name y py] kt pt] (.Call (.Name f pf) (e :: es) [] p) X.env = pure none := by rfl)
    (h1 : (assignEach [.Tuple [.Name x px, .Name y py] kt pt] X.env).map (·.2) = [assign (.Tuple [.Name x px, .Name y py] kt pt) X.env] := by rfl) :
    DS X (.Assign [.Tuple [.Name x px, .Name y py] kt pt] (.Call (.Name f pf) (e :: es) [] p) pos) (mUn2 i j sd mc) := by
  obtain ⟨fa, fd, Fn, G, hm, hb⟩ := c.ex
  obtain ⟨t, pa, ev⟩ := h
  refine ⟨_, ps_asg (pe_callG (E := E0) G hgd hr hg hm Fn.kp hb .nil pass0 pa hdb he hpl) (pg_tup hc (pgs_cons (pg_name hN hi hx hfx) (pgs_cons (pg_name hN hj hy hfy) pgs_nil ha2) ha1) hn hst) hs hw h1, ?_⟩
  intro C F env σ H D P I h k
  refine ev C F env σ H _ _ I h ?_
  intro as e1 F1 vs H1 h1 A1 r1
  obtain ⟨ap, h1⟩ := h1
  obtain ⟨c1, c2, c3⟩ := call_parts A1.ok r1 ap
  rw [List.append_nil]
  refine ⟨F1, as.map (resolve e1), _, c1, c2, h1, ?_⟩
  intro x y ss F' T u w H' hR dn hq ru rw' ne
  obtain ⟨B, no⟩ := c3 _ ss F' _ H' dn
  have A := A1.trans B
  have conv : ∀ (v : V) (z : RV), Res1 X.K F' H1 H' v z → RVOk X.K C F' (putB as ss e1) σ H1 H' v z := fun v z rz => by
    cases z with
    | vl d => exact rz
    | tm d =>
      obtain ⟨p, o, e, g1, g2, g3, g4⟩ := rz
      exact ⟨p, o, e, g1, g2, g3, A1.ok.gnone g4, no p g4, g4⟩
    | sl i => exact rz.elim
  refine ⟨T, [u, w], rfl, hq, rfl, u, [w], rfl, ?_⟩
  obtain ⟨ns, hR⟩ := hR
  obtain ⟨e3, h3, I3, more⟩ := ok_put (H0 := H1) A.ok (conv u x ru) hR
  refine ⟨w, [], rfl, rfl, ?_⟩
  obtain ⟨e4, h4, I4, _⟩ := ok_put (H0 := H1) (w := .non) I3 (more y (conv w y rw') ns ne) h3
  exact k.nx F' e4 _ H' I4 h4
end
end DL

set_option Elab.async false
set_option linter.all false
set_option maxRecDepth 100000
set_option maxHeartbeats 4000000
set_option autoImplicit false
/-! DL17: for z in (x, y): if z is not None: z.append(..), x and y never asked again. -/
namespace DL
open PySem PySem.Spec L2 Evl PyProof.Rows

section
variable {K : PySem.W.Frag} {C : Ct} {F H : Hp} {env : List Slot} {σ σ' : L2.St} {k : Nat}
theorem no_get {i : Nat} {s : Slot} (h : (env.set k .no)[i]? = some s) (n : s ≠ .no) : k ≠ i ∧ env[i]? = some s := by
  by_cases q : k = i
  · subst q
    rw [List.getElem?_set] at h
    split at h
    · split at h
      · cases h; exact absurd rfl n
      · cases h
    · exact absurd rfl ‹¬ _›
  · rw [List.getElem?_set_ne q] at h
    exact ⟨q, h⟩
theorem Ok.drop (h : Ok K C F env σ H) (f : Free env k) (hl : σ'.length = σ.length) (hs : ∀ n, n ≠ k → σ'[n]? = σ[n]?) : Ok K C F (env.set k .no) σ' H where
  len := by rw [hl, List.length_set]; exact h.len
  sub := h.sub
  keep := h.keep
  all := h.all
  new := h.new
  bas := h.bas
  vals := fun i d e => by
    obtain ⟨q, e'⟩ := no_get e (by simp)
    rw [hs i (Ne.symm q)]
    exact h.vals i d e'
  owns := fun i b d e => by
    obtain ⟨q, e'⟩ := no_get e (by simp)
    rw [hs i (Ne.symm q)]
    exact h.owns i b d e'
  sep := fun i j p ⟨b, d, e1, s1⟩ ⟨b2, d2, e2, s2⟩ => by
    obtain ⟨q1, e1'⟩ := no_get e1 (by simp)
    obtain ⟨q2, e2'⟩ := no_get e2 (by simp)
    rw [hs i (Ne.symm q1)] at s1
    rw [hs j (Ne.symm q2)] at s2
    exact h.sep i j p ⟨b, d, e1', s1⟩ ⟨b2, d2, e2', s2⟩
  pins := fun i q => Free.pins f (h.pins i q)
theorem Ok.poke (h : Ok K C F env σ H) {p : Addr} {o o' : HO} (hp : H p = some o) (hF : F p = none) (hG : C.G p = none) (hn : ∀ i, ¬ Owns env σ i p) : Ok K C F env σ (upd H p o') where
  len := h.len
  sub := fun a u e => by rw [upd_ne (ne_of_none e hF)]; exact h.sub a u e
  keep := fun a u e n => by rw [upd_ne (ne_of_none e hG)]; exact h.keep a u e n
  all := fun a e => by
    by_cases q : a = p
    · subst q; rw [upd_same]; exact fun z => nomatch z
    · rw [upd_ne q]; exact h.all a e
  new := h.new
  bas := h.bas
  vals := h.vals
  owns := fun i b d e => by
    obtain ⟨q, u, h1, h2, h3, h4, h5, h6⟩ := h.owns i b d e
    refine ⟨q, u, h1, ?_, h3, h4, h5, h6⟩
    rw [upd_ne]
    · exact h2
    · rintro rfl
      exact hn i ⟨b, d, e, h1⟩
  sep := h.sep
  pins := h.pins
end
@[simp] def lateOk (env : List Slot) (i : Nat) : Prop := match env[i]? with
  | some (.own false (.lst xs)) => xs.length < 90000
  | some (.val .non) => True
  | _ => False
@[simp] def mForLate (i j k : Nat) : DStm := fun P env => lateOk env i ∧ lateOk env j ∧ Free env k ∧ P.nx (((env.set i .no).set j .no).set k .no)
def LateV (C : Ct) (F : Hp) (env : List Slot) (σ : L2.St) (H : Hp) (n : Nat) (v : V) : Prop := v = .non ∨ ∃ p vs, v = .ref p ∧ H p = some (.lst vs) ∧ vs.length ≤ 90000 + n ∧ F p = none ∧ C.G p = none ∧ ∀ i, ¬ Owns env σ i p
theorem late_of {K : PySem.W.Frag} {C : Ct} {F H : Hp} {env : List Slot} {σ : L2.St} {i : Nat} (I : Ok K C F env σ H) (h : lateOk env i) : Free env i ∧ ∃ v, σ[i]? = some (some v) ∧ (v = .non ∨ ∃ p vs, v = .ref p ∧ H p = some (.lst vs) ∧ vs.length ≤ 90000 ∧ F p = none ∧ C.G p = none ∧ Owns env σ i p) := by
  unfold lateOk at h
  split at h
  · rename_i xs e
    obtain ⟨p, o, h1, h2, h3, h4, h5, h6⟩ := I.owns i false _ e
    obtain ⟨vs, rfl, r⟩ := lst_of h3
    exact ⟨by unfold Free; rw [e]; trivial, _, h1, Or.inr ⟨p, vs, rfl, h2, by rw [r.length]; omega, h4, h5 rfl, false, _, e, h1⟩⟩
  · rename_i e
    obtain ⟨v, h1, h2⟩ := I.vals i _ e
    cases h2
    exact ⟨by unfold Free; rw [e]; trivial, _, h1, Or.inl rfl⟩
  · exact h.elim
section
variable {X : Cx} {pos : Pos}
theorem ds_forLate {i j k : Nat} {x y z : Str} {s : Str} {js jn : Nat} {p1 p2 p3 p4 p5 p6 p7 p8 ap cp sp ip tp : Pos} {kt : _} (hp : PassesOwn (model X.prog X.w) X.A X.env X.xe) (hc : X.calm = true) (hNd : X.N.Nodup)
    (hi : X.N[i]? = some x) (hj : X.N[j]? = some y) (hk : X.N[k]? = some z) (vi : Vis X.env.scope x) (vj : Vis X.env.scope y) (vk : Vis X.env.scope z) (lk : Loc X.env.scope z) (hij : i ≠ j) (hik : i ≠ k) (hjk : j ≠ k)
    (dx : (x == ("__debug__" : Str)) = false := by decide) (dy : (y == ("__debug__" : Str)) = false := by decide) (dz : (z == ("__debug__" : Str)) = false := by decide)
    (cx : (x == ("__classdict__" : Str)) = false := by decide) (cy : (y == ("__classdict__" : Str)) = false := by decide) (cz : (z == ("__classdict__" : Str)) = false := by decide)
    (t1 : starEach [.Name x p1, .Name y p2] X.env = (false, eval (.Name x p1) X.env) :: starEach [.Name y p2] X.env := by rfl) (t2 : starEach [.Name y p2] X.env = (false, eval (.Name y p2) X.env) :: starEach [] X.env := by rfl)
    (hm : behindInMarks .IsNot (.Constant .none jn p5) = false := by first | exact nomark _ | rfl | with_unfolding_all rfl)
    (h1 : attributeBase (.Name z p6) "append" X.env (eval (.Name z p6) X.env) = eval (.Name z p6) X.env := by rfl)
    (h2 : ((((backTo cp (starEach [.Constant (.str s) js p7] X.env)).all fun x => !x.fst) && (backToKw cp (keywordEach [] X.env)).all fun x => x.fst.isSome) && decide (([(.Constant (.str s) js p7 : Expr)].length + ([] : List Keyword).length + if ([] : List Keyword).isEmpty = true then 0 else 1) < 30)) = true := by rfl)
    (h3 : (ap.endLine == cp.line) = true := by rfl) (h4 : starEach [.Constant (.str s) js p7] X.env = (false, eval (.Constant (.str s) js p7) X.env) :: starEach [] X.env := by rfl) (h5 : ((backTo cp (starEach [] X.env)).any fun x => x.fst) = false := by rfl)
    (hs : swapsWith (.Call (.Attribute (.Name z p6) "append" ap) [.Constant (.str s) js p7] [] cp) none sp.line X.env = pure false := by rfl)
    (hf : X.fn z = true ∨ X.env.scope.names.lookup z = some .local := by first | exact .inl rfl | exact .inr rfl | assumption)
    (hfo : ∀ q, foldedSetIterable (.Tuple [.Name x p1, .Name y p2] kt tp) X.env q = pure q := by intro _; rfl) :
    DS X (.For (.Name z p3) (.Tuple [.Name x p1, .Name y p2] kt tp) [.If (.Compare (.Name z p4) [.IsNot] [.Constant .none jn p5] p8) [.Expr (.Call (.Attribute (.Name z p6) "append" ap) [.Constant (.str s) js p7] [] cp) sp] [] ip] [] pos) (mForLate i j k) := by
  have pz : ∀ q, PE X (.Name z q) (tVar k) := fun q => pe_var hk vk dz cz
  have body := pss_one (ps_if (pos := ip) (pt_cmpR (pos := p8) op_isND (pz p4) (pe_non (j := jn) (pos := p5)) hm)
    (pss_one (ps_expr (pos := sp) (pe_bm PySem.F.plainAttrs_list PySem.F.slot_list_append PySem.F.type_list_append mt_append (pz p6) (pa_cons (pe_str (x := s) (j := js) (pos := p7)) pa_nil h4) h1 h2 h3 h4 h5) hs)) pss_nil)
  refine ⟨_, ps_for hp hc (pi_tup (pe_tup (x1 := kt) (pos := tp) (pa_cons (pe_var hi vi dx cx) (pa_cons (pe_var hj vj dy cy) pa_nil t2) t1))) (pg_name hNd hk lk hf) body hfo, ?_⟩
  intro C F env σ H D P I h kn
  obtain ⟨l1, l2, fk, h⟩ := h
  obtain ⟨f1, v1, s1, w1⟩ := late_of I l1
  obtain ⟨f2, v2, s2, w2⟩ := late_of I l2
  refine ⟨v1, s1, v2, s2, ?_⟩
  refine ⟨by show 2 ≤ sizeLine; decide, fun T hT => ?_⟩
  have B := I.lay hT (.tup [v1, v2])
  have Iq := B.ok
  have hnT : ∀ {p : Addr} {o : HO}, H p = some o → p ≠ T := fun e q => by subst q; rw [hT] at e; cases e
  -- the slots are told nothing of
  have f2' : Free (env.set i .no) j := by
    unfold Free at f2 ⊢
    rw [List.getElem?_set_ne hij]; exact f2
  have fk' : Free ((env.set i .no).set j .no) k := by
    unfold Free at fk ⊢
    rw [List.getElem?_set_ne hjk, List.getElem?_set_ne hik]; exact fk
  have J0 := ((Iq.drop f1 rfl fun _ _ => rfl).drop f2' rfl fun _ _ => rfl)
  have own0 : ∀ n p, Owns ((env.set i .no).set j .no) σ n p → Owns env σ n p ∧ n ≠ i ∧ n ≠ j := fun n p ⟨b, d, e, s⟩ => by
    obtain ⟨q1, e1⟩ := no_get e (by simp)
    obtain ⟨q2, e2⟩ := no_get e1 (by simp)
    exact ⟨⟨b, d, e2, s⟩, Ne.symm q2, Ne.symm q1⟩
  have mk : ∀ (n : Nat) (v : V), σ[n]? = some (some v) → (n = i ∨ n = j) → (v = .non ∨ ∃ p vs, v = .ref p ∧ H p = some (.lst vs) ∧ vs.length ≤ 90000 ∧ F p = none ∧ C.G p = none ∧ Owns env σ n p) →
      v = .non ∨ ∃ p vs, v = .ref p ∧ (upd H T (.tup [v1, v2])) p = some (.lst vs) ∧ vs.length ≤ 90000 ∧ (upd F T (.tup [v1, v2])) p = none ∧ C.G p = none ∧ ∀ m, ¬ Owns ((env.set i .no).set j .no) σ m p := fun n v hs hn hv => by
    rcases hv with hv | ⟨p, vs, e, g1, g2, g3, g4, g5⟩
    · exact Or.inl hv
    · refine Or.inr ⟨p, vs, e, by rw [upd_ne (hnT g1)]; exact g1, g2, by rw [upd_ne (hnT g1)]; exact g3, g4, fun m q => ?_⟩
      obtain ⟨q1, q2, q3⟩ := own0 m p q
      have := I.sep m n p q1 g5
      rcases hn with rfl | rfl
      · exact q2 this
      · exact q3 this
  have lv1 := mk i v1 s1 (Or.inl rfl) w1
  have lv2 := mk j v2 s2 (Or.inr rfl) w2
  refine ⟨T, rfl, ⟨[v1, v2], st_of upd_same⟩, ?_⟩
  -- the turns
  let E2 := ((env.set i .no).set j .no).set k .no
  have ownk : ∀ (σ' : L2.St) n p, (∀ n, n ≠ k → σ'[n]? = σ[n]?) → Owns E2 σ' n p → Owns ((env.set i .no).set j .no) σ n p := fun σ' n p hs ⟨b, d, e, s⟩ => by
    obtain ⟨q1, e1⟩ := no_get e (by simp)
    exact ⟨b, d, e1, by rw [← hs n (Ne.symm q1)]; exact s⟩
  refine ⟨fun t m σ' H' => m = 2 - t ∧ t ≤ 2 ∧ σ'.length = σ.length ∧ (∀ n, n ≠ k → σ'[n]? = σ[n]?) ∧ Ok X.K C (upd F T (.tup [v1, v2])) E2 σ' H' ∧
    (∀ v, v = v1 ∨ v = v2 → v = .non ∨ ∃ p vs, v = .ref p ∧ H' p = some (.lst vs) ∧ vs.length ≤ 90000 + t ∧ (upd F T (.tup [v1, v2])) p = none ∧ C.G p = none ∧ ∀ m, ¬ Owns ((env.set i .no).set j .no) σ m p),
    ⟨2, rfl, by decide, rfl, fun _ _ => rfl, J0.drop fk' rfl fun _ _ => rfl, fun v hv => ?_⟩, ?_⟩
  · rcases hv with rfl | rfl
    · exact lv1
    · exact lv2
  rintro t m σ' H' ⟨rfl, ht, hl, hsame, J, late⟩
  have hqT : SqT X.K H' T [v1, v2] := ex_t J.sub (st_of upd_same)
  by_cases h2 : t < 2
  · have hx : ∃ v, [v1, v2][t]? = some v ∧ (v = v1 ∨ v = v2) := by
      match t, h2 with
      | 0, _ => exact ⟨v1, rfl, Or.inl rfl⟩
      | 1, _ => exact ⟨v2, rfl, Or.inr rfl⟩
    obtain ⟨v, hv, hor⟩ := hx
    refine Or.inr ⟨⟨[v1, v2], v, hqT, hv⟩, fun σ'' H'' => σ''.length = σ.length ∧ (∀ n, n ≠ k → σ''[n]? = σ[n]?) ∧ Ok X.K C (upd F T (.tup [v1, v2])) E2 σ'' H'' ∧
      (∀ v, v = v1 ∨ v = v2 → v = .non ∨ ∃ p vs, v = .ref p ∧ H'' p = some (.lst vs) ∧ vs.length ≤ 90000 + (t + 1) ∧ (upd F T (.tup [v1, v2])) p = none ∧ C.G p = none ∧ ∀ m, ¬ Owns ((env.set i .no).set j .no) σ m p),
      fun σ'' H'' q => ⟨2 - (t + 1), by omega, rfl, by omega, q⟩, fun xv H3 yl => ?_⟩
    obtain ⟨rfl, yl⟩ := yl
    have := yl _ hqT
    rw [hv] at this; cases this
    have hkl : k < σ'.length := by
      rcases Nat.lt_or_ge k σ'.length with z | z
      · exact z
      · exfalso
        unfold Free at fk
        rw [List.getElem?_eq_none (by rw [← I.len, ← hl]; exact z)] at fk
        exact fk
    have sk : (σ'.set k (some v))[k]? = some (some v) := List.getElem?_set_self hkl
    have hl' : (σ'.set k (some v)).length = σ.length := by rw [List.length_set]; exact hl
    have hsame' : ∀ n, n ≠ k → (σ'.set k (some v))[n]? = σ[n]? := fun n q => by rw [List.getElem?_set_ne (Ne.symm q)]; exact hsame n q
    have fE : Free E2 k := by
      have hkE : k < ((env.set i .no).set j .no).length := by rw [List.length_set, List.length_set, ← I.len, ← hl]; exact hkl
      show Free (((env.set i .no).set j .no).set k .no) k
      unfold Free
      rw [List.getElem?_set_self hkE]
      trivial
    have eE : E2.set k .no = E2 := by
      show (((env.set i .no).set j .no).set k .no).set k .no = _
      rw [List.set_set]
    have J' : Ok X.K C (upd F T (.tup [v1, v2])) E2 (σ'.set k (some v)) H3 := by
      have := J.drop (σ' := σ'.set k (some v)) fE (by rw [List.length_set]) fun n q => by rw [List.getElem?_set_ne (Ne.symm q)]
      rwa [eE] at this
    refine ⟨v, sk, Or.inl ⟨rfl, _, rfl, ?_⟩⟩
    rcases late v hor with rfl | ⟨p, vs, rfl, g1, g2, g3, g4, g5⟩
    · refine ⟨hl', hsame', J', fun u hu => ?_⟩
      rcases late u hu with z | ⟨p, vs, e, g1, g2, g3⟩
      · exact Or.inl z
      · exact Or.inr ⟨p, vs, e, g1, by omega, g3⟩
    · refine ⟨.ref p, sk, Or.inl ⟨rfl, _, sq_of g1⟩, p, vs, .str s, rfl, rfl, g1, sz_lt (by omega), ?_⟩
      refine ⟨hl', hsame', J'.poke g1 g3 g4 fun n q => g5 n (ownk _ n p hsame' q), fun u hu => ?_⟩
      rcases late u hu with z | ⟨p', vs', e, q1, q2, q3⟩
      · exact Or.inl z
      · by_cases q : p' = p
        · subst q
          rw [g1] at q1; cases q1
          exact Or.inr ⟨p', _, e, upd_same, by rw [List.length_append]; simp; omega, q3⟩
        · exact Or.inr ⟨p', vs', e, by rw [upd_ne q]; exact q1, by omega, q3⟩
  · have : t = 2 := by omega
    subst this
    exact Or.inl ⟨⟨[v1, v2], hqT, Nat.le_refl 2⟩, kn.nx _ E2 σ' H' J h⟩
@[simp] def mSetX (j : Nat) (a : DM) : DStm := fun P env => a env fun x e => putR j x e P.nx
theorem ds_setX {j : Nat} {x : Str} {e : Expr} {m : DM} {pos' : Pos} (hN : X.N.Nodup) (hi : X.N[j]? = some x) (hx : Loc X.env.scope x) (h : DE X e m) (hs : swapsWith e (some (.Name x pos')) pos.line X.env = pure false := by rfl) (hf : X.fn x = true ∨ X.env.scope.names.lookup x = some .local := by first | exact .inl rfl | exact .inr rfl | assumption) :
    DS X (.Assign [.Name x pos'] e pos) (mSetX j m) := by
  obtain ⟨t, p, ev⟩ := h
  refine ⟨_, ps_set hN hi hx p hs hf, ?_⟩
  intro C F env σ H D P I h k
  refine ev C F env σ H _ _ I h ?_
  intro l e1 F1 v H1 h1 A1 r1
  obtain ⟨e2, h2, I2, _⟩ := ok_put (H0 := H) (w := .non) A1.ok r1 h1
  exact k.nx F1 e2 _ H1 I2 h2
end
end DL

set_option Elab.async false
set_option linter.all false
set_option maxRecDepth 100000
set_option maxHeartbeats 4000000
set_option autoImplicit false
/-! DL18: how readings are walked: one obligation at a time; loops and comprehensions by invariants. -/
namespace DL
open PySem L2

theorem ex_i {α : Type} {a : Option α} {y : α} {K : α → Prop} (h : a = some y) (k : K y) : ∃ y, a = some y ∧ K y := ⟨y, h, k⟩
theorem an_i {a b : Prop} (h : a) (k : b) : a ∧ b := ⟨h, k⟩
theorem ite_i {c : Prop} [Decidable c] {a b : Prop} (h1 : c → a) (h2 : ¬ c → b) : ite c a b := by
  split
  · exact h1 ‹_›
  · exact h2 ‹_›
theorem ite_t {c : Prop} [Decidable c] {a b : Prop} (h : c) (h1 : a) : ite c a b := by rw [if_pos h]; exact h1
theorem ite_f {c : Prop} [Decidable c] {a b : Prop} (h : ¬ c) (h1 : b) : ite c a b := by rw [if_neg h]; exact h1

def cStep (g : DTg) (tt : DMB) (me : DM) (vs : List Nat) (env : List Slot) (x : D) (K : Option D → List Slot → Prop) : Prop :=
  g x (wipeE env vs) fun e => tt e fun b e2 => if b = true then me e2 fun y e3 => y.get e3 fun d => K (some d) (unwipe env e3 vs) else K none (unwipe env e2 vs)
theorem compW_inv {hold : Holds} {g : DTg} {tt : DMB} {me : DM} {vs : List Nat} {R : List D → List Slot → Prop} (I : Nat → List D → List Slot → Prop) : ∀ (items : List D) (i : Nat) (acc : List D) (env : List Slot),
    I i acc env → (∀ j acc env, I j acc env → holdE hold env ∧ acc.length < 100000) →
    (∀ j x acc env, items[j]? = some x → I (i + j) acc env → ∀ K : Option D → List Slot → Prop, (∀ o e, I (i + j + 1) (acc ++ o.toList) e → K o e) → cStep g tt me vs env x K) →
    (∀ acc env, I (i + items.length) acc env → R acc env) → compW hold g tt me vs items acc env R
  | [], i, acc, env, h, hh, st, fin => ⟨(hh _ _ _ h).1, fin _ _ h⟩
  | x :: xs, i, acc, env, h, hh, st, fin => by
    refine ⟨(hh _ _ _ h).1, ?_⟩
    have ih : ∀ acc env, I (i + 1) acc env → compW hold g tt me vs xs acc env R := fun acc env h' => by
      refine compW_inv I xs (i + 1) acc env h' hh (fun j x acc env e q => ?_) (fun acc env q => fin acc env (by rw [List.length_cons]; rwa [show i + (xs.length + 1) = i + 1 + xs.length by omega]))
      rw [show i + 1 + j = i + (j + 1) by omega] at q ⊢
      exact st (j + 1) x acc env (by simpa using e) q
    exact st 0 x acc env rfl h (fun o e => match o with
      | some d => acc.length < 100000 ∧ compW hold g tt me vs xs (acc ++ [d]) e R
      | none => compW hold g tt me vs xs acc e R) (fun o e q => by
        cases o with
        | some d => exact ⟨(hh _ _ _ h).2, ih _ _ q⟩
        | none => exact ih _ _ (by simpa using q))
theorem compW_pure {hold : Holds} {g : DTg} {tt : DMB} {me : DM} {vs : List Nat} {R : List D → List Slot → Prop} {env : List Slot} (f : D → Option D) (hh : holdE hold env) : ∀ (items acc : List D), acc.length + items.length ≤ 100000 →
    (∀ x ∈ items, ∀ K : Option D → List Slot → Prop, K (f x) env → cStep g tt me vs env x K) → R (acc ++ items.filterMap f) env → compW hold g tt me vs items acc env R
  | [], acc, hl, st, fin => ⟨hh, by simpa using fin⟩
  | x :: xs, acc, hl, st, fin => by
    rw [List.length_cons] at hl
    refine ⟨hh, st x (by simp) (fun o e => match o with
      | some d => acc.length < 100000 ∧ compW hold g tt me vs xs (acc ++ [d]) e R
      | none => compW hold g tt me vs xs acc e R) ?_⟩
    cases q : f x with
    | some d =>
      exact ⟨by omega, compW_pure f hh xs (acc ++ [d]) (by simp; omega) (fun y m => st y (List.mem_cons_of_mem _ m)) (by simpa [q, List.filterMap_cons] using fin)⟩
    | none => exact compW_pure f hh xs acc (by omega) (fun y m => st y (List.mem_cons_of_mem _ m)) (by simpa [q, List.filterMap_cons] using fin)
theorem forW_inv {hold : Holds} {g : DTg} {mb : DStm} {P : Post} (I : Nat → List Slot → Prop) : ∀ (items : List D) (i : Nat) (env : List Slot),
    I i env → (∀ j env, I j env → pinE hold env) →
    (∀ j x env, items[j]? = some x → I (i + j) env → ∀ N : List Slot → Prop, (∀ e, I (i + j + 1) e → N e) → g x env fun e => mb { P with nx := N, ct := N, bk := P.nx } e) →
    (∀ env, I (i + items.length) env → P.nx env) → forW hold g mb P items env
  | [], i, env, h, hh, st, fin => ⟨hh _ _ h, fin _ h⟩
  | x :: xs, i, env, h, hh, st, fin => by
    refine ⟨hh _ _ h, st 0 x env rfl h _ fun e q => ?_⟩
    refine forW_inv I xs (i + 1) e q hh (fun j x env ee qq => ?_) (fun env qq => fin env (by rw [List.length_cons]; rwa [show i + (xs.length + 1) = i + 1 + xs.length by omega]))
    rw [show i + 1 + j = i + (j + 1) by omega] at qq ⊢
    exact st (j + 1) x env (by simpa using ee) qq
theorem while_inv {t : DMB} {mb : DStm} {P : Post} (I : Nat → List Slot → Prop)
    (st : ∀ n env, I n env → ∀ N : List Slot → Prop, (∀ m e, m < n → I m e → N e) → t env fun b e => if b = true then mb { P with nx := N, ct := N, bk := P.nx } e else P.nx e) :
    ∀ (n : Nat) (env : List Slot), I n env → whN t mb (n + 1) P env := by
  have mono : True := trivial
  have key : ∀ (k n : Nat) (env : List Slot), n ≤ k → I n env → ∀ f, k < f → whN t mb f P env := by
    intro k
    induction k with
    | zero =>
      intro n env hn h f hf
      cases f with
      | zero => omega
      | succ f => exact st n env h _ fun m e hm q => by omega
    | succ k ih =>
      intro n env hn h f hf
      cases f with
      | zero => omega
      | succ f => exact st n env h _ fun m e hm q => ih m e (by omega) q f (by omega)
  exact fun n env h => key n n env (Nat.le_refl _) h (n + 1) (Nat.lt_succ_self _)
theorem while_i {t : DMB} {mb : DStm} {P : Post} {env : List Slot} (n : Nat) (h : whN t mb n P env) : mWhile t mb P env := mWhile_iff.mpr ⟨n, h⟩
theorem compI_range {hold : Holds} {g : DTg} {tt : DMB} {me : DM} {vs : List Nat} {R : List D → List Slot → Prop} {env : List Slot} {n : Nat} (f : Nat → Option D) (hh : holdE hold env) (hn : n ≤ 100000)
    (st : ∀ k, k < n → ∀ K : Option D → List Slot → Prop, K (f k) env → cStep g tt me vs env (.int (k : Int)) K) (fin : R ((List.range n).filterMap f) env) : compI hold g tt me vs (rangeD 0 n) [] env R := by
  rw [compI_iff]
  let f' : D → Option D := fun d => match d with
    | .int i => f i.toNat
    | _ => none
  have e : (rangeD 0 n).filterMap f' = (List.range n).filterMap f := by
    unfold rangeD
    rw [List.filterMap_map]
    refine congrFun (congrArg _ (funext fun k => ?_)) _
    show f (0 + (k : Int)).toNat = f k
    rw [Int.zero_add]; rfl
  refine compW_pure f' hh _ [] (by simp [rangeD]; exact hn) (fun x hx K hK => ?_) (by rw [e]; exact fin)
  obtain ⟨k, hk, rfl⟩ := List.mem_map.mp hx
  rw [Int.zero_add] at hK ⊢
  exact st k (List.mem_range.mp hk) K hK
theorem compI_list {hold : Holds} {g : DTg} {tt : DMB} {me : DM} {vs : List Nat} {R : List D → List Slot → Prop} {env : List Slot} {items : List D} (f : D → Option D) (hh : holdE hold env) (hn : items.length ≤ 100000)
    (st : ∀ x ∈ items, ∀ K : Option D → List Slot → Prop, K (f x) env → cStep g tt me vs env x K) (fin : R (items.filterMap f) env) : compI hold g tt me vs items [] env R := by
  rw [compI_iff]
  exact compW_pure f hh items [] (by simpa using hn) st (by simpa using fin)
theorem compI_inv {hold : Holds} {g : DTg} {tt : DMB} {me : DM} {vs : List Nat} {R : List D → List Slot → Prop} {env : List Slot} {items : List D} (I : Nat → List D → List Slot → Prop) (h : I 0 [] env) (hh : ∀ j acc env, I j acc env → holdE hold env ∧ acc.length < 100000)
    (st : ∀ j x acc env, items[j]? = some x → I j acc env → ∀ K : Option D → List Slot → Prop, (∀ o e, I (j + 1) (acc ++ o.toList) e → K o e) → cStep g tt me vs env x K)
    (fin : ∀ acc env, I items.length acc env → R acc env) : compI hold g tt me vs items [] env R := by
  rw [compI_iff]
  refine compW_inv I items 0 [] env h hh (fun j x acc env e q => ?_) (fun acc env q => fin acc env (by rwa [Nat.zero_add] at q))
  rw [Nat.zero_add] at q ⊢
  exact st j x acc env e q
theorem forI_inv {hold : Holds} {g : DTg} {mb : DStm} {P : Post} {items : List D} {env : List Slot} (I : Nat → List Slot → Prop) (h : I 0 env) (hh : ∀ j env, I j env → pinE hold env)
    (st : ∀ j x env, items[j]? = some x → I j env → ∀ N : List Slot → Prop, (∀ e, I (j + 1) e → N e) → g x env fun e => mb { P with nx := N, ct := N, bk := P.nx } e)
    (fin : ∀ env, I items.length env → P.nx env) : forI hold g mb P items env := by
  rw [forI_iff]
  refine forW_inv I items 0 env h hh (fun j x env e q => ?_) (fun env q => fin env (by rwa [Nat.zero_add] at q))
  rw [Nat.zero_add] at q ⊢
  exact st j x env e q
theorem nodup_range_map {α : Type} {f : Nat → α} {n : Nat} (h : ∀ i j, i < n → j < n → f i = f j → i = j) : ((List.range n).map f).Nodup := by
  unfold List.Nodup
  rw [List.pairwise_map]
  exact (List.nodup_range (n := n)).imp_of_mem fun ha hb hne e => hne (h _ _ (List.mem_range.mp ha) (List.mem_range.mp hb) e)
theorem compI_rangeE {hold : Holds} {g : DTg} {tt : DMB} {me : DM} {vs : List Nat} {R : List D → List Slot → Prop} {env : List Slot} {items : List D} {n : Nat} (f : Nat → Option D) (he : items = rangeD 0 n) (hh : holdE hold env) (hn : n ≤ 100000)
    (st : ∀ k, k < n → ∀ K : Option D → List Slot → Prop, K (f k) env → cStep g tt me vs env (.int (k : Int)) K) (fin : R ((List.range n).filterMap f) env) : compI hold g tt me vs items [] env R := by
  subst he
  exact compI_range f hh hn st fin
theorem forI_invE {hold : Holds} {g : DTg} {mb : DStm} {P : Post} {items items' : List D} {env : List Slot} (he : items = items') (I : Nat → List Slot → Prop) (h : I 0 env) (hh : ∀ j env, I j env → pinE hold env)
    (st : ∀ j x env, items'[j]? = some x → I j env → ∀ N : List Slot → Prop, (∀ e, I (j + 1) e → N e) → g x env fun e => mb { P with nx := N, ct := N, bk := P.nx } e)
    (fin : ∀ env, I items'.length env → P.nx env) : forI hold g mb P items env := by
  subst he
  exact forI_inv I h hh st fin
theorem rangeD_get {lo : Int} {n j : Nat} {x : D} (h : (rangeD lo n)[j]? = some x) : j < n ∧ x = .int (lo + (j : Int)) := by
  unfold rangeD at h
  rw [List.getElem?_map] at h
  obtain ⟨k, hk, rfl⟩ := Option.map_eq_some_iff.mp h
  have hj : j < n := by
    rcases Nat.lt_or_ge j n with z | z
    · exact z
    · rw [List.getElem?_eq_none (by simpa using z)] at hk; cases hk
  rw [List.getElem?_range hj] at hk
  cases hk
  exact ⟨hj, rfl⟩
theorem rangeD_len (lo : Int) (n : Nat) : (rangeD lo n).length = n := by simp [rangeD]
end DL

set_option Elab.async false
set_option linter.all false
set_option maxRecDepth 100000
set_option maxHeartbeats 4000000
set_option autoImplicit false
/-! X1: own exception classes whose __init__ is B.__init__(self, text); self.f = e, B an own class over ValueError. -/
namespace DL
open PySem PySem.Spec L2 Evl PyProof.Rows

def veB (K : PySem.W.Frag) (C : Addr) : Bool := match K.lookup C with
  | some ⟨.type "type", _, .cls cd, sl⟩ => (match cd.mro, sl.toList with
    | .ref C' :: bm, [_, _, _, _, some (.builtin n), _] => C' == C && (n == "ValueError.__new__" && (cd.hasDict && (!cd.hasDel && HandSPX.refsVE bm)))
    | _, _ => false)
  | _ => false
theorem veB_ok {K : PySem.W.Frag} {C : Addr} (h : veB K C = true) : ∃ nm q N bs bm sn sub ab col dd k0 k1 k2 k3 k5, K.lookup C = some (excClassObj nm q C N bs bm true sn sub ab col dd k0 k1 k2 k3 k5 "ValueError.__new__") ∧ HandSPX.refsVE bm = true := by
  unfold veB at h
  split at h
  · rename_i dd cd sl ho
    split at h
    · rename_i C' bm k0 k1 k2 k3 n k5 hm hs
      rw [Bool.and_eq_true, Bool.and_eq_true, Bool.and_eq_true, Bool.and_eq_true, beq_iff_eq, beq_iff_eq, Bool.not_eq_true'] at h
      obtain ⟨e1, e2, e3, e4, e5⟩ := h
      cases cd with
      | mk nm bs mro N q hd sn sub ab col del =>
        cases sl with
        | mk l =>
          have hm' : mro = .ref C' :: bm := hm
          have hs' : l = [k0, k1, k2, k3, some (.builtin n), k5] := hs
          have e3' : hd = true := e3
          have e4' : del = false := e4
          subst e1; subst e2; subst hm'; subst hs'; subst e3'; subst e4'
          exact ⟨nm, q, N, bs, bm, sn, sub, ab, col, dd, k0, k1, k2, k3, k5, ho, e5⟩
    · exact absurd h Bool.false_ne_true
  · exact absurd h Bool.false_ne_true
structure XBase (K : PySem.W.Frag) (Ba : Addr) : Prop where
  rd : PySem.W.readsIn K Ba (.type "type") = true
  ga : PySem.W.specialIn K (.ref Ba) "__getattribute__" = some (some (.builtin "type.__getattribute__"))
  at_ : PySem.W.findCls K (.ref Ba) (.type "type") "__init__" = some (.val (.builtin "ValueError.__init__"))
section
variable {X : Cx} {e : Expr} {es : List Expr} {ta : TA} {x : Str} {p1 p2 pos : Pos} {Ba : Addr}
theorem pe_xinit (hb : XBase X.K Ba) (hg : Gl X x) (hm : X.mg x = some (.ref Ba)) (ha : PA X (e :: es) ta) (hdb : (x == ("__debug__" : Str)) = false := by decide) {pl : Sem Bool}
    (hc : eval (.Call (.Attribute (.Name x p1) "__init__" p2) (e :: es) [] pos) X.env = (do
      let ov ← eval (.Name x p1) X.env
      standAt p2.atName
      let (f, first) ← holding [ov] (getMethod ov "__init__" pl)
      callWith pos f first (backTo pos (starEach (e :: es) X.env)) (backToKw pos (keywordEach [] X.env))) := by rfl)
    (he : starEach (e :: es) X.env = (false, eval e X.env) :: starEach es X.env := by rfl) (hpl : (backTo pos (starEach es X.env)).any (·.1) = false := by rfl) :
    PE X (.Call (.Attribute (.Name x p1) "__init__" p2) (e :: es) [] pos) (tVeI X.K ta) := by
  constructor
  intro pins s σ H Q I h
  apply PySem.W.methodCall_KW (ld_glob I hg hm _ hdb) hc
  apply PySem.W.method_cls I.kIn hb.ga
  apply PySem.W.cls_value I.kIn hb.rd hb.at_ (by decide +kernel)
  refine PyProof.Rows.callWith_method1 (thn (ha.run pos pins _ σ H _ (I.tok _) h) ?_) he hpl
  rintro us s1 ⟨vs, H1, I1, r1, a, C, ws, ev, hl, T, ea, q⟩
  subst ev
  obtain ⟨u0, ur, rfl, ra, rw'⟩ : ∃ u0 ur, us = u0 :: ur ∧ RelV (.ref a) u0 ∧ Vals ws ur := by
    cases r1 with
    | cons ra rw' => exact ⟨_, _, rfl, ra, rw'⟩
  have eu : u0 = Value.ref a := ra
  subst eu
  have hn : ur.length ≤ sizeLine := by
    have := Paired.length rw'
    have z := sizeLine_eq
    omega
  exact oinit_ok T I1 ea hn fun s' J => ⟨.non, H1, J, rfl, q⟩
end

def spXi (K : PySem.W.Frag) (C : Addr) (f : Str) : Sp := fun vs H Q _ => ∃ (a : Addr) (v : V), vs = [.ref a, v] ∧ OexC K C ∧ PySem.W.findIn K (.ref C) f = some none ∧ H a = some (exo a C none) ∧
  ∀ d, H d = none → d ≠ a → Q .non (upd (upd H d (exd d [(f, v)])) a (exo a C (some d)))
section
variable {P : Program} {w : World} {K : PySem.W.Frag} {mg : Str → Option Value} {base : Heap}
theorem xinit_fn {qual p f m : Str} {st : Stmt} {fI C : Addr} {fd : FuncData} (F : Fun K "__init__" qual st fI fd) (S : FnScope ["self", p] ["self", p] (defScope st))
    (hbody : ∀ (cdv : Value) (A : Around) (outer : List PySem.Env) (s : Shared) (H : Hp) (E : XK),
      PSs (cxOf (L2.CX P w) P w K mg base ["self", p] qual (defScope st) fI cdv A outer s H E) (defBody st) (tSeq (tDrop (tVeI K (tCons (tVar 0) (tCons (tC (.str m)) tNil)))) (tOst K f (tVar 0) (tVar 1)))) :
    FnOk P w K mg base (L2.CX P w) 1 fI fd ["self", p] (spXi K C f) := by
  refine Fun.okX F S ?_ ?_
  · rintro vs H Q E ⟨a, v, rfl, _⟩; rfl
  · rintro cdv A outer s H vs Q E hr ⟨a, v, rfl, T, hno, ea, h⟩
    refine ⟨_, hbody cdv A outer s H E, ?_⟩
    refine ⟨.ref a, rfl, ?_⟩
    refine ⟨a, C, [.str m], rfl, Nat.le_of_ble_eq_true rfl, T, ea, ?_⟩
    refine ⟨v, rfl, .ref a, rfl, a, C, rfl, T, hno, Or.inl ⟨ea, fun d hd ne => ?_⟩⟩
    exact h d hd ne
end
def tMk1 (C : Addr) (f : Str) (t : TE) : L2.St → Hp → XK → Prop := fun σ H Q => t σ H fun v H1 => ∀ dx, H1 dx = none → Q (.ref C) (some dx) (upd H1 dx (.xd [(f, v)]))
structure XCl (P : Program) (w : World) (K : PySem.W.Frag) (mg : Str → Option Value) (base : Heap) (x f : Str) (C : Addr) : Prop where
  hm : mg x = some (.ref C)
  xf : XfC K C
  no : PySem.W.findIn K (.ref C) f = some none
  made : ∀ (X : Cx) (e : Expr) (m : DM) (p pos : Pos), X.prog = P → X.w = w → X.K = K → X.mg = mg → X.base = base → Room 2 X.A → Gl X x → PE X e (TD K m) → starEach (e :: []) X.env = (false, eval e X.env) :: starEach [] X.env → PMk X (.Call (.Name x p) [e] [] pos) (tMk1 C f (TD K m))
theorem exo_out {H : Hp} {a dx C : Addr} {f : Str} {v : V} (ha : H a = none) (hd : H dx = none) (ne : dx ≠ a) :
    upd (L2.del (upd (upd (upd H a (exo a C none)) dx (exd dx [(f, v)])) a (exo a C (some dx))) a) dx (.xd [(f, v)]) = upd H dx (.xd [(f, v)]) := by
  funext b
  by_cases h1 : b = dx
  · subst h1; rw [upd_same, upd_same]
  · rw [upd_ne h1, upd_ne h1]
    by_cases h2 : b = a
    · subst h2; rw [del_same, ha]
    · rw [del_ne h2, upd_ne h2, upd_ne h1, upd_ne h2]
theorem td_mono {K : PySem.W.Frag} {m : DM} {σ : L2.St} {H : Hp} {Q Q' : VK} (h : ∀ v H1, Q v H1 → Q' v H1) (q : TD K m σ H Q) : TD K m σ H Q' := by
  obtain ⟨C, F, env, R, h1, h2, h3⟩ := q
  exact ⟨C, F, env, R, h1, h2, fun l env' F' v H' a b c => h v H' (h3 l env' F' v H' a b c)⟩
theorem xcl_VE {P : Program} {w : World} {K : PySem.W.Frag} {mg : Str → Option Value} {base : Heap} {x f p : Str} {C fI : Addr} {fd : FuncData} (hm : mg x = some (.ref C)) (T : OexC K C) (xf : XfC K C) (no : PySem.W.findIn K (.ref C) f = some none) (iC : PySem.W.findIn K (.ref C) "__init__" = some (some (.ref fI)))
    (tI : PySem.W.typeIn K (.ref fI) = some (.type "function")) (F1 : FnOk P w K mg base (L2.CX P w) 1 fI fd ["self", p] (spXi K C f)) (hb : Binds K fd ["self", p] []) (hdb : (x == ("__debug__" : Str)) = false) : XCl P w K mg base x f C := by
  refine ⟨hm, xf, no, ?_⟩
  rintro X e m px pos rfl rfl rfl rfl rfl hr hg pe he pins s σ H Q I h
  refine pmk_oex T iC tI F1 hr hb .nil passL hg hm (pa_cons pe pa_nil he) hdb he rfl pins s σ H Q I ?_
  refine td_mono (fun v H1 q => ?_) h
  refine ⟨by show 1 ≤ 1000; decide, fun a ha => ⟨a, v, rfl, T, no, upd_same, fun dx hd ne => ?_⟩⟩
  have hd1 : H1 dx = none := by rw [upd_ne ne] at hd; exact hd
  refine ⟨rfl, dx, [(f, v)], upd_same, ?_, hd1, ?_⟩
  · rw [upd_ne ne, upd_same]
  · rw [exo_out ha hd1 ne]
    exact q dx hd1
end DL

set_option Elab.async false
set_option linter.all false
set_option maxRecDepth 100000
set_option maxHeartbeats 4000000
set_option autoImplicit false
/-! X2: defs that may raise, over data. An exception is told by the number of its class (cm: the classes' values) and its fields. -/
namespace DL
open PySem PySem.Spec L2 Evl PyProof.Rows

abbrev XP := Nat → List (Str × D) → List Slot → Prop
abbrev DSpecX := List Slot → (RV → List Slot → Prop) → XP → Prop
@[simp] def noX (sd : DSpecX) : DSpec := fun args R => sd args R fun _ _ _ => False
structure XOk (K : PySem.W.Frag) (cm : Nat → Value) (F H : Hp) (x : Nat) (fs : List (Str × D)) (cls : Value) (dd : Addr) : Prop where
  cls : cls = cm x
  at_ : ∃ kvs, H dd = some (.xd kvs) ∧ kvs.map (·.1) = fs.map (·.1) ∧ RepL K F (kvs.map (·.2)) (fs.map (·.2))
  new : F dd = none
def spX (K : PySem.W.Frag) (cm : Nat → Value) (sd : DSpecX) : Sp := fun vs H Q E => ∃ F args R RX, ArgsOk K F args vs H ∧ (∀ (i : Nat) (d : D), args[i]? ≠ some (.own false d)) ∧ sd args R RX ∧
  (∀ r args' F' v H', R r args' → Done K F args vs H r args' F' v H' → Q v H') ∧
  ∀ x fs args' F' H' cls dd, RX x fs args' → Done K F args vs H (.vl .non) args' F' .non H' → XOk K cm F' H' x fs cls dd → H dd = none → E cls (some dd) H'
structure ConnX (K : PySem.W.Frag) (cm : Nat → Value) (W : WX) (C : Ct) (PX : XP) : Prop where
  go : ∀ F env σ H x fs cls dd, Ok K C F env σ H → XOk K cm F H x fs cls dd → C.G dd = none → (∀ i, ¬ Owns env σ i dd) → PX x fs env → W cls (some dd) σ H
def EvSx (K : PySem.W.Frag) (cm : Nat → Value) (W : WX) (m : DStm) (t : TS) : Prop := ∀ C F env σ H D P, Ok K C F env σ H → m P env → Conn K C D P → ConnX K cm W C P.ex → t D σ H
def DSx (X : Cx) (cm : Nat → Value) (st : Stmt) (m : DStm) : Prop := ∀ W, Takes X W → ∃ t, PS X st t ∧ EvSx X.K cm W m t
def DBx (X : Cx) (cm : Nat → Value) (sts : List Stmt) (m : DStm) : Prop := ∀ W, Takes X W → ∃ t, PSs X sts t ∧ EvSx X.K cm W m t
def EvDx (K : PySem.W.Frag) (cm : Nat → Value) (W : WX) (m : XP → DM) (t : TE) : Prop := ∀ C F env σ H (PX : XP) R Q, Ok K C F env σ H → m PX env R → ConnX K cm W C PX →
  (∀ l env' F' v H', R l env' → Aft K C F env σ H F' env' H' → RVOk K C F' env' σ H H' v l → Q v H') → t σ H Q
def DEx (X : Cx) (cm : Nat → Value) (e : Expr) (m : XP → DM) : Prop := ∀ W, Takes X W → ∃ t, PE X e t ∧ EvDx X.K cm W m t
section
variable {X : Cx} {cm : Nat → Value} {pos : Pos}
theorem dsx_of {st : Stmt} {m : DStm} (h : DS X st m) : DSx X cm st m := fun W _ => by
  obtain ⟨t, p, e⟩ := h
  exact ⟨t, p, fun C F env σ H D P I hm k _ => e C F env σ H D P I hm k⟩
theorem dbx_of {st : List Stmt} {m : DStm} (h : DB X st m) : DBx X cm st m := fun W _ => by
  obtain ⟨t, p, e⟩ := h
  exact ⟨t, p, fun C F env σ H D P I hm k _ => e C F env σ H D P I hm k⟩
theorem dex_of {e : Expr} {m : DM} (h : DE X e m) : DEx X cm e (fun _ => m) := fun W _ => by
  obtain ⟨t, p, ev⟩ := h
  exact ⟨t, p, fun C F env σ H PX R Q I hm _ k => ev C F env σ H R Q I hm k⟩
theorem dbx_nil : DBx X cm [] mSkip := dbx_of db_nil
theorem dbx_cons {st : Stmt} {rest : List Stmt} {a b : DStm} (ha : DSx X cm st a) (hb : DBx X cm rest b) : DBx X cm (st :: rest) (mSeq a b) := fun W tk => by
  obtain ⟨t, p, ea⟩ := ha W tk
  obtain ⟨u, q, eb⟩ := hb W tk
  refine ⟨_, pss_cons p q, ?_⟩
  intro C F env σ H D P I h k kx
  exact ea C F env σ H { D with nx := u D } { P with nx := b P } I h ⟨fun F env σ H I h => eb C F env σ H D P I h k kx, k.bk, k.ct, k.rt, k.r2⟩ kx
theorem dbx_one {st : Stmt} {a : DStm} (ha : DSx X cm st a) : DBx X cm [st] a := fun W tk => by
  obtain ⟨t, p, ea⟩ := ha W tk
  exact ⟨_, pss_one p, ea⟩
theorem dsx_frz (i : Nat) {st : Stmt} {a : DStm} (ha : DSx X cm st a) : DSx X cm st (mFrz i a) := fun W tk => by
  obtain ⟨t, p, ea⟩ := ha W tk
  refine ⟨t, p, ?_⟩
  intro C F env σ H D P I h k kx
  obtain ⟨F', _, I'⟩ := I.freeze i
  exact ea C F' _ σ H D P I' h k kx
theorem dsx_if {c : Expr} {a b : List Stmt} {t : DMB} {m1 m2 : DStm} (hc : DT X c t) (ha : DBx X cm a m1) (hb : DBx X cm b m2) : DSx X cm (.If c a b pos) (mIfS t m1 m2) := fun W tk => by
  obtain ⟨tc, pc, ec⟩ := hc
  obtain ⟨ta, pa, ea⟩ := ha W tk
  obtain ⟨tb, pb, eb⟩ := hb W tk
  refine ⟨_, ps_if pc pa pb, ?_⟩
  intro C F env σ H D P I h k kx
  refine ec C F env σ H _ _ I h ?_
  intro x e1 F1 H1 h1 A1
  cases x with
  | true =>
    have h1' : m1 P e1 := by simpa using h1
    show (if true = true then ta D σ H1 else tb D σ H1)
    rw [if_pos rfl]
    exact ea C F1 e1 σ H1 D P A1.ok h1' k kx
  | false =>
    have h1' : m2 P e1 := by simpa using h1
    show (if false = true then ta D σ H1 else tb D σ H1)
    rw [if_neg Bool.false_ne_true]
    exact eb C F1 e1 σ H1 D P A1.ok h1' k kx
@[simp] def wX (k : DM → DStm) (m : XP → DM) : DStm := fun P env => k (m P.ex) P env
theorem dsx_expr {e : Expr} {m : XP → DM} (h : DEx X cm e m) (hs : swapsWith e none pos.line X.env = pure false := by rfl) : DSx X cm (.Expr e pos) (wX mDrop m) := fun W tk => by
  obtain ⟨t, p, ev⟩ := h W tk
  refine ⟨_, ps_expr p hs, ?_⟩
  intro C F env σ H D P I h k kx
  exact ev C F env σ H P.ex _ _ I h kx fun l e1 F1 v H1 h1 A1 r1 => k.nx F1 e1 σ H1 A1.ok h1
theorem dsx_set {j : Nat} {x : Str} {e : Expr} {m : XP → DM} {pos' : Pos} (hN : X.N.Nodup) (hi : X.N[j]? = some x) (hx : Loc X.env.scope x) (h : DEx X cm e m) (hs : swapsWith e (some (.Name x pos')) pos.line X.env = pure false := by rfl) (hf : X.fn x = true ∨ X.env.scope.names.lookup x = some .local := by first | exact .inl rfl | exact .inr rfl | assumption) :
    DSx X cm (.Assign [.Name x pos'] e pos) (wX (mSet j) m) := fun W tk => by
  obtain ⟨t, p, ev⟩ := h W tk
  refine ⟨_, ps_set hN hi hx p hs hf, ?_⟩
  intro C F env σ H D P I h k kx
  refine ev C F env σ H P.ex _ _ I h kx ?_
  intro l e1 F1 v H1 h1 A1 r1
  obtain ⟨F2, d, h2, A2, ex, rp⟩ := A1.keepIt r1 h1
  exact k.nx F2 _ _ H1 (A2.ok.setVal h2.1 rp) h2.2
theorem dsx_setO {j : Nat} {x : Str} {e : Expr} {m : XP → DM} {pos' : Pos} (hN : X.N.Nodup) (hi : X.N[j]? = some x) (hx : Loc X.env.scope x) (h : DEx X cm e m) (hs : swapsWith e (some (.Name x pos')) pos.line X.env = pure false := by rfl) (hf : X.fn x = true ∨ X.env.scope.names.lookup x = some .local := by first | exact .inl rfl | exact .inr rfl | assumption) :
    DSx X cm (.Assign [.Name x pos'] e pos) (wX (mSetO j) m) := fun W tk => by
  obtain ⟨t, p, ev⟩ := h W tk
  refine ⟨_, ps_set hN hi hx p hs hf, ?_⟩
  intro C F env σ H D P I h k kx
  refine ev C F env σ H P.ex _ _ I h kx ?_
  intro l e1 F1 v H1 h1 A1 r1
  cases l with
  | tm d =>
    obtain ⟨p, o, rfl, g1, g2, g3, g4, g5, g6⟩ := r1
    exact k.nx F1 _ _ H1 (A1.ok.setOwn h1.1 g1 g2 g3 g4 g5) h1.2
  | _ => exact h1.elim
theorem dsx_ret {e : Expr} {m : XP → DM} (h : DEx X cm e m) : DSx X cm (.Return (some e) pos) (wX mRet m) := fun W tk => by
  obtain ⟨t, p, ev⟩ := h W tk
  refine ⟨_, ps_ret p, ?_⟩
  intro C F env σ H D P I h k kx
  refine ev C F env σ H P.ex _ _ I h kx ?_
  intro l e1 F1 v H1 h1 A1 r1
  cases l with
  | vl d => exact k.rt F1 e1 σ H1 v (.vl d) A1.ok r1 h1
  | tm d =>
    obtain ⟨p, o, g0, g1, g2, g3, g4, g5, g6⟩ := r1
    exact k.rt F1 e1 σ H1 v (.tm d) A1.ok ⟨p, o, g0, g1, g2, g3, g4⟩ h1
  | sl i =>
    have h1' : (match e1[i]? with | some (.val d) => P.rt (.vl d) e1 | some (.own false d) => P.rt (.tm d) e1 | _ => False) := h1
    have r1' : σ[i]? = some (some v) := r1
    split at h1'
    · rename_i d e
      obtain ⟨w, q1, q2⟩ := A1.ok.vals i d e
      rw [r1'] at q1; cases q1
      exact k.rt F1 e1 σ H1 v (.vl d) A1.ok q2 h1'
    · rename_i d e
      obtain ⟨q, o, q1, q2, q3, q4, q5, _⟩ := A1.ok.owns i false d e
      rw [r1'] at q1; cases q1
      exact k.rt F1 e1 σ H1 _ (.tm d) A1.ok ⟨q, o, rfl, q2, q3, q4, q5 rfl⟩ h1'
    · exact h1'.elim
end

/-! ### a call that may raise -/
section
variable {X : Cx} {k : Nat} {f : Addr} {fd : FuncData} {ps ks : List Str} {x : Str} {p pos : Pos} {e : Expr} {es : List Expr} {t tk : TA} {kws : List Keyword} {CX : CXT} {sp : Sp}
theorem run_gS {E : L2.St → XK} {pins : List (Addr × Obj)} {σ : L2.St} {H : Hp} {s : Shared} {Q : VK} {us : List Value} {vs : List V} {args : Args} (F : FnG X.prog X.w X.K X.mg X.base CX k f fd ps sp) (hgd : X.A.guards = some []) (hr : Room k X.A)
    (hb : BindsTo s fd args (ps.zip us)) (hx : PassesAt CX X σ (E σ)) (I : Inv X pins σ H s) (r : Vals vs us) (h : sp vs H Q (E σ)) : wpAny (model X.prog X.w) X.A (call (.ref f) args.pos args.kw) (EP X pins σ Q) X.xe s := by
  apply wpAny_call
  apply codeAny_mono (F.run X.A X.stack s H args us vs Q (E σ) hgd hr I.env0 hb r h)
  intro r s' hq
  match r, hq with
  | .error er, hq => exact hx pins H s er s' I hq
  | .ok (.ret u), hq => exact I.after hq
  | .ok .next, hq => exact False.elim hq
  | .ok .brk, hq => exact False.elim hq
  | .ok .cont, hq => exact False.elim hq
theorem pe_callGS {E : L2.St → XK} (F : FnG X.prog X.w X.K X.mg X.base CX k f fd ps sp) (hgd : X.A.guards = some []) (hr : Room k X.A) (hg : Gl X x) (hm : X.mg x = some (.ref f)) (hk : PySem.W.keepIn X.K (.ref f) = true) (hb : Binds X.K fd ps []) (hx : ∀ σ, PassesAt CX X σ (E σ))
    (ha : PA X (e :: es) t) (hdb : (x == ("__debug__" : Str)) = false := by decide) (he : starEach (e :: es) X.env = (false, eval e X.env) :: starEach es X.env := by rfl) (hpl : (backTo pos (starEach es X.env)).any (·.1) = false := by rfl) :
    PE X (.Call (.Name x p) (e :: es) [] pos) (tCallS sp E t) := by
  constructor
  intro pins s σ H Q I h
  apply wpAny_Call_Name_kw
  apply ld_glob I hg hm _ hdb
  apply PySem.W.callWith_K (h₀ := X.base) I.ok.mod.kin hk _ he hpl
  apply thn (ha.run pos pins s σ H _ I h)
  rintro us s1 ⟨vs, H1, I1, r, q⟩
  refine ⟨I1.kIn, ?_⟩
  have hl : us.length = ps.length := r.length.symm.trans (F.len _ _ _ _ q)
  have b := hb s1 us I1.kIn (by simpa using hl)
  rw [List.append_nil] at b
  exact run_gS (args := ⟨us, []⟩) F hgd hr b (hx σ) I1 r q
def tCallKS (sp : Sp) (gV : List V → List V → List V) (E : L2.St → XK) (t tk : TA) : TE := fun σ H Q => t σ H fun vs H1 => tk σ H1 fun zs H2 => sp (gV vs zs) H2 Q (E σ)
theorem pe_callGKS {E : L2.St → XK} {g : List Value → List Value → List Value} {gV : List V → List V → List V} (F : FnG X.prog X.w X.K X.mg X.base CX k f fd ps sp) (hgd : X.A.guards = some []) (hr : Room k X.A) (hg : Gl X x) (hm : X.mg x = some (.ref f)) (hk : PySem.W.keepIn X.K (.ref f) = true) (hb : KBinds X.K fd ps ks g gV) (hx : ∀ σ, PassesAt CX X σ (E σ))
    (ha : PA X (e :: es) t) (hkw : PK X kws tk) (hall : (backToKw pos (keywordEach kws X.env)).all (·.1.isSome) = true := by rfl) (hks : (backToKw pos (keywordEach kws X.env)).filterMap (·.1) = ks := by rfl)
    (hdb : (x == ("__debug__" : Str)) = false := by decide) (he : starEach (e :: es) X.env = (false, eval e X.env) :: starEach es X.env := by rfl)
    (hpl : ((backTo pos (starEach (e :: es) X.env)).any (·.1) || (backToKw pos (keywordEach kws X.env)).any (·.1.isNone)) = false := by rfl) : PE X (.Call (.Name x p) (e :: es) kws pos) (tCallKS sp gV E t tk) := by
  constructor
  intro pins s σ H Q I h
  apply wpAny_Call_Name_kw
  apply ld_glob I hg hm _ hdb
  apply PySem.W.callWith_KW (h₀ := X.base) I.ok.mod.kin hk hall _ hpl he
  apply thn (ha.run pos pins s σ H _ I h)
  rintro us s1 ⟨vs, H1, I1, r, q⟩
  apply thn (hkw.run pos pins s1 σ H1 _ I1 q)
  rintro ws s2 ⟨zs, H2, I2, rz, q2⟩
  refine ⟨I2.kIn, ?_⟩
  rw [hks]
  have r2 := hb.rel r rz
  have hl : (g us ws).length = ps.length := r2.length.symm.trans (F.len _ _ _ _ q2)
  exact run_gS (args := ⟨us, ks.zip ws⟩) F hgd hr (hb.to s2 us ws I2.kIn hl) (hx σ) I2 r2 q2
theorem pe_callGKS0 {E : L2.St → XK} {g : List Value → List Value → List Value} {gV : List V → List V → List V} (F : FnG X.prog X.w X.K X.mg X.base CX k f fd ps sp) (hgd : X.A.guards = some []) (hr : Room k X.A) (hg : Gl X x) (hm : X.mg x = some (.ref f)) (hk : PySem.W.keepIn X.K (.ref f) = true) (hb : KBinds X.K fd ps ks g gV) (hx : ∀ σ, PassesAt CX X σ (E σ))
    (hkw : PK X kws tk) (hall : (backToKw pos (keywordEach kws X.env)).all (·.1.isSome) = true := by rfl) (hks : (backToKw pos (keywordEach kws X.env)).filterMap (·.1) = ks := by rfl)
    (hdb : (x == ("__debug__" : Str)) = false := by decide) (hpl : ((backTo pos (starEach [] X.env)).any (·.1) || (backToKw pos (keywordEach kws X.env)).any (·.1.isNone)) = false := by rfl) : PE X (.Call (.Name x p) [] kws pos) (tCallKS sp gV E tNil tk) := by
  constructor
  intro pins s σ H Q I h
  apply wpAny_Call_Name_kw
  apply ld_glob I hg hm _ hdb
  apply PySem.W.callWith_KW0 (h₀ := X.base) I.ok.mod.kin hk hall _ hpl
  apply thn (hkw.run pos pins s σ H _ I h)
  rintro ws s2 ⟨zs, H2, I2, rz, q2⟩
  refine ⟨I2.kIn, ?_⟩
  rw [hks]
  have r2 := hb.rel (vs := []) (us := []) .nil rz
  have hl : (g [] ws).length = ps.length := r2.length.symm.trans (F.len _ _ _ _ q2)
  exact run_gS (args := ⟨[], ks.zip ws⟩) F hgd hr (hb.to s2 [] ws I2.kIn hl) (hx σ) I2 r2 q2
end
section
variable {K : PySem.W.Frag} {C : Ct} {F0 F H0 H : Hp} {env0 env : List Slot} {σ : L2.St} {cm : Nat → Value}
theorem call_coreX {sd : DSpecX} {vs : List V} {as : List CA} {R : RV → List Slot → Prop} {PX : XP} {Q : VK} {W : WX} (A : Aft K C F0 env0 σ H0 F env H) (ca : CAs K F σ vs as) (ap : apart env as = true)
    (h : sd (as.map (resolve env)) R fun x fs ss => PX x fs (putB as ss env)) (kx : ConnX K cm W C PX)
    (k : ∀ r ss F' v H', R r ss → Aft K C F0 env0 σ H0 F' (putB as ss env) H' → RVOk K C F' (putB as ss env) σ H0 H' v r → Q v H') : spX K cm sd vs H Q (WE W σ) := by
  obtain ⟨h1, h2, h3⟩ := call_parts A.ok ca ap
  refine ⟨F, as.map (resolve env), R, _, h1, h2, h, ?_, ?_⟩
  · intro r ss F' v H' hR dn
    obtain ⟨B, no⟩ := h3 r ss F' v H' dn
    refine k r ss F' v H' hR (A.trans B) ?_
    have rs := dn.res
    cases r with
    | vl d => exact rs
    | tm d =>
      obtain ⟨p, o, rfl, g1, g2, g3, g4⟩ := rs
      exact ⟨p, o, rfl, g1, g2, g3, A.ok.gnone g4, no p g4, A.back g4⟩
    | sl i => exact rs.elim
  · intro x fs ss F' H' cls dd hR dn xo hn
    obtain ⟨B, no⟩ := h3 _ ss F' _ H' dn
    exact kx.go F' _ σ H' x fs cls dd B.ok xo (A.ok.gnone hn) (no dd hn) hR
end
@[simp] def mCallX (sd : DSpecX) (a : DMC) : XP → DM := fun PX env R => a env fun as e => apart e as = true ∧ sd (as.map (resolve e)) (fun r ss => R r (putB as ss e)) fun x fs ss => PX x fs (putB as ss e)
@[simp] def mCallKX (sd : DSpecX) (gC : List CA → List CA → List CA) (a b : DMC) : XP → DM := fun PX env R => a env fun as e => b e fun bs e2 => apart e2 (gC as bs) = true ∧ sd ((gC as bs).map (resolve e2)) (fun r ss => R r (putB (gC as bs) ss e2)) fun x fs ss => PX x fs (putB (gC as bs) ss e2)
structure CalX (P : Program) (w : World) (K : PySem.W.Frag) (mg : Str → Option Value) (cm : Nat → Value) (base : Heap) (x : Str) (st : Stmt) (k : Nat) (ps : List Str) (sd : DSpecX) : Prop where
  ex : ∃ f fd, Fun K x x st f fd ∧ FnG P w K mg base (L2.CX P w) k f fd ps (spX K cm sd) ∧ mg x = some (.ref f) ∧ Binds K fd ps []
theorem CalX.cal {P : Program} {w : World} {K : PySem.W.Frag} {mg : Str → Option Value} {cm : Nat → Value} {base : Heap} {x : Str} {st : Stmt} {k : Nat} {ps : List Str} {sd : DSpecX} (c : CalX P w K mg cm base x st k ps sd) : Cal P w K mg base x st k ps (noX sd) := by
  obtain ⟨f, fd, h1, h2, h3, h4⟩ := c.ex
  have up : ∀ vs H Q E, spD K (noX sd) vs H Q E → spX K cm sd vs H Q fun _ _ _ => False := by
    rintro vs H Q E ⟨F, args, R, a1, a2, a3, a4⟩
    exact ⟨F, args, R, _, a1, a2, a3, a4, fun _ _ _ _ _ _ _ z => z.elim⟩
  refine ⟨f, fd, h1, ⟨fun vs H Q E q => h2.len vs H Q _ (up vs H Q E q), fun A outer s H args us vs Q E hg hr he hb hv hs => ?_⟩, h3, h4⟩
  apply codeAny_mono (h2.run A outer s H args us vs Q _ hg hr he hb hv (up vs H Q E hs))
  intro r s' hq
  match r, hq with
  | .error er, hq =>
    obtain ⟨_, _, _, _, _, _, _, _, _, _, _, _, z⟩ := hq
    exact z.elim
  | .ok (.ret u), hq => exact hq
  | .ok .next, hq => exact False.elim hq
  | .ok .brk, hq => exact False.elim hq
  | .ok .cont, hq => exact False.elim hq
section
variable {X : Cx} {cm : Nat → Value} {k : Nat} {st : Stmt} {ps ks : List Str} {sd : DSpecX} {x : Str} {p pos : Pos} {e : Expr} {es : List Expr} {kws : List Keyword}
theorem dex_call (c : CalX X.prog X.w X.K X.mg cm X.base x st k ps sd) (hgd : X.A.guards = some []) (hr : Room k X.A) (hg : Gl X x) {mc : DMC} (h : DC X (e :: es) mc)
    (hdb : (x == ("__debug__" : Str)) = false := by decide) (he : starEach (e :: es) X.env = (false, eval e X.env) :: starEach es X.env := by rfl) (hpl : (backTo pos (starEach es X.env)).any (·.1) = false := by rfl) :
    DEx X cm (.Call (.Name x p) (e :: es) [] pos) (mCallX sd mc) := fun W tk => by
  obtain ⟨f, fd, F, G, hm, hb⟩ := c.ex
  obtain ⟨t, pa, ev⟩ := h
  refine ⟨_, pe_callGS G hgd hr hg hm F.kp hb (passAt tk) pa hdb he hpl, ?_⟩
  intro C F env σ H PX R Q I h kx k
  refine ev C F env σ H _ _ I h ?_
  intro as e1 F1 vs H1 h1 A1 r1
  exact call_coreX A1 r1 h1.1 h1.2 kx fun r ss F' v H' hR A2 r2 => k r _ F' v H' hR A2 r2
theorem dex_callK (c : CalX X.prog X.w X.K X.mg cm X.base x st k ps sd) (n m : Nat) (perm : List Nat) (hgd : X.A.guards = some []) (hr : Room k X.A) (hg : Gl X x) (hp : ps ≠ [])
    (hb : ∀ (kV doc pm : Value) (an : Option Addr) (cdv ct : Value) (us ws : List Value), us.length = n → ws.length = m → bindArgs (PySem.W.fnOf x x (defArgs st) (defBody st) (defScope st) .none kV doc pm an cdv ct) ⟨us, ks.zip ws⟩ = pure (ps.zip (arr perm us ws)))
    {mc mk : DMC} (h : DC X (e :: es) mc) (h2 : DK X kws mk) (hall : (backToKw pos (keywordEach kws X.env)).all (·.1.isSome) = true := by rfl) (hks : (backToKw pos (keywordEach kws X.env)).filterMap (·.1) = ks := by rfl)
    (hdb : (x == ("__debug__" : Str)) = false := by decide) (he : starEach (e :: es) X.env = (false, eval e X.env) :: starEach es X.env := by rfl)
    (hpl : ((backTo pos (starEach (e :: es) X.env)).any (·.1) || (backToKw pos (keywordEach kws X.env)).any (·.1.isNone)) = false := by rfl) : DEx X cm (.Call (.Name x p) (e :: es) kws pos) (mCallKX sd (arrN n m perm) mc mk) := fun W tk => by
  obtain ⟨f, fd, F, G, hm, _⟩ := c.ex
  obtain ⟨t, pa, ev⟩ := h
  obtain ⟨t2, pk, ek⟩ := h2
  refine ⟨_, pe_callGKS G hgd hr hg hm F.kp (kbinds_of F n m perm hp hb) (passAt tk) pa pk hall hks hdb he hpl, ?_⟩
  intro C F env σ H PX R Q I h kx k
  refine ev C F env σ H _ _ I h ?_
  intro as e1 F1 vs H1 h1 A1 r1
  refine ek C F1 e1 σ H1 _ _ A1.ok h1 ?_
  intro bs e2 F2 zs H2 h2 A2 r2
  exact call_coreX (A1.trans A2) (arrN_ca _ F2 σ vs zs as bs (r1.mono A2.ex) r2) h2.1 h2.2 kx fun r ss F' v H' hR A3 r3 => k r _ F' v H' hR A3 r3
theorem dex_callK0 (c : CalX X.prog X.w X.K X.mg cm X.base x st k ps sd) (m : Nat) (perm : List Nat) (hgd : X.A.guards = some []) (hr : Room k X.A) (hg : Gl X x) (hp : ps ≠ [])
    (hb : ∀ (kV doc pm : Value) (an : Option Addr) (cdv ct : Value) (us ws : List Value), us.length = 0 → ws.length = m → bindArgs (PySem.W.fnOf x x (defArgs st) (defBody st) (defScope st) .none kV doc pm an cdv ct) ⟨us, ks.zip ws⟩ = pure (ps.zip (arr perm us ws)))
    {mk : DMC} (h2 : DK X kws mk) (hall : (backToKw pos (keywordEach kws X.env)).all (·.1.isSome) = true := by rfl) (hks : (backToKw pos (keywordEach kws X.env)).filterMap (·.1) = ks := by rfl)
    (hdb : (x == ("__debug__" : Str)) = false := by decide)
    (hpl : ((backTo pos (starEach [] X.env)).any (·.1) || (backToKw pos (keywordEach kws X.env)).any (·.1.isNone)) = false := by rfl) : DEx X cm (.Call (.Name x p) [] kws pos) (mCallKX sd (arrN 0 m perm) mcNil mk) := fun W tk => by
  obtain ⟨f, fd, F, G, hm, _⟩ := c.ex
  obtain ⟨t2, pk, ek⟩ := h2
  refine ⟨_, pe_callGKS0 G hgd hr hg hm F.kp (kbinds_of F 0 m perm hp hb) (passAt tk) pk hall hks hdb hpl, ?_⟩
  intro C F env σ H PX R Q I h kx k
  refine evc_nil C F env σ H _ _ I h ?_
  intro as e1 F1 vs H1 h1 A1 r1
  refine ek C F1 e1 σ H1 _ _ A1.ok h1 ?_
  intro bs e2 F2 zs H2 h2 A2 r2
  exact call_coreX (A1.trans A2) (arrN_ca _ F2 σ vs zs as bs (r1.mono A2.ex) r2) h2.1 h2.2 kx fun r ss F' v H' hR A3 r3 => k r _ F' v H' hR A3 r3
@[simp] def mTupX (a : DM) (b : XP → DM) : XP → DM := fun PX env R => a env fun x e1 => x.get e1 fun d => b PX e1 fun y e2 => y.get e2 fun d2 => R (.vl (.tup [d, d2])) e2
theorem dex_tup2 {a b : Expr} {x1 : _} {m1 : DM} {m2 : XP → DM} (ha : DE X a m1) (hb : DEx X cm b m2) (hs : starEach (a :: [b]) X.env = (false, eval a X.env) :: starEach [b] X.env := by rfl) (hs2 : starEach (b :: []) X.env = (false, eval b X.env) :: starEach [] X.env := by rfl) :
    DEx X cm (.Tuple [a, b] x1 pos) (mTupX m1 m2) := fun W tk => by
  obtain ⟨t, p, ev⟩ := ha
  obtain ⟨u, q, er⟩ := hb W tk
  refine ⟨_, pe_tup (pa_cons p (pa_cons q pa_nil hs2) hs), ?_⟩
  intro C F env σ H PX R Q I h kx k
  refine ev C F env σ H _ _ I h ?_
  intro x e1 F1 v H1 h1 A1 r1
  obtain ⟨F2, d, h2, A2, ex, rp⟩ := A1.keepIt r1 h1
  refine er C F2 e1 σ H1 PX _ _ A2.ok h2 kx ?_
  intro y e3 F3 w H3 h3 A3 r3
  obtain ⟨F4, d2, h4, A4, ex4, rp4⟩ := (A2.trans A3).keepIt (r3.from fun p => A2.back) h3
  refine ⟨by show 2 ≤ sizeLine; decide, fun q hq => ?_⟩
  have B := A4.ok.lay hq (.tup [v, w])
  exact k _ e3 _ _ _ h4 (A4.trans B) (Rep.tup (st_of upd_same) (.cons (((rp.mono A3.ex).mono ex4).mono B.ex) (.cons (rp4.mono B.ex) .nil)))
end

/-! ### raise C(e) -/
@[simp] def mRaise (x : Nat) (f : Str) (m : DM) : DStm := fun P env => m env fun l e1 => l.get e1 fun d => P.ex x [(f, d)] e1
section
variable {X : Cx} {cm : Nat → Value} {pos cp px : Pos} {x f : Str} {e : Expr} {i : Nat}
theorem dsx_raise {m : DM} {Ca : Addr} (i : Nat) (hc : X.calm = true) (c : XCl X.prog X.w X.K X.mg X.base x f Ca) (hcm : cm i = .ref Ca) (hr : Room 2 X.A) (hg : Gl X x) (h : DE X e m) (he : starEach (e :: []) X.env = (false, eval e X.env) :: starEach [] X.env := by rfl) :
    DSx X cm (.Raise (some (.Call (.Name x px) [e] [] cp)) none pos) (mRaise i f m) := fun W tk => by
  refine ⟨_, ps_raise hc tk (c.made X e m px cp rfl rfl rfl rfl rfl hr hg h.can he), ?_⟩
  intro C F env σ H D P I hm k kx
  refine ⟨C, F, env, _, I, hm, ?_⟩
  intro l e1 F1 v H1 h1 A1 r1 dx hd1
  obtain ⟨F2, d, h2, A2, ex, rp⟩ := A1.keepIt r1 h1
  have B := A2.ok.tmp hd1 (.xd [(f, v)])
  exact kx.go F2 e1 σ _ i [(f, d)] _ dx B.ok ⟨hcm.symm, ⟨[(f, v)], upd_same, rfl, .cons rp .nil⟩, A2.ok.fnone hd1⟩ (A2.ok.gnone hd1) (fun j => A2.ok.unowned hd1 j) h2
end
end DL

set_option Elab.async false
set_option linter.all false
set_option maxRecDepth 100000
set_option maxHeartbeats 4000000
set_option autoImplicit false
/-! X3: loops whose bodies may raise; the rule for a def that may raise. -/
namespace DL
open PySem PySem.Spec L2 Evl PyProof.Rows
section
variable {X : Cx} {cm : Nat → Value} {pos : Pos}
theorem dsx_for {tg iter : Expr} {body : List Stmt} {js : List Nat} {mi : DMI} {g : DTg} {mb : DStm} (hp : PassesOwn (model X.prog X.w) X.A X.env X.xe) (hc : X.calm = true) (hi : DI X tg iter mi) (hg : DG X tg js g) (hb : DBx X cm body mb)
    (hs : ∀ x, foldedSetIterable iter X.env x = pure x := by intro _; rfl) : DSx X cm (.For tg iter body [] pos) (mFor mi g mb) := fun W tk => by
  obtain ⟨wi, pi, ei⟩ := hi
  obtain ⟨tg', pg, eg⟩ := hg
  obtain ⟨tb, pb, eb⟩ := hb W tk
  refine ⟨_, ps_for hp hc pi pg pb hs, ?_⟩
  intro C F env σ H D P I h k kx
  refine ei C F env σ H _ _ I h ?_
  intro items hold e1 F1 H1 J h1 A1 io hh
  rw [forI_iff] at h1
  have pin0 := forW_pin h1
  have agree : ∀ F e σ' H, Ok X.K C F e σ' H → pinE hold e → ∀ p ∈ hold, σ'[p.1]? = σ[p.1]? := fun F e σ' H I' q p m => by
    obtain ⟨a, o, g1, _, _, _, _, g6⟩ := I'.owns p.1 true _ (pinE.get q p m)
    obtain ⟨a', o', g1', _, _, _, _, g6'⟩ := A1.ok.owns p.1 true _ (pinE.get pin0 p m)
    have := (g6 rfl).1.symm.trans (g6' rfl).1
    rw [g1, g1']; cases this; rfl
  refine ⟨fun i m σ' H' => m = items.length - i ∧ i ≤ items.length ∧ ∃ F e, Ok X.K C F e σ' H' ∧ Ex F1 F ∧ forW hold g mb P (items.drop i) e, ⟨items.length, by simp, Nat.zero_le _, F1, e1, A1.ok, Ex.refl _, by simpa using h1⟩, ?_⟩
  rintro i m σ' H' ⟨rfl, hi', F2, e2, I2, x2, w2⟩
  have io2 := io i F2 e2 σ' H' I2 x2 (forW_pin w2).hold (agree F2 e2 σ' H' I2 (forW_pin w2))
  by_cases hlt : i < items.length
  · refine Or.inr ⟨(io2.1 hlt).1, fun σ'' H'' => ∃ F e, Ok X.K C F e σ'' H'' ∧ Ex F1 F ∧ forW hold g mb P (items.drop (i + 1)) e, fun σ'' H'' q => ⟨items.length - (i + 1), by omega, rfl, hlt, q⟩, fun x H3 y => ?_⟩
    obtain ⟨F3, d, hd, A3, rp⟩ := (io2.1 hlt).2 x H3 y
    have hdr : items.drop i = d :: items.drop (i + 1) := by
      rw [List.drop_eq_getElem_cons hlt]
      rw [List.getElem?_eq_getElem hlt] at hd
      cases hd; rfl
    rw [hdr] at w2
    refine eg C F3 e2 σ' H3 _ _ _ _ A3.ok rp w2.2 ?_
    intro e4 σ4 h4 I4 k4
    have I4' := A1.ok.rebase I4 (x2.trans A3.ex)
    have back : ∀ F e σ5 H5, Ok X.K { C with F0 := F1 } F e σ5 H5 → forW hold g mb P (items.drop (i + 1)) e → ∃ F e, Ok X.K C F e σ5 H5 ∧ Ex F1 F ∧ forW hold g mb P (items.drop (i + 1)) e :=
      fun F e σ5 H5 I5 q => ⟨F, e, A1.ok.unbase I5, I5.bas, q⟩
    refine eb { C with F0 := F1 } F3 e4 σ4 H3 _ _ I4' h4 ⟨fun F e σ5 H5 I5 q => back F e σ5 H5 I5 q, fun F e σ5 H5 I5 q => k.nx F e σ5 H5 (A1.ok.unbase I5) q, fun F e σ5 H5 I5 q => back F e σ5 H5 I5 q,
      fun F e σ5 H5 v r I5 ro q => k.rt F e σ5 H5 v r (A1.ok.unbase I5) (by cases r <;> exact ro) q,
      fun F e σ5 H5 v x y I5 ro q => k.r2 F e σ5 H5 v x y (A1.ok.unbase I5) (by obtain ⟨T, u, w, a, b, c, d, e⟩ := ro; exact ⟨T, u, w, a, b, by cases x <;> exact c, by cases y <;> exact d, e⟩) q⟩ ?_
    exact ⟨fun F e σ5 H5 y fs cls dd I5 xo hG un q => kx.go F e σ5 H5 y fs cls dd (A1.ok.unbase I5) xo hG un q⟩
  · have e : i = items.length := by omega
    subst e
    rw [List.drop_length] at w2
    exact Or.inl ⟨io2.2 (Nat.le_refl _), k.nx F2 e2 σ' H' I2 w2.2⟩
theorem dsx_while {c : Expr} {body : List Stmt} {t : DMB} {mb : DStm} (hp : PassesOwn (model X.prog X.w) X.A X.env X.xe) (hc : DT X c t) (hb : DBx X cm body mb) : DSx X cm (.While c body [] pos) (mWhile t mb) := fun W tk => by
  obtain ⟨tc, pc, ec⟩ := hc
  obtain ⟨tb, pb, eb⟩ := hb W tk
  refine ⟨_, ps_while hp pc pb, ?_⟩
  intro C F env σ H D P I h k kx
  obtain ⟨n, hn⟩ := mWhile_iff.mp h
  refine ⟨fun m σ' H' => ∃ F e, Ok X.K C F e σ' H' ∧ whN t mb m P e, ⟨n, F, env, I, hn⟩, ?_⟩
  rintro m σ' H' ⟨F1, e1, I1, w1⟩
  cases m with
  | zero => exact w1.elim
  | succ m =>
    refine ec C F1 e1 σ' H' _ _ I1 w1 ?_
    intro b e2 F2 H2 h2 A2
    cases b with
    | true =>
      have h2' : mb { P with nx := fun e => whN t mb m P e, ct := fun e => whN t mb m P e, bk := P.nx } e2 := by simpa using h2
      refine ⟨fun σ'' H'' => ∃ F e, Ok X.K C F e σ'' H'' ∧ whN t mb m P e, fun σ'' H'' q => ⟨m, Nat.lt_succ_self m, q⟩, ?_⟩
      exact eb C F2 e2 σ' H2 _ _ A2.ok h2' ⟨fun F e σ5 H5 I5 q => ⟨F, e, I5, q⟩, fun F e σ5 H5 I5 q => k.nx F e σ5 H5 I5 q, fun F e σ5 H5 I5 q => ⟨F, e, I5, q⟩, k.rt, k.r2⟩ kx
    | false =>
      have h2' : P.nx e2 := by simpa using h2
      exact k.nx F2 e2 σ' H2 A2.ok h2'
end

/-! ### the rule for a def that may raise -/
theorem done_out {K : PySem.W.Frag} {F0 F' H H' : Hp} {args env : List Slot} {vs : List V} {σ : L2.St} {v : V} {r : RV} {n : Nat} (hn : args.length = n) (np : ∀ (i : Nat) (d : D), args[i]? ≠ some (.own false d))
    (I' : Ok K (ctOf args vs F0 H) F' env σ H') (ro : RetOk K (ctOf args vs F0 H) F' H' v r) : Done K F0 args vs H r (outs n env) F' v H' := by
  refine ⟨I'.bas, I'.sub, I'.keep, I'.all, I'.new, fun i b d e => ?_, ?_⟩
  · cases b with
    | false => exact absurd e (np i d)
    | true =>
      obtain ⟨d', e'⟩ := I'.pins i ⟨true, d, e⟩
      have hi : i < n := by
        rw [← hn]
        rcases Nat.lt_or_ge i args.length with z | z
        · exact z
        · rw [List.getElem?_eq_none (by simpa using z)] at e; cases e
      obtain ⟨p, o, g1, g2, g3, g4, g5, g6⟩ := I'.owns i true d' e'
      obtain ⟨q1, q2, q3⟩ := g6 rfl
      refine ⟨p, o, d', q1, ?_, g2, g3⟩
      unfold outs
      rw [List.getElem?_map, List.getElem?_take_of_lt hi, e']
      rfl
  · cases r with
    | vl d => exact ro
    | tm d => exact ro
    | sl i => exact ro.elim
theorem FunG.okX {P : Program} {w : World} {K : PySem.W.Frag} {mg : Str → Option Value} {cm : Nat → Value} {base : Heap} {qual : Str} {body : List Stmt} {scope : Scope} {f : Addr} {fd : FuncData} {N ps : List Str} {k : Nat} {sd : DSpecX} {m : DStm}
    (F : FunG K qual body scope f fd) (S : FnScope N ps scope) (len : ∀ args R E, sd args R E → args.length = ps.length)
    (hbody : ∀ (cdv : Value) (A : Around) (outer : List PySem.Env) (s : Shared) (H : Hp) (E : XK), A.guards = some [] → Room k (A.deeper (envOfC qual scope s.heap.objs.size f cdv)) →
      DBx (cxOf (L2.CX P w) P w K mg base N qual scope f cdv A outer s H E) cm body m)
    (hm : ∀ args R E, sd args R E → m { nx := fun e => R (.vl .non) (outs ps.length e), rt := fun r e => R r (outs ps.length e), ex := fun x fs e => E x fs (outs ps.length e) } (startE N.length args)) :
    FnG P w K mg base (L2.CX P w) (k + 1) f fd ps (spX K cm sd) := by
  obtain ⟨oc, od, name, params, dV, kV, doc, pm, an, cdv, ct, osl, rfl, lk, hcd⟩ := F.ex
  refine fnG_of lk hcd S ?_ ?_
  · rintro vs H Q E ⟨F, args, R, RX, h1, _, h2, _⟩
    have := h1.len
    rw [List.length_map] at this
    rw [this, len args R RX h2]
  rintro A outer s H vs Q E hg hr ⟨F0, args, R, RX, h1, np, h2, h3, h4⟩
  obtain ⟨t, ht, ev⟩ := hbody cdv A outer s H E hg hr _ (takes_of rfl rfl rfl rfl)
  refine ⟨t, ht, ?_⟩
  have hl : args.length = ps.length := len args R RX h2
  refine ev (ctOf args vs F0 H) F0 _ _ H _ _ (ok_start N h1 np) (hm args R RX h2) ⟨fun F env σ H' I' q => ?_, fun _ _ _ _ _ z => z.elim, fun _ _ _ _ _ z => z.elim, fun F env σ H' v r I' ro q => ?_, fun _ _ _ _ _ _ _ _ _ z => z.elim⟩ ⟨fun F env σ H' x fs cls dd I' xo hG un q => ?_⟩
  · exact h3 _ _ F _ H' q (done_out hl np I' Rep.non)
  · exact h3 _ _ F _ H' q (done_out hl np I' ro)
  · exact h4 x fs _ F H' cls dd q (done_out hl np I' Rep.non) xo hG
end DL

set_option Elab.async false
set_option linter.all false
set_option maxRecDepth 100000
set_option maxHeartbeats 4000000
set_option autoImplicit false
/-! X4: try with several clauses, with and without names. -/
namespace DL
open PySem PySem.Spec L2 Evl PyProof.Rows

structure Cls1 where
  c : Value
  i : Option Nat
  ts : Addr → Value → Option Addr → TS
def goneE (i : Nat) (D : Ends) : Ends := { nx := fun σ H => D.nx (σ.set i none) H, rt := D.rt, bk := fun σ H => D.bk (σ.set i none) H, ct := fun σ H => D.ct (σ.set i none) H }
def runCl (k : Cls1) (D : Ends) (a : Addr) (cls : Value) (d : Option Addr) (σ : L2.St) (H : Hp) : Prop := match k.i with
  | none => k.ts a cls d D σ H
  | some i => k.ts a cls d (goneE i D) (σ.set i (some (.ref a))) H
def wMix (K : PySem.W.Frag) (D : Ends) : List Cls1 → WX
  | [] => fun _ _ _ _ => False
  | k :: r => fun cls d σ H => ∃ b, PySem.W.exmOne K cls k.c = some b ∧ (b = true → ∀ a, H a = none → runCl k D a cls d σ H) ∧ (b = false → wMix K D r cls d σ H)
abbrev SuiteOk (X : Cx) (sts : List Stmt) (ts : Addr → Value → Option Addr → TS) : Prop :=
  ∀ (a : Addr) (oe : Obj) (cls : Value) (d : Option Addr) (pn : List (Addr × Obj)), Zc cls d oe → (∃ vs, oe.data = .fields vs) → PSs (X.suite a ((a, oe) :: pn)) sts (ts a cls d)
inductive HdX (X : Cx) : List ExceptHandler → List Cls1 → Prop
  | rest {hs : List ExceptHandler} : HdX X hs []
  | only {x : Str} {c : Value} {ts : Addr → Value → Option Addr → TS} {b₀ : Stmt} {suite : List Stmt} {np pos : Pos} {hs : List ExceptHandler} {l : List Cls1} (hg : Gl X x) (hdb : (x == ("__debug__" : Str)) = false) (hm : X.mg x = some c)
      (hsu : SuiteOk X (b₀ :: suite) ts) (r : HdX X hs l) : HdX X (.ExceptHandler (some (.Name x np)) none (b₀ :: suite) pos :: hs) (⟨c, none, ts⟩ :: l)
  | as_ {x n : Str} {i : Nat} {c : Value} {ts : Addr → Value → Option Addr → TS} {b₀ : Stmt} {suite : List Stmt} {np pos : Pos} {hs : List ExceptHandler} {l : List Cls1} (hg : Gl X x) (hdb : (x == ("__debug__" : Str)) = false) (hm : X.mg x = some c)
      (hi : X.N[i]? = some n) (hln : X.env.kindOf n = some .local) (hsu : SuiteOk X (b₀ :: suite) ts) (r : HdX X hs l) : HdX X (.ExceptHandler (some (.Name x np)) (some n) (b₀ :: suite) pos :: hs) (⟨c, some i, ts⟩ :: l)

structure Caught (X : Cx) (pins : List (Addr × Obj)) (σ : L2.St) (H : Hp) (a : Addr) (cls : Value) (d : Option Addr) (s : Shared) : Prop where
  ex : ∃ (G : Heap) (s0 : Shared), Inv X pins σ H s0 ∧ (∀ b o, s0.heap.get? b = some o → b ∉ frs X.stack → G.get? b = some o) ∧ s0.heap.UpToSlots s.heap ∧ HandSPX.FlyingZ G (X.env :: X.outer) a (Zc cls d) s.heap ∧ s.os = s0.os ∧ AllBare s.gens
  na : H a = none
section
variable {X : Cx} {pins : List (Addr × Obj)} {σ : L2.St} {H : Hp} {a : Addr} {cls : Value} {d : Option Addr} {s : Shared}
theorem Caught.inv (c : Caught X pins σ H a cls d s) : Inv X pins σ H s := by
  obtain ⟨G, s0, I, nb, up, fl, os, ag⟩ := c.ex
  exact I.landed nb fl.1 up os ag
theorem Caught.obj (c : Caught X pins σ H a cls d s) : ∃ oe vs, s.heap.get? a = some oe ∧ Zc cls d oe ∧ oe.data = .fields vs := by
  obtain ⟨G, s0, I, nb, up, fl, os, ag⟩ := c.ex
  exact fl.there
theorem Caught.apart (c : Caught X pins σ H a cls d s) : a ∉ frs (X.env :: X.outer) := by
  obtain ⟨G, s0, I, nb, up, fl, os, ag⟩ := c.ex
  obtain ⟨oe, vs, e1, _, e2⟩ := fl.there
  intro hm
  obtain ⟨_, o, e3, nf⟩ := fl.2.2.1.mem hm
  rw [e1] at e3
  cases e3
  exact nf vs e2
theorem Caught.within (c : Caught X pins σ H a cls d s) (hf : X.env.frame = some X.env.locals) {oe : Obj} {vs : Array Value} (he : s.heap.get? a = some oe) (hd : oe.data = .fields vs) : Inv (X.suite a ((a, oe) :: (X.pn ++ pins))) [] σ H s := by
  have ap := c.apart
  refine c.inv.suite he hd c.na ?_ ?_
  · rintro rfl
    exact ap (by simp [frs, hf])
  · intro hm
    obtain ⟨e, h1, h2⟩ := List.mem_filterMap.mp hm
    exact ap (List.mem_filterMap.mpr ⟨e, List.mem_cons_of_mem _ h1, h2⟩)
theorem Caught.again (c : Caught X pins σ H a cls d s) {M : Model} {A : Around} {E : Value → Shared → Prop} {Q : Unit → Shared → Prop} (h : ∀ s', Caught X pins σ H a cls d s' → Q () s') : wpAny M A (setFlight (.ref a) none) Q E s := by
  obtain ⟨G, s0, I, nb, up, fl, os, ag⟩ := c.ex
  exact HandSPX.lands_againZ fl fun h' fl' up' => h _ ⟨⟨G, s0, I, nb, up.trans up', fl', os, ag⟩, c.na⟩
theorem Caught.test (c : Caught X pins σ H a cls d s) (hf : X.env.frame = some X.env.locals) {x : Str} {np : Pos} {v : Value} {b : Bool} (hg : Gl X x) (hdb : (x == ("__debug__" : Str)) = false) (hm : X.mg x = some v) (hx : PySem.W.exmOne X.K cls v = some b)
    {Q : Bool → Shared → Prop} {E E' : Value → Shared → Prop} (h : Q b s) : wpAny (model X.prog X.w) (X.A.mark (some (.ref a))) (eval (.Name x np) X.env) (fun u s' => wpAny (model X.prog X.w) (X.A.mark (some (.ref a))) (excMatches (.ref a) u) Q E' s') E s := by
  obtain ⟨oe, vs, e1, e2, e3⟩ := c.obj
  have tl : PySem.W.Looks (model X.prog X.w) s.heap (typeOf (.ref a)) cls := fun A Q E s' k q => wpAny_typeOf_ref (k _ _ e1) (e2.1.symm ▸ q)
  exact ld_glob (X := X.suite a ((a, oe) :: (X.pn ++ pins))) (c.within hf e1 e3) hg hm ((PySem.W.exm_one c.inv.kIn tl hx).here h) hdb
end
section
variable {X : Cx} {pins : List (Addr × Obj)} {σ : L2.St} {H : Hp} {a : Addr} {cls : Value} {d : Option Addr} {s : Shared} {D : Ends}
theorem suite_run (c : Caught X pins σ H a cls d s) (hf : X.env.frame = some X.env.locals) {ts : Addr → Value → Option Addr → TS} {sts : List Stmt} (hsu : SuiteOk X sts ts) (h : ts a cls d D σ H) {R : Flow → Shared → Prop} {E : Value → Shared → Prop}
    (k : ∀ f s', SP X pins D f s' → R f s') : wpAny (model X.prog X.w) (X.A.mark (some (.ref a))) (execs sts X.env) R E s := by
  obtain ⟨oe, vs, e1, e2, e3⟩ := c.obj
  have ok := c.inv.ok
  refine wpAny_mono ((hsu a oe cls d (X.pn ++ pins) e2 ⟨vs, e3⟩).run [] s σ H D (c.within hf e1 e3) h) (fun f s' z => k f s' ?_) fun _ _ z => False.elim z
  match f, z with
  | .next, ⟨σ', H', I', q⟩ => exact ⟨σ', H', I'.unsuite ok, q⟩
  | .brk, ⟨σ', H', I', q⟩ => exact ⟨σ', H', I'.unsuite ok, q⟩
  | .cont, ⟨σ', H', I', q⟩ => exact ⟨σ', H', I'.unsuite ok, q⟩
  | .ret u, ⟨v, σ', H', I', r, q⟩ => exact ⟨v, σ', H', I'.unsuite ok, r, q⟩
theorem suite_runAs (c : Caught X pins σ H a cls d s) (hf : X.env.frame = some X.env.locals) (hN : X.N.Nodup) {n : Str} {i : Nat} (hi : X.N[i]? = some n) (hln : X.env.kindOf n = some .local) {ts : Addr → Value → Option Addr → TS} {sts : List Stmt} (hsu : SuiteOk X sts ts)
    (h : ts a cls d (goneE i D) (σ.set i (some (.ref a))) H) {pos : Pos} {E : Value → Shared → Prop} {E2 : Value → Shared → Prop} :
    wpAny (model X.prog X.w) (X.A.mark (some (.ref a))) (storeName X.env n (.ref a)) (fun _ s2 => wpAny (model X.prog X.w) (X.A.mark (some (.ref a))) (execs sts X.env) (fun f s3 => wpAny (model X.prog X.w) X.A (do bindName X.env n .none; unbindBehindTheSuite X.env n pos) (fun _ s4 => SP X pins D f s4) X.xe s3) E s2) E2 s := by
  obtain ⟨oe, vs, e1, e2, e3⟩ := c.obj
  have ok := c.inv.ok
  refine store_ok (X := X.suite a ((a, oe) :: (X.pn ++ pins))) (v := .ref a) (c.within hf e1 e3) hN hi (.inl hln) rfl (fun s5 I5 => ?_) (.inr hln)
  refine wpAny_mono ((hsu a oe cls d (X.pn ++ pins) e2 ⟨vs, e3⟩).run [] s5 _ H _ I5 h) (fun f s' z => ?_) fun _ _ z => False.elim z
  match f, z with
  | .next, ⟨σ', H', I', q⟩ => exact gone_ok (I'.unsuite ok) hN hi hln fun s7 J => ⟨_, H', J, q⟩
  | .brk, ⟨σ', H', I', q⟩ => exact gone_ok (I'.unsuite ok) hN hi hln fun s7 J => ⟨_, H', J, q⟩
  | .cont, ⟨σ', H', I', q⟩ => exact gone_ok (I'.unsuite ok) hN hi hln fun s7 J => ⟨_, H', J, q⟩
  | .ret u, ⟨v, σ', H', I', r, q⟩ => exact gone_ok (I'.unsuite ok) hN hi hln fun s7 J => ⟨v, _, H', J, r, q⟩
theorem handle_ok (hf : X.env.frame = some X.env.locals) (hN : X.N.Nodup) : ∀ {hs : List ExceptHandler} {l : List Cls1}, HdX X hs l → ∀ {s : Shared}, Caught X pins σ H a cls d s → wMix X.K D l cls d σ H →
    wpAny (model X.prog X.w) X.A (handleBy (.ref a) X.env hs) (SP X pins D) X.xe s := by
  intro hs l hh
  induction hh with
  | rest => intro s c w; exact w.elim
  | only hg hdb hm hsu r ih =>
    rintro s c ⟨b, hb, h1, h2⟩
    refine wpAny_handleBy_cons (codeAny_handlers_test (c.test hf hg hdb hm hb ?_)) (fun q => nomatch q)
    cases b with
    | true => exact codeAny_handlers_suite (c.again fun s' c' => suite_run c' hf hsu (h1 rfl a c.na) fun f s2 z => z)
    | false => exact ih c (h2 rfl)
  | as_ hg hdb hm hi hln hsu r ih =>
    rintro s c ⟨b, hb, h1, h2⟩
    refine wpAny_handleBy_cons (codeAny_handlers_test (c.test hf hg hdb hm hb ?_)) (fun q => nomatch q)
    cases b with
    | true => exact codeAny_handlers_suite_as (c.again fun s' c' => suite_runAs c' hf hN hi hln hsu (h1 rfl a c.na))
    | false => exact ih c (h2 rfl)
end
section
variable {X : Cx} {body : List Stmt} {h₀ : ExceptHandler} {hds : List ExceptHandler} {l : Ends → List Cls1} {pos : Pos} {tb : WX → TS}
theorem ps_tryX (hs : X.stack = X.env :: X.outer) (hf : X.env.frame = some X.env.locals) (hN : X.N.Nodup) {cs : List Cls1}
    (hb : ∀ (W : WX) (pn : List (Addr × Obj)) (xe : Value → Shared → Prop), Takes (X.tr pn xe) W → PassesOwn (model X.prog X.w) X.A X.env xe → PSs (X.tr pn xe) body (tb W))
    (hh : HdX X (h₀ :: hds) cs) : PS X (.Try body (h₀ :: hds) [] [] pos) (fun D σ H => tb (wMix X.K D cs) D σ H) := by
  constructor
  intro pins s σ H D I h
  have ok := I.ok
  have fr : X.A.frames = some (X.env :: X.outer) := ok.frames.trans (congrArg some hs)
  apply wpAny_Try_except
  have main := hb (wMix X.K D cs) (X.pn ++ pins) (fun e s1 => wpAny (model X.prog X.w) X.A (noteFrame e X.env) (fun _ s2 => wpAny (model X.prog X.w) X.A (setFlight e none) (fun _ s3 => wpAny (model X.prog X.w) X.A (handleBy e X.env (h₀ :: hds)) (SP X pins D) X.xe s3) X.xe s2) X.xe s1) ?_ PassesOwn.looking
  · refine wpAny_mono (main.run [] s σ H D (I.toTry _) h) (fun f s1 z => ?_) fun _ _ z => z
    match f, z with
    | .next, ⟨σ', H', J, q⟩ => exact wpAny_execs_nil ⟨σ', H', J.ofTry ok, q⟩
    | .brk, ⟨σ', H', J, q⟩ => exact ⟨σ', H', J.ofTry ok, q⟩
    | .cont, ⟨σ', H', J, q⟩ => exact ⟨σ', H', J.ofTry ok, q⟩
    | .ret u, ⟨v, σ', H', J, r, q⟩ => exact ⟨v, σ', H', J.ofTry ok, r, q⟩
  · rintro u s' ⟨a, G, s0, pins', σ', H', cls, d, rfl, J, nb, up, sky, na, os, ag, w⟩
    have sky' : Sky G (X.env :: X.outer) a (Zc cls d) X.env.locals s'.heap := hs ▸ sky
    exact Sky.land Zc.steady fr hf sky' fun h3 fl up3 => handle_ok hf hN hh ⟨⟨G, s0, J.ofTry ok, nb, up.trans up3, fl, os, ag⟩, na⟩ w
end
end DL

set_option Elab.async false
set_option linter.all false
set_option maxRecDepth 100000
set_option maxHeartbeats 4000000
set_option autoImplicit false
/-! X5: try over data. -/
namespace DL
open PySem PySem.Spec L2 Evl PyProof.Rows

def TSd (K : PySem.W.Frag) (m : DStm) : TS := fun D σ H => ∃ C F env P, Ok K C F env σ H ∧ m P env ∧ Conn K C D P
def TSdx (K : PySem.W.Frag) (cm : Nat → Value) (W : WX) (m : DStm) : TS := fun D σ H => ∃ C F env P, Ok K C F env σ H ∧ m P env ∧ Conn K C D P ∧ ConnX K cm W C P.ex
theorem pss_sem {X : Cx} {sts : List Stmt} {m : DStm} (h : DB X sts m) : PSs X sts (TSd X.K m) := by
  obtain ⟨t, p, e⟩ := h
  exact ⟨fun pins s σ H D I ⟨C, F, env, P, h1, h2, h3⟩ => p.run pins s σ H D I (e C F env σ H D P h1 h2 h3)⟩
theorem pss_semX {X : Cx} {cm : Nat → Value} {W : WX} {sts : List Stmt} {m : DStm} (h : DBx X cm sts m) (tk : Takes X W) : PSs X sts (TSdx X.K cm W m) := by
  obtain ⟨t, p, e⟩ := h W tk
  exact ⟨fun pins s σ H D I ⟨C, F, env, P, h1, h2, h3, h4⟩ => p.run pins s σ H D I (e C F env σ H D P h1 h2 h3 h4)⟩
theorem Ok.setNo {K : PySem.W.Frag} {C : Ct} {F H : Hp} {env : List Slot} {σ : L2.St} {j : Nat} {o : Option V} (h : Ok K C F env σ H) (f : Free env j) : Ok K C F (env.set j .no) (σ.set j o) H := by
  have ne : ∀ (i : Nat) (s : Slot), (env.set j .no)[i]? = some s → s ≠ .no → j ≠ i ∧ env[i]? = some s := fun i s e ns => by
    by_cases q : j = i
    · subst q
      rw [List.getElem?_set] at e
      simp only [if_true] at e
      split at e
      · cases e; exact absurd rfl ns
      · cases e
    · rw [List.getElem?_set_ne q] at e; exact ⟨q, e⟩
  have ow : ∀ i p, Owns (env.set j .no) (σ.set j o) i p → Owns env σ i p := fun i p ⟨b, d, e, s⟩ => by
    obtain ⟨q, e'⟩ := ne i _ e (fun z => nomatch z)
    rw [List.getElem?_set_ne q] at s
    exact ⟨b, d, e', s⟩
  exact {
    len := by rw [List.length_set, List.length_set]; exact h.len
    sub := h.sub, keep := h.keep, all := h.all, new := h.new, bas := h.bas
    vals := fun i d e => by
      obtain ⟨q, e'⟩ := ne i _ e (fun z => nomatch z)
      rw [List.getElem?_set_ne q]
      exact h.vals i d e'
    owns := fun i b d e => by
      obtain ⟨q, e'⟩ := ne i _ e (fun z => nomatch z)
      rw [List.getElem?_set_ne q]
      exact h.owns i b d e'
    sep := fun i k p h1 h2 => h.sep i k p (ow i p h1) (ow k p h2)
    pins := fun i q => Free.pins f (h.pins i q) }

inductive Hd where
  | only (y : Nat) (m : DStm) | as_ (y i : Nat) (m : Addr → Addr → DStm)
@[simp] def gonePost (i : Nat) (P : Post) : Post := { nx := fun e => Free e i ∧ P.nx (e.set i .no), rt := P.rt, bk := fun e => Free e i ∧ P.bk (e.set i .no), ct := fun e => Free e i ∧ P.ct (e.set i .no), r2 := P.r2 }
@[simp] def disp (isa : Nat → Nat → Option Bool) (P : Post) : List Hd → XP
  | [] => fun _ _ _ => False
  | .only y m :: r => fun x fs env => match isa x y with
    | some true => m P env
    | some false => disp isa P r x fs env
    | none => False
  | .as_ y i m :: r => fun x fs env => match isa x y with
    | some true => x = y ∧ Free env i ∧ ∀ a dd, m a dd (gonePost i P) (env.set i (.val (.exc a dd fs)))
    | some false => disp isa P r x fs env
    | none => False
@[simp] def mTry (isa : Nat → Nat → Option Bool) (mb : DStm) (hs : List Hd) : DStm := fun P env => mb { P with ex := disp isa P hs } env
def isaOk (K : PySem.W.Frag) (cm : Nat → Value) (isa : Nat → Nat → Option Bool) : Prop := ∀ x y b, isa x y = some b → PySem.W.exmOne K (cm x) (cm y) = some b
inductive HdOk (X : Cx) (cm : Nat → Value) : List ExceptHandler → List Hd → Prop
  | rest {hs : List ExceptHandler} : HdOk X cm hs []
  | only {x : Str} {y : Nat} {m : DStm} {b₀ : Stmt} {suite : List Stmt} {np pos : Pos} {hs : List ExceptHandler} {l : List Hd} (hg : Gl X x) (hdb : (x == ("__debug__" : Str)) = false) (hm : X.mg x = some (cm y))
      (hsu : ∀ (a : Addr) (oe : Obj) (pn : List (Addr × Obj)), DB (X.suite a ((a, oe) :: pn)) (b₀ :: suite) m) (r : HdOk X cm hs l) : HdOk X cm (.ExceptHandler (some (.Name x np)) none (b₀ :: suite) pos :: hs) (.only y m :: l)
  | as_ {x n : Str} {y i : Nat} {m : Addr → Addr → DStm} {b₀ : Stmt} {suite : List Stmt} {np pos : Pos} {hs : List ExceptHandler} {l : List Hd} (hg : Gl X x) (hdb : (x == ("__debug__" : Str)) = false) (hm : X.mg x = some (cm y))
      (hi : X.N[i]? = some n) (hln : X.env.kindOf n = some .local) (hsu : ∀ (a dd : Addr) (oe : Obj) (pn : List (Addr × Obj)), Zc (cm y) (some dd) oe → (∃ vs, oe.data = .fields vs) → DB (X.suite a ((a, oe) :: pn)) (b₀ :: suite) (m a dd)) (r : HdOk X cm hs l) :
      HdOk X cm (.ExceptHandler (some (.Name x np)) (some n) (b₀ :: suite) pos :: hs) (.as_ y i m :: l)
def Hd.cl (K : PySem.W.Frag) (cm : Nat → Value) : Hd → Cls1
  | .only y m => ⟨cm y, none, fun _ _ _ => TSd K m⟩
  | .as_ y i m => ⟨cm y, some i, fun a cls d D σ H => ∃ dd, d = some dd ∧ cls = cm y ∧ TSd K (m a dd) D σ H⟩
section
variable {X : Cx} {cm : Nat → Value} {pos : Pos}
theorem HdOk.hdx {hs : List ExceptHandler} {l : List Hd} (h : HdOk X cm hs l) : HdX X hs (l.map (Hd.cl X.K cm)) := by
  induction h with
  | rest => exact .rest
  | only hg hdb hm hsu r ih => exact .only hg hdb hm (fun a oe cls d pn _ _ => pss_sem (hsu a oe pn)) ih
  | @as_ x n y i m b₀ suite np pos hs l hg hdb hm hi hln hsu r ih =>
    refine .as_ hg hdb hm hi hln (fun a oe cls d pn hz hv => ⟨fun pins s σ H D I h => ?_⟩) ih
    obtain ⟨dd, rfl, rfl, h⟩ := h
    exact (pss_sem (hsu a dd oe pn hz hv)).run pins s σ H D I h
theorem disp_ok {K : PySem.W.Frag} {isa : Nat → Nat → Option Bool} {C : Ct} {F H : Hp} {env : List Slot} {σ : L2.St} {Z : Ends} {P : Post} {x : Nat} {fs : List (Str × D)} {cls : Value} {dd : Addr} (hisa : isaOk K cm isa) (k : Conn K C Z P) (I : Ok K C F env σ H) (xo : XOk K cm F H x fs cls dd) (hG : C.G dd = none) (un : ∀ i, ¬ Owns env σ i dd) :
    ∀ l : List Hd, disp isa P l x fs env → wMix K Z (l.map (Hd.cl K cm)) cls (some dd) σ H
  | [], h => h.elim
  | .only y m :: r, h => by
    have h' : (match isa x y with | some true => m P env | some false => disp isa P r x fs env | none => False) := h
    cases q : isa x y with
    | none => rw [q] at h'; exact h'.elim
    | some b =>
      rw [q] at h'
      refine ⟨b, by rw [xo.cls]; exact (hisa x y b q : _), fun e a _ => ?_, fun e => ?_⟩
      · subst e
        exact ⟨C, F, env, P, I, h', k⟩
      · subst e
        exact disp_ok hisa k I xo hG un r h'
  | .as_ y i m :: r, h => by
    have h' : (match isa x y with | some true => x = y ∧ Free env i ∧ ∀ a dd, m a dd (gonePost i P) (env.set i (.val (.exc a dd fs))) | some false => disp isa P r x fs env | none => False) := h
    cases q : isa x y with
    | none => rw [q] at h'; exact h'.elim
    | some b =>
      rw [q] at h'
      refine ⟨b, by rw [xo.cls]; exact (hisa x y b q : _), fun e a _ => ?_, fun e => ?_⟩
      · subst e
        obtain ⟨rfl, fr, h2⟩ := h'
        obtain ⟨kvs, e1, e2, e3⟩ := xo.at_
        have I2 := I.hold e1 xo.new hG un
        have x2 := Ex.new (o := HO.xd kvs) xo.new
        have I3 := I2.setVal (v := .ref a) (d := .exc a dd fs) fr (Rep.exc upd_same e2 (e3.mono x2))
        refine ⟨dd, rfl, xo.cls, C, _, _, gonePost i P, I3, h2 a dd, ?_⟩
        exact ⟨fun F env σ H I q => k.nx F _ _ H (I.setNo q.1) q.2, fun F env σ H I q => k.bk F _ _ H (I.setNo q.1) q.2, fun F env σ H I q => k.ct F _ _ H (I.setNo q.1) q.2, k.rt, k.r2⟩
      · subst e
        exact disp_ok hisa k I xo hG un r h'
theorem dsx_try {body : List Stmt} {h₀ : ExceptHandler} {hds : List ExceptHandler} {isa : Nat → Nat → Option Bool} {mb : DStm} {hs : List Hd} (hst : X.stack = X.env :: X.outer) (hf : X.env.frame = some X.env.locals) (hN : X.N.Nodup) (hisa : isaOk X.K cm isa)
    (hb : ∀ (pn : List (Addr × Obj)) (xe : Value → Shared → Prop), PassesOwn (model X.prog X.w) X.A X.env xe → DBx (X.tr pn xe) cm body mb) (hh : HdOk X cm (h₀ :: hds) hs) : DSx X cm (.Try body (h₀ :: hds) [] [] pos) (mTry isa mb hs) := fun W tk => by
  refine ⟨_, ps_tryX hst hf hN (tb := fun W => TSdx X.K cm W mb) (fun W pn xe tk' hp => pss_semX (hb pn xe hp) tk') hh.hdx, ?_⟩
  intro C F env σ H D P I h k kx
  refine ⟨C, F, env, { P with ex := disp isa P hs }, I, h, ⟨k.nx, k.bk, k.ct, k.rt, k.r2⟩, ⟨fun F env σ H x fs cls dd I' xo hG un q => ?_⟩⟩
  exact disp_ok hisa k I' xo hG un hs q
end
@[simp] def mXf (a dd : Addr) (i : Nat) (f : Str) : DM := fun env R => match env[i]? with
  | some (.val (.exc a' dd' [(g, d)])) => a' = a ∧ dd' = dd ∧ g = f ∧ R (.vl d) env
  | _ => False
theorem dxf {X : Cx} {a dd C : Addr} {oe : Obj} {cls : Value} {pn : List (Addr × Obj)} {n f : Str} {p pos : Pos} {i : Nat} (T : XfC X.K C) (hno : PySem.W.findIn X.K (.ref C) f = some none) (hc : cls = .ref C) (hz : Zc cls (some dd) oe) (hf : ∃ vs, oe.data = .fields vs)
    (hN : X.N[i]? = some n) (hv : Vis X.env.scope n) (hd : (n == ("__debug__" : Str)) = false := by decide) (hcd : (n == ("__classdict__" : Str)) = false := by decide) (hb : attributeBase (.Name n p) f X.env (eval (.Name n p) X.env) = eval (.Name n p) X.env := by rfl) :
    DE (X.suite a ((a, oe) :: pn)) (.Attribute (.Name n p) f pos) (mXf a dd i f) := by
  refine ⟨_, pe_xf (X := X) T hno hz hf (pv i hN hv hd hcd) hb, ?_⟩
  intro C' F env σ H R Q I h k
  unfold mXf at h
  split at h
  · rename_i a' dd' g d e
    obtain ⟨rfl, rfl, rfl, hR⟩ := h
    obtain ⟨v, h1, h2⟩ := I.vals i _ e
    cases h2 with
    | @exc _ _ kvs _ e1 e2 e3 =>
      obtain ⟨v', rfl, rv⟩ : ∃ v', kvs = [(g, v')] ∧ Rep X.K F v' d := by
        cases kvs with
        | nil => simp at e2
        | cons q r =>
          cases r with
          | cons _ _ => simp at e2
          | nil =>
            obtain ⟨g', v'⟩ := q
            have : g' = g := by simpa using e2
            subst this
            cases e3 with
            | cons rv _ => exact ⟨v', rfl, rv⟩
      exact ⟨_, h1, rfl, hc, dd', _, v', rfl, I.sub _ _ e1, by simp [List.lookup], k _ env F v' H hR I.aft rv⟩
  · exact h.elim
theorem dsx_raiseE {X : Cx} {cm : Nat → Value} {pos cp px : Pos} {x f : Str} {e : Expr} {m : DM} (i : Nat) (hc : X.calm = true) (c : ∃ Ca, cm i = .ref Ca ∧ XCl X.prog X.w X.K X.mg X.base x f Ca) (hr : Room 2 X.A) (hg : Gl X x) (h : DE X e m) (he : starEach (e :: []) X.env = (false, eval e X.env) :: starEach [] X.env := by rfl) :
    DSx X cm (.Raise (some (.Call (.Name x px) [e] [] cp)) none pos) (mRaise i f m) := by
  obtain ⟨Ca, h1, h2⟩ := c
  exact dsx_raise i hc h2 h1 hr hg h he
theorem dxfE {X : Cx} {cm : Nat → Value} {a dd : Addr} {oe : Obj} {y : Nat} {pn : List (Addr × Obj)} {x n f : Str} {p pos : Pos} {i : Nat} (c : ∃ Ca, cm y = .ref Ca ∧ XCl X.prog X.w X.K X.mg X.base x f Ca) (hz : Zc (cm y) (some dd) oe) (hf : ∃ vs, oe.data = .fields vs)
    (hN : X.N[i]? = some n) (hv : Vis X.env.scope n) (hd : (n == ("__debug__" : Str)) = false := by decide) (hcd : (n == ("__classdict__" : Str)) = false := by decide) (hb : attributeBase (.Name n p) f X.env (eval (.Name n p) X.env) = eval (.Name n p) X.env := by rfl) :
    DE (X.suite a ((a, oe) :: pn)) (.Attribute (.Name n p) f pos) (mXf a dd i f) := by
  obtain ⟨Ca, h1, h2⟩ := c
  exact dxf h2.xf h2.no h1 hz hf hN hv hd hcd hb
end DL

set_option Elab.async false
set_option linter.all false
set_option maxRecDepth 100000
set_option maxHeartbeats 4000000
set_option autoImplicit false
/-! X6: own exception classes over any base whose __new__ is LookupError's (LookupError, KeyError). -/
namespace DL
open PySem PySem.Spec L2 Evl PyProof.Rows

abbrev tailLE : List Value := [.type "LookupError", .type "Exception", .type "BaseException", .type "object"]
abbrev tailKE : List Value := .type "KeyError" :: tailLE
structure XIni (B initId : String) : Prop where
  slot : PySem.Slot B "__init__" initId
  entry : entryFor table initId = some Builtin.«BaseException.__init__»
  split : splitId initId = some (B, "__init__")
  kind : builtinKind initId = some .slot
  row : Manifest.signature? initId = some ⟨.positional, "*", B, .self, [⟨"args", .varPos, false⟩]⟩
  nostar : (B != "*") = true
theorem xini_LE : XIni "LookupError" "LookupError.__init__" :=
  let F := F.excBase_LookupError
  ⟨F.init, F.initEntry, F.initSplit, F.initKind, F.initRow, F.noStar⟩
theorem xini_KE : XIni "KeyError" "KeyError.__init__" where
  slot := PySem.Slot.of (n := "__init__") (owner := "KeyError")
    (by
      rw [typeLookup_type, builtinLookup_eq_fast]
      kernel_rfl)
    (by decide +kernel) (by decide +kernel) (by decide +kernel)
    (by
      first
      | exact Or.inl (by decide +kernel)
      | exact Or.inr (by decide +kernel))
    (by
      rw [isSubtype_type]
      kernel_rfl)
  entry := by
    refine entryFor_alias (id' := "BaseException.__init__") ?_ ?_ ?_ ?_
    · rw [fastTable_eq_tree]
      kernel_rfl
    · first
      | rfl
      | decide +kernel
    · decide +kernel
    · rw [fastTable_eq_tree]
      kernel_rfl
  split := by kernel_rfl
  kind := by kernel_rfl
  row := by kernel_rfl
  nostar := by decide +kernel
structure XMro (B : String) (bm : List Value) : Prop where
  le : bm.contains (.type "LookupError") = true
  b : bm.contains (.type B) = true
  at_ : bm.contains (.type "AttributeError") = false
  nm : bm.contains (.type "NameError") = false
section
variable {nm q : Str} {C N : Addr} {bs bm : List Value} {hdct : Bool} {sn : List Str} {sub : List Value} {ab : Bool} {col : Option Bool} {dd : Option Addr} {k0 k1 k2 k3 k5 : Option Value} {B initId : String}
variable {prog : Program} {w : World} {M : Model} {A : Around} {E : Value → Shared → Prop} {R : Result → Shared → Prop} {h : Heap} {g : Array GenState} {d : Drawn} {t : Nat} {os : OsState}
abbrev leC (nm q : Str) (C N : Addr) (bs bm : List Value) (hdct : Bool) (sn : List Str) (sub : List Value) (ab : Bool) (col : Option Bool) (dd : Option Addr) (k0 k1 k2 k3 k5 : Option Value) : Obj := excClassObj nm q C N bs bm hdct sn sub ab col dd k0 k1 k2 k3 k5 "LookupError.__new__"
theorem cons_has {x : String} : (Value.ref C :: bm).contains (.type x) = bm.contains (.type x) := by
  rw [List.contains_cons]
  rfl
theorem knew_check (m : XMro B bm) (hC : h.get? C = some (leC nm q C N bs bm hdct sn sub ab col dd k0 k1 k2 k3 k5)) {rest : List Value} {Q : Unit → Shared → Prop} (hq : Q () ⟨h, g, d, t, os⟩) :
    wpAny M A (checkBuiltinCall "LookupError.__new__" ⟨.ref C :: rest, []⟩) Q E ⟨h, g, d, t, os⟩ := by
  have c1 : (Value.ref C :: bm).contains (.type "LookupError") = true := cons_has.trans m.le
  have F := F.excBase_LookupError
  have f0 := F.noStar
  simp only [checkBuiltinCall, F.newSplit, F.newKind, F.newRow]
  repeat
    first
    | refine wpAny_loadPart_at hC ?_
    | (refine wpAny_isSubtype_exc hC ?_
       rw [c1])
    | refine wpAny_staticBase_exc hC ?_
    | refine wpAny_madeBy_exc hC ?_
    | simp only [if_false, Bool.false_eq_true, bne_self_eq_false]
    | wp_step
  exact hq
theorem kini_check (b : XIni B initId) (m : XMro B bm) (hC : h.get? C = some (leC nm q C N bs bm hdct sn sub ab col dd k0 k1 k2 k3 k5)) {e : Addr} {oe : Obj} (he : h.get? e = some oe) (hc : oe.cls = .ref C) {rest : List Value} {Q : Unit → Shared → Prop} (hq : Q () ⟨h, g, d, t, os⟩) :
    wpAny M A (checkBuiltinCall initId ⟨.ref e :: rest, []⟩) Q E ⟨h, g, d, t, os⟩ := by
  have c1 : (Value.ref C :: bm).contains (.type B) = true := cons_has.trans m.b
  have f0 := b.nostar
  simp only [checkBuiltinCall, b.split, b.kind, b.row]
  repeat
    first
    | (with_reducible refine wpAny_loadPart_at he ?_
       rw [hc])
    | with_reducible refine wpAny_loadPart_at hC ?_
    | (with_reducible refine wpAny_isSubtype_exc hC ?_
       rw [c1])
    | wp_step
  apply wpAny_onRaise
  have z : ∀ (a b' : String) (n : Nat) (l : List Str), Bind.check ⟨.positional, "*", B, .self, [⟨"args", .varPos, false⟩]⟩ a b' n (List.map (fun x => x.fst) ({ pos := Value.ref e :: rest } : Args).kw) = pure () := fun _ _ _ _ => check_star_args _ _ _ _ _ _
  rw [z _ _ _ []]
  exact wpAny_pure hq
theorem knew_run (m : XMro B bm) (hC : h.get? C = some (leC nm q C N bs bm hdct sn sub ab col dd k0 k1 k2 k3 k5)) {rest : List Value} (hr : rest.length ≤ sizeLine)
    (hq : R (.ok (.ret (.ref (h.objs.size + 1)))) ⟨(h.push (W.kdv_tup rest)).push (HandSPX.excO C h.objs.size), g, d, t, os⟩) :
    codeAny (model prog w) A (.builtin "LookupError.__new__" ⟨.ref C :: rest, []⟩) R ⟨h, g, d, t, os⟩ := by
  have F := F.excBase_LookupError
  have f0 := F.ends
  have c1 : (Value.ref C :: bm).contains (.type "LookupError") = true := cons_has.trans m.le
  have c2 : (Value.ref C :: bm).contains (.type "AttributeError") = false := cons_has.trans m.at_
  have c3 : (Value.ref C :: bm).contains (.type "NameError") = false := cons_has.trans m.nm
  apply codeAny_builtinAt F.entry
  unfold Builtin.«BaseException.__new__»
  apply PySem.wpAt_bind
  show PySem.wpAt _ _ _ (stack >>= _) _ _ _
  apply PySem.wpAt_bind
  apply PySem.wpAt_stack
  intro p below
  apply PySem.wpAt_of_wpAny
  wp_walk
  apply PySem.wpAt_of_wpAny
  rw [F.owner]
  repeat
    first
    | with_reducible refine wpAny_madeHere_exc F.canon hC ?_
    | with_reducible refine wpAny_loadPart_at hC ?_
    | (with_reducible refine wpAny_isSubtype_exc hC ?_
       first
       | rw [c1]
       | rw [c2]
       | rw [c3])
    | wp_step
  show R _ _
  rw [Heap.size_push]
  exact hq
theorem ktype_call (m : XMro B bm) (hC : h.get? C = some (leC nm q C N bs bm hdct sn sub ab col dd k0 k1 k2 k3 k5)) {rest : List Value} {fI : Addr} {Q : Fin → Shared → Prop} (hr : rest.length ≤ sizeLine)
    (hi : W.Looks (model prog w) h (typeLookup (.ref C) "__init__") (some (.ref fI))) (hb : ∀ self, W.Looks (model prog w) h (bindSpecial (.ref fI) self) (.ref fI, [self]))
    (hq : codeAny (model prog w) A (.call (.ref fI) ⟨.ref (h.objs.size + 1) :: rest, []⟩) (fun r s' => match r with
      | .ok (.ret v) => v = .none ∧ Q (.done (.ret (.ref (h.objs.size + 1)))) s'
      | .ok _ => False
      | .error e => E e s') ⟨(h.push (W.kdv_tup rest)).push (HandSPX.excO C h.objs.size), g, d, t, os⟩) :
    wpAny (model prog w) A (Builtin.«type.__call__» ⟨.ref C :: rest, []⟩) Q E ⟨h, g, d, t, os⟩ := by
  repeat
    first
    | with_reducible refine wpAny_loadPart_at hC ?_
    | with_reducible refine wpAny_madeBy_exc hC ?_
    | wp_step
  apply codeAny_call_builtin_code (Code.quiet_builtin _ F.excBase_LookupError.quiet)
  apply knew_check m hC
  apply knew_run m hC hr
  show wpAny _ _ _ _ _ _
  have kp : ∀ b o, h.get? b = some o → ((h.push (W.kdv_tup rest)).push (HandSPX.excO C h.objs.size)).get? b = some o := by
    intro b o e
    apply Heap.get?_push_of_some
    exact Heap.get?_push_of_some _ e
  have gC := kp _ _ hC
  have gE : ((h.push (W.kdv_tup rest)).push (HandSPX.excO C h.objs.size)).get? (h.objs.size + 1) = some (HandSPX.excO C h.objs.size) := by heap_get
  have self : (Value.ref C :: bm).contains (.ref C) = true := by
    rw [List.contains_cons]
    simp
  have li := hi.keeps kp
  have lb := (hb (.ref (h.objs.size + 1))).keeps kp
  unfold isInstance
  repeat
    first
    | with_reducible refine wpAny_loadPart_at gE ?_
    | (with_reducible refine wpAny_isSubtype_exc gC ?_
       rw [self])
    | wp_step
  show wpAny _ _ (typeLookup (.ref C) _) _ _ _
  apply li.at
  apply wpAny_holding
  apply wpAny_bind
  apply lb.at
  apply wpAny_bind
  apply wpAny_call
  apply codeAny_mono hq
  intro r s' z
  match r, z with
  | .error e, z => exact z
  | .ok .next, z => exact z.elim
  | .ok .brk, z => exact z.elim
  | .ok .cont, z => exact z.elim
  | .ok (.ret v), ⟨e, z⟩ =>
    subst e
    first
    | exact wpAny_pure (wpAny_pure z)
    | (wp_walk
       exact z)
theorem kcall (m : XMro B bm) (hC : h.get? C = some (leC nm q C N bs bm hdct sn sub ab col dd k0 k1 k2 k3 k5)) {rest : List Value} {fI : Addr} (hr : rest.length ≤ sizeLine)
    (hi : W.Looks (model prog w) h (typeLookup (.ref C) "__init__") (some (.ref fI))) (hb : ∀ self, W.Looks (model prog w) h (bindSpecial (.ref fI) self) (.ref fI, [self]))
    (hq : codeAny (model prog w) (A.under (.builtin "type.__call__" ⟨.ref C :: rest, []⟩)) (.call (.ref fI) ⟨.ref (h.objs.size + 1) :: rest, []⟩) (W.InitBack (h.objs.size + 1) R) ⟨(h.push (W.kdv_tup rest)).push (HandSPX.excO C h.objs.size), g, d, t, os⟩) :
    codeAny (model prog w) A (.call (.ref C) ⟨rest, []⟩) R ⟨h, g, d, t, os⟩ := by
  have l1 := tc_lookup
  have l2 := tc_bind (.ref C)
  have ty : (⟨h, g, d, t, os⟩ : Shared).TypeIs (.ref C) "type" := ⟨_, hC, rfl⟩
  apply codeAny_of_tree
  show wpAny _ _ (callAny (.ref C) _) _ _ _
  repeat
    any_goals
      first
      | assumption
      | with_reducible refine wpAny_loadPart_at hC ?_
      | wp_step
  refine ⟨rfl, codeAny_call_builtin_at (Code.quiet_builtin _ (by decide +kernel)) entry_typeCall (wpAny_check_type_call_sub hC ?_)⟩
  apply ktype_call m hC hr hi hb
  apply codeAny_mono hq
  intro r s' z
  match r, z with
  | .error e, z => exact z
  | .ok .next, z => exact z
  | .ok .brk, z => exact z
  | .ok .cont, z => exact z
  | .ok (.ret v), z => exact z
theorem kinit_base (b : XIni B initId) (m : XMro B bm) (hC : h.get? C = some (leC nm q C N bs bm hdct sn sub ab col dd k0 k1 k2 k3 k5)) {e t0 : Addr} (he : h.get? e = some (HandSPX.excO C t0)) {rest : List Value}
    (hq : ∀ h' t1, (∀ b o, b ≠ e → h.get? b = some o → h'.get? b = some o) → h'.get? e = some (HandSPX.excO C t1) → R (.ok (.ret .none)) ⟨h', g, d, t, os⟩) (hr : rest.length ≤ sizeLine) :
    codeAny (model prog w) A (.call (.builtin initId) ⟨.ref e :: rest, []⟩) R ⟨h, g, d, t, os⟩ := by
  apply codeAny_call_builtin b.slot.plain b.entry
  apply kini_check b m hC he rfl
  wp_walk
  apply hq _ h.objs.size
  · intro b' o hb ho
    rw [Heap.get?_update_other _ _ (Ne.symm hb)]
    exact Heap.get?_push_of_some _ ho
  · rw [Heap.get?_update_self _ (Heap.get?_push_of_some _ he) rfl]
    rfl
end
end DL

set_option Elab.async false
set_option linter.all false
set_option maxRecDepth 100000
set_option maxHeartbeats 4000000
set_option autoImplicit false
/-! X7: raising such exceptions. -/
namespace DL
open PySem PySem.Spec L2 Evl PyProof.Rows

theorem store_KE : StoreFacts "KeyError" tailKE "object.__setattr__" "object" where
  mro := by kernel_rfl
  slot := PySem.Slot.of (n := "__setattr__") (owner := "object")
    (by
      rw [typeLookup_type, builtinLookup_eq_fast]
      kernel_rfl)
    (by decide +kernel) (by decide +kernel) (by decide +kernel)
    (by
      first
      | exact Or.inl (by decide +kernel)
      | exact Or.inr (by decide +kernel))
    (by
      rw [isSubtype_type]
      kernel_rfl)
  entry := F.entry_object_sa
  kind := by decide +kernel
  split := by decide +kernel
  hasOwner := by decide +kernel
  args := fun a b c => by
    unfold argsOk
    kernel_rfl
  passes := fun self => by kernel_rfl
structure KBase (B initId : String) (t : List Value) : Prop where
  st : StoreFacts B t "object.__setattr__" "object"
  ini : XIni B initId
theorem kb_LE : KBase "LookupError" "LookupError.__init__" tailLE := ⟨F.store_LookupError, xini_LE⟩
theorem kb_KE : KBase "KeyError" "KeyError.__init__" tailKE := ⟨store_KE, xini_KE⟩
def leB (K : PySem.W.Frag) (C : Addr) (B : String) : Bool := match K.lookup C with
  | some ⟨.type "type", _, .cls cd, sl⟩ => (match cd.mro, sl.toList with
    | .ref C' :: bm, [_, _, _, _, some (.builtin n), _] => C' == C && (n == "LookupError.__new__" && (cd.hasDict && (!cd.hasDel && (bm.contains (.type "LookupError") && (bm.contains (.type B) && (!bm.contains (.type "AttributeError") && !bm.contains (.type "NameError")))))))
    | _, _ => false)
  | _ => false
structure KxC (K : PySem.W.Frag) (C : Addr) (B : String) (t : List Value) : Prop where
  look : leB K C B = true
  ov : PySem.W.excOver K C t = true
  sa : PySem.W.findIn K (.ref C) "__setattr__" = some (some (.builtin "object.__setattr__"))
  exC : PySem.W.subIn K (.ref C) (.type "BaseException") = some true
  tyC : PySem.W.typeIn K (.ref C) = some (.type "type")
  kC : PySem.W.keepIn K (.ref C) = true
theorem leB_ok {K : PySem.W.Frag} {C : Addr} {B : String} (h : leB K C B = true) : ∃ nm q N bs bm sn sub ab col dd k0 k1 k2 k3 k5, K.lookup C = some (leC nm q C N bs bm true sn sub ab col dd k0 k1 k2 k3 k5) ∧ XMro B bm := by
  unfold leB at h
  split at h
  · rename_i dd cd sl ho
    split at h
    · rename_i C' bm k0 k1 k2 k3 n k5 hm hs
      simp only [Bool.and_eq_true, beq_iff_eq, Bool.not_eq_true'] at h
      obtain ⟨e1, e2, e3, e4, e5, e6, e7, e8⟩ := h
      cases cd with
      | mk nm bs mro N q hd sn sub ab col del =>
        cases sl with
        | mk l =>
          have hm' : mro = .ref C' :: bm := hm
          have hs' : l = [k0, k1, k2, k3, some (.builtin n), k5] := hs
          have e3' : hd = true := e3
          have e4' : del = false := e4
          subst e1; subst e2; subst hm'; subst hs'; subst e3'; subst e4'
          exact ⟨nm, q, N, bs, bm, sn, sub, ab, col, dd, k0, k1, k2, k3, k5, ho, e5, e6, e7, e8⟩
    · exact absurd h Bool.false_ne_true
  · exact absurd h Bool.false_ne_true
section
variable {X : Cx} {pins : List (Addr × Obj)} {σ : L2.St} {H : Hp} {a C : Addr} {f : Str} {y : V} {u : Value}
theorem exo_dict {hp h' : Heap} {g : Array GenState} {d : Drawn} {tk tk' : Nat} {os : OsState} {t1 dx : Addr} (I : Inv X pins σ H ⟨hp, g, d, tk, os⟩) (e : H a = some (exo a C none)) (k : ∀ b o, b ≠ a → hp.get? b = some o → h'.get? b = some o) (dn : hp.objs.size ≤ dx) (dne : dx ≠ a)
    (hx : h'.get? a = some ({ cls := .ref C, dict := some dx, data := .fields #[.ref t1, .none, .none, .none, .bool false, .none] } : Obj)) (hn : h'.Ns1 dx fun z => if z = f then some u else none) (ry : RelV y u) :
    Inv X pins σ (upd (upd H dx (exd dx [(f, y)])) a (exo a C (some dx))) ⟨h', g, d, tk', os⟩ := by
  have fresh : H dx = none := I.hok.fresh dn
  have apart : ∀ {b : Addr}, H b = none → b ≠ a := by
    rintro b n rfl
    rw [e] at n
    exact nomatch n
  have below : ∀ {b : Addr} {o : Obj}, hp.get? b = some o → b ≠ dx := by
    rintro b o q rfl
    exact absurd (Heap.lt_size q) (Nat.not_lt.mpr dn)
  have same : ∀ (b : Addr) (o : HO), H b = some o → o ≠ exo a C none → upd (upd H dx (exd dx [(f, y)])) a (exo a C (some dx)) b = some o := by
    intro b o q n
    rw [upd_ne, upd_ne (ne_of_none q fresh)]
    · exact q
    · rintro rfl
      rw [e] at q
      exact n (Option.some.inj q).symm
  refine I.un (t' := tk') ?_ ?_
  · constructor
    · intro b o q n _ _
      exact k b o (apart n) q
    · intro b o q n _ _
      exact ⟨o.slots, k b o (apart n) q⟩
    · intro b o q n _
      rw [upd_ne (apart n), upd_ne (below q)]
      exact n
    · intro b o q _
      by_cases hb : b = a
      · exact ⟨_, hb ▸ hx⟩
      · exact ⟨o, k b o hb q⟩
    · intro b xs q
      exact same b _ q fun z => exo_tup z.symm
    · intro b o v q
      exact same b _ q fun z => exo_frz z.symm
    · intro b ps q
      exact ⟨#[], by rw [same b _ q fun z => exo_tbl z.symm]; simp⟩
  · intro b o q
    by_cases hb : b = a
    · subst hb
      rw [upd_same] at q
      cases q
      exact exo_ok hx
    · rw [upd_ne hb] at q
      by_cases hd : b = dx
      · subst hd
        rw [upd_same] at q
        cases q
        exact exd_ok hn (relO_put (fs := []) ry fun _ => trivial)
      · rw [upd_ne hd] at q
        refine (I.hok b o q).stay ?_ ?_ ?_
        · intro c v hc z
          refine k c v ?_ z
          rcases hc with rfl | hc
          · exact hb
          · exact at_ne e hc exo_own
        · intro c hc
          exact same c _ hc fun z => exo_own z.symm
        · intro c xs hc
          exact same c _ hc fun z => exo_tup z.symm
theorem kst_new {s : Shared} {Q : Unit → Shared → Prop} {E : Value → Shared → Prop} {A : Around} {B initId : String} {t : List Value} (b : KBase B initId t) (T : KxC X.K C B t) (I : Inv X pins σ H s) (e : H a = some (exo a C none)) (hno : PySem.W.findIn X.K (.ref C) f = some none) (ry : RelV y u)
    (h : ∀ dx s', H dx = none → dx ≠ a → Inv X pins σ (upd (upd H dx (exd dx [(f, y)])) a (exo a C (some dx))) s' → Q () s') : wpAny (model X.prog X.w) A (setAttr (.ref a) f u) Q E s := by
  obtain ⟨nm, q, N, bs, bm, sn, sub, ab, col, dd, k0, k1, k2, k3, k5, hC, _⟩ := leB_ok T.look
  obtain ⟨t1, ho⟩ := exo_at I.hok e
  obtain ⟨hp, g, d, tk, os⟩ := s
  have J : PySem.W.InstAt hp a { cls := .ref C, dict := none, data := .fields #[.ref t1, .none, .none, .none, .bool false, .none] } C none := ⟨ho, rfl, rfl, trivial⟩
  refine PySem.W.set_plain I.kIn J T.sa ?_
  have ht : PySem.W.takerIn X.K C f = some none := by
    unfold PySem.W.takerIn
    rw [hno]
    rfl
  refine PySem.W.osa_openX b.st I.kIn J T.ov ht fun bb => ?_
  have lc : PySem.W.Looks (model X.prog X.w) hp (classData C) _ := PySem.W.looks_clsIn I.kIn (by unfold PySem.W.clsIn; rw [hC])
  have apart : a ≠ hp.objs.size := Nat.ne_of_lt (Heap.lt_size ho)
  show wpAny _ _ (Builtin.ObjectAttr.storeInOwnDict (.ref a) (.ref C) _ f u bb) _ _ _
  unfold Builtin.ObjectAttr.storeInOwnDict Builtin.ObjectAttr.ownDictForStores
  repeat
    first
    | with_reducible refine HandSPX.store_in_new ?_ ?_
    | with_reducible refine wpAny_loadPart_at ho ?_
    | with_reducible refine lc.at ?_
    | wp_step
  · have new := Heap.get?_push_at (h := hp) (o := { cls := .type "dict", data := .dict #[] }) (a := hp.objs.size) rfl rfl
    refine ⟨_, #[], _, (Heap.get?_update_ne _ _ _ _ apart.symm).trans new, rfl, ?_, fun _ => rfl⟩
    exact fun _ he => absurd he (by simp)
  · intro h' tk' hn' hs
    have old : (hp.push { cls := .type "dict", data := .dict #[] }).get? a = some ({ cls := .ref C, dict := none, data := .fields #[.ref t1, .none, .none, .none, .bool false, .none] } : Obj) := Heap.get?_push_of_some _ ho
    have hx := (hs.2 a apart).trans (Heap.get?_update_self _ old rfl)
    refine h hp.objs.size _ (I.hok.fresh (Nat.le_refl _)) apart.symm (exo_dict (tk := tk) (tk' := tk') I e ?_ (Nat.le_refl _) apart.symm hx hn' ry)
    intro b' o hb ho'
    rw [hs.2 b' (Nat.ne_of_lt (Heap.lt_size ho')), Heap.get?_update_ne _ _ _ _ hb]
    exact Heap.get?_push_of_some _ ho'
theorem kinit_ok {s : Shared} {us : List Value} {Q : Value → Shared → Prop} {E : Value → Shared → Prop} {A : Around} {B initId : String} {t : List Value} (b : KBase B initId t) (T : KxC X.K C B t) (I : Inv X pins σ H s) (e : H a = some (exo a C none)) (hl : us.length ≤ sizeLine) (h : ∀ s', Inv X pins σ H s' → Q .none s') :
    wpAny (model X.prog X.w) A (call (.builtin initId) (.ref a :: us)) Q E s := by
  obtain ⟨nm, q, N, bs, bm, sn, sub, ab, col, dd, k0, k1, k2, k3, k5, hC, hm⟩ := leB_ok T.look
  obtain ⟨t1, ho⟩ := exo_at I.hok e
  obtain ⟨hp, g, d, tk, os⟩ := s
  refine wpAny_call (kinit_base b.ini hm (I.kIn _ _ hC) ho (fun h' t2 k hx => ?_) hl)
  have J := I.write (x := a) (e := a) (o := exo a C none) (t' := tk) (by rw [e]; trivial) (Or.inl rfl) k ⟨_, hx⟩ (exo_ok hx)
  have same : upd H a (exo a C none) = H := funext fun b' => by
    by_cases hb : b' = a
    · subst hb; rw [upd_same, e]
    · rw [upd_ne hb]
  exact h _ (same ▸ J)
end

/-! ### the statements of such an __init__, the call, raise -/
def tKin (K : PySem.W.Frag) (B : String) (t : List Value) (ta : TA) : TE := fun σ H Q => ta σ H fun vs H1 => ∃ (a C : Addr) (ws : List V), vs = .ref a :: ws ∧ ws.length ≤ 1000 ∧ KxC K C B t ∧ H1 a = some (exo a C none) ∧ Q .non H1
def tKst (K : PySem.W.Frag) (B : String) (t : List Value) (f : Str) (to te : TE) : TS := fun D σ H => te σ H fun y H1 => to σ H1 fun x H2 => ∃ a C : Addr, x = .ref a ∧ KxC K C B t ∧ PySem.W.findIn K (.ref C) f = some none ∧
  H2 a = some (exo a C none) ∧ ∀ dx, H2 dx = none → dx ≠ a → D.nx σ (upd (upd H2 dx (exd dx [(f, y)])) a (exo a C (some dx)))
structure KName (K : PySem.W.Frag) (Ba : Addr) (initId : String) : Prop where
  rd : PySem.W.readsIn K Ba (.type "type") = true
  ga : PySem.W.specialIn K (.ref Ba) "__getattribute__" = some (some (.builtin "type.__getattribute__"))
  at_ : PySem.W.findCls K (.ref Ba) (.type "type") "__init__" = some (.val (.builtin initId))
section
variable {X : Cx} {o e : Expr} {es : List Expr} {to te : TE} {ta : TA} {x f : Str} {p1 p2 p' pos : Pos} {Ba : Addr} {B initId : String} {t : List Value}
theorem pe_kinit (b : KBase B initId t) (hh : PySem.W.handedIn (.builtin initId) = true) (hb : KName X.K Ba initId) (hg : Gl X x) (hm : X.mg x = some (.ref Ba)) (ha : PA X (e :: es) ta) (hdb : (x == ("__debug__" : Str)) = false := by decide) {pl : Sem Bool}
    (hc : eval (.Call (.Attribute (.Name x p1) "__init__" p2) (e :: es) [] pos) X.env = (do
      let ov ← eval (.Name x p1) X.env
      standAt p2.atName
      let (f, first) ← holding [ov] (getMethod ov "__init__" pl)
      callWith pos f first (backTo pos (starEach (e :: es) X.env)) (backToKw pos (keywordEach [] X.env))) := by rfl)
    (he : starEach (e :: es) X.env = (false, eval e X.env) :: starEach es X.env := by rfl) (hpl : (backTo pos (starEach es X.env)).any (·.1) = false := by rfl) :
    PE X (.Call (.Attribute (.Name x p1) "__init__" p2) (e :: es) [] pos) (tKin X.K B t ta) := by
  constructor
  intro pins s σ H Q I h
  apply PySem.W.methodCall_KW (ld_glob I hg hm _ hdb) hc
  apply PySem.W.method_cls I.kIn hb.ga
  apply PySem.W.cls_value I.kIn hb.rd hb.at_ hh
  refine PyProof.Rows.callWith_method1 (thn (ha.run pos pins _ σ H _ (I.tok _) h) ?_) he hpl
  rintro us s1 ⟨vs, H1, I1, r1, a, C, ws, ev, hl, T, ea, q⟩
  subst ev
  obtain ⟨u0, ur, rfl, ra, rw'⟩ : ∃ u0 ur, us = u0 :: ur ∧ RelV (.ref a) u0 ∧ Vals ws ur := by
    cases r1 with
    | cons ra rw' => exact ⟨_, _, rfl, ra, rw'⟩
  have eu : u0 = Value.ref a := ra
  subst eu
  have hn : ur.length ≤ sizeLine := by
    have := Paired.length rw'
    have z := sizeLine_eq
    omega
  exact kinit_ok b T I1 ea hn fun s' J => ⟨.non, H1, J, rfl, q⟩
theorem ps_kst (b : KBase B initId t) (ho : PE X o to) (he : PE X e te) (hs : swapsWith e (some (.Attribute o f p')) pos.line X.env = pure false := by rfl) : PS X (.Assign [.Attribute o f p'] e pos) (tKst X.K B t f to te) := by
  constructor
  intro pins s σ H D I h
  apply plainObj_wpAny_Assign_Attribute _ hs
  apply thn (he.run pins s σ H _ I h)
  rintro v s1 ⟨y, H1, I1, r1, q1⟩
  apply thn (ho.run pins s1 σ H1 _ I1 q1)
  rintro u s2 ⟨z, H2, I2, r2, a, C, ez, T, hno, ea, q⟩
  subst ez
  have eu : u = Value.ref a := r2
  subst eu
  exact kst_new b T I2 ea hno r1 fun dx s' n ne J => ⟨σ, _, J, q dx n ne⟩
end
def tMkK (K : PySem.W.Frag) (C : Addr) (sp : Sp) (ta : TA) : L2.St → Hp → XK → Prop := fun σ H Q => ta σ H fun vs H1 => vs.length ≤ 1000 ∧ ∀ a, H1 a = none → sp (.ref a :: vs) (upd H1 a (exo a C none))
  (fun v H2 => v = .non ∧ ∃ (d : Addr) (fs : List (Str × V)), H2 a = some (exo a C (some d)) ∧ H2 d = some (exd d fs) ∧ H1 d = none ∧ Q (.ref C) (some d) (upd (L2.del H2 a) d (.xd fs))) fun _ _ _ => False
theorem pmk_kex {X : Cx} {e : Expr} {ta : TA} {x : Str} {p pos : Pos} {C fI : Addr} {k : Nat} {fd : FuncData} {ps : List Str} {sp : Sp} {B : String} {t : List Value} (T : KxC X.K C B t) (iC : PySem.W.findIn X.K (.ref C) "__init__" = some (some (.ref fI))) (tI : PySem.W.typeIn X.K (.ref fI) = some (.type "function"))
    (F1 : FnOk X.prog X.w X.K X.mg X.base (L2.CX X.prog X.w) k fI fd ps sp) (hr : Room (k + 1) X.A) (hb : Binds X.K fd ps []) (hg : Gl X x) (hm : X.mg x = some (.ref C)) (ha : PA X [e] ta) (hdb : (x == ("__debug__" : Str)) = false)
    (he : starEach (e :: []) X.env = (false, eval e X.env) :: starEach [] X.env) : PMk X (.Call (.Name x p) [e] [] pos) (tMkK X.K C sp ta) := by
  intro pins s σ H Q I h
  obtain ⟨nm, q, N, bs, bm, sn, sub, ab, col, dd, k0, k1, k2, k3, k5, hC, hx⟩ := leB_ok T.look
  apply wpAny_Call_Name_kw
  apply ld_glob I hg hm _ hdb
  apply PySem.W.callWith_K (h₀ := X.base) I.ok.mod.kin T.kC _ he rfl
  apply thn (ha.run pos pins s σ H _ I h)
  rintro us s1 ⟨vs, H1, I1, r1, hz, q1⟩
  refine ⟨I1.kIn, ?_⟩
  show wpAny _ _ (call (.ref C) us) _ _ _
  obtain ⟨hp, g, dr, tk, os⟩ := s1
  have above : hp.objs.size ≤ hp.objs.size + 1 := Nat.le_succ _
  have hq := q1 (hp.objs.size + 1) (I1.hok.fresh above)
  have kp : ∀ b o, hp.get? b = some o → ((hp.push (PySem.W.kdv_tup us)).push (HandSPX.excO C hp.objs.size)).get? b = some o := by
    intro b o e
    apply Heap.get?_push_of_some
    exact Heap.get?_push_of_some _ e
  have gE : ((hp.push (PySem.W.kdv_tup us)).push (HandSPX.excO C hp.objs.size)).get? (hp.objs.size + 1) = some (HandSPX.excO C hp.objs.size) := by heap_get
  have I2 := I1.laid (a := hp.objs.size + 1) (o := exo (hp.objs.size + 1) C none) (t' := tk) kp above (exo_ok gE)
  have r2 : Vals (V.ref (hp.objs.size + 1) :: vs) (Value.ref (hp.objs.size + 1) :: us) := .cons rfl r1
  have hl : (Value.ref (hp.objs.size + 1) :: us).length = ps.length := r2.length.symm.trans (F1.len _ _ _ _ hq)
  have few : us.length ≤ sizeLine := by
    have e1 := Paired.length r1
    have e2 := sizeLine_eq
    omega
  have bind := hb _ (Value.ref (hp.objs.size + 1) :: us) I2.kIn (by simpa using hl)
  rw [List.append_nil] at bind
  refine wpAny_call (kcall hx (I1.kIn _ _ hC) few (PySem.W.looks_findIn I1.kIn iC) (fun self => PySem.W.bind_fn I1.kIn self tI) (codeAny_mono (F1.run _ X.stack _ _ ⟨Value.ref (hp.objs.size + 1) :: us, []⟩ _ _ _ (fun _ _ _ => False) (hr.make C us []) (I2.env0.make C us []) bind r2 hq) ?_))
  intro r s' z
  match r, z with
  | .error er, z => exact passL pins σ _ _ er s' I2 z
  | .ok .next, z => exact False.elim z
  | .ok .brk, z => exact False.elim z
  | .ok .cont, z => exact False.elim z
  | .ok (.ret u), z =>
    obtain ⟨v, H2, os2, bare2, un2, hok2, rv, ev, d, fs, ea, ed, hd1, q2⟩ := z
    subst ev
    obtain ⟨h2, g2, d2, t2, os'⟩ := s'
    exact ⟨rv, mk_end (raises_own T.exC T.tyC) I1 above kp un2 hok2 os2 bare2 ea ed hd1 q2⟩
def spKi (K : PySem.W.Frag) (C : Addr) (B : String) (t : List Value) (f : Str) : Sp := fun vs H Q _ => ∃ (a : Addr) (v : V), vs = [.ref a, v] ∧ KxC K C B t ∧ PySem.W.findIn K (.ref C) f = some none ∧ H a = some (exo a C none) ∧
  ∀ d, H d = none → d ≠ a → Q .non (upd (upd H d (exd d [(f, v)])) a (exo a C (some d)))
section
variable {P : Program} {w : World} {K : PySem.W.Frag} {mg : Str → Option Value} {base : Heap}
theorem kinit_fn {qual p f m : Str} {st : Stmt} {fI C : Addr} {fd : FuncData} {B : String} {t : List Value} (F : Fun K "__init__" qual st fI fd) (S : FnScope ["self", p] ["self", p] (defScope st))
    (hbody : ∀ (cdv : Value) (A : Around) (outer : List PySem.Env) (s : Shared) (H : Hp) (E : XK),
      PSs (cxOf (L2.CX P w) P w K mg base ["self", p] qual (defScope st) fI cdv A outer s H E) (defBody st) (tSeq (tDrop (tKin K B t (tCons (tVar 0) (tCons (tC (.str m)) tNil)))) (tKst K B t f (tVar 0) (tVar 1)))) :
    FnOk P w K mg base (L2.CX P w) 1 fI fd ["self", p] (spKi K C B t f) := by
  refine Fun.okX F S ?_ ?_
  · rintro vs H Q E ⟨a, v, rfl, _⟩; rfl
  · rintro cdv A outer s H vs Q E hr ⟨a, v, rfl, T, hno, ea, h⟩
    refine ⟨_, hbody cdv A outer s H E, .ref a, rfl, a, C, [.str m], rfl, Nat.le_of_ble_eq_true rfl, T, ea, ?_⟩
    exact ⟨v, rfl, .ref a, rfl, a, C, rfl, T, hno, ea, fun d hd ne => h d hd ne⟩
theorem xcl_KE {x f p : Str} {C fI : Addr} {fd : FuncData} {B : String} {t : List Value} (hm : mg x = some (.ref C)) (T : KxC K C B t) (xf : XfC K C) (no : PySem.W.findIn K (.ref C) f = some none) (iC : PySem.W.findIn K (.ref C) "__init__" = some (some (.ref fI)))
    (tI : PySem.W.typeIn K (.ref fI) = some (.type "function")) (F1 : FnOk P w K mg base (L2.CX P w) 1 fI fd ["self", p] (spKi K C B t f)) (hb : Binds K fd ["self", p] []) (hdb : (x == ("__debug__" : Str)) = false) : XCl P w K mg base x f C := by
  refine ⟨hm, xf, no, ?_⟩
  rintro X e m px pos rfl rfl rfl rfl rfl hr hg pe he pins s σ H Q I h
  refine pmk_kex T iC tI F1 hr hb hg hm (pa_cons pe pa_nil he) hdb he pins s σ H Q I ?_
  refine td_mono (fun v H1 q => ?_) h
  refine ⟨by show 1 ≤ 1000; decide, fun a ha => ⟨a, v, rfl, T, no, upd_same, fun dx hd ne => ?_⟩⟩
  have hd1 : H1 dx = none := by rw [upd_ne ne] at hd; exact hd
  refine ⟨rfl, dx, [(f, v)], upd_same, ?_, hd1, ?_⟩
  · rw [upd_ne ne, upd_same]
  · rw [exo_out ha hd1 ne]
    exact q dx hd1
end
end DL

set_option Elab.async false
set_option linter.all false
set_option maxRecDepth 100000
set_option maxHeartbeats 4000000
set_option autoImplicit false
/-! X8: xs.pop(i), xs.index(y). -/
namespace DL
open PySem PySem.Spec L2 Evl PyProof.Rows
section
variable {X : Cx} {K : PySem.W.Frag}
theorem RepL.eraseIdx {F : Hp} : ∀ {vs : List V} {ds : List D} (n : Nat), RepL K F vs ds → RepL K F (vs.eraseIdx n) (ds.eraseIdx n)
  | _, _, _, .nil => by simp; exact .nil
  | _, _, 0, .cons a r => by simpa using r
  | _, _, n + 1, .cons a r => by simpa using .cons a (RepL.eraseIdx n r)
@[simp] def mPop (j : Nat) (a : DM) : DM := fun env R => ownL env j ∧ a env fun x e => x.con e fun kd => match kd, e[j]? with
  | .int k, some (.own b (.lst xs)) => ∃ n y, seqIndex? k xs.length = some n ∧ Fits62 k ∧ xs[n]? = some y ∧ R (.vl y) (e.set j (.own b (.lst (xs.eraseIdx n))))
  | _, _ => False
theorem dpop (i : Nat) {x : Str} {e : Expr} {m : DM} {px apos cpos : Pos} (hN : X.N[i]? = some x) (hv : Vis X.env.scope x) (h : DE X e m)
    (hd : (x == ("__debug__" : Str)) = false := by decide) (hcd : (x == ("__classdict__" : Str)) = false := by decide)
    (h1 : attributeBase (.Name x px) "pop" X.env (eval (.Name x px) X.env) = eval (.Name x px) X.env := by rfl)
    (h2 : ((((backTo cpos (starEach [e] X.env)).all fun x => !x.fst) && (backToKw cpos (keywordEach [] X.env)).all fun x => x.fst.isSome) && decide (([e].length + ([] : List Keyword).length + if ([] : List Keyword).isEmpty = true then 0 else 1) < 30)) = true := by rfl)
    (h3 : (apos.endLine == cpos.line) = true := by rfl) (h4 : starEach [e] X.env = (false, eval e X.env) :: starEach [] X.env := by rfl) (h5 : ((backTo cpos (starEach [] X.env)).any fun x => x.fst) = false := by rfl) :
    DE X (.Call (.Attribute (.Name x px) "pop" apos) [e] [] cpos) (mPop i m) := by
  obtain ⟨t, p, ev⟩ := h
  refine ⟨_, pe_bm PySem.F.plainAttrs_list PySem.F.slot_list_pop PySem.F.type_list_pop mt_popAt (pe_var hN hv hd hcd) (pa_cons p pa_nil h4) h1 h2 h3 h4 h5, ?_⟩
  intro C F env σ H R Q I h k
  obtain ⟨p0, vs0, q0, q1⟩ := ownL_at I h.1
  refine ⟨.ref p0, q0, Or.inl ⟨rfl, _, sq_of q1⟩, ?_⟩
  refine ev C F env σ H _ _ I h.2 ?_
  intro l e1 F1 v H1 h1 A1 r1
  obtain ⟨d, h2, s1⟩ := A1.ok.see r1 h1
  split at h2
  · rename_i kk b xs he
    obtain ⟨n, y, g1, g2, g3, g4⟩ := h2
    obtain ⟨p1, o, z1, z2, z3, z4, z5, z6⟩ := A1.ok.owns i b _ he
    rw [q0] at z1
    cases z1
    obtain ⟨vs, rfl, rl⟩ := lst_of z3
    obtain ⟨w, w1, w2⟩ := rl.get g3
    have ft : -(2 ^ 62) ≤ kk ∧ kk < 2 ^ 62 := by unfold Fits62 at g2; exact g2
    have own : Owns e1 σ i p0 := ⟨b, _, he, q0⟩
    have I2 := A1.ok.change (o := .lst (vs.eraseIdx n)) (d := .lst (xs.eraseIdx n)) he q0 (rl.eraseIdx n)
    refine ⟨p0, vs, kk, n, w, rfl, by rw [s1.int], z2, by omega, by omega, by rw [rl.length]; exact g1, w1, ?_⟩
    refine k (.vl y) _ F1 w _ g4 (A1.trans ?_) w2
    exact {
      ok := I2, ex := Ex.refl _
      fr := fun a u e nn => by
        rw [upd_ne]
        · exact e
        · rintro rfl; exact nn i own
      nw := fun _ _ e _ => e
      al := fun a e => by
        by_cases q : a = p0
        · subst q; rw [upd_same]; exact fun z => nomatch z
        · rw [upd_ne q]; exact e
      le := fun jj bb dd q => by
        by_cases z : i = jj
        · subst z
          have hj : i < e1.length := by
            rcases Nat.lt_or_ge i e1.length with z | z
            · exact z
            · rw [List.getElem?_eq_none z] at he; cases he
          rw [List.getElem?_set_self hj] at q
          cases q
          exact ⟨_, he⟩
        · rw [List.getElem?_set_ne z] at q
          exact ⟨dd, q⟩ }
  · exact h2.elim
theorem seqIx_nat {n k : Nat} (h : k < n) : seqIndex? (k : Int) n = some k := by
  unfold seqIndex?
  have h1 : ¬ ((k : Int) < 0) := by omega
  have h2 : (0 : Int) ≤ (k : Int) := by omega
  have h3 : (k : Int) < (n : Int) := by omega
  simp [h1, h2, h3]
@[simp] def mIndex (a b : DM) : DM := fun env R => a env fun x e1 => x.con e1 fun d => match d with
  | .lst _ => b e1 fun y e2 => x.con e2 fun d2 => y.con e2 fun dy => match d2 with
    | .lst xs => ∃ j : Nat, dy.flat = true ∧ xs.all D.flat = true ∧ (∃ z, xs[j]? = some z ∧ feq z dy = true) ∧ (∀ (m : Nat) (z : D), m < j → xs[m]? = some z → feq z dy = false) ∧ R (.vl (.int (j : Int))) e2
    | _ => False
  | _ => False
theorem dindex {o e : Expr} {m1 m2 : DM} {apos cpos : Pos} (ho : DE X o m1) (h : DE X e m2)
    (h1 : attributeBase o "index" X.env (eval o X.env) = eval o X.env := by rfl)
    (h2 : ((((backTo cpos (starEach [e] X.env)).all fun x => !x.fst) && (backToKw cpos (keywordEach [] X.env)).all fun x => x.fst.isSome) && decide (([e].length + ([] : List Keyword).length + if ([] : List Keyword).isEmpty = true then 0 else 1) < 30)) = true := by rfl)
    (h3 : (apos.endLine == cpos.line) = true := by rfl) (h4 : starEach [e] X.env = (false, eval e X.env) :: starEach [] X.env := by rfl) (h5 : ((backTo cpos (starEach [] X.env)).any fun x => x.fst) = false := by rfl) :
    DE X (.Call (.Attribute o "index" apos) [e] [] cpos) (mIndex m1 m2) := by
  obtain ⟨ta, pa, ea⟩ := ho
  obtain ⟨tb, pb, eb⟩ := h
  refine ⟨_, pe_bm PySem.F.plainAttrs_list PySem.F.slot_list_index PySem.F.type_list_index mt_index pa (pa_cons pb pa_nil h4) h1 h2 h3 h4 h5, ?_⟩
  intro C F env σ H R Q I h k
  refine ea C F env σ H _ _ I h ?_
  intro x e1 F1 v H1 h1 A1 r1
  obtain ⟨d, h2, s1⟩ := A1.ok.see r1 h1
  split at h2
  · rename_i xs0
    obtain ⟨p, vs0, rfl, q1, _⟩ := s1.lst A1.ok.sub
    refine ⟨Or.inl ⟨rfl, _, sq_of q1⟩, ?_⟩
    refine eb C F1 e1 σ H1 _ _ A1.ok h2 ?_
    intro y e2 F2 w H2 h3 A2 r2
    obtain ⟨d2, h4, s2⟩ := A2.ok.see (r1.on A2) h3
    obtain ⟨dy, h5, s3⟩ := A2.ok.see r2 h4
    split at h5
    · rename_i xs
      obtain ⟨j, g1, g2, ⟨z, g3, g4⟩, g5, g6⟩ := h5
      obtain ⟨p', vs, e0, q2, rl⟩ := s2.lst A2.ok.sub
      cases e0
      obtain ⟨u, u1, u2⟩ := rl.get g3
      have A := A1.trans A2
      have fw := s3.flat g1
      have fl : ∀ (n : Nat) (c : D), xs[n]? = some c → c.flat = true := fun n c e => List.all_eq_true.mp g2 c (List.mem_of_getElem? e)
      refine ⟨_, vs, w, j, u, rfl, rfl, sq_of q2, fw.flat g1, rl.flat g2, u1, ?_, ?_, k _ e2 F2 _ H2 g6 A (Rep.int _)⟩
      · rw [u2.eqV fw (fl j z g3) g1, g4]
      · intro m z' hm hz
        obtain ⟨c, c1, c2⟩ := rl.getV hz
        rw [c2.eqV fw (fl m c c1) g1, g5 m c hm c1]
    · exact h5.elim
  · exact h2.elim
end
end DL

set_option Elab.async false
set_option linter.all false
set_option maxRecDepth 100000
set_option maxHeartbeats 4000000
set_option autoImplicit false
/-! X9: defs as values; calls of a name that holds one of several defs; dict displays with entries. -/
namespace DL
open PySem PySem.Spec L2 Evl PyProof.Rows
section
variable {X : Cx} {cm : Nat → Value} {pos : Pos}
theorem dgfn {x : Str} {f : Addr} (hg : Gl X x) (h : X.mg x = some (.ref f) ∧ PySem.W.keepIn X.K (.ref f) = true) (hd : (x == ("__debug__" : Str)) = false := by decide) : DE X (.Name x pos) (mC (.fn f)) :=
  dglob (v := .ref f) hg h.1 rfl (fun _ => .fn f h.2) hd
end
section
variable {X : Cx} {cm : Nat → Value} {k : Nat} {st : Stmt} {ps ks : List Str} {x : Str} {p pos : Pos} {e : Expr} {es : List Expr} {kws : List Keyword} {t tk : TA}
def tCallV (i : Nat) (S : Addr → Sp → Prop) (E : L2.St → XK) (t : TA) : TE := fun σ H Q => ∃ f sp, σ[i]? = some (some (.ref f)) ∧ S f sp ∧ t σ H fun vs H1 => sp vs H1 Q (E σ)
def CanX (X : Cx) (f : Addr) (sp : Sp) : Prop := ∃ k fd ps, Room k X.A ∧ FnG X.prog X.w X.K X.mg X.base (L2.CX X.prog X.w) k f fd ps sp ∧ PySem.W.keepIn X.K (.ref f) = true ∧ Binds X.K fd ps []
theorem pe_callV {E : L2.St → XK} {S : Addr → Sp → Prop} (i : Nat) (A : ∀ f sp, S f sp → CanX X f sp) (hgd : X.A.guards = some []) (hN : X.N[i]? = some x) (hv : Vis X.env.scope x) (hx : ∀ σ, PassesAt (L2.CX X.prog X.w) X σ (E σ))
    (ha : PA X (e :: es) t) (hdb : (x == ("__debug__" : Str)) = false := by decide) (hcd : (x == ("__classdict__" : Str)) = false := by decide)
    (he : starEach (e :: es) X.env = (false, eval e X.env) :: starEach es X.env := by rfl) (hpl : (backTo pos (starEach es X.env)).any (·.1) = false := by rfl) :
    PE X (.Call (.Name x p) (e :: es) [] pos) (tCallV i S E t) := by
  constructor
  rintro pins s σ H Q I ⟨f, sp, hs, hS, ht⟩
  obtain ⟨k, fd, ps, hr, F, hk, hb⟩ := A f sp hS
  apply wpAny_Call_Name_kw
  apply thn ((pe_var (pos := p) hN hv hdb hcd).run pins s σ H (fun v H1 => v = .ref f ∧ H1 = H) I ⟨.ref f, hs, rfl, rfl⟩)
  rintro u s1 ⟨v, H1, I1, r1, rfl, rfl⟩
  cases r1
  apply PySem.W.callWith_K (h₀ := X.base) I1.ok.mod.kin hk _ he hpl
  apply thn (ha.run pos pins s1 σ _ _ I1 ht)
  rintro us s2 ⟨vs, H2, I2, r, q⟩
  refine ⟨I2.kIn, ?_⟩
  have hl : us.length = ps.length := r.length.symm.trans (F.len _ _ _ _ q)
  have b := hb s2 us I2.kIn (by simpa using hl)
  rw [List.append_nil] at b
  exact run_gS (args := ⟨us, []⟩) F hgd hr b (hx σ) I2 r q
def tCallVK (i : Nat) (S : Addr → Sp → Prop) (gV : List V → List V → List V) (E : L2.St → XK) (tk : TA) : TE := fun σ H Q => ∃ f sp, σ[i]? = some (some (.ref f)) ∧ S f sp ∧ tk σ H fun zs H2 => sp (gV [] zs) H2 Q (E σ)
def CanK (X : Cx) (ks : List Str) (g : List Value → List Value → List Value) (gV : List V → List V → List V) (f : Addr) (sp : Sp) : Prop :=
  ∃ k fd ps, Room k X.A ∧ FnG X.prog X.w X.K X.mg X.base (L2.CX X.prog X.w) k f fd ps sp ∧ PySem.W.keepIn X.K (.ref f) = true ∧ KBinds X.K fd ps ks g gV
theorem pe_callVK {E : L2.St → XK} {S : Addr → Sp → Prop} {g : List Value → List Value → List Value} {gV : List V → List V → List V} (i : Nat) (A : ∀ f sp, S f sp → CanK X ks g gV f sp) (hgd : X.A.guards = some []) (hN : X.N[i]? = some x) (hv : Vis X.env.scope x) (hx : ∀ σ, PassesAt (L2.CX X.prog X.w) X σ (E σ))
    (hkw : PK X kws tk) (hall : (backToKw pos (keywordEach kws X.env)).all (·.1.isSome) = true := by rfl) (hks : (backToKw pos (keywordEach kws X.env)).filterMap (·.1) = ks := by rfl)
    (hdb : (x == ("__debug__" : Str)) = false := by decide) (hcd : (x == ("__classdict__" : Str)) = false := by decide)
    (hpl : ((backTo pos (starEach [] X.env)).any (·.1) || (backToKw pos (keywordEach kws X.env)).any (·.1.isNone)) = false := by rfl) : PE X (.Call (.Name x p) [] kws pos) (tCallVK i S gV E tk) := by
  constructor
  rintro pins s σ H Q I ⟨f, sp, hs, hS, ht⟩
  obtain ⟨k, fd, ps, hr, F, hk, hb⟩ := A f sp hS
  apply wpAny_Call_Name_kw
  apply thn ((pe_var (pos := p) hN hv hdb hcd).run pins s σ H (fun v H1 => v = .ref f ∧ H1 = H) I ⟨.ref f, hs, rfl, rfl⟩)
  rintro u s1 ⟨v, H1, I1, r1, rfl, rfl⟩
  cases r1
  apply PySem.W.callWith_KW0 (h₀ := X.base) I1.ok.mod.kin hk hall _ hpl
  apply thn (hkw.run pos pins s1 σ _ _ I1 ht)
  rintro ws s2 ⟨zs, H2, I2, rz, q2⟩
  refine ⟨I2.kIn, ?_⟩
  rw [hks]
  have r2 := hb.rel (vs := []) (us := []) .nil rz
  have hl : (g [] ws).length = ps.length := r2.length.symm.trans (F.len _ _ _ _ q2)
  exact run_gS (args := ⟨[], ks.zip ws⟩) F hgd hr (hb.to s2 [] ws I2.kIn hl) (hx σ) I2 r2 q2

abbrev Cands := List (Addr × DSpecX)
def CanL (X : Cx) (cm : Nat → Value) (cs : Cands) : Prop := ∀ c ∈ cs, CanX X c.1 (spX X.K cm c.2)
def CanLK (X : Cx) (cm : Nat → Value) (ks : List Str) (n m : Nat) (perm : List Nat) (cs : Cands) : Prop := ∀ c ∈ cs, CanK X ks (arrN n m perm) (arrN n m perm) c.1 (spX X.K cm c.2)
theorem canl_nil : CanL X cm [] := fun c h => nomatch h
theorem canl_cons {sd : DSpecX} {f : Addr} {cs : Cands} (c : CalX X.prog X.w X.K X.mg cm X.base x st k ps sd) (h : X.mg x = some (.ref f) ∧ PySem.W.keepIn X.K (.ref f) = true) (hr : Room k X.A) (r : CanL X cm cs) : CanL X cm ((f, sd) :: cs) := by
  intro z hz
  rcases List.mem_cons.mp hz with rfl | hz
  · obtain ⟨f', fd, F, G, hm, hb⟩ := c.ex
    have e : f' = f := by
      have := hm.symm.trans h.1
      cases this; rfl
    subst e
    exact ⟨k, fd, ps, hr, G, h.2, hb⟩
  · exact r z hz
theorem canlk_nil {n m : Nat} {perm : List Nat} : CanLK X cm ks n m perm [] := fun c h => nomatch h
theorem canlk_cons {n m : Nat} {perm : List Nat} {sd : DSpecX} {f : Addr} {cs : Cands} (c : CalX X.prog X.w X.K X.mg cm X.base x st k ps sd) (h : X.mg x = some (.ref f) ∧ PySem.W.keepIn X.K (.ref f) = true) (hr : Room k X.A) (hp : ps ≠ [])
    (hb : ∀ (kV doc pm : Value) (an : Option Addr) (cdv ct : Value) (us ws : List Value), us.length = n → ws.length = m → bindArgs (PySem.W.fnOf x x (defArgs st) (defBody st) (defScope st) .none kV doc pm an cdv ct) ⟨us, ks.zip ws⟩ = pure (ps.zip (arr perm us ws)))
    (r : CanLK X cm ks n m perm cs) : CanLK X cm ks n m perm ((f, sd) :: cs) := by
  intro z hz
  rcases List.mem_cons.mp hz with rfl | hz
  · obtain ⟨f', fd, F, G, hm, _⟩ := c.ex
    have e : f' = f := by
      have := hm.symm.trans h.1
      cases this; rfl
    subst e
    exact ⟨k, fd, ps, hr, G, h.2, kbinds_of F n m perm hp hb⟩
  · exact r z hz
@[simp] def mCallVX (i : Nat) (cs : Cands) (a : DMC) : XP → DM := fun PX env R => ∃ (n : Nat) (f : Addr) (sd : DSpecX), env[i]? = some (.val (.fn f)) ∧ cs[n]? = some (f, sd) ∧ a env fun as e => apart e as = true ∧ sd (as.map (resolve e)) (fun r ss => R r (putB as ss e)) fun x fs ss => PX x fs (putB as ss e)
@[simp] def mCallVKX (i : Nat) (cs : Cands) (gC : List CA → List CA → List CA) (b : DMC) : XP → DM := fun PX env R => ∃ (n : Nat) (f : Addr) (sd : DSpecX), env[i]? = some (.val (.fn f)) ∧ cs[n]? = some (f, sd) ∧ b env fun bs e2 => apart e2 (gC [] bs) = true ∧ sd ((gC [] bs).map (resolve e2)) (fun r ss => R r (putB (gC [] bs) ss e2)) fun x fs ss => PX x fs (putB (gC [] bs) ss e2)
theorem dex_callV (i : Nat) {cs : Cands} (A : CanL X cm cs) (hgd : X.A.guards = some []) (hN : X.N[i]? = some x) (hv : Vis X.env.scope x) {mc : DMC} (h : DC X (e :: es) mc)
    (hdb : (x == ("__debug__" : Str)) = false := by decide) (hcd : (x == ("__classdict__" : Str)) = false := by decide) (he : starEach (e :: es) X.env = (false, eval e X.env) :: starEach es X.env := by rfl) (hpl : (backTo pos (starEach es X.env)).any (·.1) = false := by rfl) :
    DEx X cm (.Call (.Name x p) (e :: es) [] pos) (mCallVX i cs mc) := fun W tk => by
  obtain ⟨t, pa, ev⟩ := h
  refine ⟨_, pe_callV (S := fun f sp => ∃ n sd, cs[n]? = some (f, sd) ∧ sp = spX X.K cm sd) i (fun f sp => fun ⟨n, sd, hn, hs⟩ => hs ▸ A _ (List.mem_of_getElem? hn)) hgd hN hv (passAt tk) pa hdb hcd he hpl, ?_⟩
  rintro C F env σ H PX R Q I ⟨n, f, sd, hi, hn, h⟩ kx k
  obtain ⟨v, hv, rv⟩ := I.vals i _ hi
  cases rv
  refine ⟨f, _, hv, ⟨n, sd, hn, rfl⟩, ?_⟩
  refine ev C F env σ H _ _ I h ?_
  intro as e1 F1 vs H1 h1 A1 r1
  exact call_coreX A1 r1 h1.1 h1.2 kx fun r ss F' v H' hR A2 r2 => k r _ F' v H' hR A2 r2
theorem dex_callVK (i : Nat) {cs : Cands} (m : Nat) (perm : List Nat) (A : CanLK X cm ks 0 m perm cs) (hgd : X.A.guards = some []) (hN : X.N[i]? = some x) (hv : Vis X.env.scope x) {mk : DMC} (h2 : DK X kws mk)
    (hall : (backToKw pos (keywordEach kws X.env)).all (·.1.isSome) = true := by rfl) (hks : (backToKw pos (keywordEach kws X.env)).filterMap (·.1) = ks := by rfl)
    (hdb : (x == ("__debug__" : Str)) = false := by decide) (hcd : (x == ("__classdict__" : Str)) = false := by decide)
    (hpl : ((backTo pos (starEach [] X.env)).any (·.1) || (backToKw pos (keywordEach kws X.env)).any (·.1.isNone)) = false := by rfl) :
    DEx X cm (.Call (.Name x p) [] kws pos) (mCallVKX i cs (arrN 0 m perm) mk) := fun W tk => by
  obtain ⟨t2, pk, ek⟩ := h2
  refine ⟨_, pe_callVK (gV := arrN 0 m perm) (S := fun f sp => ∃ n sd, cs[n]? = some (f, sd) ∧ sp = spX X.K cm sd) i (fun f sp => fun ⟨n, sd, hn, hs⟩ => hs ▸ A _ (List.mem_of_getElem? hn)) hgd hN hv (passAt tk) pk hall hks hdb hcd hpl, ?_⟩
  rintro C F env σ H PX R Q I ⟨n, f, sd, hi, hn, h⟩ kx k
  obtain ⟨v, hv, rv⟩ := I.vals i _ hi
  cases rv
  refine ⟨f, _, hv, ⟨n, sd, hn, rfl⟩, ?_⟩
  refine ek C F env σ H _ _ I h ?_
  intro bs e2 F2 zs H2 h2 A2 r2
  exact call_coreX A2 (arrN_ca _ F2 σ [] zs [] bs .nil r2) h2.1 h2.2 kx fun r ss F' v H' hR A3 r3 => k r _ F' v H' hR A3 r3
end

/-! ### dict displays of constants -/
section
variable {X : Cx} {pos : Pos}
@[simp] def conD (kvs : List (Str × Str)) : D := .dic (kvs.map fun kv => (.inr kv.1, .str kv.2))
@[simp] def mDCon (kvs : List (Str × Str)) : DM := fun env R => R (.tm (conD kvs)) env
def conV (kvs : List (Str × Str)) : List (Key × V) := kvs.map fun kv => (.inr kv.1, .str kv.2)
theorem pairs_con {σ : L2.St} {H : Hp} : ∀ {kvs : List (Str × Str)} {Q : List (V × V) → Hp → Prop}, Q ((conV kvs).map fun kv => (kV kv.1, kv.2)) H → tPairs (kvs.map fun kv => (tC (.str kv.1), tC (.str kv.2))) σ H Q
  | [], Q, h => h
  | kv :: r, Q, h => pairs_con (kvs := r) (Q := fun ps H3 => Q ((V.str kv.1, V.str kv.2) :: ps) H3) h
theorem rep_con {K : PySem.W.Frag} {F : Hp} : ∀ {kvs : List (Str × Str)}, (∀ kv ∈ kvs, PyData.strOk kv.2 = true) → RepL K F ((conV kvs).map (·.2)) ((kvs.map fun kv => ((.inr kv.1 : Key), D.str kv.2)).map (·.2))
  | [], _ => .nil
  | kv :: r, h => .cons (.str _ (h kv (by simp))) (rep_con (kvs := r) fun x hx => h x (by simp [hx]))
theorem ddcon (kvs : List (Str × Str)) {keys : List (Option Expr)} {values : List Expr} (h : PPs X pos keys values (kvs.map fun kv => (tC (.str kv.1), tC (.str kv.2)))) (ok : ∀ kv ∈ kvs, PyData.strOk kv.2 = true)
    (hm : mergeK [] (conV kvs) = conV kvs) (h15 : keys.length ≤ 15) (hl : keys.length = values.length) (h0 : keys ≠ []) (hk : kvs.length = keys.length) (hall : keys.all (·.isSome) = true) : DE X (.Dict keys values pos) (mDCon kvs) := by
  refine ⟨_, pe_disp h hall hl h0 h15, ?_⟩
  intro C F env σ H R Q I h k p hp
  refine pairs_con ⟨upd_same, conV kvs, rfl, by unfold conV; rw [List.length_map]; omega, ?_⟩
  rw [hm]
  rw [upd_upd]
  exact k _ env F _ _ h (I.tmp hp (.dK (conV kvs))) ⟨p, .dK (conV kvs), rfl, upd_same, ⟨by unfold conV; rw [List.map_map, List.map_map]; rfl, rep_con ok⟩, I.fnone hp, I.gnone hp, I.unowned hp, hp⟩
end
end DL

set_option Elab.async false
set_option linter.all false
set_option maxRecDepth 100000
set_option maxHeartbeats 4000000
set_option autoImplicit false
/-! X10: e[::-1] of lists and texts; range(i, j, -1). -/
namespace DL
open PySem PySem.Spec L2 Evl PyProof.Rows
@[simp] def revS (s : Str) : Str := ⟨s.cps.toList.reverse.toArray⟩
theorem picked_rev (x : Str) (t : Tok) : ((PySem.slicePicked x none none (some (-1, t))).filterMap (x.cps[·]?)).toArray = x.cps.toList.reverse.toArray := by
  unfold PySem.slicePicked
  show ((sliceRange ((x.cps.size : Int) - 1) (-1) (-1)).filterMap (x.cps[·]?)).toArray = _
  rw [PySem.W.krv_sliceRange, PySem.W.krv_range, List.filterMap_reverse, PySem.W.krv_all]
def tRevA (K : PySem.W.Frag) (te : TE) : TE := fun σ H Q => te σ H fun x H1 => (∃ a xs, x = .ref a ∧ SqL K H1 a xs ∧ ∀ p, H1 p = none → Q (.ref p) (upd H1 p (.lst xs.reverse))) ∨ ∃ z, x = .str z ∧ z.length ≤ sizeLine ∧ Q (.str (revS z)) H1
section
variable {X : Cx} {pos : Pos}
theorem pe_revA {e : Expr} {te : TE} {k : Nat} {p1 p2 p3 : Pos} (he : PE X e te) : PE X (.Subscript e (.Slice none none (some (.UnaryOp .USub (.Constant (.int 1) k p1) p2)) p3) pos) (tRevA X.K te) := by
  constructor
  intro pins s σ H Q I h
  apply Subscript_
  apply thn (he.run pins s σ H _ I h)
  rintro v s1 ⟨x, H1, I1, r1, q1⟩
  have hst : PO X (some (.UnaryOp .USub (.Constant (.int 1) k p1) p2)) (tPart (tUn (rU fun i => .int (-i)) (tC (.int 1)))) := po_some (pe_un un_neg pe_int)
  apply wpAny_Slice
  apply thn (po_none.run pins s1 σ H1 (fun o H2 => o = none ∧ H2 = H1) I1 ⟨rfl, rfl⟩)
  rintro vl s2 ⟨l, H2, I2, pl, rfl, rfl⟩
  apply thn (po_none.run pins s2 σ H2 (fun o H3 => o = none ∧ H3 = H2) I2 ⟨rfl, rfl⟩)
  rintro vu s3 ⟨u, H3, I3, pu, rfl, rfl⟩
  apply thn (hst.run pins s3 σ H3 (fun o H4 => o = some (-1) ∧ H4 = H3) I3 ⟨1, rfl, -1, rfl, rfl, rfl⟩)
  rintro vs s4 ⟨o, H4, I4, ps, rfl, rfl⟩
  have I5 : Inv X pins σ H4 { s4 with heap := s4.heap.push { cls := .type "slice", data := .fields #[vl, vu, vs] } } := I4.kept (t' := s4.toks) fun b ob q => Heap.get?_push_of_some _ q
  rcases q1 with ⟨a, xs, rfl, hx, q⟩ | ⟨z, rfl, hz, q⟩
  · cases r1
    obtain ⟨its, r, ht, hl⟩ := I5.list hx
    have hlen := r.length
    show wpAny (model X.prog X.w) X.A (subscriptTail e (.Slice none none (some (.UnaryOp .USub (.Constant (.int 1) k p1) p2)) p3) (.ref a) (.ref s4.heap.objs.size)) _ _ _
    apply tail_any (ops := [.ref a, .ref s4.heap.objs.size]) ht.isList.typeIs PySem.slot_list_getitem.lookup _ (by with_unfolding_all rfl)
    apply wpAny_getItem_list_slice ht.isList (Heap.IsSliceOf.new _ vl vu vs) pl pu ps (by decide) _ (by rw [List.size_toArray]; omega)
    rw [PySem.W.krv_pick]
    exact ⟨.ref _, _, I5.laid (t' := s4.toks) (o := .lst xs.reverse) (fun b ob q => Heap.get?_push_of_some _ q) (Nat.le_refl _) ⟨by rw [List.length_reverse]; exact hl, _, 0, r.reverse, Heap.get?_push_size _ rfl⟩, rfl, q _ (I5.hok.fresh (Nat.le_refl _))⟩
  · obtain ⟨t, rfl⟩ := r1
    obtain ⟨l, rfl, hl⟩ := IsPart.raw pl
    obtain ⟨u, rfl, hu⟩ := IsPart.raw pu
    obtain ⟨w, rfl, hw⟩ := IsPart.raw ps
    cases l with
    | some l => cases hl
    | none =>
    cases u with
    | some u => cases hu
    | none =>
    cases w with
    | none => cases hw
    | some w =>
    obtain ⟨w0, tw⟩ := w
    cases hw
    show wpAny (model X.prog X.w) X.A (subscriptTail e (.Slice none none (some (.UnaryOp .USub (.Constant (.int 1) k p1) p2)) p3) (.str z t) (.ref s4.heap.objs.size)) _ _ _
    apply tail_any (ops := [.str z t, .ref s4.heap.objs.size]) (typeIs_str _ _ _) F.slot_str_getitem.lookup _ (by with_unfolding_all rfl)
    refine wpAny_getItem_str_slice (l := none) (u := none) (st := some (-1, tw)) ⟨_, Heap.get?_push_size _ rfl, rfl, rfl⟩ rfl ?_
    unfold sliceMade
    rw [if_neg (by simp), picked_rev]
    exact ⟨by show z.cps.toList.reverse.toArray.size ≤ _; rw [List.size_toArray, List.length_reverse, Array.length_toList]; exact hz, .str _, H4, I5.tok _, ⟨_, rfl⟩, q⟩
theorem sOk_rev {s : Str} (h : PyData.strOk s = true) : PyData.strOk (revS s) = true := by
  refine sOk_sub h fun c m => ?_
  have m' : c ∈ s.cps.toList.reverse := by simpa using m
  exact List.mem_reverse.mp m'
@[simp] def mRevA (a : DM) : DM := fun env R => a env fun x e1 => x.con e1 fun d => match d with
  | .lst xs => R (.tm (.lst xs.reverse)) e1
  | .str s => s.length ≤ sizeLine ∧ R (.vl (.str (revS s))) e1
  | _ => False
theorem drevA {e : Expr} {m : DM} {k : Nat} {p1 p2 p3 : Pos} (he : DE X e m) : DE X (.Subscript e (.Slice none none (some (.UnaryOp .USub (.Constant (.int 1) k p1) p2)) p3) pos) (mRevA m) := by
  obtain ⟨t, p, ev⟩ := he
  refine ⟨_, pe_revA p, ?_⟩
  intro C F env σ H R Q I h k
  refine ev C F env σ H _ _ I h ?_
  intro x e1 F1 v H1 h1 A1 r1
  obtain ⟨d, h2, s1⟩ := A1.ok.see r1 h1
  have g : Gives X.K C F1 e1 σ H1 (fun r => R r e1) Q := fun l F' w H' hl A' r' => k l e1 F' w H' hl (A1.trans A') (r'.from fun p => A1.back)
  cases d with
  | lst xs =>
    obtain ⟨p, vs, rfl, q1, q2⟩ := s1.lst A1.ok.sub
    exact Or.inl ⟨p, vs, rfl, sq_of q1, fun a ha => g.lst A1.ok h2 q2.reverse a ha⟩
  | str s => exact Or.inr ⟨s, s1.str.1, h2.1, g.str A1.ok (sOk_rev s1.str.2) h2.2⟩
  | _ => exact h2.elim
@[simp] def downD (i : Int) (n : Nat) : List D := (List.range n).map fun (k : Nat) => .int (i - (k : Int))
@[simp] def mRange3 (m1 m2 m3 : DM) : DMI := fun env R => m1 env fun x e1 => m2 e1 fun y e2 => m3 e2 fun z e3 => x.con e3 fun d => y.con e3 fun d' => z.con e3 fun d'' => match d, d', d'' with
  | .int i, .int j, .int c => c = -1 ∧ Fits62 i ∧ Fits62 j ∧ R (downD i (i - j).toNat) [] e3
  | _, _, _ => False
theorem it_down {K : PySem.W.Frag} {C : Ct} {F0 : Hp} {σ0 : L2.St} {lo : Int} {n : Nat} : IterOk K C F0 σ0 (Itc lo (-1) n) (downD lo n) [] := by
  intro i F env σ H I _ _ _
  have hl : (downD lo n).length = n := by simp
  rw [hl]
  refine ⟨fun hi => ⟨hi, fun x H' y => ?_⟩, fun hi => hi⟩
  obtain ⟨rfl, rfl⟩ := y
  refine ⟨F, .int (lo - (i : Int)), by simp [hi], I.aft, ?_⟩
  rw [show lo + (i : Int) * -1 = lo - (i : Int) by omega]
  exact Rep.int _
theorem di_range3 {tg a b c : Expr} {m n l : DM} {p : Pos} (hg : Gl X "range") (hm : X.mg "range" = none) (h : DE X a m) (h2 : DE X b n) (h3 : DE X c l) (hs : starEach [a, b, c] X.env = (false, eval a X.env) :: starEach [b, c] X.env := by rfl)
    (hs2 : starEach [b, c] X.env = (false, eval b X.env) :: starEach [c] X.env := by rfl) (hs3 : starEach [c] X.env = (false, eval c X.env) :: starEach [] X.env := by rfl) (hpl : (backTo pos (starEach [b, c] X.env)).any (·.1) = false := by rfl) :
    DI X tg (.Call (.Name "range" p) [a, b, c] [] pos) (mRange3 m n l) := by
  obtain ⟨t, q, ev⟩ := h
  obtain ⟨u, q2, ev2⟩ := h2
  obtain ⟨w, q3, ev3⟩ := h3
  refine ⟨_, pi_range3 hg hm (pa_cons q (pa_cons q2 (pa_cons q3 pa_nil hs3) hs2) hs) hs hpl, ?_⟩
  intro C F env σ H R Q I h k
  refine ev C F env σ H _ _ I h ?_
  intro x e1 F1 v H1 h1 A1 r1
  refine ev2 C F1 e1 σ H1 _ _ A1.ok h1 ?_
  intro y e2 F2 w H2 h2 A2 r2
  refine ev3 C F2 e2 σ H2 _ _ A2.ok h2 ?_
  intro z e3 F3 o H3 h3 A3 r3
  obtain ⟨d, h4, s1⟩ := A3.ok.see ((r1.on A2).on A3) h3
  obtain ⟨d', h5, s2⟩ := A3.ok.see (r2.on A3) h4
  obtain ⟨d'', h6, s3⟩ := A3.ok.see r3 h5
  have A := (A1.trans A2).trans A3
  split at h6
  · rename_i i j c
    obtain ⟨rfl, f1, f2, h7⟩ := h6
    exact ⟨i, j, -1, _, by rw [s1.int, s2.int, s3.int], RgC.neg f1.lo f1.hi f2.lo f2.hi, k _ [] e3 F3 H3 _ h7 A it_down trivial⟩
  · exact h6.elim
end
end DL
namespace DL
open PySem PySem.Spec L2 Evl PyProof.Rows
/-! ### text * number -/
def repS (s : Str) (k : Nat) : Str := ⟨(List.replicate k s.cps.toList).flatten.toArray⟩
theorem fold_arr {α : Type} (a : Array α) : ∀ (k : Nat) (acc : Array α), (List.replicate k a).foldl (· ++ ·) acc = acc ++ (List.replicate k a.toList).flatten.toArray
  | 0, acc => by simp
  | k + 1, acc => by
    rw [List.replicate_succ, List.foldl_cons, fold_arr a k, List.replicate_succ, List.flatten_cons]
    apply Array.toList_inj.mp
    simp [Array.append_assoc]
def rRepS : R2 := fun x y H Q => ∃ (s : Str) (k : Int), x = .str s ∧ y = .int k ∧ -(2 ^ 62) ≤ k ∧ k < 100000 ∧ s.length * k.toNat ≤ 1000000 ∧ Q (.str (repS s k.toNat)) H
theorem op_repS {X : Cx} : OpR X (binaryOp .Mult) rRepS := by
  intro pins s σ H x y v u Q I rx ry h
  obtain ⟨z, k, rfl, rfl, h1, h2, h3, q⟩ := h
  obtain ⟨t, rfl⟩ := rx
  obtain ⟨t', rfl⟩ := ry
  refine PySem.P.mul_str ?_ (fun a b => ?_) (fun a b => ?_) ?_
  · rw [decide_eq_false (by omega), decide_eq_false (by omega)]; rfl
  · have hk : 1 ≤ k := by omega
    have hk' : k ≠ 1 := fun e => by rw [e] at b; simp at b
    have h4 : (z.length : Int) * k ≤ 1000000 := by
      have : k = ((k.toNat : Nat) : Int) := by omega
      rw [this]
      rw [← Int.natCast_mul]
      omega
    intro h5
    have h6 : (2 ^ 63 - 1) / k * k ≤ 2 ^ 63 - 1 := Int.ediv_mul_le _ (by omega)
    have h7 : (2 ^ 63 - 1 : Int) < ((2 ^ 63 - 1) / k + 1) * k := Int.lt_ediv_add_one_mul_self _ (by omega)
    have h8 : ((2 ^ 63 - 1) / k + 1) * k ≤ (z.length : Int) * k := Int.mul_le_mul_of_nonneg_right (by omega) (by omega)
    omega
  · unfold Builtin.Str.tooLong
    exact decide_eq_false (by have : (1000000 : Nat) ≤ sizeLine := Nat.le_of_ble_eq_true rfl; omega)
  · by_cases c : k < 1
    · rw [if_pos c]
      have e : repS z k.toNat = Str.empty := by unfold repS; rw [show k.toNat = 0 by omega]; rfl
      rw [e] at q
      exact ⟨by decide, .str _, H, I.tok _, ⟨_, rfl⟩, q⟩
    · rw [if_neg c]
      by_cases b : (k == 1 || z.length == 0) = true
      · rw [if_pos b]
        have e : repS z k.toNat = z := by
          have ext : ∀ l : List Nat, l = z.cps.toList → (⟨l.toArray⟩ : Str) = z := fun l e => by subst e; cases z; simp
          refine ext _ ?_
          rcases Bool.or_eq_true _ _ ▸ b with e | e
          · rw [show k = 1 by simpa using e]; simp
          · have : z.cps.toList = [] := by
              have hz : z.length = 0 := by simpa using e
              exact List.length_eq_zero_iff.mp (by rw [Array.length_toList]; exact hz)
            rw [this]; simp
        rw [e] at q
        exact ⟨.str z, H, I, ⟨t, rfl⟩, q⟩
      · rw [if_neg b, fold_arr]
        have e : (#[] ++ (List.replicate k.toNat z.cps.toList).flatten.toArray : Array Nat) = (repS z k.toNat).cps := by simp [repS]
        rw [e]
        refine ⟨?_, .str _, H, I.tok _, ⟨_, rfl⟩, q⟩
        show (repS z k.toNat).cps.size ≤ _
        unfold repS
        rw [List.size_toArray, List.length_flatten]
        have : (1000000 : Nat) ≤ sizeLine := Nat.le_of_ble_eq_true rfl
        have e2 : z.cps.toList.length = z.length := Array.length_toList
        simp only [List.map_replicate, List.sum_replicate_nat, e2]
        rw [Nat.mul_comm]
        omega
section
variable {K : PySem.W.Frag} {X : Cx}
@[simp] def aMulA (d e : D) (R : RV → Prop) : Prop := match d, e with
  | .str s, .int k => -(2 ^ 62) ≤ k ∧ k < 100000 ∧ s.length * k.toNat ≤ 1000000 ∧ R (.vl (.str (repS s k.toNat)))
  | d, e => aMul d e R
def rMulA : R2 := fun x y H Q => rMulD x y H Q ∨ rRepS x y H Q
theorem op_mulA : OpR X (binaryOp .Mult) rMulA := by
  intro pins s σ H x y v u Q I rx ry h
  rcases h with h | h
  · exact op_mulD pins s σ H x y v u Q I rx ry h
  · exact op_repS pins s σ H x y v u Q I rx ry h
theorem sOk_rep {s : Str} {k : Nat} (h : PyData.strOk s = true) : PyData.strOk (repS s k) = true := by
  refine sOk_sub h fun c m => ?_
  have m' : c ∈ (List.replicate k s.cps.toList).flatten := by simpa [repS] using m
  obtain ⟨l, h1, h2⟩ := List.mem_flatten.mp m'
  rwa [(List.mem_replicate.mp h1).2] at h2
theorem o2_mulA : Op2 K rMulA aMulA := by
  intro C F env σ H v w d e R Q I s1 s2 h g
  unfold aMulA at h
  split at h
  · obtain ⟨h1, h2, h3, h4⟩ := h
    exact Or.inr ⟨_, _, s1.str.1, s2.int, h1, h2, h3, g.str I (sOk_rep s1.str.2) h4⟩
  · exact Or.inl (o2_mul C F env σ H v w _ _ R Q I s1 s2 h g)
end
end DL

set_option Elab.async false
set_option linter.all false
set_option maxRecDepth 100000
set_option maxHeartbeats 4000000
set_option autoImplicit false
/-! X11: calls whose first argument may raise. -/
namespace DL
open PySem PySem.Spec L2 Evl PyProof.Rows
abbrev DMCX := XP → DMC
def EvCx (K : PySem.W.Frag) (cm : Nat → Value) (W : WX) (m : DMCX) (t : TA) : Prop := ∀ C F env σ H (PX : XP) R (Q : List V → Hp → Prop), Ok K C F env σ H → m PX env R → ConnX K cm W C PX →
  (∀ as env' F' vs H', R as env' → Aft K C F env σ H F' env' H' → CAs K F' σ vs as → Q vs H') → t σ H Q
def DCx (X : Cx) (cm : Nat → Value) (es : List Expr) (m : DMCX) : Prop := ∀ W, Takes X W → ∃ t, PA X es t ∧ EvCx X.K cm W m t
@[simp] def mcConsX (a : XP → DM) (r : DMC) : DMCX := fun PX env R => a PX env fun x e1 => match x with
  | .vl d => r e1 fun as e2 => R (.vl d :: as) e2
  | .tm d => r e1 fun as e2 => R (.vl d :: as) e2
  | .sl i => r e1 fun as e2 => R (.sl i :: as) e2
section
variable {X : Cx} {cm : Nat → Value} {k : Nat} {st : Stmt} {ps : List Str} {x : Str} {p pos : Pos} {e : Expr} {es : List Expr}
theorem dcx_first {m : XP → DM} {mc : DMC} (h : DEx X cm e m) (hr : DC X es mc) (hs : starEach (e :: es) X.env = (false, eval e X.env) :: starEach es X.env := by rfl) : DCx X cm (e :: es) (mcConsX m mc) := fun W tk => by
  obtain ⟨t, p, ev⟩ := h W tk
  obtain ⟨u, q, er⟩ := hr
  refine ⟨_, pa_cons p q hs, ?_⟩
  intro C F env σ H PX R Q I h kx k
  refine ev C F env σ H PX _ _ I h kx ?_
  intro x e1 F1 v H1 h1 A1 r1
  have kept : ∀ d : D, x.get e1 (fun d' => d' = d) → mc e1 (fun as e2 => R (.vl d :: as) e2) → u σ H1 fun xs H2 => Q (v :: xs) H2 := fun d hd h2 => by
    obtain ⟨F2, d', rfl, A2, ex, rp⟩ := A1.keepIt r1 hd
    refine er C F2 e1 σ H1 _ _ A2.ok h2 ?_
    intro as e3 F3 vs H3 h3 A3 r3
    exact k (.vl d' :: as) e3 F3 (v :: vs) H3 h3 (A2.trans A3) (.cons (rp.mono A3.ex) r3)
  cases x with
  | vl d => exact kept d rfl h1
  | tm d => exact kept d rfl h1
  | sl i =>
    refine er C F1 e1 σ H1 _ _ A1.ok h1 ?_
    intro as e3 F3 vs H3 h3 A3 r3
    exact k (.sl i :: as) e3 F3 (v :: vs) H3 h3 (A1.trans A3) (.cons r1 r3)
@[simp] def mCallA (sd : DSpec) (a : DMCX) : XP → DM := fun PX env R => a PX env fun as e => apart e as = true ∧ sd (as.map (resolve e)) fun r ss => R r (putB as ss e)
theorem dex_callA {sd : DSpec} (c : Cal X.prog X.w X.K X.mg X.base x st k ps sd) (hgd : X.A.guards = some []) (hr : Room k X.A) (hg : Gl X x) {mc : DMCX} (h : DCx X cm (e :: es) mc)
    (hdb : (x == ("__debug__" : Str)) = false := by decide) (he : starEach (e :: es) X.env = (false, eval e X.env) :: starEach es X.env := by rfl) (hpl : (backTo pos (starEach es X.env)).any (·.1) = false := by rfl) :
    DEx X cm (.Call (.Name x p) (e :: es) [] pos) (mCallA sd mc) := fun W tk => by
  obtain ⟨f, fd, F, G, hm, hb⟩ := c.ex
  obtain ⟨t, pa, ev⟩ := h W tk
  refine ⟨_, pe_callG (E := E0) G hgd hr hg hm F.kp hb .nil pass0 pa hdb he hpl, ?_⟩
  intro C F env σ H PX R Q I h kx k
  refine ev C F env σ H PX _ _ I h kx ?_
  intro as e1 F1 vs H1 h1 A1 r1
  have r2 : CAs X.K F1 σ (vs ++ []) as := by rw [List.append_nil]; exact r1
  exact call_core A1 r2 h1.1 h1.2 fun r ss F' v H' hR A2 r2 => k r _ F' v H' hR A2 r2
@[simp] def mCallAX (sd : DSpecX) (a : DMCX) : XP → DM := fun PX env R => a PX env fun as e => apart e as = true ∧ sd (as.map (resolve e)) (fun r ss => R r (putB as ss e)) fun x fs ss => PX x fs (putB as ss e)
theorem dex_callAX {sd : DSpecX} (c : CalX X.prog X.w X.K X.mg cm X.base x st k ps sd) (hgd : X.A.guards = some []) (hr : Room k X.A) (hg : Gl X x) {mc : DMCX} (h : DCx X cm (e :: es) mc)
    (hdb : (x == ("__debug__" : Str)) = false := by decide) (he : starEach (e :: es) X.env = (false, eval e X.env) :: starEach es X.env := by rfl) (hpl : (backTo pos (starEach es X.env)).any (·.1) = false := by rfl) :
    DEx X cm (.Call (.Name x p) (e :: es) [] pos) (mCallAX sd mc) := fun W tk => by
  obtain ⟨f, fd, F, G, hm, hb⟩ := c.ex
  obtain ⟨t, pa, ev⟩ := h W tk
  refine ⟨_, pe_callGS G hgd hr hg hm F.kp hb (passAt tk) pa hdb he hpl, ?_⟩
  intro C F env σ H PX R Q I h kx k
  refine ev C F env σ H PX _ _ I h kx ?_
  intro as e1 F1 vs H1 h1 A1 r1
  exact call_coreX A1 r1 h1.1 h1.2 kx fun r ss F' v H' hR A2 r2 => k r _ F' v H' hR A2 r2
end
end DL

set_option Elab.async false
set_option linter.all false
set_option maxRecDepth 100000
set_option maxHeartbeats 4000000
set_option autoImplicit false
/-! X12: enumerate of a list, a tuple, a text. -/
namespace DL
open PySem PySem.Spec L2 Evl PyProof.Rows
def Ites (x : Str) : It := ⟨fun i _ => i < x.cps.size, fun i H v H' => ∃ T c, v = .ref T ∧ H T = none ∧ x.cps[i]? = some c ∧ H' = upd H T (.tup [.int (i : Nat), .str ⟨#[c]⟩]), fun i _ => x.cps.size ≤ i⟩
def SignP (x : Str) : Nat → Value → Prop := fun i v => ∃ c u, x.cps[i]? = some c ∧ v = .str ⟨#[c]⟩ u
theorem draws_sign {prog : Program} {w : World} {A : Around} (hh : A.handled = none) (it : Addr) (x : Str) (t : Tok) {ty : String} (hty : ty = "str_ascii_iterator" ∨ ty = "str_iterator") :
    Draws prog w A it [it] x.cps.size (SignP x) fun i h => h.IsStrIter it ty x t i := by
  rcases hty with rfl | rfl
  · exact Draws.strAscii hh it x t
  · exact Draws.strWide hh it x t
theorem turn_enumS {P : Program} {w : World} {K : PySem.W.Frag} {elts : List Expr} {kk : Nat} {tpos : Pos} (e it : Addr) (x : Str) (t : Tok) {ty : String} (hty : ty = "str_ascii_iterator" ∨ ty = "str_iterator") :
    Turn P w K (.Tuple elts kk tpos) (Ites x) [e, it] e fun i h => (∃ old, IsEnum h e it ((i : Nat) : Int) old) ∧ h.IsStrIter it ty x t i ∧ e ≠ it where
  mem := by simp
  obj := fun i h st b hb => by
    obtain ⟨⟨old, he⟩, ⟨o, ho, hc, hd⟩, _⟩ := st
    rcases (by simpa using hb : b = e ∨ b = it) with rfl | rfl
    · exact ⟨_, he, fun v q => nomatch q⟩
    · exact ⟨o, ho, fun v q => by rw [hd] at q; cases q⟩
  keep := fun i h h' st k => by
    obtain ⟨⟨old, he⟩, ⟨o, ho, r⟩, hne⟩ := st
    exact ⟨⟨old, k e (by simp) _ he⟩, ⟨o, k it (by simp) o ho, r⟩, hne⟩
  item := by
    rintro X rfl rfl rfl hc i pins s σ H E I hf ⟨⟨old, he⟩, hit, hne⟩ hg
    have hel : e < s.heap.objs.size := Heap.lt_size he
    have hil : it < s.heap.objs.size := by obtain ⟨_, q, _⟩ := hit; exact Heap.lt_size q
    apply wpAny_pyNext_enum_itemD (draws_sign (A := X.A.in1) (I.ok.hd hc) it x t hty) he hit hg hne (by simp [hne])
    rintro v h' tk ⟨c, u, hcx, rfl⟩ ho hst hT hsz hk
    refine ⟨_, rfl, ?_⟩
    apply wpAny_letOwnedTupleGo_enum (s := { s with heap := h', toks := tk + 1 }) ho
    rintro h'' he' sb
    have hT2 : h''.get? s.heap.objs.size = some { cls := .type "tuple", data := .seq #[.int i tk, .str ⟨#[c]⟩ u] } := (sb.2 _ (Nat.ne_of_gt hel)).trans hT
    have new : ObjOk X.prog X.w (upd H s.heap.objs.size (.tup [.int (i : Nat), .str ⟨#[c]⟩])) h'' s.heap.objs.size (.tup [.int (i : Nat), .str ⟨#[c]⟩]) :=
      ⟨by show 2 ≤ sizeLine; decide, [.int i tk, .str ⟨#[c]⟩ u], .cons ⟨_, rfl⟩ (.cons ⟨_, rfl⟩ .nil), ⟨_, hT2, rfl, _, rfl⟩⟩
    have I1 : Inv X pins σ (upd H s.heap.objs.size (.tup [.int (i : Nat), .str ⟨#[c]⟩])) { s with heap := h'', toks := tk + 1 } :=
      I.turnedNew (ch := [e, it]) (fun b ob hb q => (sb.2 b (fun z => hb (by simp [z]))).trans (hk b ob (fun z => hb (by simp [z])) (fun z => hb (by simp [z])) q)) hf (Nat.le_refl _) new
    have up : ((i + 1 : Nat) : Int) = (i : Int) + 1 := by omega
    refine ⟨.ref s.heap.objs.size, _, I1, rfl, ⟨_, c, rfl, I.hok.fresh (Nat.le_refl _), hcx, rfl⟩, ⟨⟨_, by rw [up]; exact he'⟩, ?_, hne⟩, fun b hb => ?_⟩
    · obtain ⟨o, q, r⟩ := hst
      exact ⟨o, (sb.2 it (Ne.symm hne)).trans q, r⟩
    · have lt : b < s.heap.objs.size := by
        rcases (by simpa using hb : b = e ∨ b = it) with rfl | rfl
        · exact hel
        · exact hil
      rw [upd_ne (Nat.ne_of_lt lt)]
      exact (hf b hb).1
  done := by
    rintro X rfl rfl rfl hc i pins s σ H E I hf ⟨⟨old, he⟩, hit, hne⟩ hg
    obtain ⟨f0, f1, f2, f3, f4, f5⟩ := hf it (by simp)
    have hx : x.cps[i]? = none := Array.getElem?_eq_none hg
    have D : Draws X.prog X.w X.A.in1 it [it] i (fun _ _ => True) fun j h => j = i ∧ h.IsStrIter it ty x t i := {
      live := fun _ _ st => by obtain ⟨_, o, q, _⟩ := st; exact ⟨o, q⟩
      frame := fun _ _ _ st hk => by obtain ⟨a, o, q, r⟩ := st; exact ⟨a, o, hk it (by simp) o q, r⟩
      item := fun j s Q E hj st hQ => absurd st.1 (Nat.ne_of_lt hj)
      done := fun s Q E st hE => by
        rcases hty with rfl | rfl
        · exact wpAny_nextOf_ascii_end (A := X.A.in1) (I.ok.hd hc) st.2 hx hE
        · exact wpAny_nextOf_wide_end (A := X.A.in1) (I.ok.hd hc) st.2 hx hE }
    exact wpAny_pyNext_enum_endD D he ⟨rfl, hit⟩ fun h' eb => ⟨rfl, I.turned (t' := s.toks) (fun b o hb q => eb b o hb q) f0 f1 f3 f4 f5⟩
  self := fun A i s Q E st h => by
    obtain ⟨⟨_, he⟩, _⟩ := st
    exact wpAny_pyIter_enum he h
def iEnumB (K : PySem.W.Frag) (ta : TA) : TI := fun σ H R => ta σ H fun vs H1 => (∃ a, vs = [.ref a] ∧ ((∃ xs, SqL K H1 a xs ∧ R (Ite K a) H1) ∨ ∃ xs, SqT K H1 a xs ∧ R (Iten K a) H1)) ∨ ∃ z, vs = [.str z] ∧ R (Ites z) H1
theorem pi_enumB {X : Cx} {e : Expr} {ta : TA} {p pos tpos : Pos} {elts : List Expr} {kk : Nat} (hg : Gl X "enumerate") (hm : X.mg "enumerate" = none) (ha : PA X [e] ta) (hs : starEach [e] X.env = [(false, eval e X.env)] := by rfl) :
    PI X (.Tuple elts kk tpos) (.Call (.Name "enumerate" p) [e] [] pos) (iEnumB X.K ta) := by
  constructor
  intro pins s σ H R I h
  refine Call_ (ld_blt I hg hm boot_enumerate (PyProof.Rows.callWith_type1 (thn (ha.run pos pins s σ H _ I h) ?_) hs rfl))
  rintro us s1 ⟨vs, H1, I1, r1, q1⟩
  have fo : ∀ b ∈ [s1.heap.objs.size + 1, s1.heap.objs.size], FpOk X pins H1 b := fun b hb => by
    have hle : s1.heap.objs.size ≤ b := by
      rcases (by simpa using hb : b = s1.heap.objs.size + 1 ∨ b = s1.heap.objs.size) with rfl | rfl
      · exact Nat.le_succ _
      · exact Nat.le_refl _
    exact I1.fpOk hle (I1.hok.fresh hle)
  rcases q1 with ⟨a, rfl, q1⟩ | ⟨z, rfl, q⟩
  · cases r1 with
    | cons r rr =>
    cases rr
    cases r
    rcases q1 with ⟨xs, hq, q⟩ | ⟨xs, hq, q⟩
    · obtain ⟨its, rv, p', hz⟩ := I1.list hq
      apply call_enumerate_list p'.isList
      rintro h' he hit hsz hk
      apply wpAny_pyIter_enum he
      exact ⟨_, _, _, _, H1, rfl, I1.kept (t' := s1.toks) hk, turn_enum a (s1.heap.objs.size + 1) s1.heap.objs.size, ⟨⟨.none, he⟩, hit, Nat.succ_ne_self _⟩, fo, q⟩
    · obtain ⟨its, rv, p', hz⟩ := I1.tuple hq
      have pt : s1.heap.IsTuple a its.toArray := p'
      have hal : a < s1.heap.objs.size := by obtain ⟨_, y, _⟩ := pt; exact Heap.lt_size y
      apply enum_begins1 (begins_tuple a its.toArray) pt
      rintro h' he hit hsz hk
      apply wpAny_pyIter_enum he
      exact ⟨_, _, _, _, H1, rfl, I1.kept (t' := s1.toks) hk, turn_enumT a (s1.heap.objs.size + 1) s1.heap.objs.size, ⟨⟨.none, he⟩, ⟨_, hit, rfl, rfl⟩, Nat.succ_ne_self _, Nat.ne_of_lt hal, Nat.ne_of_gt (Nat.lt_succ_of_lt hal)⟩, fo, q⟩
  · cases r1 with
    | cons r rr =>
    cases rr
    obtain ⟨t, rfl⟩ := r
    apply call_enumerate_str
    rintro h' he hit hsz hk
    apply wpAny_pyIter_enum he
    have hty : strIterType z = "str_ascii_iterator" ∨ strIterType z = "str_iterator" := by
      unfold strIterType
      split
      · exact Or.inl rfl
      · exact Or.inr rfl
    exact ⟨_, _, _, _, H1, rfl, I1.kept (t' := s1.toks) hk, turn_enumS (s1.heap.objs.size + 1) s1.heap.objs.size z t hty, ⟨⟨.none, he⟩, hit, Nat.succ_ne_self _⟩, fo, q⟩
theorem it_enumS {K : PySem.W.Frag} {C : Ct} {F0 : Hp} {σ0 : L2.St} {z : Str} (hz : PyData.strOk z = true) : IterOk K C F0 σ0 (Ites z) (enumD 0 (signsD z)) [] := by
  intro i F env σ H I e h s
  rw [enumD_length]
  have hl : (signsD z).length = z.cps.size := by simp
  rw [hl]
  refine ⟨fun hi => ⟨hi, fun x H' y => ?_⟩, fun hi => hi⟩
  obtain ⟨T, c, rfl, hT, hc, rfl⟩ := y
  have hc' : z.cps.toList[i]? = some c := by simpa using hc
  obtain ⟨F', B, rp⟩ := lay_pair I hT (Rep.int (i : Int)) (Rep.str _ (strOk_sign hz hc'))
  refine ⟨F', _, ?_, B, rp⟩
  rw [enumD_get, Nat.zero_add]
  simp [hc]
@[simp] def mEnumB (m : DM) : DMI := fun env R => m env fun x e1 => (x.con e1 fun d => match d with
  | .str z => R (enumD 0 (signsD z)) [] e1
  | _ => sqOf x e1 fun ds hold => R (enumD 0 ds) hold e1)
theorem di_enumB {X : Cx} {e : Expr} {p pos tpos : Pos} {elts : List Expr} {kk : Nat} {m : DM} (hg : Gl X "enumerate") (hm : X.mg "enumerate" = none) (h : DE X e m) (hs : starEach [e] X.env = [(false, eval e X.env)] := by rfl) (hs' : starEach [e] X.env = (false, eval e X.env) :: starEach [] X.env := by rfl) :
    DI X (.Tuple elts kk tpos) (.Call (.Name "enumerate" p) [e] [] pos) (mEnumB m) := by
  obtain ⟨t, q, ev⟩ := h
  refine ⟨_, pi_enumB hg hm (pa_cons q pa_nil hs') hs, ?_⟩
  intro C F env σ H R Q I h k
  refine ev C F env σ H _ _ I h ?_
  intro x e1 F1 v H1 h1 A1 r1
  obtain ⟨d, h2, s1⟩ := A1.ok.see r1 h1
  have other : (sqOf x e1 fun ds hold => R (enumD 0 ds) hold e1) → (∃ a, [v] = [V.ref a] ∧ ((∃ xs, SqL X.K H1 a xs ∧ Q (Ite X.K a) H1) ∨ ∃ xs, SqT X.K H1 a xs ∧ Q (Iten X.K a) H1)) ∨ ∃ z, [v] = [.str z] ∧ Q (Ites z) H1 := fun h3 => by
    obtain ⟨F2, a, ds, hold, rfl, hR, A2, ex, hh, nw⟩ := nowA_of A1 r1 (R := fun ds hold => R (enumD 0 ds) hold e1) h3
    rcases nw with ⟨nw, vs, hv⟩ | ⟨nw, vs, hv⟩
    · exact Or.inl ⟨a, rfl, Or.inl ⟨vs, sq_of hv, k _ _ e1 F2 H1 _ hR A2 (it_enum nw) hh⟩⟩
    · exact Or.inl ⟨a, rfl, Or.inr ⟨vs, hv, k _ _ e1 F2 H1 _ hR A2 (it_enumT nw) hh⟩⟩
  split at h2
  · rename_i z
    exact Or.inr ⟨z, by rw [s1.str.1], k _ [] e1 F1 H1 _ h2 A1 (it_enumS s1.str.2) trivial⟩
  · exact other h2
end DL

set_option Elab.async false
set_option linter.all false
set_option maxRecDepth 100000
set_option maxHeartbeats 4000000
set_option autoImplicit false
/-! X13: f(e) of a thing just made, which f may change. -/
namespace DL
open PySem PySem.Spec L2 Evl PyProof.Rows
section
variable {K : PySem.W.Frag} {C : Ct} {F0 F H0 H : Hp} {env0 env : List Slot} {σ : L2.St}
theorem one_ok {p : Addr} {o : HO} {d : D} (s : Ex F H) (hp : H p = some o) (ro : RepO K F o d) (fp : F p = none) : ArgsOk K F [.own true d] [.ref p] H where
  len := rfl
  sub := s
  keep := fun a o e _ => e
  all := fun a e => e
  new := fun a _ e => e
  bas := Ex.refl F
  vals := fun i d e => by
    cases i with
    | zero => cases e
    | succ i => cases e
  owns := fun i b d' e => by
    cases i with
    | zero =>
      cases e
      exact ⟨p, o, rfl, hp, ro, fp, (fun z => by cases z), fun _ => ⟨rfl, ⟨0, true, d, rfl, rfl⟩, by show H p ≠ none; rw [hp]; exact fun z => nomatch z⟩⟩
    | succ i => cases e
  sep := fun i j q a b => by
    obtain ⟨_, _, e, _⟩ := a
    obtain ⟨_, _, e', _⟩ := b
    cases i with
    | succ i => cases e
    | zero =>
      cases j with
      | succ j => cases e'
      | zero => rfl
  pins := fun i ⟨b, d', e⟩ => by
    cases i with
    | zero => cases e; exact ⟨d, rfl⟩
    | succ i => cases e
theorem one_done {p : Addr} {o : HO} {d : D} {r : RV} {ss : List Slot} {F' H' : Hp} {v : V} (A : Aft K C F0 env0 σ H0 F env H) (hp : H p = some o) (gp : C.G p = none) (np : ∀ i, ¬ Owns env σ i p) (h0 : H0 p = none) (dn : Done K F [.own true d] [.ref p] H r ss F' v H') :
    Aft K C F0 env0 σ H0 F' env H' := by
  have I := A.ok
  have nw : ∀ a, a ≠ p → ¬ OwnW [.own true d] [.ref p] a := fun a n ⟨i, _, _, e, s⟩ => by
    cases i with
    | zero => cases s; exact n rfl
    | succ i => cases e
  exact {
    ok := {
      len := I.len
      sub := dn.sub
      keep := fun a o e n => dn.keep a o (I.keep a o e n) (nw a fun z => by rw [z, gp] at e; cases e)
      all := fun a e => dn.all a (I.all a e)
      new := fun a e z => dn.new a (I.all a e) (I.new a e z)
      bas := I.bas.trans dn.ex
      vals := fun i d e => by
        obtain ⟨w, q1, q2⟩ := I.vals i d e
        exact ⟨w, q1, q2.mono dn.ex⟩
      owns := fun i b d e => by
        obtain ⟨q, u, q1, q2, q3, q4, q5, q6⟩ := I.owns i b d e
        exact ⟨q, u, q1, dn.keep q u q2 (nw q fun z => np i ⟨b, d, e, by rw [← z]; exact q1⟩), q3.mono dn.ex, dn.new q (by rw [q2]; exact fun z => nomatch z) q4, q5, q6⟩
      sep := I.sep
      pins := I.pins }
    ex := A.ex.trans dn.ex
    fr := fun a o e n => dn.keep a o (A.fr a o e n) (nw a fun z => by rw [z, h0] at e; cases e)
    nw := fun a e z n => dn.new a (A.al a e) (A.nw a e z n)
    al := fun a e => dn.all a (A.al a e)
    le := A.le }
end
section
variable {X : Cx} {k : Nat} {st : Stmt} {ps : List Str} {x : Str} {p pos : Pos} {e : Expr}
@[simp] def mCallT (sd : DSpec) (m : DM) : DM := fun env R => m env fun x e => match x with
  | .tm d => sd [.own true d] fun r _ => R r e
  | _ => False
theorem dcallT {sd : DSpec} (c : Cal X.prog X.w X.K X.mg X.base x st k ps sd) (hgd : X.A.guards = some []) (hr : Room k X.A) (hg : Gl X x) {m : DM} (h : DE X e m)
    (hdb : (x == ("__debug__" : Str)) = false := by decide) (he : starEach [e] X.env = (false, eval e X.env) :: starEach [] X.env := by rfl) (hpl : (backTo pos (starEach [] X.env)).any (·.1) = false := by rfl) :
    DE X (.Call (.Name x p) [e] [] pos) (mCallT sd m) := by
  obtain ⟨f, fd, F, G, hm, hb⟩ := c.ex
  obtain ⟨t, pa, ev⟩ := h
  refine ⟨_, pe_callG (E := E0) G hgd hr hg hm F.kp hb .nil pass0 (pa_cons pa pa_nil he) hdb he hpl, ?_⟩
  intro C F env σ H R Q I h k
  refine ev C F env σ H _ _ I h ?_
  intro y e1 F1 v H1 h1 A1 r1
  cases y with
  | vl d => exact h1.elim
  | sl i => exact h1.elim
  | tm d =>
    obtain ⟨q, o, rfl, g1, g2, g3, g4, g5, g6⟩ := r1
    refine ⟨F1, [.own true d], _, one_ok A1.ok.sub g1 g2 g3, ?_, h1, ?_⟩
    · intro i d' e
      cases i with
      | zero => cases e
      | succ i => cases e
    · intro r ss F' v H' hR dn
      have B := one_done A1 g1 g4 g5 g6 dn
      refine k r e1 F' v H' hR B ?_
      have rs := dn.res
      cases r with
      | vl d => exact rs
      | tm d =>
        obtain ⟨z, o', rfl, z1, z2, z3, z4⟩ := rs
        have z0 : H z = none := by
          cases hz : H z with
          | none => rfl
          | some u => exact absurd z4 (A1.al z (by rw [hz]; exact fun w => nomatch w))
        exact ⟨z, o', rfl, z1, z2, z3, A1.ok.gnone z4, A1.ok.unowned z4, z0⟩
      | sl i => exact rs.elim
end
end DL

set_option Elab.async false
set_option linter.all false
set_option maxRecDepth 100000
set_option maxHeartbeats 4000000
set_option autoImplicit false
/-! X14: defs with keyword-only parameters that have defaults. -/
namespace DL
open PySem PySem.Spec L2 Evl PyProof.Rows
def arrD {α : Type} (n m : Nat) (perm : List Nat) (ds us ws : List α) : List α := if us.length = n ∧ ws.length = m then arr perm (us ++ ds) ws else []
theorem arrD_vals {n m : Nat} {perm : List Nat} {mz : List V} {mv : List Value} (r : Vals mz mv) : ∀ {vs : List V} {us : List Value} {zs : List V} {ws : List Value}, Vals vs us → Vals zs ws → Vals (arrD n m perm mz vs zs) (arrD n m perm mv us ws) := by
  intro vs us zs ws r1 r2
  unfold arrD
  rw [r1.length, r2.length]
  split
  · exact arr_vals (r1.append r) r2
  · exact .nil
theorem arrD_ca {n m : Nat} {perm : List Nat} {mz : List V} {dds : List D} (rd : ∀ (K : PySem.W.Frag) (F : Hp), RepL K F mz dds) : ArrC (arrD n m perm mz) (arrD n m perm (dds.map CA.vl)) := by
  intro K F σ vs zs as bs r1 r2
  unfold arrD
  rw [r1.length, r2.length]
  split
  · exact arr_ca K F σ _ zs _ bs (r1.append (CAs.ofRep (rd K F))) r2
  · exact .nil
theorem kbinds_d {K : PySem.W.Frag} {x : Str} {st : Stmt} {ps ks : List Str} {dfs ms : List (Str × V)} {f : Addr} {fd : FuncData} (F : FunD K x x (defArgs st) (defBody st) (defScope st) [] dfs f fd) (n m : Nat) (perm : List Nat) (hp : ps ≠ []) (hk : dfs ≠ []) (hm : ks.length = m) (hms : ∀ q ∈ ms, q ∈ dfs)
    (h : ∀ (D : Addr) (doc pm : Value) (an : Option Addr) (cdv ct : Value) (us mv ws : List Value), us.length = n → mv.length = ms.length → ws.length = ks.length →
      KwChain D ((ms.map (·.1)).zip mv) (bindArgs (PySem.W.fnOf x x (defArgs st) (defBody st) (defScope st) .none (.ref D) doc pm an cdv ct) ⟨us, ks.zip ws⟩) (ps.zip (arr perm (us ++ mv) ws))) :
    ∃ g, KBinds K fd ps ks g (arrD n m perm (ms.map (·.2))) := by
  obtain ⟨oc, od, dV, kV, doc, pm, an, cdv, ct, osl, rfl, lk, hcd, hD, hK⟩ := F.ex
  rcases hD with ⟨_, rfl⟩ | ⟨e, _⟩
  · rcases hK with e | ⟨D, rfl, hq⟩
    · exact absurd e hk
    · obtain ⟨mv, hl, rk, hks⟩ := kwd_vals (ms := ms) fun q hq' => hq q (hms q hq')
      refine ⟨arrD n m perm mv, ⟨fun s us ws X hl2 => ?_, fun r1 r2 => arrD_vals rk r1 r2⟩⟩
      unfold arrD at hl2 ⊢
      split at hl2
      · rename_i hc
        rw [if_pos hc]
        exact BindsTo.of_looks fun M => KwChain.looks X hks (h D doc pm an cdv ct us mv ws hc.1 hl (by rw [hc.2, hm]))
      · exact absurd (List.length_eq_zero_iff.mp hl2.symm) hp
  · exact absurd rfl e
theorem FunG.ofD {K : PySem.W.Frag} {x : Str} {st : Stmt} {dfs : List (Str × V)} {f : Addr} {fd : FuncData} (F : FunD K x x (defArgs st) (defBody st) (defScope st) [] dfs f fd) : FunG K x (defBody st) (defScope st) f fd := by
  obtain ⟨⟨oc, od, dV, kV, doc, pm, an, cdv, ct, osl, h1, h2, h3, _⟩, _⟩ := F
  exact ⟨oc, od, _, _, dV, kV, doc, pm, an, cdv, ct, osl, h1, h2, h3⟩
theorem fund_mk {K : PySem.W.Frag} {x : Str} {st : Stmt} {f D : Addr} {dfs : List (Str × V)} {oc : Value} {od an : Option Addr} {osl : Array (Option Value)} {doc pm cdv ct : Value} (l : K.lookup f = some ⟨oc, od, .func (PySem.W.fnOf x x (defArgs st) (defBody st) (defScope st) .none (.ref D) doc pm an cdv ct), osl⟩)
    (c : PySem.W.codeIn K cdv x = true) (k : PySem.W.keepIn K (.ref f) = true) (h : ∀ q ∈ dfs, ∃ u, PySem.W.nsIn K D q.1 = some (some u) ∧ RelV q.2 u) :
    FunD K x x (defArgs st) (defBody st) (defScope st) [] dfs f (PySem.W.fnOf x x (defArgs st) (defBody st) (defScope st) .none (.ref D) doc pm an cdv ct) :=
  ⟨⟨oc, od, _, _, doc, pm, an, cdv, ct, osl, rfl, l, c, Or.inl ⟨rfl, rfl⟩, Or.inr ⟨D, rfl, h⟩⟩, k⟩
structure CalD (P : Program) (w : World) (K : PySem.W.Frag) (mg : Str → Option Value) (base : Heap) (x : Str) (st : Stmt) (k : Nat) (ps : List Str) (dfs : List (Str × V)) (sd : DSpec) : Prop where
  ex : ∃ f fd, FunD K x x (defArgs st) (defBody st) (defScope st) [] dfs f fd ∧ FnG P w K mg base CX0 k f fd ps (spD K sd) ∧ mg x = some (.ref f)
section
variable {X : Cx} {k : Nat} {st : Stmt} {ps ks : List Str} {dfs ms : List (Str × V)} {sd : DSpec} {x : Str} {p pos : Pos} {e : Expr} {es : List Expr} {kws : List Keyword}
theorem dcallD1 (c : CalD X.prog X.w X.K X.mg X.base x st k ps dfs sd) (ms : List (Str × V)) (dds : List D) (rd : ∀ (K : PySem.W.Frag) (F : Hp), RepL K F (ms.map (·.2)) dds) (n m : Nat) (perm : List Nat) (hgd : X.A.guards = some []) (hr : Room k X.A) (hg : Gl X x) (hp : ps ≠ []) (hk : dfs ≠ []) (hm : ks.length = m) (hms : ∀ q ∈ ms, q ∈ dfs)
    (hb : ∀ (D : Addr) (doc pm : Value) (an : Option Addr) (cdv ct : Value) (us mv ws : List Value), us.length = n → mv.length = ms.length → ws.length = ks.length →
      KwChain D ((ms.map (·.1)).zip mv) (bindArgs (PySem.W.fnOf x x (defArgs st) (defBody st) (defScope st) .none (.ref D) doc pm an cdv ct) ⟨us, ks.zip ws⟩) (ps.zip (arr perm (us ++ mv) ws)))
    {mc mk : DMC} (h : DC X (e :: es) mc) (h2 : DK X kws mk) (hall : (backToKw pos (keywordEach kws X.env)).all (·.1.isSome) = true := by rfl) (hks : (backToKw pos (keywordEach kws X.env)).filterMap (·.1) = ks := by rfl)
    (hdb : (x == ("__debug__" : Str)) = false := by decide) (he : starEach (e :: es) X.env = (false, eval e X.env) :: starEach es X.env := by rfl)
    (hpl : ((backTo pos (starEach (e :: es) X.env)).any (·.1) || (backToKw pos (keywordEach kws X.env)).any (·.1.isNone)) = false := by rfl) : DE X (.Call (.Name x p) (e :: es) kws pos) (mCallK sd (arrD n m perm (dds.map CA.vl)) mc mk) := by
  obtain ⟨f, fd, F, G, hm'⟩ := c.ex
  obtain ⟨g, kb⟩ := kbinds_d (ps := ps) (ks := ks) F n m perm hp hk hm hms hb
  exact dcallK (arrD n m perm (dds.map CA.vl)) G hgd hr hg hm' F.kp kb (arrD_ca rd) h h2 hall hks hdb he hpl
end
end DL

set_option Elab.async false
set_option linter.all false
set_option maxRecDepth 100000
set_option maxHeartbeats 4000000
set_option autoImplicit false
/-! X15: sets of ints and texts that are walked: a new one, an addition, sorted(..). -/
namespace DL
open PySem PySem.Spec L2 Evl PyProof.Rows PpSet
def keyM (e : Int × Value) : Key := match e.2 with | .int k _ => .inl k | .str x _ => .inr x | _ => .inl 0
def GoodM (w : World) (e : Int × Value) : Prop := ∃ k, keyIs k e.2 = true ∧ e.1 = keyH w k
def SetM (w : World) (h : Heap) (a : Addr) (S : Key → Bool) (n : Nat) : Prop :=
  ∃ o es ep t, h.get? a = some o ∧ o.ExactSet ∧ o.data = .set es ep t ∧ (∀ e ∈ es.toList, GoodM w e) ∧ (es.toList.map keyM).Nodup ∧ (∀ k, S k = true ↔ k ∈ es.toList.map keyM) ∧
    es.size < scanBound ∧ t.fits es.size = true ∧ es.size = n ∧ Ris t.place.toList ∧ (w.params.followText "set-order" = true ∨ t.led = true)
section
variable {P : Program} {w : World} {h h' : Heap} {a : Addr} {S : Key → Bool} {n : Nat}
theorem SetM.at (R : SetM w h a S n) (k : ∀ o, h.get? a = some o → h'.get? a = some o) : SetM w h' a S n := by
  obtain ⟨o, es, ep, t, ho, r⟩ := R
  exact ⟨o, es, ep, t, k o ho, r⟩
theorem keyIs_scan {k : Key} {v : Value} (h : keyIs k v = true) : v.scannable = true := by
  rcases keyIs_shape h with ⟨i, t, _, rfl⟩ | ⟨x, t, _, rfl⟩ <;> rfl
theorem keyM_is {e : Int × Value} {k : Key} (h : keyIs k e.2 = true) : keyM e = k := by
  unfold keyM
  rcases keyIs_shape h with ⟨i, t, rfl, e⟩ | ⟨x, t, rfl, e⟩ <;> rw [e]
theorem goodM_elems {l : List (Int × Value)} (g : ∀ e ∈ l, GoodM w e) : ElemsOf (mixKind P w) l := fun e he => by
  obtain ⟨k, h1, h2⟩ := g e he
  exact ⟨⟨k, h1, h2⟩, keyIs_scan h1⟩
theorem goodM_is {e : Int × Value} (g : GoodM w e) (k : Key) : (mixKind P w).is k e.2 = true ↔ keyM e = k := by
  obtain ⟨k0, h1, _⟩ := g
  rw [keyM_is h1]
  exact ⟨fun h => ((mixKind P w).inj e.2 k k0 h h1).symm, fun h => h ▸ h1⟩
theorem goodM_mem {l : List (Int × Value)} (g : ∀ e ∈ l, GoodM w e) (k : Key) : k ∈ l.map keyM ↔ ∃ e ∈ l, (mixKind P w).is k e.2 = true := by
  rw [List.mem_map]
  constructor
  · rintro ⟨e, he, q⟩
    exact ⟨e, he, (goodM_is (g e he) k).2 q⟩
  · rintro ⟨e, he, q⟩
    exact ⟨e, he, (goodM_is (g e he) k).1 q⟩
theorem SetM.setOf (R : SetM w h a S n) : h.SetOf (mixKind P w) a S n := by
  obtain ⟨o, es, ep, t, ho, hx, hd, g, nd, hm, hb, hf, hn, _⟩ := R
  exact ⟨o, es, ep, t, ho, hx, hd, goodM_elems g, fun k => (hm k).trans (goodM_mem g k), hb, hf, hn⟩
end
section
variable {P : Program} {w : World} {A : Around} {E : Value → Shared → Prop} {s : Shared} {a : Addr} {S : Key → Bool} {n : Nat}
theorem setM_tail {g : Bool → Sem Unit} (hg : ∀ (b : Bool) (s₁ : Shared) (Q' : Unit → Shared → Prop), Q' () s₁ → wpAny (model P w) A (g b) Q' E s₁)
    {o : Obj} {es : Array (Int × Value)} {ep : Nat} {t : SetTable} (ho : s.heap.get? a = some o) (hex : o.ExactSet) (hd : o.data = .set es ep t)
    {es1 : Array (Int × Value)} {t2 : SetTable} {S' : Key → Bool} (g1 : ∀ e ∈ es1.toList, GoodM w e) (nd1 : (es1.toList.map keyM).Nodup) (m1 : ∀ k, S' k = true ↔ k ∈ es1.toList.map keyM)
    (hb1 : es1.size < scanBound) (hf2 : t2.fits es1.size = true) (hr : Ris t2.place.toList) (hl : w.params.followText "set-order" = true ∨ t2.led = true) {wasDummy : Bool} {R : Option Bool → Shared → Prop}
    (hR : ∀ h', Heap.SameBut a s.heap h' → SetM w h' a S' es1.size → R (some true) { s with heap := h' }) :
    wpAny (model P w) A (do
        storeSet a es1 t2
        if (!wasDummy && t2.tooFull) = true then do
            g (relayAll t2 es1 (SetTable.grown es1.size)).2.2
            storeSet a (relayAll t2 es1 (SetTable.grown es1.size)).1 (relayAll t2 es1 (SetTable.grown es1.size)).2.1
            pure (some true)
          else pure (some true)) R E s := by
  refine wpAny_bind (wpAny_storeSet_of ho hd ?_ (fits_of_scanBound hb1))
  have ho1 := PpSet.storeB_at (es' := es1) (t' := t2) ho hd
  have sb1 := Heap.SameBut.update s.heap a (Obj.putSet es1 t2)
  split
  · have pm := relayAll_perm t2 es1 (SetTable.grown es1.size)
    have hf3 := relayAll_fits t2 es1 (SetTable.grown es1.size)
    have hr3 := relayAll_ris t2 es1 (SetTable.grown es1.size)
    have hl3 := relayAll_led t2 es1 (SetTable.grown es1.size)
    generalize relayAll t2 es1 (SetTable.grown es1.size) = Z at pm hf3 hr3 hl3 ⊢
    obtain ⟨es2, t3, gave⟩ := Z
    dsimp only at pm hf3 hr3 hl3 ⊢
    have hsz : es2.size = es1.size := by rw [← Array.length_toList, pm.length_eq, Array.length_toList]
    have hb2 : es2.size < scanBound := by rw [hsz]; exact hb1
    refine wpAny_bind (hg _ _ _ ?_)
    refine wpAny_bind (wpAny_storeSet_of ho1 rfl ?_ (fits_of_scanBound hb2))
    have ho2 := PpSet.storeB_at (es' := es2) (t' := t3) ho1 rfl
    refine wpAny_pure (hR _ (sb1.trans (Heap.SameBut.update _ a _)) ?_)
    exact ⟨_, es2, _, t3, ho2, hex, rfl, fun e he => g1 e (pm.mem_iff.mp he), (pm.map keyM).nodup_iff.mpr nd1, fun k => (m1 k).trans (pm.map keyM).mem_iff.symm, hb2, hf3, hsz, hr3,
      hl.imp id fun z => by rw [hl3]; exact z⟩
  · exact wpAny_pure (hR _ sb1 ⟨_, es1, _, t2, ho1, hex, rfl, g1, nd1, m1, hb1, hf2, rfl, hr, hl⟩)
theorem setM_hashed {k : Key} {u : Value} {Q : Bool → Shared → Prop} (hu : keyIs k u = true) (R : SetM w s.heap a S n) (room : n + 1 < scanBound)
    (hQ : ∀ h', Heap.SameBut a s.heap h' → SetM w h' a (fun j => S j || decide (j = k)) (if S k = true then n else n + 1) → Q (!S k) { s with heap := h' }) :
    wpAny (model P w) A (setAddHashed a u ((mixKind P w).hash k)) Q E s := by
  obtain ⟨o, es, ep, t, ho, hex, hd, g, nd, hm, hb, hf, hn, hr, hl⟩ := R
  have hkey : (mixKind P w).is k u = true := hu
  have hsc : u.scannable = true := keyIs_scan hu
  have hel : ElemsOf (mixKind P w) es.toList := goodM_elems g
  unfold setAddHashed setAddHashedIn
  refine wpAny_holding (wpAny_bind (wpAny_setState_of ho hd hf ?_))
  dsimp only
  rw [byScan_of hsc hb hel]
  simp only [↓reduceIte]
  unfold setAddByScan
  refine wpAny_bind ?_
  refine wpAny_bind (wpAny_rule ?_)
  refine wpAny_bind (wpAny_setScan_of hkey ho hd hf hel ?_)
  cases hfi : List.findIdx? (fun e => (mixKind P w).is k e.2) es.toList with
  | some j =>
    dsimp only
    obtain ⟨hj, pj, _⟩ := List.findIdx?_eq_some_iff_getElem.mp hfi
    have hSk : S k = true := (hm k).2 ((goodM_mem (P := P) (w := w) g k).2 ⟨es.toList[j], List.getElem_mem hj, pj⟩)
    refine wpAny_pure (wpAny_pure ?_)
    have q := hQ s.heap (Heap.SameBut.refl a s.heap) ⟨o, es, ep, t, ho, hex, hd, g, nd, fun i => by
      rw [Bool.or_eq_true, decide_eq_true_eq, ← hm i]
      exact ⟨fun z => z.elim id (fun e => e ▸ hSk), .inl⟩, hb, hf, by rw [if_pos hSk]; exact hn, hr, hl⟩
    rw [hSk] at q
    exact q
  | none =>
    dsimp only
    have hnk : k ∉ es.toList.map keyM := fun z => by
      obtain ⟨e, he, q⟩ := (goodM_mem (P := P) (w := w) g k).1 z
      have c := List.findIdx?_eq_none_iff.mp hfi e he
      rw [q] at c
      cases c
    have hSk : S k = false := by
      cases q : S k with
      | false => rfl
      | true => exact absurd ((hm k).1 q) hnk
    have hgw : ∀ (b : Bool) {s₁ : Shared} {Q' : Unit → Shared → Prop}, Q' () s₁ → wpAny (model P w) A (match b with | true => rule "set.scan.the-table-gave-way" | false => pure ()) Q' E s₁ :=
      fun b s₁ Q' q => by cases b <;> first | exact wpAny_pure q | exact wpAny_rule q
    have pm := layNew_perm t es ((mixKind P w).hash k) u
    have hf1 := layNew_fits t es ((mixKind P w).hash k) u
    have hr1 := layNew_ris t es ((mixKind P w).hash k) u hr
    have hl1 := layNew_led t es ((mixKind P w).hash k) u
    generalize layNew t es ((mixKind P w).hash k) u = Z at pm hf1 hr1 hl1 ⊢
    obtain ⟨es1, t1, wasDummy, gave⟩ := Z
    dsimp only at pm hf1 hr1 hl1 ⊢
    rw [Array.toList_push] at pm
    have pc : es1.toList.Perm (((mixKind P w).hash k, u) :: es.toList) := pm.trans (List.perm_append_singleton _ _)
    have ku : keyM ((mixKind P w).hash k, u) = k := keyM_is (e := ((mixKind P w).hash k, u)) hu
    have pk : (es1.toList.map keyM).Perm (k :: es.toList.map keyM) := by
      have q := pc.map keyM
      rw [List.map_cons, ku] at q
      exact q
    have g1 : ∀ e ∈ es1.toList, GoodM w e := fun e he => by
      rcases List.mem_cons.mp (pc.mem_iff.mp he) with z | z
      · rw [z]; exact ⟨k, hu, rfl⟩
      · exact g e z
    have nd1 : (es1.toList.map keyM).Nodup := pk.nodup_iff.mpr (List.nodup_cons.mpr ⟨hnk, nd⟩)
    have m1 : ∀ i, (S i || decide (i = k)) = true ↔ i ∈ es1.toList.map keyM := fun i => by
      rw [Bool.or_eq_true, decide_eq_true_eq, hm i, pk.mem_iff, List.mem_cons]
      exact Or.comm
    have hsz : es1.size = n + 1 := by rw [← Array.length_toList, pc.length_eq, List.length_cons, Array.length_toList, hn]
    have hb1 : es1.size < scanBound := by rw [hsz]; exact room
    have hled : w.params.followText "set-order" = true ∨ t1.led = true := hl.imp id fun z => by rw [hl1]; exact z
    have fin : ∀ h', Heap.SameBut a s.heap h' → SetM w h' a (fun j => S j || decide (j = k)) es1.size → Q true { s with heap := h' } := fun h' sb r => by
      have q := hQ h' sb
      rw [hSk] at q
      rw [hsz] at r
      exact q r
    refine wpAny_bind (hgw _ ?_)
    split
    · refine wpAny_bind ?_
      rw [hashByValue_scannable 8 hsc]
      refine wpAny_pure ?_
      refine setM_tail ?_ ho hex hd g1 nd1 m1 hb1 ?_ ?_ ?_ ?_
      · intro b s₁ Q' q; cases b <;> first | exact wpAny_pure q | exact wpAny_rule q
      · first | (split <;> first | exact hf1 | exact SetTable.fits_plain_off hf1) | exact hf1
      · first | (split <;> exact hr1) | exact hr1
      · first | (split <;> exact hled) | exact hled
      · intro h' sb r; dsimp only; exact wpAny_pure (fin h' sb r)
    · refine wpAny_bind (wpAny_pure ?_)
      simp only [↓reduceIte]
      refine setM_tail ?_ ho hex hd g1 nd1 m1 hb1 hf1 hr1 hled ?_
      · intro b s₁ Q' q; cases b <;> first | exact wpAny_pure q | exact wpAny_rule q
      · intro h' sb r; dsimp only; exact wpAny_pure (fin h' sb r)
theorem setM_add {k : Key} {u : Value} {Q : Value → Shared → Prop} (hu : keyIs k u = true) (R : SetM w s.heap a S n) (room : n + 1 < scanBound)
    (hQ : ∀ h', Heap.SameBut a s.heap h' → SetM w h' a (fun j => S j || decide (j = k)) (if S k = true then n else n + 1) → Q .none { s with heap := h', toks := s.toks + 1 }) :
    wpAny (model P w) A (call (.builtin "set.add") [.ref a, u]) Q E s := by
  have hS : s.heap.SetOf (mixKind P w) a S n := R.setOf
  refine wpAny_call_entry F.slot_set_add hS.typeIs F.entry_set_add ?_ (F.args_set_add_2 _ _)
  unfold Builtin.«set.add» Builtin.Frozenset.oneOther
  simp only [List.isEmpty_nil, bind_assoc]
  unfold Builtin.Frozenset.addrOf setAdd
  refine wpAny_bind (wpAny_pure ?_)
  try dsimp only
  refine wpAny_bind (wpAny_pure ?_)
  try dsimp only
  refine wpAny_bind ?_
  refine wpAny_holding ?_
  refine wpAny_bind ((mixKind P w).pyHash hu ?_)
  refine setM_hashed (s := { s with toks := s.toks + 1 }) hu R room fun h' sb r => ?_
  show wpAny _ _ (ret Value.none) _ _ _
  exact wpAny_pure ⟨_, rfl, hQ h' sb r⟩
theorem setM_fresh {h : Heap} (w : World) : SetM w (h.push { cls := .type "set", dict := none, data := .set #[] 0 (.fresh 0 0 (!w.params.followText "set-order")) }) h.objs.size (fun _ => false) 0 :=
  ⟨_, #[], 0, _, Heap.get?_push_size _ rfl, ⟨rfl, rfl, rfl⟩, rfl, (fun e he => by simp at he), (by simp), (fun k => by simp), (by decide), (by rfl), rfl, List.Pairwise.nil, by
    show _ ∨ (!w.params.followText "set-order") = true
    cases w.params.followText "set-order"
    · exact .inr rfl
    · exact .inl rfl⟩
def SortsTo (ks : List Key) (ys : List Key) : Prop := (∃ ns ns' : List Int, ks = ns.map Sum.inl ∧ ys = ns'.map Sum.inl ∧ ns'.Pairwise (· < ·)) ∨ ∃ ss ss' : List Str, ks = ss.map Sum.inr ∧ ys = ss'.map Sum.inr ∧ ss'.Nodup ∧ sortedS ss' = true
def OneKind (l : List Key) : Prop := (∃ ns : List Int, l = ns.map Sum.inl) ∨ ∃ ss : List Str, l = ss.map Sum.inr
theorem oneKind_perm {l m : List Key} (p : l.Perm m) (h : OneKind l) : OneKind m := by
  rcases h with ⟨ns, e⟩ | ⟨ss, e⟩
  · refine Or.inl ⟨m.map (fun k => match k with | .inl i => i | .inr _ => 0), ?_⟩
    rw [List.map_map]
    symm
    conv => rhs; rw [← List.map_id m]
    apply List.map_congr_left
    intro k hk
    have := p.mem_iff.mpr hk
    rw [e] at this
    obtain ⟨i, _, rfl⟩ := List.mem_map.mp this
    rfl
  · refine Or.inr ⟨m.map (fun k => match k with | .inr i => i | .inl _ => Str.empty), ?_⟩
    rw [List.map_map]
    symm
    conv => rhs; rw [← List.map_id m]
    apply List.map_congr_left
    intro k hk
    have := p.mem_iff.mpr hk
    rw [e] at this
    obtain ⟨i, _, rfl⟩ := List.mem_map.mp this
    rfl
theorem keyM_val {v : Value} {h : Int} : keyM (h, v) = keyM (0, v) := rfl
theorem sorted_setM {Q : Value → Shared → Prop} (R : SetM w s.heap a S n) (hh : A.handled = none) (hk : ∀ l : List Key, l.Nodup → (∀ k, k ∈ l ↔ S k = true) → OneKind l)
    (hQ : ∀ s' p (out : List Value) (c : Nat) (ks : List Key), (∀ b o, s.heap.get? b = some o → s'.heap.get? b = some o) → s'.gens = s.gens → s'.os = s.os → s.heap.objs.size ≤ p →
      s'.heap.get? p = some (seqObj "list" out.toArray c) → Vals (ks.map kV) out → ks.length ≤ sizeLine → SortsTo ks ks → (∀ k, k ∈ ks ↔ S k = true) → Q (.ref p) s') :
    wpAny (model P w) A (call (.builtin "sorted") [.ref a]) Q E s := by
  obtain ⟨o, es, ep, t, ho, hex, hd, g, nd, hm, hb, hf, hn, hr, hl⟩ := R
  refine Calls.call_function_entry kind_sorted plain_sorted entry_sorted (args_sorted1 _) ?_
  unfold Builtin.«sorted»
  refine wpAny_bind (m := checkCount "sorted" 1 1 _) (wpAny_pure ?_)
  refine wpAny_bind (collect_set (A := A.in1) hh ⟨o, ho, hex.1, hd⟩ hf hb hr hl fun s1 vs k1 hz g1 o1 pm => ?_)
  have hvl : vs.length = es.size := by rw [pm.length_eq, List.length_map, Array.length_toList]
  have hz2 : vs.length ≤ sizeLine := by rw [hvl]; exact fits_of_scanBound hb
  have pk : (vs.map fun v => keyM (0, v)).Perm (es.toList.map keyM) := by
    have q := pm.map fun v => keyM (0, v)
    rw [List.map_map] at q
    exact q
  have gv : ∀ v ∈ vs, keyIs (keyM (0, v)) v = true := fun v hv => by
    obtain ⟨e, he, q⟩ := List.mem_map.mp (pm.mem_iff.mp hv)
    obtain ⟨k, h1, _⟩ := g e he
    subst q
    have e1 : keyM (0, e.2) = k := keyM_is (e := (0, e.2)) h1
    rw [e1]; exact h1
  have ndv : (vs.map fun v => keyM (0, v)).Nodup := pk.nodup_iff.mpr nd
  have mv : ∀ k, k ∈ (vs.map fun v => keyM (0, v)) ↔ S k = true := fun k => by rw [pk.mem_iff, ← hm k]
  refine wpAny_bind (wpAny_newList ?_ hz2)
  have hoL : (s1.heap.push (seqObj "list" vs.toArray 0)).get? s1.heap.objs.size = some (seqObj "list" vs.toArray 0) := Heap.get?_push_size _ rfl
  have old : ∀ (out : Array Value) (b : Addr) (u : Obj), s.heap.get? b = some u → (sortedHeap (s1.heap.push (seqObj "list" vs.toArray 0)) s1.heap.objs.size vs out).get? b = some u := fun out b u e => by
    have q := k1 b u e
    have hlt := Heap.lt_size q
    rw [sortedHeap_old (Nat.ne_of_lt hlt) (by rw [size_push']; exact Nat.lt_succ_of_lt hlt)]
    exact Heap.get?_push_of_some _ q
  rcases hk _ ndv mv with ⟨ns, ens⟩ | ⟨ss, ess⟩
  · have hI : IntsAre vs (vs.map Builtin.Re.reRawOf) := ints_of vs fun v hv => by
      have h1 := gv v hv
      have : keyM (0, v) ∈ ns.map Sum.inl := by rw [← ens]; exact List.mem_map.mpr ⟨v, hv, rfl⟩
      obtain ⟨i, _, ei⟩ := List.mem_map.mp this
      rw [← ei] at h1
      obtain ⟨t, e⟩ := Value.isInt_shape (k := i) (v := v) h1
      exact ⟨i, t, e⟩
    refine wpAny_bind (wpAny_holding (wpAny_call_entry slot_list_sort ⟨_, hoL, rfl⟩ entry_list_sort (list_sort_treeAny hoL hI hz2 fun out ns' a1 a2 a3 => ⟨_, rfl, ?_⟩) (args_list_sort _)))
    obtain ⟨c, hc⟩ := sortedHeap_at (vs := vs) (out := out) hoL
    have ek : (vs.map fun v => keyM (0, v)) = (vs.map Builtin.Re.reRawOf).map Sum.inl := by
      rw [List.map_map]
      apply List.map_congr_left
      intro v hv
      obtain ⟨i, t, e⟩ := SrtO.ints_mem hI v hv
      subst e; rfl
    have pn : (ns'.map (Sum.inl : Int → Key)).Perm (vs.map fun v => keyM (0, v)) := by rw [ek]; exact a2.map _
    have nd' : ns'.Nodup := by
      have q := pn.nodup_iff.mpr ndv
      exact (List.pairwise_map.mp q).imp fun h e => h (congrArg _ e)
    refine wpAny_pure ⟨_, rfl, hQ _ s1.heap.objs.size out.toList c (ns'.map Sum.inl) (fun b u e => old out b u e) g1 o1 hz (by rw [Array.toArray_toList]; exact hc) (by rw [List.map_map]; exact vals_of_ints a1) ?_ (Or.inl ⟨ns', ns', rfl, rfl, lt_of_le_nodup ns' a3 nd'⟩) fun k => by rw [pn.mem_iff, mv k]⟩
    rw [List.length_map, a2.length_eq, List.length_map]; exact hz2
  · have hS : StrsAre vs ss := by
      refine L2.strs_at (by have := congrArg List.length ess; simpa using this) fun j v e => ?_
      have hv : v ∈ vs := List.mem_of_getElem? e
      have h1 := gv v hv
      have q : (vs.map fun v => keyM (0, v))[j]? = some (keyM (0, v)) := by rw [List.getElem?_map, e]; rfl
      rw [ess, List.getElem?_map] at q
      cases e4 : ss[j]? with
      | none => rw [e4] at q; cases q
      | some y =>
        rw [e4] at q
        have e5 : Sum.inr y = keyM (0, v) := Option.some.inj q
        rw [← e5] at h1
        obtain ⟨t, ev⟩ := Value.isStrOf_shape (x := y) (v := v) h1
        exact ⟨y, t, rfl, ev⟩
    refine wpAny_bind (wpAny_holding (wpAny_call_entry slot_list_sort ⟨_, hoL, rfl⟩ entry_list_sort (list_sort_treeKAny strKind_oneLt hoL hS.keysOf (fun v₁ v₂ rest e => keyKind_strs (by rw [← e]; exact hS)) hz2 fun st' hp hs => ⟨_, rfl, ?_⟩) (args_list_sort _)))
    obtain ⟨ys, q1, q2, q3⟩ := sorted_out_str hS hp hs
    obtain ⟨c, hc⟩ := sortedHeap_at (vs := vs) (out := (arrOf st').map (·.2)) hoL
    have pn : (ys.map (Sum.inr : Str → Key)).Perm (vs.map fun v => keyM (0, v)) := by rw [ess]; exact q2.map _
    have nd' : ys.Nodup := by
      have q := pn.nodup_iff.mpr ndv
      exact (List.pairwise_map.mp q).imp fun h e => h (congrArg _ e)
    refine wpAny_pure ⟨_, rfl, hQ _ s1.heap.objs.size ((arrOf st').map (·.2)).toList c (ys.map Sum.inr) (fun b u e => old _ b u e) g1 o1 hz (by rw [Array.toArray_toList]; exact hc) (by rw [List.map_map]; exact vals_of_strs q1) ?_ (Or.inr ⟨ys, ys, rfl, rfl, nd', q3⟩) fun k => by rw [pn.mem_iff, mv k]⟩
    have := congrArg List.length ess
    rw [List.length_map, q2.length_eq]
    simp at this
    omega
end
/-! ### as tracked things -/
def SetMO (w : World) (a : Addr) (S : Key → Bool) (n : Nat) : HO := .ext fun h => SetM w h a S n
theorem setMO_new {w : World} {P : Program} {H : Hp} {h : Heap} {a : Addr} {S : Key → Bool} {n : Nat} (R : SetM w h a S n) : ObjOk P w H h a (SetMO w a S n) := by
  have ⟨o, _, _, _, ho, _⟩ := R
  exact ⟨R, ⟨o, ho⟩, fun h1 h2 p k => SetM.at p k⟩
section
variable {X : Cx}
theorem setMO_get {pins : List (Addr × Obj)} {σ : L2.St} {H : Hp} {s : Shared} {a : Addr} {S : Key → Bool} {n : Nat} (I : Inv X pins σ H s) (ha : H a = some (SetMO X.w a S n)) : SetM X.w s.heap a S n := (I.hok a _ ha).1
theorem addM_ok {pins : List (Addr × Obj)} {σ : L2.St} {H : Hp} {s : Shared} {E : Value → Shared → Prop} {D : Addr} {S : Key → Bool} {n : Nat} {k : Key} {u : Value} {Q : Value → Shared → Prop} (I : Inv X pins σ H s) (hD : H D = some (SetMO X.w D S n)) (ru : RelV (kV k) u) (room : n + 1 < scanBound)
    (h : ∀ s', Inv X pins σ (upd H D (SetMO X.w D (fun j => S j || decide (j = k)) (if S k = true then n else n + 1))) s' → Q .none s') : wpAny (model X.prog X.w) X.A (call (.builtin "set.add") [.ref D, u]) Q E s := by
  have R := setMO_get I hD
  refine setM_add (k := k) (kV_is (P := X.prog) (w := X.w) ru) R room fun h' sb new => ?_
  have he : ∃ u, h'.get? D = some u := by
    have ⟨o, _, _, _, ho, _⟩ := new
    exact ⟨o, ho⟩
  exact h _ (I.write (e := D) (t' := s.toks + 1) (by rw [hD]; trivial) (.inl rfl) (fun b u hb hu => (sb.2 b hb).trans hu) he (setMO_new new))
def rSortedM (w : World) : List V → Hp → VK → Prop := fun vs H Q => ∃ (a : Addr) (S : Key → Bool) (n : Nat), vs = [V.ref a] ∧ H a = some (SetMO w a S n) ∧ (∀ l : List Key, l.Nodup → (∀ k, k ∈ l ↔ S k = true) → OneKind l) ∧
  ∀ (ks : List Key) (p : Addr), SortsTo ks ks → (∀ k, k ∈ ks ↔ S k = true) → H p = none → Q (.ref p) (upd H p (.lst (ks.map kV)))
theorem cr_sortedM (hcalm : X.calm = true) : CallR X (.builtin "sorted") (rSortedM X.w) := by
  intro pins s σ H vs us Q I r h
  obtain ⟨a, S, n, rfl, hs, hk, q⟩ := h
  rw [Vals.ref1 r]
  refine sorted_setM (setMO_get I hs) (I.ok.hd hcalm) hk fun s' p out c ks k1 g1 o1 hp hc hv hz hso hm => ?_
  have hn : H p = none := I.hok.fresh hp
  exact ⟨.ref p, upd H p (.lst (ks.map kV)), I.call' (ch := []) o1 (Un.laid k1 hp hn) (I.hok.laid k1 hp ⟨by rw [List.length_map]; exact hz, out, c, hv, hc⟩) (by rw [g1]; exact I.bare) (fun _ z => nomatch z), rfl, q ks p hso hm hn⟩
end
end DL

set_option Elab.async false
set_option linter.all false
set_option maxRecDepth 100000
set_option maxHeartbeats 4000000
set_option autoImplicit false
/-! X16: set comprehensions of ints and texts, of one clause and of two. -/
namespace DL
open PySem PySem.Spec L2 Evl PyProof.Rows PpSet
section
variable {X : Cx}
def tSm (w : World) (wi : TI) (g : TG) (tt : TT) (te : TE) (vs : List Nat) : TE := fun σ H Q => wi σ H fun J H1 => ∀ D, H1 D = none → ∃ W : Nat → Nat → Hp → Prop, (∃ m, W 0 m (upd H1 D (SetMO w D (fun _ => false) 0))) ∧ ∀ i m H, W i m H →
  (J.stop i H ∧ Q (.ref D) H) ∨ (J.go i H ∧ ∃ Nx : Hp → Prop, (∀ H', Nx H' → ∃ m', m' < m ∧ W (i + 1) m' H') ∧ ∀ x H', J.yld i H x H' → g x (wipe σ vs) H' fun σ2 H2 => wipe σ2 vs = wipe σ vs ∧ tt σ2 H2 fun b H3 =>
    if b = true then te σ2 H3 fun y H4 => ∃ (c : Key) (S : Key → Bool) (n : Nat), y = kV c ∧ H4 D = some (SetMO w D S n) ∧ n + 1 < scanBound ∧ Nx (upd H4 D (SetMO w D (fun j => S j || decide (j = c)) (if S c = true then n else n + 1))) else Nx H3)
theorem sm_core {pins : List (Addr × Obj)} {s : Shared} {σ : L2.St} {H : Hp} {Q : VK} {elt tg iter : Expr} {ifs : List Expr} {scope : Scope} {own : List (PySem.Str × Nat)} {pos pos' : Pos} {wi : TI} {g : TG} {tt : TT} {te : TE} {use : Option (Value → Sem Unit)} {Qf : Value → Shared → Prop}
    (hc : X.calm = true) (hN : X.N.Nodup) (I : Inv X pins σ H s) (hi : PI X tg iter wi) (ok : BlkOk X.N X.env.scope scope own)
    (hg : ∀ (s : Shared) (H : Hp) (C : Addr) (cl : List (PySem.Str × Addr)) (fp : List Addr), PG (X.blk s H scope (compEnvC scope cl C X.env) fp) tg g) (ht : ∀ (s : Shared) (H : Hp) (C : Addr) (cl : List (PySem.Str × Addr)) (fp : List Addr), PTs (X.blk s H scope (compEnvC scope cl C X.env) fp) ifs tt)
    (he : ∀ (s : Shared) (H : Hp) (C : Addr) (cl : List (PySem.Str × Addr)) (fp : List Addr), PE (X.blk s H scope (compEnvC scope cl C X.env) fp) elt te) (hs : ∀ x, foldedSetIterable iter X.env x = pure x)
    (h : tSm X.w wi g tt te (own.map (·.2)) σ H Q)
    (hRR : ∀ D C s' m H', Inv X pins σ H' s' → Q (.ref D) H' → s'.heap.Ns C m → FpOk X pins H' C → compPost (model X.prog X.w) X.A X.xe use Qf (.ref D) C (.ok .next) s') :
    wpAny (model X.prog X.w) X.A (comprehension (.SetComp elt [⟨tg, iter, ifs, 0⟩] scope pos) scope X.env pos' (newSet (.type "set")) false (eval iter X.env) use) Qf X.xe s := by
  have hfree : ∀ y ∈ scope.names, y.2 = .free → ∃ c, X.env.cells.lookup y.1 = some c := fun y hy e => by
    rcases ok.free y hy e with k | k
    · exact I.ok.has _ (.inl k)
    · exact I.ok.has _ (.inr k)
  refine wpAny_comprehension_free (use := use) rfl hs (closure_ok hfree) ok.kind (fun y hy e => by rw [ok.uniq y hy, e])
    (thn (hi.run pins s σ H _ I h) fun xv s1 hx => thn hx fun itv s2 h2 => ?_)
  obtain ⟨it, fp, tn, J, H2, e, I2, T, st2, f2, q⟩ := h2
  subst e
  refine newSet_ok (newEnv_comp ?_)
  generalize hD : s2.heap.objs.size = D
  have hDn : H2 D = none := I2.hok.fresh (Nat.le_of_eq hD)
  obtain ⟨W, ⟨m0, w0⟩, turn⟩ := q D hDn
  -- the new list
  generalize hs3 : ({ s2 with heap := s2.heap.push { cls := .type "set", dict := none, data := .set #[] 0 (.fresh 0 0 (!X.w.params.followText "set-order")) } } : Shared) = s3
  have I3 : Inv X pins σ (upd H2 D (SetMO X.w D (fun _ => false) 0)) s3 := by
    rw [← hs3]
    refine I2.laid (t' := s2.toks) (fun b o e => Heap.get?_push_of_some _ e) (Nat.le_of_eq hD) ?_
    rw [← hD]
    exact setMO_new (setM_fresh X.w)
  have h3 : s3.heap = s2.heap.push { cls := .type "set", dict := none, data := .set #[] 0 (.fresh 0 0 (!X.w.params.followText "set-order")) } := by rw [← hs3]
  have sz : ∀ b ∈ fp, b < s2.heap.objs.size := fun b hb => by
    obtain ⟨o, e, _⟩ := T.obj _ _ st2 b hb
    exact Heap.lt_size e
  have f3 : ∀ b ∈ fp, FpOk X pins (upd H2 D (SetMO X.w D (fun _ => false) 0)) b ∧ b < s3.heap.objs.size := fun b hb => by
    have hlt := sz b hb
    refine ⟨⟨?_, (f2 b hb).2⟩, by rw [h3, Heap.size_push]; exact Nat.lt_succ_of_lt hlt⟩
    rw [upd_ne (by rw [← hD]; exact Nat.ne_of_lt hlt)]
    exact (f2 b hb).1
  have st3 : tn 0 s3.heap := T.keep _ _ _ st2 fun b _ o e => by rw [h3]; exact Heap.get?_push_of_some _ e
  have I4 := block_start I3 ok hN f3
  have pg := hg s3 (upd H2 D (SetMO X.w D (fun _ => false) 0)) s3.heap.objs.size (cellsFrom (s3.heap.objs.size + 1) scope.names (cloFrom X.env.cells scope.names [])) fp
  have pt := ht s3 (upd H2 D (SetMO X.w D (fun _ => false) 0)) s3.heap.objs.size (cellsFrom (s3.heap.objs.size + 1) scope.names (cloFrom X.env.cells scope.names [])) fp
  have pe := he s3 (upd H2 D (SetMO X.w D (fun _ => false) 0)) s3.heap.objs.size (cellsFrom (s3.heap.objs.size + 1) scope.names (cloFrom X.env.cells scope.names [])) fp
  show codeAny _ _ (.compStart (.SetComp elt [⟨tg, iter, ifs, 0⟩] scope pos) 0 (.ref it) (.ref D) (compEnvC scope (cellsFrom (s3.heap.objs.size + 1) scope.names (cloFrom X.env.cells scope.names [])) s3.heap.objs.size X.env)) (compPost (model X.prog X.w) X.A X.xe use Qf (.ref D) s3.heap.objs.size) { s3 with heap := pushCells (s3.heap.push { cls := .type "dict", data := .dict #[] }) scope.names }
  have nfp : ∀ b ∈ fp, (upd H2 D (SetMO X.w D (fun _ => false) 0)) b = none := fun b hb => (f3 b hb).1.1
  generalize hce : compEnvC scope (cellsFrom (s3.heap.objs.size + 1) scope.names (cloFrom X.env.cells scope.names [])) s3.heap.objs.size X.env = ce at I4 pg pt pe ⊢
  have cL : ce.locals = s3.heap.objs.size := by subst hce; rfl
  generalize hH3 : upd H2 D (SetMO X.w D (fun _ => false) 0) = H3 at I3 I4 pg pt pe w0 nfp f3
  generalize hs4 : ({ s3 with heap := pushCells (s3.heap.push { cls := .type "dict", data := .dict #[] }) scope.names } : Shared) = s4 at I4 ⊢
  have st4 : tn 0 s4.heap := T.keep _ _ _ st3 fun b _ o e => by rw [← hs4]; exact pushCells_keeps _ _ _ _ (Heap.get?_push_of_some _ e)
  have stat : ∀ {σ' : L2.St} {H' : Hp} {s' : Shared}, Inv (X.blk s3 H3 scope ce fp) [] σ' H' s' → (∀ b ∈ fp, H' b = none) → ∀ b ∈ fp, FpOk (X.blk s3 H3 scope ce fp) [] H' b := fun {σ' H' s'} I' hn b hb =>
    ⟨hn b hb, (I'.ok.exf b hb).1, I'.ok.exfs b hb, .inl hb, fun x c e => (I'.ok.exf b hb).2 x c e, fun p hp => absurd (show p ∈ ([] : List (Addr × Obj)) ++ [] from hp) (by simp)⟩
  have loop : codeAny (model X.prog X.w) X.A (.compLoop (.SetComp elt [⟨tg, iter, ifs, 0⟩] scope pos) 0 (.ref it) (.ref D) ce) (compPost (model X.prog X.w) X.A X.xe use Qf (.ref D) s3.heap.objs.size) s4 := by
    refine compLoopS_any (fun n s' => ∃ i H', Inv (X.blk s3 H3 scope ce fp) [] (wipe σ (own.map (·.2))) H' s' ∧ tn i s'.heap ∧ (∀ b ∈ fp, H' b = none) ∧ W i n H') ?_ m0 ⟨0, H3, I4, st4, nfp, w0⟩
    rintro n s5 ⟨i, H5, I5, st5, n5, w5⟩
    rcases turn i n H5 w5 with ⟨stop, qq⟩ | ⟨go, Nx, hNx, step⟩
    · have td := T.done (X.blk s3 H3 scope ce fp) rfl rfl rfl hc i [] s5 _ H5 (fun _ _ => False) I5 (stat I5 n5) st5 stop
      refine thnF td fun r s6 ⟨hr, I6⟩ => ?_
      subst hr
      -- back in the def's context
      have I7 : Inv X pins σ H5 s6 := I3.call' (ch := fp) I6.os I6.base I6.hok I6.bare fun b hb => ⟨(f3 b hb).1.2.2.2.1, (f3 b hb).1.2.1, (f3 b hb).1.2.2.2.2.1, (f3 b hb).1.2.2.2.2.2⟩
      have nC : H5 s3.heap.objs.size = none := by
        have z : H5 ce.locals = none := I6.free
        rw [cL] at z
        exact z
      obtain ⟨m, hn, _⟩ := I6.loc
      have hn : s6.heap.Ns ce.locals m := hn
      rw [cL] at hn
      exact hRR D s3.heap.objs.size s6 m H5 I7 qq hn (I3.fpOk (Nat.le_refl _) nC)
    · have ti := T.item (X.blk s3 H3 scope ce fp) rfl rfl rfl hc i [] s5 _ H5 (fun _ _ => False) I5 (stat I5 n5) st5 go
      refine thnF ti fun r s6 ⟨u, hr, h6⟩ => ?_
      subst hr
      refine thnF h6 fun _ s7 ⟨x, H7, I7, r7, y7, st7, n7⟩ => ?_
      have I7' := I7.pinned (stat I7 n7) (T.obj _ _ st7)
      refine thnF (pg.run _ s7 _ H7 x u _ I7' r7 (step x H7 y7)) fun _ s8 ⟨σ8, H8, I8, hw8, q8⟩ => ?_
      refine thnF (pt.run _ s8 σ8 H8 _ I8 q8) fun b s9 ⟨H9, I9, q9⟩ => ?_
      -- the turn's end
      have fin : ∀ {s' : Shared} {H' : Hp}, Inv (X.blk s3 H3 scope ce fp) ([] ++ pinsAt fp s7.heap) σ8 H' s' → Nx H' → ∃ m, m < n ∧ ∃ i H', Inv (X.blk s3 H3 scope ce fp) [] (wipe σ (own.map (·.2))) H' s' ∧ tn i s'.heap ∧ (∀ b ∈ fp, H' b = none) ∧ W i m H' := fun {s' H'} I' nx => by
        obtain ⟨m', hm, w'⟩ := hNx H' nx
        have pin' : ∀ b ∈ fp, ∀ o, s7.heap.get? b = some o → s'.heap.get? b = some o ∧ H' b = none := fun b hb o e =>
          let z := I'.pin (b, o) (List.mem_append_right _ (List.mem_append_right _ (mem_pinsAt hb e)))
          ⟨z.1, z.2.1⟩
        have hl : (wipe σ (own.map (·.2))).length = σ8.length := by rw [← hw8, wipe_length]
        refine ⟨m', hm, i + 1, H', (I'.unpinned (pins := [])).weak hl (fun j v e => ?_), T.keep _ _ _ st7 fun b hb o e => (pin' b hb o e).1, fun b hb => ?_, w'⟩
        · rw [← hw8] at e
          exact (wipe_some e).1
        · obtain ⟨o, e, _⟩ := T.obj _ _ st7 b hb
          exact (pin' b hb o e).2
      cases b with
      | false =>
        simp only [Bool.false_eq_true, if_false] at q9 ⊢
        exact fin I9 q9
      | true =>
        simp only [if_true] at q9 ⊢
        refine thnF (pe.run _ s9 σ8 H9 _ I9 q9) fun z s10 ⟨yv, H10, I10, r10, cb, S0, n0, ey, hD10, hz10, nx⟩ => ?_
        subst ey
        exact addM_ok (X := X.blk s3 H3 scope ce fp) I10 hD10 r10 hz10 fun s11 I11 => fin I11 nx
  exact codeAny_compStart_set loop (T.self X.A 0 _ _ _ st4 loop)
theorem pe_sm {elt tg iter : Expr} {ifs : List Expr} {scope : Scope} {own : List (PySem.Str × Nat)} {pos : Pos} {wi : TI} {g : TG} {tt : TT} {te : TE} (hc : X.calm = true) (hN : X.N.Nodup) (hi : PI X tg iter wi) (ok : BlkOk X.N X.env.scope scope own)
    (hg : ∀ (s : Shared) (H : Hp) (C : Addr) (cl : List (PySem.Str × Addr)) (fp : List Addr), PG (X.blk s H scope (compEnvC scope cl C X.env) fp) tg g) (ht : ∀ (s : Shared) (H : Hp) (C : Addr) (cl : List (PySem.Str × Addr)) (fp : List Addr), PTs (X.blk s H scope (compEnvC scope cl C X.env) fp) ifs tt)
    (he : ∀ (s : Shared) (H : Hp) (C : Addr) (cl : List (PySem.Str × Addr)) (fp : List Addr), PE (X.blk s H scope (compEnvC scope cl C X.env) fp) elt te) (hs : ∀ x, foldedSetIterable iter X.env x = pure x := by intro _; rfl) :
    PE X (.SetComp elt [⟨tg, iter, ifs, 0⟩] scope pos) (tSm X.w wi g tt te (own.map (·.2))) := by
  refine ⟨fun pins s σ H Q I h => ?_⟩
  rw [eval_SetComp]
  refine sm_core hc hN I hi ok hg ht he hs h fun D C s' m H' I' q hn f => ⟨m, hn, fun h'' sb => ?_⟩
  obtain ⟨f0, f1, f2, f3, f4, f5⟩ := f
  exact ⟨.ref D, H', I'.turned (t' := s'.toks) (fun b o hb e => (sb.2 b hb).trans e) f0 f1 f3 f4 f5, rfl, q⟩
end
theorem compTurnS2_out (elt t0 i0 t1 i1 : Expr) (ifs0 ifs1 : List Expr) (scope : Scope) (pos : Pos) (it acc : Value) (env : Env) :
    compTurn (.SetComp elt [⟨t0, i0, ifs0, 0⟩, ⟨t1, i1, ifs1, 0⟩] scope pos) 0 it acc env = (do
      standAt i0.pos
      match ← pyNext it with
      | none => pure (.done .next)
      | some v =>
        letOwnedTupleGo t0 it v
        assign t0 env v
        let mut ok := true
        for c in ifs0 do
          if ok then ok ← isTrue c env (eval c env)
        if ok then
          let x ← eval i1 env
          standAt i1.pos
          let x ← foldedSetIterable i1 env x
          let _ ← runOwn (.compStart (.SetComp elt [⟨t0, i0, ifs0, 0⟩, ⟨t1, i1, ifs1, 0⟩] scope pos) 1 (← holding [x] (pyIter x)) acc env) env
        again (.compLoop (.SetComp elt [⟨t0, i0, ifs0, 0⟩, ⟨t1, i1, ifs1, 0⟩] scope pos) 0 it acc env)) := by rfl
theorem compTurnS2_in (elt t0 i0 t1 i1 : Expr) (ifs0 ifs1 : List Expr) (scope : Scope) (pos : Pos) (it acc : Value) (env : Env) :
    compTurn (.SetComp elt [⟨t0, i0, ifs0, 0⟩, ⟨t1, i1, ifs1, 0⟩] scope pos) 1 it acc env = (do
      standAt i1.pos
      match ← pyNext it with
      | none => pure (.done .next)
      | some v =>
        letOwnedTupleGo t1 it v
        assign t1 env v
        let mut ok := true
        for c in ifs1 do
          if ok then ok ← isTrue c env (eval c env)
        if ok then
          (do let v ← eval elt env; standAt elt.pos; let _ ← call (.builtin "set.add") [acc, v])
        again (.compLoop (.SetComp elt [⟨t0, i0, ifs0, 0⟩, ⟨t1, i1, ifs1, 0⟩] scope pos) 1 it acc env)) := by rfl

section
variable {prog : Program} {w : World} {A : Around} {R : Result → Shared → Prop} {s : Shared} {elt t0 i0 t1 i1 : Expr} {ifs0 ifs1 : List Expr} {scope : Scope} {pos : Pos} {it acc : Value} {env : Env}
theorem compLoopS2_out (hs : ∀ x, foldedSetIterable i1 env x = pure x) (I : Nat → Shared → Prop)
    (turn : ∀ n s, I n s → wpAny (model prog w) A (pyNext it) (fun r s₁ => match r with
      | none => R (.ok .next) s₁
      | some v => wpAny (model prog w) A (letOwnedTupleGo t0 it v) (fun _ s₁' => wpAny (model prog w) A (assign t0 env v) (fun _ s₂ =>
          wpAny (model prog w) A (forIn ifs0 true fun c r => if r = true then do let ok ← isTrue c env (eval c env); pure (ForInStep.yield ok) else pure (ForInStep.yield r)) (fun ok s₃ =>
            if ok = true then wpAny (model prog w) A (eval i1 env) (fun x s₄ => wpAny (model prog w) A (pyIter x) (fun it1 s₅ =>
              codeAny (model prog w) A (.compStart (.SetComp elt [⟨t0, i0, ifs0, 0⟩, ⟨t1, i1, ifs1, 0⟩] scope pos) 1 it1 acc env) (fun r s' => match r with
                | .ok _ => ∃ m, m < n ∧ I m s'
                | .error _ => False) s₅) (notedBy (model prog w) A env fun e s' => R (.error e) s') s₄) (notedBy (model prog w) A env fun e s' => R (.error e) s') s₃
            else ∃ m, m < n ∧ I m s₃) (notedBy (model prog w) A env fun e s' => R (.error e) s') s₂) (notedBy (model prog w) A env fun e s' => R (.error e) s') s₁') (notedBy (model prog w) A env fun e s' => R (.error e) s') s₁) (notedBy (model prog w) A env fun e s' => R (.error e) s') s)
    (n : Nat) (h : I n s) :
    codeAny (model prog w) A (.compLoop (.SetComp elt [⟨t0, i0, ifs0, 0⟩, ⟨t1, i1, ifs1, 0⟩] scope pos) 0 it acc env) R s := by
  refine codeAny_loop rfl I (fun n s hI => ?_) n h
  show wpAny _ A ((compTurn (.SetComp elt [⟨t0, i0, ifs0, 0⟩, ⟨t1, i1, ifs1, 0⟩] scope pos) 0 it acc env).onRaise (fun x => do noteFrame x env; theTreesLotGoes x)) _ _ s
  refine wpAny_noted ?_
  rw [compTurnS2_out]
  refine wpAny_bind (wpAny_standAt (wpAny_bind (wpAny_mono (turn n s hI) (fun r s₁ h₁ => ?_) fun _ _ h' => h')))
  cases r with
  | none => exact wpAny_pure h₁
  | some v =>
    refine wpAny_bind (wpAny_mono h₁ (fun _ s₁' h₁' => ?_) fun _ _ h' => h')
    refine wpAny_bind (wpAny_mono h₁' (fun _ s₂ h₂ => wpAny_bind (wpAny_mono h₂ (fun ok s₃ h₃ => ?_) fun _ _ h' => h')) fun _ _ h' => h')
    cases ok with
    | false => exact wpAny_pure ⟨rfl, h₃⟩
    | true =>
      refine wpAny_bind (wpAny_mono h₃ (fun x s₄ h₄ => ?_) fun _ _ h' => h')
      refine wpAny_bind (wpAny_standAt (wpAny_bind (wpAny_of_eq (hs x) (wpAny_bind (wpAny_holding (wpAny_mono h₄ (fun it1 s₅ h₅ => ?_) fun _ _ h' => h'))))))
      refine wpAny_bind (wpAny_runOwn ?_)
      rw [Around.mark_none]
      refine codeAny_mono h₅ fun r s' hr => ?_
      cases r with
      | ok f =>
        first
          | exact wpAny_pure ⟨rfl, hr⟩
          | exact wpAny_bind (wpAny_pure (wpAny_pure ⟨rfl, hr⟩))
      | error e => exact hr.elim
theorem compLoopS2_in (I : Nat → Shared → Prop)
    (turn : ∀ n s, I n s → wpAny (model prog w) A (pyNext it) (fun r s₁ => match r with
      | none => R (.ok .next) s₁
      | some v => wpAny (model prog w) A (letOwnedTupleGo t1 it v) (fun _ s₁' => wpAny (model prog w) A (assign t1 env v) (fun _ s₂ =>
          wpAny (model prog w) A (forIn ifs1 true fun c r => if r = true then do let ok ← isTrue c env (eval c env); pure (ForInStep.yield ok) else pure (ForInStep.yield r)) (fun ok s₃ =>
            if ok = true then wpAny (model prog w) A (eval elt env) (fun x s₄ =>
              wpAny (model prog w) A (call (.builtin "set.add") [acc, x]) (fun _ s₅ => ∃ m, m < n ∧ I m s₅) (notedBy (model prog w) A env fun e s' => R (.error e) s') s₄) (notedBy (model prog w) A env fun e s' => R (.error e) s') s₃
            else ∃ m, m < n ∧ I m s₃) (notedBy (model prog w) A env fun e s' => R (.error e) s') s₂) (notedBy (model prog w) A env fun e s' => R (.error e) s') s₁') (notedBy (model prog w) A env fun e s' => R (.error e) s') s₁) (notedBy (model prog w) A env fun e s' => R (.error e) s') s)
    (n : Nat) (h : I n s) :
    codeAny (model prog w) A (.compLoop (.SetComp elt [⟨t0, i0, ifs0, 0⟩, ⟨t1, i1, ifs1, 0⟩] scope pos) 1 it acc env) R s := by
  refine codeAny_loop rfl I (fun n s hI => ?_) n h
  show wpAny _ A ((compTurn (.SetComp elt [⟨t0, i0, ifs0, 0⟩, ⟨t1, i1, ifs1, 0⟩] scope pos) 1 it acc env).onRaise (fun x => do noteFrame x env; theTreesLotGoes x)) _ _ s
  refine wpAny_noted ?_
  rw [compTurnS2_in]
  refine wpAny_bind (wpAny_standAt (wpAny_bind (wpAny_mono (turn n s hI) (fun r s₁ h₁ => ?_) fun _ _ h' => h')))
  cases r with
  | none => exact wpAny_pure h₁
  | some v =>
    refine wpAny_bind (wpAny_mono h₁ (fun _ s₁' h₁' => ?_) fun _ _ h' => h')
    refine wpAny_bind (wpAny_mono h₁' (fun _ s₂ h₂ => wpAny_bind (wpAny_mono h₂ (fun ok s₃ h₃ => ?_) fun _ _ h' => h')) fun _ _ h' => h')
    cases ok with
    | false => exact wpAny_pure ⟨rfl, h₃⟩
    | true =>
      exact wpAny_bind (wpAny_bind (wpAny_mono h₃ (fun x s₄ h₄ => wpAny_bind (wpAny_standAt (wpAny_bind (wpAny_mono h₄ (fun _ s₅ h₅ => wpAny_pure (wpAny_pure ⟨rfl, h₅⟩)) fun _ _ h' => h')))) fun _ _ h' => h'))
theorem compStartS1_ok (h0 : codeAny (model prog w) A (.compLoop (.SetComp elt [⟨t0, i0, ifs0, 0⟩, ⟨t1, i1, ifs1, 0⟩] scope pos) 1 it acc env) R s)
    (h : wpAny (model prog w) A (pyIter it) (fun it' s' => codeAny (model prog w) A (.compLoop (.SetComp elt [⟨t0, i0, ifs0, 0⟩, ⟨t1, i1, ifs1, 0⟩] scope pos) 1 it' acc env) R s')
      (notedBy (model prog w) A env fun x s' => R (.error x) s') s) :
    codeAny (model prog w) A (.compStart (.SetComp elt [⟨t0, i0, ifs0, 0⟩, ⟨t1, i1, ifs1, 0⟩] scope pos) 1 it acc env) R s := by
  refine codeAny_of_tree ?_
  show wpAny _ _ ((compStart (.SetComp elt [⟨t0, i0, ifs0, 0⟩, ⟨t1, i1, ifs1, 0⟩] scope pos) 1 it acc env).onRaise (fun x => do noteFrame x env; standAt theWindowsPlace)) _ _ s
  refine wpAny_notedAt ?_
  unfold compStart
  show wpAny _ _ (ask >>= _) _ _ s
  refine wpAny_bind (wpAny_askSetting (wpAny_ite ?_))
  split
  · first
      | exact wpAny_bind (wpAny_pure (wpAny_pure (And.intro rfl h0)))
      | exact wpAny_pure (And.intro rfl h0)
  · first
      | exact wpAny_bind (wpAny_rule (wpAny_bind (wpAny_standAt (wpAny_bind (wpAny_mono h (fun it' s' h' => wpAny_pure (And.intro rfl h')) fun _ _ x => x)))))
      | (refine wpAny_bind (wpAny_rule ?_); show wpAny _ _ (standAt i1.pos >>= _) _ _ s; exact wpAny_bind (wpAny_standAt (wpAny_bind (wpAny_mono h (fun it' s' h' => wpAny_pure (And.intro rfl h')) fun _ _ x => x))))
end

section
variable {X : Cx}
def tSm2 (w : World) (wi : TI) (g : TG) (tt : TT) (wi1 : TI) (g1 : TG) (tt1 : TT) (te : TE) (vs vs1 : List Nat) : TE := fun σ H Q => wi σ H fun J H1 => ∀ D, H1 D = none → ∃ W : Nat → Nat → Hp → Prop, (∃ m, W 0 m (upd H1 D (SetMO w D (fun _ => false) 0))) ∧ ∀ i m H, W i m H →
  (J.stop i H ∧ Q (.ref D) H) ∨ (J.go i H ∧ ∃ Nx : Hp → Prop, (∀ H', Nx H' → ∃ m', m' < m ∧ W (i + 1) m' H') ∧ ∀ x H', J.yld i H x H' → g x (wipe σ vs) H' fun σ2 H2 => wipe σ2 vs = wipe σ vs ∧ tt σ2 H2 fun b H3 =>
    if b = true then wi1 σ2 H3 fun J1 H4 => ∃ W1 : Nat → Nat → Hp → Prop, (∃ m, W1 0 m H4) ∧ ∀ j k H, W1 j k H →
      (J1.stop j H ∧ Nx H) ∨ (J1.go j H ∧ ∃ Nx1 : Hp → Prop, (∀ H', Nx1 H' → ∃ k', k' < k ∧ W1 (j + 1) k' H') ∧ ∀ x H', J1.yld j H x H' → g1 x (wipe σ2 vs1) H' fun σ3 H5 => wipe σ3 vs1 = wipe σ2 vs1 ∧ tt1 σ3 H5 fun b H6 =>
        if b = true then te σ3 H6 fun y H7 => ∃ (c : Key) (S : Key → Bool) (n : Nat), y = kV c ∧ H7 D = some (SetMO w D S n) ∧ n + 1 < scanBound ∧ Nx1 (upd H7 D (SetMO w D (fun j => S j || decide (j = c)) (if S c = true then n else n + 1))) else Nx1 H6)
    else Nx H3)
theorem sm2_core {pins : List (Addr × Obj)} {s : Shared} {σ : L2.St} {H : Hp} {Q : VK} {elt tg iter tg1 iter1 : Expr} {ifs ifs1 : List Expr} {scope : Scope} {own : List (Str × Nat)} {vs1 : List Nat} {pos pos' : Pos} {wi wi1 : TI} {g g1 : TG} {tt tt1 : TT} {te : TE} {use : Option (Value → Sem Unit)} {Qf : Value → Shared → Prop}
    (hc : X.calm = true) (hN : X.N.Nodup) (I : Inv X pins σ H s) (hi : PI X tg iter wi) (ok : BlkOk X.N X.env.scope scope own) (hv : ∀ i ∈ vs1, i ∈ own.map (·.2))
    (hg : ∀ (s : Shared) (H : Hp) (C : Addr) (cl : List (Str × Addr)) (fp : List Addr), PG (X.blk s H scope (compEnvC scope cl C X.env) fp) tg g) (ht : ∀ (s : Shared) (H : Hp) (C : Addr) (cl : List (Str × Addr)) (fp : List Addr), PTs (X.blk s H scope (compEnvC scope cl C X.env) fp) ifs tt)
    (he : ∀ (s : Shared) (H : Hp) (C : Addr) (cl : List (Str × Addr)) (fp : List Addr), PE (X.blk s H scope (compEnvC scope cl C X.env) fp) elt te) (hs : ∀ x, foldedSetIterable iter X.env x = pure x)
    (hi1 : ∀ (s : Shared) (H : Hp) (C : Addr) (cl : List (Str × Addr)) (fp : List Addr), PI (X.blk s H scope (compEnvC scope cl C X.env) fp) tg1 iter1 wi1)
    (hg1 : ∀ (s : Shared) (H : Hp) (C : Addr) (cl : List (Str × Addr)) (fp : List Addr), PG (X.blk s H scope (compEnvC scope cl C X.env) fp) tg1 g1)
    (ht1 : ∀ (s : Shared) (H : Hp) (C : Addr) (cl : List (Str × Addr)) (fp : List Addr), PTs (X.blk s H scope (compEnvC scope cl C X.env) fp) ifs1 tt1)
    (hs1 : ∀ env x, foldedSetIterable iter1 env x = pure x)
    (h : tSm2 X.w wi g tt wi1 g1 tt1 te (own.map (·.2)) vs1 σ H Q)
    (hRR : ∀ D C s' m H', Inv X pins σ H' s' → Q (.ref D) H' → s'.heap.Ns C m → FpOk X pins H' C → compPost (model X.prog X.w) X.A X.xe use Qf (.ref D) C (.ok .next) s') :
    wpAny (model X.prog X.w) X.A (comprehension (.SetComp elt [⟨tg, iter, ifs, 0⟩, ⟨tg1, iter1, ifs1, 0⟩] scope pos) scope X.env pos' (newSet (.type "set")) false (eval iter X.env) use) Qf X.xe s := by
  have hfree : ∀ y ∈ scope.names, y.2 = .free → ∃ c, X.env.cells.lookup y.1 = some c := fun y hy e => by
    rcases ok.free y hy e with k | k
    · exact I.ok.has _ (.inl k)
    · exact I.ok.has _ (.inr k)
  refine wpAny_comprehension_free (use := use) rfl hs (closure_ok hfree) ok.kind (fun y hy e => by rw [ok.uniq y hy, e])
    (thn (hi.run pins s σ H _ I h) fun xv s1 hx => thn hx fun itv s2 h2 => ?_)
  obtain ⟨it, fp, tn, J, H2, e, I2, T, st2, f2, q⟩ := h2
  subst e
  refine newSet_ok (newEnv_comp ?_)
  generalize hD : s2.heap.objs.size = D
  have hDn : H2 D = none := I2.hok.fresh (Nat.le_of_eq hD)
  obtain ⟨W, ⟨m0, w0⟩, turn⟩ := q D hDn
  -- the new list
  generalize hs3 : ({ s2 with heap := s2.heap.push { cls := .type "set", dict := none, data := .set #[] 0 (.fresh 0 0 (!X.w.params.followText "set-order")) } } : Shared) = s3
  have I3 : Inv X pins σ (upd H2 D (SetMO X.w D (fun _ => false) 0)) s3 := by
    rw [← hs3]
    refine I2.laid (t' := s2.toks) (fun b o e => Heap.get?_push_of_some _ e) (Nat.le_of_eq hD) ?_
    rw [← hD]
    exact setMO_new (setM_fresh X.w)
  have h3 : s3.heap = s2.heap.push { cls := .type "set", dict := none, data := .set #[] 0 (.fresh 0 0 (!X.w.params.followText "set-order")) } := by rw [← hs3]
  have sz : ∀ b ∈ fp, b < s2.heap.objs.size := fun b hb => by
    obtain ⟨o, e, _⟩ := T.obj _ _ st2 b hb
    exact Heap.lt_size e
  have f3 : ∀ b ∈ fp, FpOk X pins (upd H2 D (SetMO X.w D (fun _ => false) 0)) b ∧ b < s3.heap.objs.size := fun b hb => by
    have hlt := sz b hb
    refine ⟨⟨?_, (f2 b hb).2⟩, by rw [h3, Heap.size_push]; exact Nat.lt_succ_of_lt hlt⟩
    rw [upd_ne (by rw [← hD]; exact Nat.ne_of_lt hlt)]
    exact (f2 b hb).1
  have st3 : tn 0 s3.heap := T.keep _ _ _ st2 fun b _ o e => by rw [h3]; exact Heap.get?_push_of_some _ e
  have I4 := block_start I3 ok hN f3
  have pg := hg s3 (upd H2 D (SetMO X.w D (fun _ => false) 0)) s3.heap.objs.size (cellsFrom (s3.heap.objs.size + 1) scope.names (cloFrom X.env.cells scope.names [])) fp
  have pt := ht s3 (upd H2 D (SetMO X.w D (fun _ => false) 0)) s3.heap.objs.size (cellsFrom (s3.heap.objs.size + 1) scope.names (cloFrom X.env.cells scope.names [])) fp
  have pe := he s3 (upd H2 D (SetMO X.w D (fun _ => false) 0)) s3.heap.objs.size (cellsFrom (s3.heap.objs.size + 1) scope.names (cloFrom X.env.cells scope.names [])) fp
  have pi1 := hi1 s3 (upd H2 D (SetMO X.w D (fun _ => false) 0)) s3.heap.objs.size (cellsFrom (s3.heap.objs.size + 1) scope.names (cloFrom X.env.cells scope.names [])) fp
  have pg1 := hg1 s3 (upd H2 D (SetMO X.w D (fun _ => false) 0)) s3.heap.objs.size (cellsFrom (s3.heap.objs.size + 1) scope.names (cloFrom X.env.cells scope.names [])) fp
  have pt1 := ht1 s3 (upd H2 D (SetMO X.w D (fun _ => false) 0)) s3.heap.objs.size (cellsFrom (s3.heap.objs.size + 1) scope.names (cloFrom X.env.cells scope.names [])) fp
  show codeAny _ _ (.compStart (.SetComp elt [⟨tg, iter, ifs, 0⟩, ⟨tg1, iter1, ifs1, 0⟩] scope pos) 0 (.ref it) (.ref D) (compEnvC scope (cellsFrom (s3.heap.objs.size + 1) scope.names (cloFrom X.env.cells scope.names [])) s3.heap.objs.size X.env)) (compPost (model X.prog X.w) X.A X.xe use Qf (.ref D) s3.heap.objs.size) { s3 with heap := pushCells (s3.heap.push { cls := .type "dict", data := .dict #[] }) scope.names }
  have nfp : ∀ b ∈ fp, (upd H2 D (SetMO X.w D (fun _ => false) 0)) b = none := fun b hb => (f3 b hb).1.1
  generalize hce : compEnvC scope (cellsFrom (s3.heap.objs.size + 1) scope.names (cloFrom X.env.cells scope.names [])) s3.heap.objs.size X.env = ce at I4 pg pt pe pi1 pg1 pt1 ⊢
  have cL : ce.locals = s3.heap.objs.size := by subst hce; rfl
  generalize hH3 : upd H2 D (SetMO X.w D (fun _ => false) 0) = H3 at I3 I4 pg pt pe pi1 pg1 pt1 w0 nfp f3
  generalize hs4 : ({ s3 with heap := pushCells (s3.heap.push { cls := .type "dict", data := .dict #[] }) scope.names } : Shared) = s4 at I4 ⊢
  have st4 : tn 0 s4.heap := T.keep _ _ _ st3 fun b _ o e => by rw [← hs4]; exact pushCells_keeps _ _ _ _ (Heap.get?_push_of_some _ e)
  have stat : ∀ {σ' : L2.St} {H' : Hp} {s' : Shared}, Inv (X.blk s3 H3 scope ce fp) [] σ' H' s' → (∀ b ∈ fp, H' b = none) → ∀ b ∈ fp, FpOk (X.blk s3 H3 scope ce fp) [] H' b := fun {σ' H' s'} I' hn b hb =>
    ⟨hn b hb, (I'.ok.exf b hb).1, I'.ok.exfs b hb, .inl hb, fun x c e => (I'.ok.exf b hb).2 x c e, fun p hp => absurd (show p ∈ ([] : List (Addr × Obj)) ++ [] from hp) (by simp)⟩
  have loop : codeAny (model X.prog X.w) X.A (.compLoop (.SetComp elt [⟨tg, iter, ifs, 0⟩, ⟨tg1, iter1, ifs1, 0⟩] scope pos) 0 (.ref it) (.ref D) ce) (compPost (model X.prog X.w) X.A X.xe use Qf (.ref D) s3.heap.objs.size) s4 := by
    refine compLoopS2_out (hs1 ce) (fun n s' => ∃ i H', Inv (X.blk s3 H3 scope ce fp) [] (wipe σ (own.map (·.2))) H' s' ∧ tn i s'.heap ∧ (∀ b ∈ fp, H' b = none) ∧ W i n H') ?_ m0 ⟨0, H3, I4, st4, nfp, w0⟩
    rintro n s5 ⟨i, H5, I5, st5, n5, w5⟩
    rcases turn i n H5 w5 with ⟨stop, qq⟩ | ⟨go, Nx, hNx, step⟩
    · have td := T.done (X.blk s3 H3 scope ce fp) rfl rfl rfl hc i [] s5 _ H5 (fun _ _ => False) I5 (stat I5 n5) st5 stop
      refine thnF td fun r s6 ⟨hr, I6⟩ => ?_
      subst hr
      -- back in the def's context
      have I7 : Inv X pins σ H5 s6 := I3.call' (ch := fp) I6.os I6.base I6.hok I6.bare fun b hb => ⟨(f3 b hb).1.2.2.2.1, (f3 b hb).1.2.1, (f3 b hb).1.2.2.2.2.1, (f3 b hb).1.2.2.2.2.2⟩
      have nC : H5 s3.heap.objs.size = none := by
        have z : H5 ce.locals = none := I6.free
        rw [cL] at z
        exact z
      obtain ⟨m, hn, _⟩ := I6.loc
      have hn : s6.heap.Ns ce.locals m := hn
      rw [cL] at hn
      exact hRR D s3.heap.objs.size s6 m H5 I7 qq hn (I3.fpOk (Nat.le_refl _) nC)
    · have ti := T.item (X.blk s3 H3 scope ce fp) rfl rfl rfl hc i [] s5 _ H5 (fun _ _ => False) I5 (stat I5 n5) st5 go
      refine thnF ti fun r s6 ⟨u, hr, h6⟩ => ?_
      subst hr
      refine thnF h6 fun _ s7 ⟨x, H7, I7, r7, y7, st7, n7⟩ => ?_
      have I7' := I7.pinned (stat I7 n7) (T.obj _ _ st7)
      refine thnF (pg.run _ s7 _ H7 x u _ I7' r7 (step x H7 y7)) fun _ s8 ⟨σ8, H8, I8, hw8, q8⟩ => ?_
      refine thnF (pt.run _ s8 σ8 H8 _ I8 q8) fun b s9 ⟨H9, I9, q9⟩ => ?_
      -- the turn's end, from any slots that know what the block knew at its start
      have fin : ∀ {σ9 : L2.St} {s' : Shared} {H' : Hp}, Inv (X.blk s3 H3 scope ce fp) ([] ++ pinsAt fp s7.heap) σ9 H' s' → (wipe σ (own.map (·.2))).length = σ9.length → (∀ (j : Nat) v, (wipe σ (own.map (·.2)))[j]? = some (some v) → σ9[j]? = some (some v)) → Nx H' →
          ∃ m, m < n ∧ ∃ i H', Inv (X.blk s3 H3 scope ce fp) [] (wipe σ (own.map (·.2))) H' s' ∧ tn i s'.heap ∧ (∀ b ∈ fp, H' b = none) ∧ W i m H' := fun {σ9 s' H'} I' hl hk nx => by
        obtain ⟨m', hm, w'⟩ := hNx H' nx
        have pin' : ∀ b ∈ fp, ∀ o, s7.heap.get? b = some o → s'.heap.get? b = some o ∧ H' b = none := fun b hb o e =>
          let z := I'.pin (b, o) (List.mem_append_right _ (List.mem_append_right _ (mem_pinsAt hb e)))
          ⟨z.1, z.2.1⟩
        refine ⟨m', hm, i + 1, H', (I'.unpinned (pins := [])).weak hl hk, T.keep _ _ _ st7 fun b hb o e => (pin' b hb o e).1, fun b hb => ?_, w'⟩
        obtain ⟨o, e, _⟩ := T.obj _ _ st7 b hb
        exact (pin' b hb o e).2
      have hl8 : (wipe σ (own.map (·.2))).length = σ8.length := by rw [← hw8, wipe_length]
      have hk8 : ∀ (j : Nat) v, (wipe σ (own.map (·.2)))[j]? = some (some v) → σ8[j]? = some (some v) := fun j v e => by
        rw [← hw8] at e
        exact (wipe_some e).1
      have hk9 : ∀ (j : Nat) v, (wipe σ (own.map (·.2)))[j]? = some (some v) → (wipe σ8 vs1)[j]? = some (some v) := fun j v e => by
        rw [← hw8] at e
        obtain ⟨e1, e2⟩ := wipe_some e
        rw [wipe_out fun z => e2 (hv j z)]
        exact e1
      cases b with
      | false =>
        simp only [Bool.false_eq_true, if_false] at q9 ⊢
        exact fin I9 hl8 hk8 q9
      | true =>
        simp only [if_true] at q9 ⊢
        refine thnF (pi1.run _ s9 σ8 H9 _ I9 q9) fun xv s10 hx => thnF hx fun itv s11 h11 => ?_
        obtain ⟨it1, fp1, tn1, J1, H11, e1, I11, T1, st11, f11, W1, ⟨m1, w1⟩, turn1⟩ := h11
        subst e1
        -- the inner loop
        have stat1 : ∀ {H' : Hp}, (∀ b ∈ fp1, H' b = none) → ∀ b ∈ fp1, FpOk (X.blk s3 H3 scope ce fp) ([] ++ pinsAt fp s7.heap) H' b := fun hn b hb => ⟨hn b hb, (f11 b hb).2⟩
        have loop1 : codeAny (model X.prog X.w) X.A (.compLoop (.SetComp elt [⟨tg, iter, ifs, 0⟩, ⟨tg1, iter1, ifs1, 0⟩] scope pos) 1 (.ref it1) (.ref D) ce)
            (fun r s' => match r with
              | .ok _ => ∃ m, m < n ∧ ∃ i H', Inv (X.blk s3 H3 scope ce fp) [] (wipe σ (own.map (·.2))) H' s' ∧ tn i s'.heap ∧ (∀ b ∈ fp, H' b = none) ∧ W i m H'
              | .error _ => False) s11 := by
          refine compLoopS2_in (fun k s' => ∃ j H', Inv (X.blk s3 H3 scope ce fp) ([] ++ pinsAt fp s7.heap) (wipe σ8 vs1) H' s' ∧ tn1 j s'.heap ∧ (∀ b ∈ fp1, H' b = none) ∧ W1 j k H') ?_ m1 ⟨0, H11, I11.weak (wipe_length _ _) (fun j v e => (wipe_some e).1), st11, fun b hb => (f11 b hb).1, w1⟩
          rintro k s12 ⟨j, H12, I12, st12, n12, w12⟩
          rcases turn1 j k H12 w12 with ⟨stop1, nx1⟩ | ⟨go1, Nx1, hNx1, step1⟩
          · refine thnF (T1.done (X.blk s3 H3 scope ce fp) rfl rfl rfl hc j _ s12 (wipe σ8 vs1) H12 (fun _ _ => False) I12 (stat1 n12) st12 stop1) fun r s13 ⟨hr, I13⟩ => ?_
            subst hr
            exact fin I13 (hl8.trans (wipe_length σ8 vs1).symm) hk9 nx1
          · refine thnF (T1.item (X.blk s3 H3 scope ce fp) rfl rfl rfl hc j _ s12 (wipe σ8 vs1) H12 (fun _ _ => False) I12 (stat1 n12) st12 go1) fun r s13 ⟨u1, hr, h13⟩ => ?_
            subst hr
            refine thnF h13 fun _ s14 ⟨x1, H14, I14, r14, y14, st14, n14⟩ => ?_
            have I14' := I14.pinned (stat1 n14) (T1.obj _ _ st14)
            refine thnF (pg1.run _ s14 (wipe σ8 vs1) H14 x1 u1 _ I14' r14 (step1 x1 H14 y14)) fun _ s15 ⟨σ15, H15, I15, hw15, q15⟩ => ?_
            refine thnF (pt1.run _ s15 σ15 H15 _ I15 q15) fun b1 s16 ⟨H16, I16, q16⟩ => ?_
            have fin1 : ∀ {s' : Shared} {H' : Hp}, Inv (X.blk s3 H3 scope ce fp) (([] ++ pinsAt fp s7.heap) ++ pinsAt fp1 s14.heap) σ15 H' s' → Nx1 H' → ∃ m, m < k ∧ ∃ j H', Inv (X.blk s3 H3 scope ce fp) ([] ++ pinsAt fp s7.heap) (wipe σ8 vs1) H' s' ∧ tn1 j s'.heap ∧ (∀ b ∈ fp1, H' b = none) ∧ W1 j m H' := fun {s' H'} I' nx => by
              obtain ⟨m', hm, w'⟩ := hNx1 H' nx
              have pin' : ∀ b ∈ fp1, ∀ o, s14.heap.get? b = some o → s'.heap.get? b = some o ∧ H' b = none := fun b hb o e =>
                let z := I'.pin (b, o) (List.mem_append_right _ (List.mem_append_right _ (mem_pinsAt hb e)))
                ⟨z.1, z.2.1⟩
              refine ⟨m', hm, j + 1, H', I'.unpinned.weak (by rw [← hw15, wipe_length]) (fun j v e => by rw [← hw15] at e; exact (wipe_some e).1), T1.keep _ _ _ st14 fun b hb o e => (pin' b hb o e).1, fun b hb => ?_, w'⟩
              obtain ⟨o, e, _⟩ := T1.obj _ _ st14 b hb
              exact (pin' b hb o e).2
            cases b1 with
            | false =>
              simp only [Bool.false_eq_true, if_false] at q16 ⊢
              exact fin1 I16 q16
            | true =>
              simp only [if_true] at q16 ⊢
              refine thnF (pe.run _ s16 σ15 H16 _ I16 q16) fun z s17 ⟨yv, H17, I17, r17, cb, S0, n0, ey, hD17, hz17, nx⟩ => ?_
              subst ey
              exact addM_ok (X := X.blk s3 H3 scope ce fp) I17 hD17 r17 hz17 fun s18 I18 => fin1 I18 nx
        exact compStartS1_ok loop1 (T1.self X.A 0 _ _ _ st11 loop1)
  exact codeAny_compStart_set loop (T.self X.A 0 _ _ _ st4 loop)
theorem pe_sm2 {elt tg iter tg1 iter1 : Expr} {ifs ifs1 : List Expr} {scope : Scope} {own : List (Str × Nat)} {vs1 : List Nat} {pos : Pos} {wi wi1 : TI} {g g1 : TG} {tt tt1 : TT} {te : TE} (hc : X.calm = true) (hN : X.N.Nodup) (hi : PI X tg iter wi) (ok : BlkOk X.N X.env.scope scope own) (hv : ∀ i ∈ vs1, i ∈ own.map (·.2))
    (hg : ∀ (s : Shared) (H : Hp) (C : Addr) (cl : List (Str × Addr)) (fp : List Addr), PG (X.blk s H scope (compEnvC scope cl C X.env) fp) tg g) (ht : ∀ (s : Shared) (H : Hp) (C : Addr) (cl : List (Str × Addr)) (fp : List Addr), PTs (X.blk s H scope (compEnvC scope cl C X.env) fp) ifs tt)
    (hi1 : ∀ (s : Shared) (H : Hp) (C : Addr) (cl : List (Str × Addr)) (fp : List Addr), PI (X.blk s H scope (compEnvC scope cl C X.env) fp) tg1 iter1 wi1)
    (hg1 : ∀ (s : Shared) (H : Hp) (C : Addr) (cl : List (Str × Addr)) (fp : List Addr), PG (X.blk s H scope (compEnvC scope cl C X.env) fp) tg1 g1) (ht1 : ∀ (s : Shared) (H : Hp) (C : Addr) (cl : List (Str × Addr)) (fp : List Addr), PTs (X.blk s H scope (compEnvC scope cl C X.env) fp) ifs1 tt1)
    (he : ∀ (s : Shared) (H : Hp) (C : Addr) (cl : List (Str × Addr)) (fp : List Addr), PE (X.blk s H scope (compEnvC scope cl C X.env) fp) elt te) (hs : ∀ x, foldedSetIterable iter X.env x = pure x := by intro _; rfl) (hs1 : ∀ env x, foldedSetIterable iter1 env x = pure x := by intro _ _; rfl) :
    PE X (.SetComp elt [⟨tg, iter, ifs, 0⟩, ⟨tg1, iter1, ifs1, 0⟩] scope pos) (tSm2 X.w wi g tt wi1 g1 tt1 te (own.map (·.2)) vs1) := by
  refine ⟨fun pins s σ H Q I h => ?_⟩
  rw [eval_SetComp]
  refine sm2_core hc hN I hi ok hv hg ht he hs hi1 hg1 ht1 hs1 h fun D C s' m H' I' q hn f => ⟨m, hn, fun h'' sb => ?_⟩
  obtain ⟨f0, f1, f2, f3, f4, f5⟩ := f
  exact ⟨.ref D, H', I'.turned (t' := s'.toks) (fun b o hb e => (sb.2 b hb).trans e) f0 f1 f3 f4 f5, rfl, q⟩
end
end DL

set_option Elab.async false
set_option linter.all false
set_option maxRecDepth 100000
set_option maxHeartbeats 4000000
set_option autoImplicit false
/-! X17: sorted({..}) of ints or of texts, one clause or two. -/
namespace DL
open PySem PySem.Spec L2 Evl PyProof.Rows
@[simp] def isKey : D → Prop
  | .int _ => True
  | .str _ => True
  | _ => False
@[simp] def mKey (me : DM) : DM := fun env R => me env fun x e => x.get e fun d => isKey d ∧ R (.vl d) e
def dK : Key → D
  | .inl i => .int i
  | .inr x => .str x
theorem dK_inj {a b : Key} (e : dK a = dK b) : a = b := by
  cases a <;> cases b <;> simp [dK] at e <;> rw [e]
theorem isKey_dK {d : D} (h : isKey d) : ∃ k, d = dK k := by
  cases d with
  | int i => exact ⟨.inl i, rfl⟩
  | str x => exact ⟨.inr x, rfl⟩
  | _ => exact h.elim
@[simp] def aSortS (ds : List D) (R : RV → Prop) : Prop :=
  (∃ ns : List Int, ds = ns.map .int ∧ ∀ ns' : List Int, ns'.Pairwise (· < ·) → (∀ k, k ∈ ns' ↔ k ∈ ns) → R (.tm (.lst (ns'.map .int)))) ∨
  ∃ ss : List Str, ds = ss.map .str ∧ ∀ ss' : List Str, ss'.Nodup → sortedS ss' = true → (∀ x, x ∈ ss' ↔ x ∈ ss) → R (.tm (.lst (ss'.map .str)))
@[simp] def mSortS (mi : DMI) (g : DTg) (tt : DMB) (me : DM) (vs : List Nat) : DM := fun env R => mi env fun items hold e => items.length < 4000 ∧ noOwn e vs = true ∧ compI hold g tt (mKey me) vs items [] e fun ds e' => aSortS ds fun l => R l e'
@[simp] def comp2W (hold : Holds) (g : DTg) (tt : DMB) (mi1 : DMI) (g1 : DTg) (tt1 : DMB) (me : DM) (vs vs1 : List Nat) : List D → List D → List Slot → (List D → List Slot → Prop) → Prop
  | [], acc, env, R => holdE hold env ∧ R acc env
  | x :: xs, acc, env, R => holdE hold env ∧ g x (wipeE env vs) fun e => tt e fun b e2 => if b = true then mi1 e2 fun items1 hold1 e3 => acc.length + items1.length < 4000 ∧ noOwn e3 vs1 = true ∧ compI hold1 g1 tt1 me vs1 items1 acc e3 fun acc' e4 => comp2W hold g tt mi1 g1 tt1 me vs vs1 xs acc' (unwipe env e4 vs) R else comp2W hold g tt mi1 g1 tt1 me vs vs1 xs acc (unwipe env e2 vs) R
@[irreducible] def comp2I (hold : Holds) (g : DTg) (tt : DMB) (mi1 : DMI) (g1 : DTg) (tt1 : DMB) (me : DM) (vs vs1 : List Nat) (items acc : List D) (env : List Slot) (R : List D → List Slot → Prop) : Prop := comp2W hold g tt mi1 g1 tt1 me vs vs1 items acc env R
@[simp] def mSortS2 (mi : DMI) (g : DTg) (tt : DMB) (mi1 : DMI) (g1 : DTg) (tt1 : DMB) (me : DM) (vs vs1 : List Nat) : DM := fun env R => mi env fun items hold e => noOwn e vs = true ∧ comp2I hold g tt mi1 g1 tt1 (mKey me) vs vs1 items [] e fun ds e' => aSortS ds fun l => R l e'
def SetI (w : World) (K : PySem.W.Frag) (p : Addr) (acc : List D) (F H : Hp) : Prop :=
  ∃ (S : Key → Bool) (n : Nat) (vacc : List V), H p = some (SetMO w p S n) ∧ RepL K F vacc acc ∧ (∀ d ∈ acc, isKey d) ∧ (∀ k, S k = true ↔ dK k ∈ acc) ∧ n ≤ acc.length
theorem SetI.ex {w : World} {K : PySem.W.Frag} {p : Addr} {acc : List D} {F F' H H' : Hp} (s : SetI w K p acc F H) (e : Ex F F') (h : ∀ o, H p = some o → H' p = some o) : SetI w K p acc F' H' := by
  obtain ⟨S, n, vacc, h1, h2, h3⟩ := s
  exact ⟨S, n, vacc, h _ h1, h2.mono e, h3⟩
section
variable {K : PySem.W.Frag} {C : Ct} {F F' H H' : Hp} {env e e' : List Slot} {σ σ2 : L2.St} {vs : List Nat}
theorem Ok.pokeS {p : Addr} {u : HO} (o : HO) (I : Ok K C F e σ H) (hp : H p = some u) (hF : F p = none) (hG : C.G p = none) (hn : ∀ i, ¬ Owns e σ i p) : Ok K C F e σ (upd H p o) where
  len := I.len
  sub := fun a w q => by rw [upd_ne (ne_of_none q hF)]; exact I.sub a w q
  keep := fun a w q z => by rw [upd_ne (ne_of_none q hG)]; exact I.keep a w q z
  all := fun a q => by
    by_cases z : a = p
    · subst z; rw [upd_same]; exact fun w => nomatch w
    · rw [upd_ne z]; exact I.all a q
  new := I.new
  bas := I.bas
  vals := I.vals
  owns := fun i b d q => by
    obtain ⟨p2, o2, g1, g2, g3⟩ := I.owns i b d q
    refine ⟨p2, o2, g1, ?_, g3⟩
    rw [upd_ne]
    · exact g2
    · rintro rfl
      exact hn i ⟨b, d, q, g1⟩
  sep := I.sep
  pins := I.pins
theorem unwipe2 (h1 : env.length = e.length) (h2 : env.length = e'.length) : unwipe (unwipe env e vs) e' vs = unwipe env e' vs := by
  apply List.ext_getElem?
  intro i
  rw [unwipe_get (by rw [unwipe_length]; omega), unwipe_get h2, unwipe_get h1]
  split <;> rfl
end
theorem compW_keys {hold : Holds} {g : DTg} {tt : DMB} {me : DM} {vs : List Nat} {items acc : List D} {env : List Slot} {R : List D → List Slot → Prop} : True := trivial
theorem set_loop {w : World} {K : PySem.W.Frag} {C : Ct} {σ : L2.St} {p : Addr} {g : DTg} {tt : DMB} {me : DM} {js vs : List Nat} {tg : TG} {ti : TT} {te : TE} {R : List D → List Slot → Prop} {hold : Holds} {items acc0 : List D} {J : It} {F1 H1 : Hp} {e1 : List Slot}
    (Out : Hp → List Slot → Hp → Prop)
    (hs : ∀ F e H F' e' H', Ok K C F e σ H → Out F e H → Aft K C F e σ H F' e' H' → Out F' e' H')
    (hp : ∀ F e H u o, Ok K C F e σ H → Out F e H → H p = some u → F p = none → Out F e (upd H p o))
    (hno : ∀ F e H, Ok K C F e σ H → Out F e H → ∀ i, ¬ Owns e σ i p) (hG : C.G p = none)
    (eg : EvG K js g tg) (et : EvB K tt ti) (ee : EvD K me te) (hj : ∀ i ∈ js, i ∈ vs)
    (I1 : Ok K C F1 e1 σ H1) (O1 : Out F1 e1 H1) (io : IterOk K C F1 σ J items hold) (n1 : noOwn e1 vs = true) (S1 : SetI w K p acc0 F1 H1) (hF1 : F1 p = none) (hl : acc0.length + items.length < 4000)
    (w1 : compW hold g tt (mKey me) vs items acc0 e1 R) (Fin : Hp → Prop)
    (kf : ∀ F e H acc, Ok K C F e σ H → Out F e H → Ex F1 F → SetI w K p acc F H → F p = none → noOwn e vs = true → acc.length < 4000 → R acc e → Fin H) :
    ∃ W : Nat → Nat → Hp → Prop, (∃ m, W 0 m H1) ∧ ∀ i m H, W i m H → (J.stop i H ∧ Fin H) ∨ (J.go i H ∧ ∃ Nx : Hp → Prop, (∀ H', Nx H' → ∃ m', m' < m ∧ W (i + 1) m' H') ∧ ∀ x H', J.yld i H x H' → tg x (wipe σ vs) H' fun σ2 H2 => wipe σ2 vs = wipe σ vs ∧ ti σ2 H2 fun b H3 =>
      if b = true then te σ2 H3 fun y H4 => ∃ (c : Key) (S : Key → Bool) (n : Nat), y = kV c ∧ H4 p = some (SetMO w p S n) ∧ n + 1 < scanBound ∧ Nx (upd H4 p (SetMO w p (fun j => S j || decide (j = c)) (if S c = true then n else n + 1))) else Nx H3) := by
  refine ⟨fun i m H' => m = items.length - i ∧ i ≤ items.length ∧ ∃ F2 e acc, Ok K C F2 e σ H' ∧ Out F2 e H' ∧ Ex F1 F2 ∧ SetI w K p acc F2 H' ∧ F2 p = none ∧ noOwn e vs = true ∧ acc.length ≤ acc0.length + i ∧
    compW hold g tt (mKey me) vs (items.drop i) acc e R, ⟨items.length, by simp, Nat.zero_le _, F1, e1, acc0, I1, O1, Ex.refl _, S1, hF1, n1, Nat.le_refl _, by simpa using w1⟩, ?_⟩
  rintro i m H2 ⟨rfl, hi, F2, e2, acc, I2, O2, x2, S2, hF, n2, l2, w2⟩
  have io2 := io i F2 e2 σ H2 I2 x2 (compW_hold w2) (fun _ _ => rfl)
  by_cases hlt : i < items.length
  · refine Or.inr ⟨(io2.1 hlt).1, fun H' => ∃ F2 e acc, Ok K C F2 e σ H' ∧ Out F2 e H' ∧ Ex F1 F2 ∧ SetI w K p acc F2 H' ∧ F2 p = none ∧ noOwn e vs = true ∧ acc.length ≤ acc0.length + (i + 1) ∧
      compW hold g tt (mKey me) vs (items.drop (i + 1)) acc e R, fun H' q => ⟨items.length - (i + 1), by omega, rfl, hlt, q⟩, fun x H3 y => ?_⟩
    obtain ⟨F3, d, hd, A3, rp⟩ := (io2.1 hlt).2 x H3 y
    have hdr : items.drop i = d :: items.drop (i + 1) := by
      rw [List.drop_eq_getElem_cons hlt]
      rw [List.getElem?_eq_getElem hlt] at hd
      cases hd; rfl
    rw [hdr] at w2
    refine eg C F3 (wipeE e2 vs) (wipe σ vs) H3 _ _ _ _ (A3.ok.wiped n2) rp w2.2 ?_
    intro e4 σ4 h4 I4 k4
    have B4 : Block e2 e4 σ σ4 vs := ⟨by rw [k4.1, wipe_length], fun i q => (k4.2.1 i fun z => q (hj i z)).trans (wipe_get q), fun i b d q => by
      obtain ⟨q1, q2⟩ := (wipeE_get (by simp)).mp (k4.2.2 i b d q)
      exact ⟨d, q1, q2⟩⟩
    refine ⟨wipe_same B4.len B4.st |>.trans rfl, ?_⟩
    refine et C F3 e4 σ4 H3 _ _ I4 h4 ?_
    intro b e5 F5 H5 h5 A5
    have hl' : ∀ {F' e' H'}, Aft K C F3 e4 σ4 H3 F' e' H' → e2.length = e'.length := fun {F' e' H'} A => by
      rw [← I2.len, ← A.ok.len]; exact B4.len.symm
    have pU2 := hno F2 e2 H2 I2 O2
    have stay : ∀ {F' e' H'}, Aft K C F3 e4 σ4 H3 F' e' H' → (∀ o, H2 p = some o → H' p = some o) ∧ F' p = none := fun {F' e' H'} A => by
      obtain ⟨S, n, vacc, hv, _⟩ := S2
      have u4 : ∀ i, ¬ Owns e4 σ4 i p := fun i q => pU2 i (B4.owns q)
      have g3 : ∀ o, H2 p = some o → H3 p = some o := fun o q => A3.fr p o q pU2
      have f3 : F3 p = none := A3.nw p (by rw [hv]; exact fun z => nomatch z) hF pU2
      exact ⟨fun o q => A.fr p _ (g3 o q) u4, A.nw p (by rw [g3 _ hv]; exact fun z => nomatch z) f3 u4⟩
    cases b with
    | true =>
      have h5' : me e5 (fun x e => x.get e fun d => isKey d ∧ acc.length < 100000 ∧ compW hold g tt (mKey me) vs (items.drop (i + 1)) (acc ++ [d]) (unwipe e2 e vs) R) := by simpa using h5
      rw [if_pos rfl]
      refine ee C F5 e5 σ4 H5 _ _ A5.ok h5' ?_
      intro l e6 F6 v6 H6 h6 A6 r6
      obtain ⟨F7, d7, h7, A7, ex7, rp7⟩ := A6.keepIt r6 h6
      have A57 := A5.trans A7
      obtain ⟨s1, s2⟩ := stay A57
      have AA := A3.trans (Aft.unwiped A3.ok n2 B4 A57)
      obtain ⟨S, n, vacc, hv, ra, hk, hS, hn⟩ := S2
      obtain ⟨c, rfl⟩ := isKey_dK h7.1
      have ev : v6 = kV c := by
        cases c with
        | inl i => cases rp7; rfl
        | inr x => cases rp7; rfl
      have O3 := hs _ _ _ _ _ _ I2 O2 AA
      have u3 := hno _ _ _ AA.ok O3
      refine ⟨c, S, n, ev, s1 _ hv, by unfold scanBound; omega, F7, _, acc ++ [dK c], AA.ok.pokeS _ (s1 _ hv) s2 hG u3, hp _ _ _ _ _ AA.ok O3 (s1 _ hv) s2, x2.trans AA.ex, ?_, s2, noOwn_unwipe (hl' A57) n2, by rw [List.length_append]; show acc.length + 1 ≤ _; omega, h7.2.2⟩
      refine ⟨_, _, vacc ++ [v6], upd_same, (ra.mono AA.ex).append (.cons rp7 .nil), fun d q => ?_, fun k => ?_, ?_⟩
      · rcases List.mem_append.mp q with q | q
        · exact hk d q
        · rw [List.mem_singleton.mp q]; exact h7.1
      · rw [Bool.or_eq_true, decide_eq_true_eq, hS k, List.mem_append, List.mem_singleton]
        exact ⟨fun z => z.imp id fun z => by rw [z], fun z => z.imp id fun z => dK_inj z⟩
      · rw [List.length_append]
        show _ ≤ acc.length + 1
        split <;> omega
    | false =>
      have h5' : compW hold g tt (mKey me) vs (items.drop (i + 1)) acc (unwipe e2 e5 vs) R := by simpa using h5
      rw [if_neg Bool.false_ne_true]
      obtain ⟨s1, s2⟩ := stay A5
      have AA := A3.trans (Aft.unwiped A3.ok n2 B4 A5)
      exact ⟨F5, _, acc, AA.ok, hs _ _ _ _ _ _ I2 O2 AA, x2.trans AA.ex, S2.ex AA.ex s1, s2, noOwn_unwipe (hl' A5) n2, by omega, h5'⟩
  · have e : i = items.length := by omega
    subst e
    rw [List.drop_length] at w2
    exact Or.inl ⟨io2.2 (Nat.le_refl _), kf F2 e2 H2 acc I2 O2 x2 S2 hF n2 (by omega) w2.2⟩
theorem sortS_end {w : World} {K : PySem.W.Frag} {C : Ct} {F H : Hp} {env : List Slot} {σ : L2.St} {p : Addr} {acc : List D} {R : RV → Prop} {Q : VK} (I : Ok K C F env σ H) (s : SetI w K p acc F H) (h : aSortS acc R) (g : Gives K C F env σ H R Q) :
    rSortedM w [V.ref p] H Q := by
  obtain ⟨S, n, vacc, hp, ra, hk, hS, hn⟩ := s
  refine ⟨p, S, n, rfl, hp, fun l nd hl => ?_, fun ks q so hm hq => ?_⟩
  · rcases h with ⟨ns, e, _⟩ | ⟨ss, e, _⟩
    · refine Or.inl ⟨l.map (fun k => match k with | .inl i => i | .inr _ => 0), ?_⟩
      rw [List.map_map]
      symm
      conv => rhs; rw [← List.map_id l]
      apply List.map_congr_left
      intro k hk
      have := (hS k).mp ((hl k).mp hk)
      rw [e] at this
      obtain ⟨i, _, q⟩ := List.mem_map.mp this
      cases k with
      | inl i => rfl
      | inr x => cases q
    · refine Or.inr ⟨l.map (fun k => match k with | .inr i => i | .inl _ => Str.empty), ?_⟩
      rw [List.map_map]
      symm
      conv => rhs; rw [← List.map_id l]
      apply List.map_congr_left
      intro k hk
      have := (hS k).mp ((hl k).mp hk)
      rw [e] at this
      obtain ⟨i, _, q⟩ := List.mem_map.mp this
      cases k with
      | inl i => cases q
      | inr x => rfl
  · have mem : ∀ k, k ∈ ks ↔ dK k ∈ acc := fun k => (hm k).trans (hS k)
    rcases h with ⟨ns, e, h⟩ | ⟨ss, e, h⟩
    · have key : ∃ ns' : List Int, ks = ns'.map Sum.inl ∧ ns'.Pairwise (· < ·) := by
        rcases so with ⟨_, ns', e1, e2, hp'⟩ | ⟨_, ss', e1, e2, hp', _⟩
        · exact ⟨ns', e2, hp'⟩
        · cases ss' with
          | nil => exact ⟨[], e2, .nil⟩
          | cons x r =>
            have := (mem (.inr x)).mp (by rw [e2]; simp)
            rw [e] at this
            obtain ⟨i, _, q⟩ := List.mem_map.mp this
            cases q
      obtain ⟨ns', e2, hp'⟩ := key
      have := h ns' hp' fun k => by
        have q := mem (.inl k)
        rw [e2, e] at q
        simpa [dK] using q
      rw [e2, List.map_map]
      exact g.lst I this (RepL.ofInts ns') q hq
    · have key : ∃ ss' : List Str, ks = ss'.map Sum.inr ∧ ss'.Nodup ∧ sortedS ss' = true := by
        rcases so with ⟨_, ns', e1, e2, hp'⟩ | ⟨_, ss', e1, e2, hp', hs'⟩
        · cases ns' with
          | nil => exact ⟨[], e2, .nil, rfl⟩
          | cons x r =>
            have := (mem (.inl x)).mp (by rw [e2]; simp)
            rw [e] at this
            obtain ⟨i, _, q⟩ := List.mem_map.mp this
            cases q
        · exact ⟨ss', e2, hp', hs'⟩
      obtain ⟨ss', e2, hp', hs'⟩ := key
      have mm : ∀ x, x ∈ ss' ↔ x ∈ ss := fun k => by
        have q := mem (.inr k)
        rw [e2, e] at q
        simpa [dK] using q
      have := h ss' hp' hs' mm
      rw [e2, List.map_map]
      rw [e] at ra
      exact g.lst I this (RepL.ofStrs ss' fun x q => ra.sOk x ((mm x).mp q)) q hq
end DL

set_option Elab.async false
set_option linter.all false
set_option maxRecDepth 100000
set_option maxHeartbeats 4000000
set_option autoImplicit false
/-! X18: sorted({..}) as an expression; list(range(n)); dict([(k, v), ..]). -/
namespace DL
open PySem PySem.Spec L2 Evl PyProof.Rows
theorem SetI.nil {w : World} {K : PySem.W.Frag} {p : Addr} {F H : Hp} : SetI w K p [] F (upd H p (SetMO w p (fun _ => false) 0)) :=
  ⟨fun _ => false, 0, [], upd_same, .nil, by simp, by simp, by simp⟩
theorem evd_sortS {w : World} {K : PySem.W.Frag} {mi : DMI} {g : DTg} {tt : DMB} {me : DM} {js vs : List Nat} {wi : TI} {tg : TG} {ti : TT} {te : TE} (ei : EvI K mi wi) (eg : EvG K js g tg) (et : EvB K tt ti) (ee : EvD K me te) (hj : ∀ i ∈ js, i ∈ vs) :
    EvD K (mSortS mi g tt me vs) (fun σ H Q => tSm w wi tg ti te vs σ H fun x H1 => rSortedM w [x] H1 Q) := by
  intro C F env σ H R Q I h k
  refine ei C F env σ H _ _ I h ?_
  intro items hold e1 F1 H1 J h1 A1 io hh
  intro p hp
  obtain ⟨hl, n1, w1⟩ := h1
  rw [compI_iff] at w1
  have hG : C.G p = none := A1.ok.gnone hp
  have hU : ∀ i, ¬ Owns e1 σ i p := A1.ok.unowned hp
  have T := A1.ok.tmp hp (SetMO w p (fun _ => false) 0)
  obtain ⟨W, w0, hW⟩ := set_loop (w := w) (K := K) (C := C) (σ := σ) (p := p) (fun F' e' H' => Aft K C F1 e1 σ H1 F' e' H') (fun F e H F' e' H' I O A => O.trans A) (fun F e H u o I O q1 q2 => Aft.poke o O q1 q2 hG hU hp)
    (fun F e H I O i q => hU i (O.le.owns q)) hG eg et ee hj T.ok T io n1 SetI.nil (A1.ok.fnone hp) (by simpa using hl) w1 (fun H => rSortedM w [V.ref p] H Q)
    (fun F e H acc I O x S hF n l hR => sortS_end I S hR fun l F' u H' q A r => k l e F' u H' q ((A1.trans O).trans A) (r.from fun p => (A1.trans O).back))
  exact ⟨W, w0, hW⟩
theorem Block.re {env e4 e : List Slot} {σ σ4 : L2.St} {vs : List Nat} (B : Block env e4 σ σ4 vs) (s : Sub e4 e) (hl : env.length = e.length) : Block (unwipe env e vs) e σ σ4 vs := ⟨B.len, B.st, fun i b d q => by
  obtain ⟨d1, q1⟩ := s i b d q
  obtain ⟨d2, q2, q3⟩ := B.own i b d1 q1
  exact ⟨d, by rw [unwipe_get hl, if_neg q3]; exact q, q3⟩⟩
theorem evd_sortS2 {w : World} {K : PySem.W.Frag} {mi mi1 : DMI} {g g1 : DTg} {tt tt1 : DMB} {me : DM} {js js1 vs vs1 : List Nat} {wi wi1 : TI} {tg tg1 : TG} {ti ti1 : TT} {te : TE} (ei : EvI K mi wi) (eg : EvG K js g tg) (et : EvB K tt ti) (ei1 : EvI K mi1 wi1) (eg1 : EvG K js1 g1 tg1) (et1 : EvB K tt1 ti1) (ee : EvD K me te) (hj : ∀ i ∈ js, i ∈ vs) (hj1 : ∀ i ∈ js1, i ∈ vs1) :
    EvD K (mSortS2 mi g tt mi1 g1 tt1 me vs vs1) (fun σ H Q => tSm2 w wi tg ti wi1 tg1 ti1 te vs vs1 σ H fun x H1 => rSortedM w [x] H1 Q) := by
  intro C F env σ H R Q I h k
  refine ei C F env σ H _ _ I h ?_
  intro items hold e1 F1 H1 J h1 A1 io hh
  intro p hp
  obtain ⟨n1, w1⟩ := h1
  unfold comp2I at w1
  have hG : C.G p = none := A1.ok.gnone hp
  have hU : ∀ i, ¬ Owns e1 σ i p := A1.ok.unowned hp
  have T := A1.ok.tmp hp (SetMO w p (fun _ => false) 0)
  refine ⟨fun i m H' => m = items.length - i ∧ i ≤ items.length ∧ ∃ F2 e acc, Aft K C F1 e1 σ H1 F2 e H' ∧ SetI w K p acc F2 H' ∧ F2 p = none ∧ noOwn e vs = true ∧
    comp2W hold g tt mi1 g1 tt1 (mKey me) vs vs1 (items.drop i) acc e (fun ds e' => aSortS ds fun l => R l e'), ⟨items.length, by simp, Nat.zero_le _, F1, e1, [], T, SetI.nil, A1.ok.fnone hp, n1, by simpa using w1⟩, ?_⟩
  rintro i m H2 ⟨rfl, hi, F2, e2, acc, A2, S2, hF, n2, w2⟩
  have hh2 : holdE hold e2 := by
    cases q : items.drop i with
    | nil => rw [q] at w2; exact w2.1
    | cons a b => rw [q] at w2; exact w2.1
  have io2 := io i F2 e2 σ H2 A2.ok A2.ex hh2 (fun _ _ => rfl)
  by_cases hlt : i < items.length
  · refine Or.inr ⟨(io2.1 hlt).1, fun H' => ∃ F2 e acc, Aft K C F1 e1 σ H1 F2 e H' ∧ SetI w K p acc F2 H' ∧ F2 p = none ∧ noOwn e vs = true ∧
      comp2W hold g tt mi1 g1 tt1 (mKey me) vs vs1 (items.drop (i + 1)) acc e (fun ds e' => aSortS ds fun l => R l e'), fun H' q => ⟨items.length - (i + 1), by omega, rfl, hlt, q⟩, fun x H3 y => ?_⟩
    obtain ⟨F3, d, hd, A3, rp⟩ := (io2.1 hlt).2 x H3 y
    have hdr : items.drop i = d :: items.drop (i + 1) := by
      rw [List.drop_eq_getElem_cons hlt]
      rw [List.getElem?_eq_getElem hlt] at hd
      cases hd; rfl
    rw [hdr] at w2
    refine eg C F3 (wipeE e2 vs) (wipe σ vs) H3 _ _ _ _ (A3.ok.wiped n2) rp w2.2 ?_
    intro e4 σ4 h4 I4 k4
    have B4 : Block e2 e4 σ σ4 vs := ⟨by rw [k4.1, wipe_length], fun i q => (k4.2.1 i fun z => q (hj i z)).trans (wipe_get q), fun i b d q => by
      obtain ⟨q1, q2⟩ := (wipeE_get (by simp)).mp (k4.2.2 i b d q)
      exact ⟨d, q1, q2⟩⟩
    refine ⟨wipe_same B4.len B4.st |>.trans rfl, ?_⟩
    refine et C F3 e4 σ4 H3 _ _ I4 h4 ?_
    intro b e5 F5 H5 h5 A5
    have hl' : ∀ {F' e' H'}, Aft K C F3 e4 σ4 H3 F' e' H' → e2.length = e'.length := fun {F' e' H'} A => by
      rw [← A2.ok.len, ← A.ok.len]; exact B4.len.symm
    have pU2 : ∀ i, ¬ Owns e2 σ i p := fun i q => hU i (A2.le.owns q)
    have stay : ∀ {F' e' H'}, Aft K C F3 e4 σ4 H3 F' e' H' → (∀ o, H2 p = some o → H' p = some o) ∧ F' p = none := fun {F' e' H'} A => by
      obtain ⟨S, n, vacc, hv, _⟩ := S2
      have u4 : ∀ i, ¬ Owns e4 σ4 i p := fun i q => pU2 i (B4.owns q)
      have g3 : ∀ o, H2 p = some o → H3 p = some o := fun o q => A3.fr p o q pU2
      have f3 : F3 p = none := A3.nw p (by rw [hv]; exact fun z => nomatch z) hF pU2
      exact ⟨fun o q => A.fr p _ (g3 o q) u4, A.nw p (by rw [g3 _ hv]; exact fun z => nomatch z) f3 u4⟩
    cases b with
    | true =>
      have h5' : mi1 e5 (fun items1 hold1 e3 => acc.length + items1.length < 4000 ∧ noOwn e3 vs1 = true ∧ compI hold1 g1 tt1 (mKey me) vs1 items1 acc e3 fun acc' e4 =>
        comp2W hold g tt mi1 g1 tt1 (mKey me) vs vs1 (items.drop (i + 1)) acc' (unwipe e2 e4 vs) (fun ds e' => aSortS ds fun l => R l e')) := h5
      rw [if_pos rfl]
      refine ei1 C F5 e5 σ4 H5 _ _ A5.ok h5' ?_
      intro items1 hold1 e6 F6 H6 J1 h6 A6 io6 hh6
      obtain ⟨l6, n6, w6⟩ := h6
      rw [compI_iff] at w6
      have A56 := A5.trans A6
      obtain ⟨s1, s2⟩ := stay A56
      have AA := A3.trans (Aft.unwiped A3.ok n2 B4 A56)
      exact set_loop (w := w) (K := K) (C := C) (σ := σ4) (p := p) (fun F' e' H' => Aft K C F1 e1 σ H1 F' (unwipe e2 e' vs) H' ∧ Sub e4 e' ∧ e2.length = e'.length)
        (fun F e H F' e' H' I O A => by
          have z := O.1.trans (Aft.unwiped O.1.ok (noOwn_unwipe O.2.2 n2) (B4.re O.2.1 O.2.2) A)
          have le : e2.length = e'.length := by rw [O.2.2, ← I.len, ← A.ok.len]
          rw [unwipe2 O.2.2 le] at z
          exact ⟨z, O.2.1.trans A.le, le⟩)
        (fun F e H u o I O q1 q2 => ⟨Aft.poke o O.1 q1 q2 hG hU hp, O.2⟩)
        (fun F e H I O i q => hU i (O.1.le.owns ((B4.re O.2.1 O.2.2).owns q))) hG eg1 et1 ee hj1 A6.ok ⟨A2.trans AA, A56.le, hl' A56⟩ io6 n6 (S2.ex AA.ex s1) s2 l6 w6 _
        (fun F e H acc I O x S hF n l hR => ⟨F, _, acc, O.1, S, hF, noOwn_unwipe O.2.2 n2, hR⟩)
    | false =>
      have h5' : comp2W hold g tt mi1 g1 tt1 (mKey me) vs vs1 (items.drop (i + 1)) acc (unwipe e2 e5 vs) (fun ds e' => aSortS ds fun l => R l e') := h5
      rw [if_neg Bool.false_ne_true]
      obtain ⟨s1, s2⟩ := stay A5
      have AA := A3.trans (Aft.unwiped A3.ok n2 B4 A5)
      exact ⟨F5, _, acc, A2.trans AA, S2.ex AA.ex s1, s2, noOwn_unwipe (hl' A5) n2, h5'⟩
  · have e : i = items.length := by omega
    subst e
    rw [List.drop_length] at w2
    exact Or.inl ⟨io2.2 (Nat.le_refl _), sortS_end A2.ok S2 w2.2 fun l F' u H' q A r => k l e2 F' u H' q ((A1.trans A2).trans A) (r.from fun p => (A1.trans A2).back)⟩
section
variable {X : Cx} {elt tg iter tg1 iter1 : Expr} {ifs ifs1 : List Expr} {scope : Scope} {pos p cpos : Pos} {mi mi1 : DMI} {js js1 : List Nat} {g g1 : DTg} {tt tt1 : DMB} {me : DM}
theorem dsortS (own : List (Str × Nat)) (hgl : Gl X "sorted") (hm : X.mg "sorted" = none) (hc : X.calm = true) (hN : X.N.Nodup) (ok : BlkOk X.N X.env.scope scope own) (hi : DI X tg iter mi)
    (hg : ∀ s H C cl fp, DG (Blk X scope s H C cl fp) tg js g) (ht : ∀ s H C cl fp, DTs (Blk X scope s H C cl fp) ifs tt) (he : ∀ s H C cl fp, DE (Blk X scope s H C cl fp) elt me)
    (hj : ∀ i ∈ js, i ∈ own.map (·.2) := by decide) (hs : ∀ x, foldedSetIterable iter X.env x = pure x := by intro _; rfl) :
    DE X (.Call (.Name "sorted" p) [.SetComp elt [⟨tg, iter, ifs, 0⟩] scope pos] [] cpos) (mSortS mi g tt me (own.map (·.2))) :=
  ⟨_, pe_callB (cr_sortedM hc) hgl hm (by rfl) (pa_cons (pe_sm (tt := TB X.K tt) hc hN hi.can ok (fun s H C cl fp => (hg s H C cl fp).can) (fun s H C cl fp => ht s H C cl fp) (fun s H C cl fp => (he s H C cl fp).can) hs) pa_nil (by rfl)) (by decide) (by decide) (by rfl) (by rfl),
    evd_sortS evi_TI evg_TG evb_TB evd_TD hj⟩
theorem dsortS2 (own : List (Str × Nat)) (vs1 : List Nat) (hgl : Gl X "sorted") (hm : X.mg "sorted" = none) (hc : X.calm = true) (hN : X.N.Nodup) (ok : BlkOk X.N X.env.scope scope own) (hi : DI X tg iter mi)
    (hg : ∀ s H C cl fp, DG (Blk X scope s H C cl fp) tg js g) (ht : ∀ s H C cl fp, DTs (Blk X scope s H C cl fp) ifs tt)
    (hi1 : ∀ s H C cl fp, DI (Blk X scope s H C cl fp) tg1 iter1 mi1) (hg1 : ∀ s H C cl fp, DG (Blk X scope s H C cl fp) tg1 js1 g1) (ht1 : ∀ s H C cl fp, DTs (Blk X scope s H C cl fp) ifs1 tt1) (he : ∀ s H C cl fp, DE (Blk X scope s H C cl fp) elt me)
    (hv : ∀ i ∈ vs1, i ∈ own.map (·.2) := by decide) (hj : ∀ i ∈ js, i ∈ own.map (·.2) := by decide) (hj1 : ∀ i ∈ js1, i ∈ vs1 := by decide) (hs : ∀ x, foldedSetIterable iter X.env x = pure x := by intro _; rfl) (hs1 : ∀ env x, foldedSetIterable iter1 env x = pure x := by intro _ _; rfl) :
    DE X (.Call (.Name "sorted" p) [.SetComp elt [⟨tg, iter, ifs, 0⟩, ⟨tg1, iter1, ifs1, 0⟩] scope pos] [] cpos) (mSortS2 mi g tt mi1 g1 tt1 me (own.map (·.2)) vs1) :=
  ⟨_, pe_callB (cr_sortedM hc) hgl hm (by rfl) (pa_cons (pe_sm2 (tt := TB X.K tt) (tt1 := TB X.K tt1) hc hN hi.can ok hv (fun s H C cl fp => (hg s H C cl fp).can) (fun s H C cl fp => ht s H C cl fp) (fun s H C cl fp => (hi1 s H C cl fp).can) (fun s H C cl fp => (hg1 s H C cl fp).can) (fun s H C cl fp => ht1 s H C cl fp) (fun s H C cl fp => (he s H C cl fp).can) hs hs1) pa_nil (by rfl)) (by decide) (by decide) (by rfl) (by rfl),
    evd_sortS2 evi_TI evg_TG evb_TB evi_TI evg_TG evb_TB evd_TD hj hj1⟩
end
end DL

set_option Elab.async false
set_option linter.all false
set_option maxRecDepth 100000
set_option maxHeartbeats 4000000
set_option autoImplicit false
/-! X19: list(range(n)); dict([(k, v), ..]). -/
namespace DL
open PySem PySem.Spec L2 Evl PyProof.Rows
@[simp] def mLstRg (m : DM) : DM := fun env R => m env fun x e1 => x.con e1 fun d => match d with
  | .int n => 0 ≤ n ∧ n ≤ 100000 ∧ R (.tm (.lst (rangeD 0 n.toNat))) e1
  | _ => False
theorem rg_rep {K : PySem.W.Frag} {F : Hp} {n : Int} (h : 0 ≤ n) : RepL K F (rgV 0 n) (rangeD 0 n.toNat) := by
  unfold rgV rangeD
  rw [Int.sub_zero]
  generalize n.toNat = k
  have : ∀ l : List Nat, RepL K F (l.map fun (i : Nat) => V.int (0 + (i : Nat))) (l.map fun (i : Nat) => D.int (0 + (i : Int))) := fun l => by
    induction l with
    | nil => exact .nil
    | cons a r ih => exact .cons (.int _) ih
  exact this _
section
variable {X : Cx}
theorem dlistRg {e : Expr} {p q pos pos' : Pos} {m : DM} (hc : X.calm = true) (hg : Gl X "list") (hm : X.mg "list" = none) (hg2 : Gl X "range") (hm2 : X.mg "range" = none) (h : DE X e m)
    (na : starEach [e] X.env = (false, eval e X.env) :: starEach [] X.env := by rfl) (na2 : starEach [.Call (.Name "range" p) [e] [] pos] X.env = (false, eval (.Call (.Name "range" p) [e] [] pos) X.env) :: starEach [] X.env := by rfl) :
    DE X (.Call (.Name "list" q) [.Call (.Name "range" p) [e] [] pos] [] pos') (mLstRg m) := by
  obtain ⟨t, pe, ev⟩ := h
  refine ⟨_, pe_listRg hc hg hm (prg_1 hg2 hm2 pe na) na2, ?_⟩
  intro C F env σ H R Q I h k
  refine ev C F env σ H _ _ I h ?_
  intro x e1 F1 v H1 h1 A1 r1
  obtain ⟨d, h3, s1⟩ := A1.ok.see r1 h1
  cases d with
  | int n =>
    refine ⟨n, by rw [s1.int], RgOk.of_le (by omega) (by have := h3.2.1; omega) (by omega) h3.1, fun q hq => ?_⟩
    have g : Gives X.K C F1 e1 σ H1 (fun l => R l e1) Q := fun l F3 u H3 hl A3 r3 => k l e1 F3 u H3 hl (A1.trans A3) (r3.from fun p => A1.back)
    exact g.lst A1.ok h3.2.2 (rg_rep h3.1) q hq
  | _ => exact h3.elim
end
/-! ### dict of a list of pairs -/
def asPrs : List D → Option (List (Key × D))
  | [] => some []
  | .tup [.str x, d] :: r => match asPrs r with
    | some l => some ((.inr x, d) :: l)
    | none => none
  | .tup [.int i, d] :: r => match asPrs r with
    | some l => some ((.inl i, d) :: l)
    | none => none
  | _ => none
def dMerge (ks more : List (Key × D)) : List (Key × D) := more.foldl (fun acc kv => dPut acc kv.1 kv.2) ks
@[simp] def aDictP : List D → (RV → Prop) → Prop
  | [.lst ds], R => match asPrs ds with
    | some ks => R (.tm (.dic (dMerge [] ks)))
    | none => False
  | _, _ => False
section
variable {K : PySem.W.Frag}
theorem merge_rep {F : Hp} : ∀ {kvs : List (Key × V)} {ks : List (Key × D)} {a : List (Key × V)} {b : List (Key × D)}, kvs.map (·.1) = ks.map (·.1) → RepL K F (kvs.map (·.2)) (ks.map (·.2)) → a.map (·.1) = b.map (·.1) → RepL K F (a.map (·.2)) (b.map (·.2)) →
    (mergeK a kvs).map (·.1) = (dMerge b ks).map (·.1) ∧ RepL K F ((mergeK a kvs).map (·.2)) ((dMerge b ks).map (·.2))
  | [], [], _, _, _, _, h, r => ⟨h, r⟩
  | [], _ :: _, _, _, h, _, _, _ => by simp at h
  | _ :: _, [], _, _, h, _, _, _ => by simp at h
  | p :: kvs, q :: ks, a, b, h, r, h2, r2 => by
    simp only [List.map_cons, List.cons.injEq] at h
    rw [List.map_cons, List.map_cons] at r
    cases r with
    | cons x r =>
      obtain ⟨h3, r3⟩ := put_rep x q.1 h2 r2
      have e : mergeK a (p :: kvs) = mergeK (putK a q.1 p.2) kvs := by
        show mergeK (putK a p.1 p.2) kvs = _
        rw [h.1]
      rw [e]
      exact merge_rep (ks := ks) (b := dPut b q.1 q.2) h.2 r h3 r3
theorem prs_rep {F : Hp} : ∀ {vs : List V} {ds : List D} {ks : List (Key × D)}, RepL K F vs ds → asPrs ds = some ks →
    ∃ (ps : List Addr) (kvs : List (Key × V)), vs = ps.map V.ref ∧ Paired (fun p kv => SqT K F p [kV kv.1, kv.2]) ps kvs ∧ kvs.map (·.1) = ks.map (·.1) ∧ RepL K F (kvs.map (·.2)) (ks.map (·.2))
  | _, _, ks, .nil, e => by
    simp only [asPrs] at e
    cases e
    exact ⟨[], [], rfl, .nil, rfl, .nil⟩
  | _, _, ks, .cons (v := v0) (vs := vs0) (d := d) (ds := ds) a r, e => by
    have step : ∀ (k : Key) (d2 : D) (d1 : D), d = .tup [d1, d2] → (∀ v, Rep K F v d1 → v = kV k) → (∃ l, asPrs ds = some l ∧ ks = (k, d2) :: l) → ∃ (ps : List Addr) (kvs : List (Key × V)), v0 :: vs0 = ps.map V.ref ∧ Paired (fun p kv => SqT K F p [kV kv.1, kv.2]) ps kvs ∧ kvs.map (·.1) = ks.map (·.1) ∧ RepL K F (kvs.map (·.2)) (ks.map (·.2)) := by
      intro k d2 d1 ed hk ⟨l, hl, ek⟩
      subst ed
      subst ek
      obtain ⟨ps, kvs, e1, e2, e3, e4⟩ := prs_rep r hl
      cases a with
      | tup hq hr =>
        rename_i p vs'
        cases hr with
        | cons x1 hr =>
          cases hr with
          | cons x2 hr =>
            cases hr
            have := hk _ x1
            subst this
            exact ⟨p :: ps, (k, _) :: kvs, by rw [e1]; rfl, .cons hq e2, by rw [List.map_cons, List.map_cons, e3], .cons x2 e4⟩
    unfold asPrs at e
    split at e
    · rename_i hd; cases hd
    · rename_i x d2 r2 hd
      cases hd
      split at e
      · rename_i l hl
        cases e
        exact step (.inr x) d2 (.str x) rfl (fun v q => by cases q; rfl) ⟨l, hl, rfl⟩
      · cases e
    · rename_i x d2 r2 hd
      cases hd
      split at e
      · rename_i l hl
        cases e
        exact step (.inl x) d2 (.int x) rfl (fun v q => by cases q; rfl) ⟨l, hl, rfl⟩
      · cases e
    · cases e
theorem paired_mono {F H : Hp} (x : Ex F H) : ∀ {ps : List Addr} {kvs : List (Key × V)}, Paired (fun p kv => SqT K F p [kV kv.1, kv.2]) ps kvs → Paired (fun p kv => SqT K H p [kV kv.1, kv.2]) ps kvs
  | _, _, .nil => .nil
  | _, _, .cons a r => .cons (ex_t x a) (paired_mono x r)
theorem on_dictP : OpN K (fun xs H Q => ∃ (a : Addr) (ps : List Addr) (kvs : List (Key × V)), xs = [.ref a] ∧ SqL K H a (ps.map V.ref) ∧ Paired (fun p kv => SqT K H p [kV kv.1, kv.2]) ps kvs ∧
    ∀ p, H p = none → Q (.ref p) (upd H p (.dK (mergeK [] kvs)))) aDictP := by
  intro C F env σ H vs ds R Q I s h g
  unfold aDictP at h
  split at h
  · obtain ⟨v, rfl, a⟩ := s.one
    split at h
    · rename_i ks hk
      obtain ⟨p, ws, rfl, e1, r1⟩ := a.lst I.sub
      obtain ⟨ps, kvs, e2, hp, e3, e4⟩ := prs_rep r1 hk
      subst e2
      exact ⟨p, ps, kvs, rfl, sq_of e1, paired_mono I.sub hp, fun q hq => g.obj I (o := .dK (mergeK [] kvs)) h (merge_rep e3 e4 rfl .nil) q hq⟩
    · exact h.elim
  · exact h.elim
end
/-! ### str of a small int -/
@[simp] def aStrI : List D → (RV → Prop) → Prop
  | [.int i], R => 0 ≤ i ∧ i ≤ 1000000 ∧ R (.vl (.str (Str.ofString (toString i))))
  | _, _ => False
theorem log_small {i : Int} (h : 0 ≤ i) (k : i ≤ 1000000) : i.natAbs.log2 < 1920 := by
  have h1 : i.natAbs < 2 ^ 20 := by omega
  by_cases z : i.natAbs = 0
  · rw [z]; decide
  · exact (Nat.log2_lt z).mpr (Nat.lt_of_lt_of_le h1 (Nat.pow_le_pow_right (by decide) (by decide)))
theorem on_strI {K : PySem.W.Frag} : OpN K (fun xs H Q => ∃ i, xs = [.int i] ∧ i.natAbs.log2 < 1920 ∧ Q (.str (toString i)) H) aStrI := by
  intro C F env σ H vs ds R Q I s h g
  unfold aStrI at h
  split at h
  · obtain ⟨v, rfl, a⟩ := s.one
    exact ⟨_, by rw [a.int], log_small h.1 h.2.1, g.str I (sOk_ofString _) h.2.2⟩
  · exact h.elim
end DL

set_option Elab.async false
set_option linter.all false
set_option maxRecDepth 100000
set_option maxHeartbeats 4000000
set_option autoImplicit false
/-! X20: zip of lists and tuples in any mix. -/
namespace DL
open PySem PySem.Spec L2 Evl PyProof.Rows
def sqB (K : PySem.W.Frag) (t : Bool) (H : Hp) (a : Addr) (xs : List V) : Prop := match t with | true => SqT K H a xs | false => SqL K H a xs
def itB (t : Bool) (h : Heap) (it a : Addr) (i : Nat) : Prop := match t with | true => h.IsTupleIter it a i | false => h.IsListIter it a i
def atB (t : Bool) (h : Heap) (a : Addr) (its : Array Value) : Prop := match t with | true => h.IsTuple a its | false => h.IsList a its
def ibO (t : Bool) (a : Addr) : Obj := match t with | true => { cls := .type "tuple_iterator", data := .fields #[.ref a, .int 0 0] } | false => { cls := .type "list_iterator", data := .fields #[.ref a, .int 0 0] }
theorem draws_B {prog : Program} {w : World} {A : Around} (hh : A.handled = none) (it a : Addr) (hne : a ≠ it) (t : Bool) (its : Array Value) :
    Draws prog w A it [it, a] its.size (fun i v => its[i]? = some v) (fun i h => itB t h it a i ∧ atB t h a its) := by
  cases t with
  | true => exact Draws.tuple hh it a hne its
  | false => exact Draws.list hh it a hne its
theorem begins_B (t : Bool) (a : Addr) (its : Array Value) : Begins (.ref a) (ibO t a) fun h => atB t h a its := by
  cases t with
  | true => exact begins_tuple a its
  | false => exact begins_list a its
theorem itB_new {t : Bool} {h : Heap} {it a : Addr} (e : h.get? it = some (ibO t a)) : itB t h it a 0 := by
  cases t with
  | true => exact ⟨_, e, rfl, rfl⟩
  | false => exact ⟨_, e, rfl, rfl⟩
theorem itB_get {t : Bool} {h : Heap} {it a : Addr} {i : Nat} (e : itB t h it a i) : ∃ o, h.get? it = some o ∧ ∀ v, o.data ≠ .cell v := by
  cases t with
  | true => obtain ⟨o, e1, _, d⟩ := e; exact ⟨o, e1, fun v q => by rw [d] at q; cases q⟩
  | false => obtain ⟨o, e1, _, d⟩ := e; exact ⟨o, e1, fun v q => by rw [d] at q; cases q⟩
theorem itB_at {t : Bool} {h h' : Heap} {it a : Addr} {i : Nat} (e : itB t h it a i) (k : ∀ o, h.get? it = some o → h'.get? it = some o) : itB t h' it a i := by
  cases t with
  | true => exact Heap.IsTupleIter.at e k
  | false => exact Heap.IsListIter.at e k
theorem atB_lt {t : Bool} {h : Heap} {a : Addr} {its : Array Value} (e : atB t h a its) : a < h.objs.size := by
  cases t with
  | true => obtain ⟨_, q, _⟩ := e; exact Heap.lt_size q
  | false => obtain ⟨_, q, _⟩ := e; exact Heap.lt_size q
theorem ni2 {x p q : Addr} (h : x ≠ p) (k : x ≠ q) : x ∉ [p, q] := by simp [h, k]
theorem sqB_get {X : Cx} {pins : List (Addr × Obj)} {σ : L2.St} {H : Hp} {s : Shared} {t : Bool} {a : Addr} {xs : List V} (I : Inv X pins σ H s) (h : sqB X.K t H a xs) : ∃ its : List Value, Vals xs its ∧ atB t s.heap a its.toArray := by
  cases t with
  | true => obtain ⟨its, rv, p, _⟩ := I.tuple h; exact ⟨its, rv, p⟩
  | false => obtain ⟨its, rv, p, _⟩ := I.list h; exact ⟨its, rv, p.isList⟩
theorem sqB_inj {X : Cx} {pins : List (Addr × Obj)} {σ : L2.St} {H : Hp} {s : Shared} {t : Bool} {a : Addr} {xs ys : List V} (I : Inv X pins σ H s) (h : sqB X.K t H a xs) (k : sqB X.K t H a ys) : xs = ys := by
  cases t with
  | true => exact I.tuple_inj h k
  | false => exact I.list_inj h k
def Itzm (K : PySem.W.Frag) (t u : Bool) (a b : Addr) (n m : Nat) : It :=
  ⟨fun i H => ∃ (xs ys : List V) (x y : V), sqB K t H a xs ∧ sqB K u H b ys ∧ xs.length = n ∧ ys.length = m ∧ xs[i]? = some x ∧ ys[i]? = some y,
    fun i H v H' => ∃ T x y, v = .ref T ∧ H T = none ∧ H' = upd H T (.tup [x, y]) ∧ (∀ xs, sqB K t H a xs → xs[i]? = some x) ∧ ∀ ys, sqB K u H b ys → ys[i]? = some y,
    fun i H => ∃ xs ys : List V, sqB K t H a xs ∧ sqB K u H b ys ∧ xs.length = n ∧ ys.length = m ∧ (n ≤ i ∨ m ≤ i)⟩
theorem turn_zipM {P : Program} {w : World} {K : PySem.W.Frag} {elts : List Expr} {kk : Nat} {tpos : Pos} {t u : Bool} {a b z TI TO i1 i2 : Addr} {n m : Nat} (S : PySem.ZipSep2 z TI TO i1 i2 [i1, a] [i2, b]) (ha : a ≠ i1) (hb : b ≠ i2) :
    Turn P w K (.Tuple elts kk tpos) (Itzm K t u a b n m) [z, TI, TO, i1, i2] z (fun i h => IsZip h z TI TO .none ∧ PySem.IsTupOf2 h TI (.ref i1) (.ref i2) ∧ (∃ x y, PySem.IsTupOf2 h TO x y) ∧ itB t h i1 a i ∧ itB u h i2 b i ∧ i ≤ n ∧ i ≤ m) where
  mem := by simp
  obj := fun i h st c hc => by
    obtain ⟨hz, hTI, ⟨x, y, hTO⟩, h1, h2, _⟩ := st
    have e' : c = z ∨ c = TI ∨ c = TO ∨ c = i1 ∨ c = i2 := by simpa using hc
    rcases e' with q | q | q | q | q
    · rw [q]; exact ⟨_, hz, fun v q => nomatch q⟩
    · rw [q]; exact ⟨_, hTI, fun v q => nomatch q⟩
    · rw [q]; exact ⟨_, hTO, fun v q => nomatch q⟩
    · rw [q]; exact itB_get h1
    · rw [q]; exact itB_get h2
  keep := fun i h h' st k => by
    obtain ⟨hz, hTI, ⟨x, y, hTO⟩, h1, h2, l⟩ := st
    exact ⟨k z (by simp) _ hz, k TI (by simp) _ hTI, ⟨x, y, k TO (by simp) _ hTO⟩, itB_at h1 fun o q => k i1 (by simp) o q, itB_at h2 fun o q => k i2 (by simp) o q, l⟩
  item := by
    intro X hP hw hK hc i pins s σ H E I hf st hg
    subst hP hw hK
    obtain ⟨hz, hTI, ⟨x0, y0, hTO⟩, h1, h2, l1, l2⟩ := st
    obtain ⟨xs, ys, x, y, hqx, hqy, en, em, hx, hy⟩ := hg
    obtain ⟨its, rv, p⟩ := sqB_get I hqx
    obtain ⟨its2, rv2, p2⟩ := sqB_get I hqy
    obtain ⟨v1, hv1, ru⟩ := rv.get hx
    obtain ⟨v2, hv2, ru2⟩ := rv2.get hy
    have hzl : z < s.heap.objs.size := Heap.lt_size hz
    have q1 : i < its.toArray.size := by have := (List.getElem?_eq_some_iff.mp hv1).1; simpa using this
    have q2 : i < its2.toArray.size := by have := (List.getElem?_eq_some_iff.mp hv2).1; simpa using this
    refine PySem.wpAny_pyNext_zipD2_item S (draws_B (A := X.A.in1) (I.ok.hd hc) i1 a ha t its.toArray) (draws_B (A := X.A.in1) (I.ok.hd hc) i2 b hb u its2.toArray) hz hTI hTO ⟨h1, p⟩ ⟨h2, p2⟩ q1 q2 fun w1 w2 h' tk e1 e2 z' TO' h1' h2' hT hsz hk => ?_
    have e1' : w1 = v1 := by
      have e1 : its.toArray[i]? = some w1 := e1
      rw [List.getElem?_toArray, hv1] at e1; exact (Option.some.inj e1).symm
    have e2' : w2 = v2 := by
      have e2 : its2.toArray[i]? = some w2 := e2
      rw [List.getElem?_toArray, hv2] at e2; exact (Option.some.inj e2).symm
    subst e1' e2'
    refine ⟨_, rfl, wpAny_letOwnedTupleGo_zip (s := { s with heap := h', toks := tk }) z' fun h'' z'' sb => ?_⟩
    have hT2 : h''.get? s.heap.objs.size = some { cls := .type "tuple", data := .seq #[w1, w2] } := (sb.2 _ (Nat.ne_of_gt hzl)).trans hT
    have new : ObjOk X.prog X.w (upd H s.heap.objs.size (.tup [x, y])) h'' s.heap.objs.size (.tup [x, y]) :=
      ⟨by show 2 ≤ sizeLine; decide, [w1, w2], .cons ru (.cons ru2 .nil), ⟨_, hT2, rfl, _, rfl⟩⟩
    have I1 : Inv X pins σ (upd H s.heap.objs.size (.tup [x, y])) { s with heap := h'', toks := tk } :=
      I.turnedNew (t' := tk) (ch := [z, TI, TO, i1, i2]) (fun c o hb q => (sb.2 c (fun q' => hb (by simp [q']))).trans (hk c o (fun q' => hb (by simp [q'])) (fun q' => hb (by simp [q'])) (fun q' => hb (by simp [q'])) (fun q' => hb (by simp [q'])) q)) hf (Nat.le_refl _) new
    refine ⟨.ref s.heap.objs.size, _, I1, rfl, ⟨_, x, y, rfl, I.hok.fresh (Nat.le_refl _), rfl, fun l hl => by rw [sqB_inj I hl hqx]; exact hx, fun l hl => by rw [sqB_inj I hl hqy]; exact hy⟩, ⟨z'', ?_, ⟨w1, w2, ?_⟩, ?_, ?_, ?_, ?_⟩, fun c hcm => ?_⟩
    · exact (sb.2 _ S.TIz).trans (hk _ _ S.TIz S.TITO S.TIi1 S.TIi2 hTI)
    · exact (sb.2 _ S.TOz).trans TO'
    · exact itB_at h1'.1 fun o q => (sb.2 _ (fun e => S.zi1 e.symm)).trans q
    · exact itB_at h2'.1 fun o q => (sb.2 _ (fun e => S.zi2 e.symm)).trans q
    · rw [← en]; exact (List.getElem?_eq_some_iff.mp hx).1
    · rw [← em]; exact (List.getElem?_eq_some_iff.mp hy).1
    · have hlt : c < s.heap.objs.size := by
        have e' : c = z ∨ c = TI ∨ c = TO ∨ c = i1 ∨ c = i2 := by simpa using hcm
        rcases e' with q | q | q | q | q
        · rw [q]; exact hzl
        · rw [q]; exact Heap.lt_size hTI
        · rw [q]; exact Heap.lt_size hTO
        · rw [q]; obtain ⟨_, e1, _⟩ := itB_get h1; exact Heap.lt_size e1
        · rw [q]; obtain ⟨_, e2, _⟩ := itB_get h2; exact Heap.lt_size e2
      rw [upd_ne (Nat.ne_of_lt hlt)]
      exact (hf c hcm).1
  done := by
    intro X hP hw hK hc i pins s σ H E I hf st hg
    subst hP hw hK
    obtain ⟨hz, hTI, ⟨x0, y0, hTO⟩, h1, h2, l1, l2⟩ := st
    obtain ⟨xs, ys, hqx, hqy, en, em, hend⟩ := hg
    obtain ⟨its, rv, p⟩ := sqB_get I hqx
    obtain ⟨its2, rv2, p2⟩ := sqB_get I hqy
    have k1 := rv.length
    have k2 := rv2.length
    have z1 : its.toArray.size = n := by simp; omega
    have z2 : its2.toArray.size = m := by simp; omega
    exact PySem.wpAny_pyNext_zipD2_end S (draws_B (A := X.A.in1) (I.ok.hd hc) i1 a ha t its.toArray) (draws_B (A := X.A.in1) (I.ok.hd hc) i2 b hb u its2.toArray) hz hTI hTO ⟨h1, p⟩ ⟨h2, p2⟩ (by omega) (by omega) (by omega) fun h' tk hk => ⟨rfl, I.turnedL (t' := tk) (ch := [z, TI, TO, i1, i2]) (fun c o hb q =>
      hk c o (fun q' => hb (by simp [q'])) (fun q' => hb (by simp [q'])) (fun q' => hb (by simp [q'])) (fun q' => hb (by simp [q'])) q) hf⟩
  self := fun A i s Q E st h => wpAny_pyIter_zip st.1 h
def iZipM (K : PySem.W.Frag) (ta : TA) : TI := fun σ H R => ta σ H fun vs H1 => ∃ (t u : Bool) (a b : Addr) (xs ys : List V), vs = [.ref a, .ref b] ∧ sqB K t H1 a xs ∧ sqB K u H1 b ys ∧ R (Itzm K t u a b xs.length ys.length) H1
theorem pi_zipM {X : Cx} {e e2 : Expr} {ta : TA} {p pos tpos : Pos} {elts : List Expr} {kk : Nat} (hg : Gl X "zip") (hm : X.mg "zip" = none) (ha : PA X [e, e2] ta)
    (hs : starEach [e, e2] X.env = (false, eval e X.env) :: starEach [e2] X.env := by rfl) (hpl : (backTo pos (starEach [e2] X.env)).any (·.1) = false := by rfl) :
    PI X (.Tuple elts kk tpos) (.Call (.Name "zip" p) [e, e2] [] pos) (iZipM X.K ta) := by
  refine ⟨fun pins s σ H R I h => ?_⟩
  refine Call_ (ld_blt I hg hm PyProof.Rows.boot_zip (PyProof.Rows.callWith_type1 (thn (ha.run pos pins s σ H _ I h) fun us s1 ⟨vs, H1, I1, r1, q1⟩ => ?_) hs hpl))
  obtain ⟨t, u, a, b, xs, ys, ex, hqx, hqy, q⟩ := q1
  subst ex
  cases r1 with
  | cons r rr =>
    cases rr with
    | cons r' rr =>
      cases rr
      cases r
      cases r'
      have fresh5 : ∀ c, c ∈ [s1.heap.objs.size + 4, s1.heap.objs.size + 2, s1.heap.objs.size + 3, s1.heap.objs.size, s1.heap.objs.size + 1] → FpOk X pins H1 c := fun c hcm => by
        have e' : c = s1.heap.objs.size + 4 ∨ c = s1.heap.objs.size + 2 ∨ c = s1.heap.objs.size + 3 ∨ c = s1.heap.objs.size ∨ c = s1.heap.objs.size + 1 := by simpa using hcm
        have hle : s1.heap.objs.size ≤ c := by
          rcases e' with z | z | z | z | z
          · rw [z]; exact Nat.le_add_right _ _
          · rw [z]; exact Nat.le_add_right _ _
          · rw [z]; exact Nat.le_add_right _ _
          · rw [z]; exact Nat.le_refl _
          · rw [z]; exact Nat.le_add_right _ _
        exact I1.fpOk hle (I1.hok.fresh hle)
      obtain ⟨its, rv, p1⟩ := sqB_get I1 hqx
      obtain ⟨its2, rv2, p2⟩ := sqB_get I1 hqy
      have l1 : @LT.lt Nat _ a s1.heap.objs.size := atB_lt p1
      have l2 : @LT.lt Nat _ b s1.heap.objs.size := atB_lt p2
      refine PySem.zip_begins2 (begins_B t a its.toArray) (begins_B u b its2.toArray) p1 p2 fun h' hz hTI hTO h1 h2 hsz hk => wpAny_pyIter_zip hz ?_
      have I2 : Inv X pins σ H1 { s1 with heap := h' } := I1.kept (t' := s1.toks) hk
      have S : PySem.ZipSep2 (s1.heap.objs.size + 4) (s1.heap.objs.size + 2) (s1.heap.objs.size + 3) s1.heap.objs.size (s1.heap.objs.size + 1) [s1.heap.objs.size, a] [s1.heap.objs.size + 1, b] :=
        { TIz := (by first | exact Nat.ne_of_lt (by omega) | exact Nat.ne_of_gt (by omega)), TOz := (by first | exact Nat.ne_of_lt (by omega) | exact Nat.ne_of_gt (by omega)), TITO := (by first | exact Nat.ne_of_lt (by omega) | exact Nat.ne_of_gt (by omega)), TIi1 := (by first | exact Nat.ne_of_lt (by omega) | exact Nat.ne_of_gt (by omega)), mem1 := List.mem_cons_self, zf1 := ni2 (by first | exact Nat.ne_of_lt (by omega) | exact Nat.ne_of_gt (by omega)) (by first | exact Nat.ne_of_lt (by omega) | exact Nat.ne_of_gt (by omega)), Tf1 := ni2 (by first | exact Nat.ne_of_lt (by omega) | exact Nat.ne_of_gt (by omega)) (by first | exact Nat.ne_of_lt (by omega) | exact Nat.ne_of_gt (by omega)), TIi2 := (by first | exact Nat.ne_of_lt (by omega) | exact Nat.ne_of_gt (by omega)), mem2 := List.mem_cons_self, zf2 := ni2 (by first | exact Nat.ne_of_lt (by omega) | exact Nat.ne_of_gt (by omega)) (by first | exact Nat.ne_of_lt (by omega) | exact Nat.ne_of_gt (by omega)), Tf2 := ni2 (by first | exact Nat.ne_of_lt (by omega) | exact Nat.ne_of_gt (by omega)) (by first | exact Nat.ne_of_lt (by omega) | exact Nat.ne_of_gt (by omega)), sep1_2 := ni2 (by first | exact Nat.ne_of_lt (by omega) | exact Nat.ne_of_gt (by omega)) (by first | exact Nat.ne_of_lt (by omega) | exact Nat.ne_of_gt (by omega)), sep2_1 := ni2 (by first | exact Nat.ne_of_lt (by omega) | exact Nat.ne_of_gt (by omega)) (by first | exact Nat.ne_of_lt (by omega) | exact Nat.ne_of_gt (by omega)) }
      exact ⟨s1.heap.objs.size + 4, [s1.heap.objs.size + 4, s1.heap.objs.size + 2, s1.heap.objs.size + 3, s1.heap.objs.size, s1.heap.objs.size + 1], _, _, H1, rfl, I2, turn_zipM S (by first | exact Nat.ne_of_lt (by omega) | exact Nat.ne_of_gt (by omega)) (by first | exact Nat.ne_of_lt (by omega) | exact Nat.ne_of_gt (by omega)), ⟨hz, hTI, ⟨_, _, hTO⟩, itB_new h1, itB_new h2, Nat.zero_le _, Nat.zero_le _⟩, fresh5, q⟩
/-! ### as data -/
def NowB (K : PySem.W.Frag) (C : Ct) (t : Bool) (F0 : Hp) (σ0 : L2.St) (a : Addr) (ds : List D) (hold : Holds) : Prop := match t with | true => NowT K C F0 σ0 a ds hold | false => NowL K C F0 σ0 a ds hold
theorem NowB.at {K : PySem.W.Frag} {C : Ct} {t : Bool} {F0 : Hp} {σ0 : L2.St} {a : Addr} {ds : List D} {hold : Holds} (n : NowB K C t F0 σ0 a ds hold) {F : Hp} {env : List Slot} {σ : L2.St} {H : Hp} (I : Ok K C F env σ H) (x : Ex F0 F) (h : holdE hold env) (s : ∀ p ∈ hold, σ[p.1]? = σ0[p.1]?) :
    ∃ vs, sqB K t H a vs ∧ RepL K F vs ds := by
  cases t with
  | true => exact n F env σ H I x h s
  | false => exact n F env σ H I x h s
theorem it_zipM {K : PySem.W.Frag} {C : Ct} {F0 : Hp} {σ0 : L2.St} {t u : Bool} {a b : Addr} {ds es : List D} {hold : Holds}
    (nn : ∀ {F : Hp} {env : List Slot} {σ : L2.St} {H : Hp}, Ok K C F env σ H → Ex F0 F → holdE hold env → (∀ p ∈ hold, σ[p.1]? = σ0[p.1]?) → (∃ vs, sqB K t H a vs ∧ RepL K F vs ds) ∧ ∃ vs, sqB K u H b vs ∧ RepL K F vs es) :
    IterOk K C F0 σ0 (Itzm K t u a b ds.length es.length) (zipD ds es) hold := by
  intro i F env σ H I e h s
  obtain ⟨⟨vs, q, r⟩, ws, q2, r2⟩ := nn I e h s
  unfold zipD
  rw [List.length_zipWith]
  refine ⟨fun hi => ?_, fun hi => ⟨vs, ws, q, q2, r.length, r2.length, by omega⟩⟩
  have i1 : i < ds.length := by omega
  have i2 : i < es.length := by omega
  obtain ⟨v, h1, h2⟩ := r.get (List.getElem?_eq_getElem i1)
  obtain ⟨w, h3, h4⟩ := r2.get (List.getElem?_eq_getElem i2)
  refine ⟨⟨vs, ws, v, w, q, q2, r.length, r2.length, h1, h3⟩, fun x H' y => ?_⟩
  obtain ⟨T, x', y', rfl, hT, rfl, y1, y2⟩ := y
  have := y1 vs q
  rw [h1] at this; cases this
  have := y2 ws q2
  rw [h3] at this; cases this
  obtain ⟨F', B, rp⟩ := lay_pair I hT h2 h4
  exact ⟨F', _, by rw [List.getElem?_zipWith, List.getElem?_eq_getElem i1, List.getElem?_eq_getElem i2], B, rp⟩
@[simp] def mSqZ (m : DM) : DMI := fun env R => m env fun x e1 => sqOf x e1 fun ds hold => R ds hold e1
@[simp] def mZipM (m n : DM) : DMI := fun env R => mSqZ m env fun ds hold e1 => mSqZ n e1 fun es hold' e2 => holdE hold e2 ∧ R (zipD ds es) (hold ++ hold') e2
theorem di_zipM {X : Cx} {e f : Expr} {p pos tpos : Pos} {elts : List Expr} {kk : Nat} {m n : DM} (hg : Gl X "zip") (hm : X.mg "zip" = none) (h : DE X e m) (h2 : DE X f n) (hs : starEach [e, f] X.env = (false, eval e X.env) :: starEach [f] X.env := by rfl) (hs2 : starEach [f] X.env = (false, eval f X.env) :: starEach [] X.env := by rfl) (hpl : (backTo pos (starEach [f] X.env)).any (·.1) = false := by rfl) :
    DI X (.Tuple elts kk tpos) (.Call (.Name "zip" p) [e, f] [] pos) (mZipM m n) := by
  obtain ⟨t, q, ev⟩ := h
  obtain ⟨u, q2, ev2⟩ := h2
  refine ⟨_, pi_zipM hg hm (pa_cons q (pa_cons q2 pa_nil hs2) hs) hs hpl, ?_⟩
  intro C F env σ H R Q I h k
  refine ev C F env σ H _ _ I h ?_
  intro x e1 F1 v H1 h1 A1 r1
  obtain ⟨F2, a, ds, hold, rfl, hR, A2, ex, hh, nw⟩ := nowA_of A1 r1 (R := fun ds hold => mSqZ n e1 fun es hold' e2 => holdE hold e2 ∧ R (zipD ds es) (hold ++ hold') e2) h1
  refine ev2 C F2 e1 σ H1 _ _ A2.ok hR ?_
  intro y e2 F3 w H3 h3 A3 r3
  obtain ⟨F4, b, es, hold', rfl, hR2, A4, ex4, hh2, nw2⟩ := nowA_of A3 r3 (R := fun es hold' => holdE hold e2 ∧ R (zipD ds es) (hold ++ hold') e2) h3
  have n1 : ∃ t, NowB X.K C t F2 σ a ds hold := by
    rcases nw with ⟨nw, _⟩ | ⟨nw, _⟩
    · exact ⟨false, nw⟩
    · exact ⟨true, nw⟩
  have n2 : ∃ t, NowB X.K C t F4 σ b es hold' := by
    rcases nw2 with ⟨nw, _⟩ | ⟨nw, _⟩
    · exact ⟨false, nw⟩
    · exact ⟨true, nw⟩
  obtain ⟨t1, n1⟩ := n1
  obtain ⟨t2, n2⟩ := n2
  obtain ⟨vs3, hz, rz⟩ := n1.at A4.ok A4.ex hR2.1 (fun _ _ => rfl)
  obtain ⟨ws3, hw, rw3⟩ := n2.at A4.ok (Ex.refl _) hh2 (fun _ _ => rfl)
  refine ⟨t1, t2, a, b, vs3, ws3, rfl, hz, hw, ?_⟩
  rw [rz.length, rw3.length]
  refine k _ _ e2 F4 H3 _ hR2.2 (A2.trans A4) ?_ (holdE_app.mpr ⟨hR2.1, hh2⟩)
  exact it_zipM fun I x hh ss => ⟨n1.at I (A4.ex.trans x) (holdE_app.mp hh).1 fun p m => ss p (List.mem_append_left _ m), n2.at I x (holdE_app.mp hh).2 fun p m => ss p (List.mem_append_right _ m)⟩
end DL

set_option Elab.async false
set_option linter.all false
set_option maxRecDepth 100000
set_option maxHeartbeats 4000000
set_option autoImplicit false
/-! X21: list(x), tuple(x) of a list, a tuple, a text. -/
namespace DL
open PySem PySem.Spec L2 Evl PyProof.Rows
def signsV (z : Str) : List V := z.cps.toList.map fun c => V.str ⟨#[c]⟩
theorem vals_signs {z : Str} {acc : Array Value} (h : ItemsOf (SignAt z) acc z.cps.size) : Vals (signsV z) acc.toList := by
  refine L2.vals_of_at (by unfold signsV; rw [List.length_map, Array.length_toList, Array.length_toList]; exact h.1.symm) fun j x u e1 e2 => ?_
  obtain ⟨c, t, hc, rfl⟩ := h.2 j u (by rw [← Array.getElem?_toList]; exact e2)
  unfold signsV at e1
  rw [List.getElem?_map, Array.getElem?_toList, hc] at e1
  cases e1
  exact ⟨t, rfl⟩
theorem signs_rep {K : PySem.W.Frag} {F : Hp} {z : Str} (hz : PyData.strOk z = true) : RepL K F (signsV z) (signsD z) := by
  have : ∀ l : List Nat, (∀ c ∈ l, PyData.strOk (⟨#[c]⟩ : Str) = true) → RepL K F (l.map fun c => V.str ⟨#[c]⟩) (l.map fun c => D.str ⟨#[c]⟩) := fun l => by
    induction l with
    | nil => intro _; exact .nil
    | cons a r ih => intro h; exact .cons (.str _ (h a List.mem_cons_self)) (ih fun c hc => h c (List.mem_cons_of_mem _ hc))
  refine this _ fun c hc => ?_
  obtain ⟨i, hi⟩ := List.mem_iff_getElem?.mp hc
  exact strOk_sign hz hi
@[simp] def aListB : List D → (RV → Prop) → Prop
  | [.lst xs], R => R (.tm (.lst xs))
  | [.tup xs], R => R (.tm (.lst xs))
  | [.str z], R => z.length ≤ 100000 ∧ R (.tm (.lst (signsD z)))
  | _, _ => False
@[simp] def aTupleB : List D → (RV → Prop) → Prop
  | [.lst xs], R => R (.vl (.tup xs))
  | [.tup xs], R => R (.vl (.tup xs))
  | [.str z], R => z.length ≤ 100000 ∧ R (.vl (.tup (signsD z)))
  | _, _ => False
def rListB (K : PySem.W.Frag) : List V → Hp → VK → Prop := fun xs H Q => (∃ p ys, xs = [.ref p] ∧ (SqL K H p ys ∨ SqT K H p ys) ∧ ∀ l, H l = none → Q (.ref l) (upd H l (.lst ys))) ∨
  ∃ z, xs = [.str z] ∧ z.length ≤ 100000 ∧ ∀ l, H l = none → Q (.ref l) (upd H l (.lst (signsV z)))
def rTupleB (K : PySem.W.Frag) : List V → Hp → VK → Prop := fun xs H Q => (∃ p ys, xs = [.ref p] ∧ ((SqL K H p ys ∧ ∀ l, H l = none → Q (.ref l) (upd H l (.tup ys))) ∨ (SqT K H p ys ∧ Q (.ref p) H))) ∨
  ∃ z, xs = [.str z] ∧ z.length ≤ 100000 ∧ ∀ l, H l = none → Q (.ref l) (upd H l (.tup (signsV z)))
theorem signsV_len (z : Str) : (signsV z).length = z.length := by unfold signsV; rw [List.length_map]; rfl
section
variable {X : Cx}
theorem call_listB (hc : X.calm = true) : CallR X (.type "list") (rListB X.K) := by
  intro pins s σ H xs us Q I r h
  rcases h with h | ⟨z, rfl, hz, q⟩
  · exact call_list_of pins s σ H xs us Q I r h
  · obtain ⟨u, rfl, t, rfl⟩ := vals1 r
    have hz' : z.cps.size ≤ sizeLine := sz_of hz
    refine call_list_str (I.ok.hd hc) z t (fun h' tk acc c' hk e' hi => ?_) hz'
    refine ⟨.ref s.heap.objs.size, upd H s.heap.objs.size (.lst (signsV z)), I.laid hk (Nat.le_refl _) (show ObjOk X.prog X.w _ _ _ (.lst (signsV z)) from ⟨?_, acc.toList, c', vals_signs hi, ?_⟩), rfl, q _ (I.hok.fresh (Nat.le_refl _))⟩
    · rw [signsV_len]; exact hz'
    · rw [Array.toArray_toList]; exact e'
theorem call_tupleB (hc : X.calm = true) : CallR X (.type "tuple") (rTupleB X.K) := by
  intro pins s σ H xs us Q I r h
  rcases h with h | ⟨z, rfl, hz, q⟩
  · exact call_tuple_of pins s σ H xs us Q I r h
  · obtain ⟨u, rfl, t, rfl⟩ := vals1 r
    have hz' : z.cps.size ≤ sizeLine := sz_of hz
    refine call_tuple_str (I.ok.hd hc) z t (fun h' tk acc hk hi => ?_) hz'
    have I2 : Inv X pins σ H { s with heap := h', toks := tk } := I.kept hk
    refine ⟨.ref h'.objs.size, upd H h'.objs.size (.tup (signsV z)), I2.laid (t' := tk) (fun c o e => Heap.get?_push_of_some _ e) (Nat.le_refl _) (show ObjOk X.prog X.w _ _ _ (.tup (signsV z)) from ⟨?_, acc.toList, vals_signs hi, ?_⟩), rfl, q _ (I2.hok.fresh (Nat.le_refl _))⟩
    · rw [signsV_len]; exact hz'
    · rw [Array.toArray_toList]; exact IsTup.new _ _
end
section
variable {K : PySem.W.Frag}
theorem on_listB : OpN K (rListB K) aListB := by
  intro C F env σ H vs ds R Q I s h g
  unfold aListB at h
  split at h
  · obtain ⟨v, rfl, a⟩ := s.one
    obtain ⟨p, ws, rfl, e1, r1⟩ := a.lst I.sub
    exact Or.inl ⟨p, ws, rfl, Or.inl (sq_of e1), fun q hq => g.lst I h r1 q hq⟩
  · obtain ⟨v, rfl, a⟩ := s.one
    obtain ⟨p, ws, rfl, e1, r1⟩ := a.tup
    exact Or.inl ⟨p, ws, rfl, Or.inr (ex_t I.sub e1), fun q hq => g.lst I h r1 q hq⟩
  · obtain ⟨v, rfl, a⟩ := s.one
    exact Or.inr ⟨_, by rw [a.str.1], h.1, fun q hq => g.lst I h.2 (signs_rep a.str.2) q hq⟩
  · exact h.elim
theorem on_tupleB : OpN K (rTupleB K) aTupleB := by
  intro C F env σ H vs ds R Q I s h g
  unfold aTupleB at h
  split at h
  · obtain ⟨v, rfl, a⟩ := s.one
    obtain ⟨p, ws, rfl, e1, r1⟩ := a.lst I.sub
    exact Or.inl ⟨p, ws, rfl, Or.inl ⟨sq_of e1, fun q hq => g.tup I h r1 q hq⟩⟩
  · obtain ⟨v, rfl, a⟩ := s.one
    obtain ⟨p, ws, e0, e1, r1⟩ := a.tup
    subst e0
    exact Or.inl ⟨p, ws, rfl, Or.inr ⟨ex_t I.sub e1, g.here I h a.tupRep⟩⟩
  · obtain ⟨v, rfl, a⟩ := s.one
    exact Or.inr ⟨_, by rw [a.str.1], h.1, fun q hq => g.tup I h.2 (signs_rep a.str.2) q hq⟩
  · exact h.elim
end
end DL

set_option Elab.async false
set_option linter.all false
set_option maxRecDepth 100000
set_option maxHeartbeats 4000000
set_option autoImplicit false
/-! X22: repr of data with dicts in it (at the top, within tuples, within dicts; no lists beside them). -/
namespace DL
open PySem L2 Evl

def keyPy : Key → PyData
  | .inl i => .int i
  | .inr s => .str s
def keyOk : Key → Bool
  | .inl i => decide (i.natAbs.log2 < 1920)
  | .inr s => PyData.strOk s
def keyWt : Key → Nat
  | .inl _ => 1921
  | .inr s => 10 * s.length + 2
mutual
def D.pyA : D → PyData
  | .dic ks => .dict (D.pyK ks)
  | .tup xs => .tuple (D.pyAL xs)
  | d => d.py
def D.pyAL : List D → List PyData
  | [] => []
  | d :: ds => D.pyA d :: D.pyAL ds
def D.pyK : List (Key × D) → List (PyData × PyData)
  | [] => []
  | (k, d) :: ks => (keyPy k, D.pyA d) :: D.pyK ks
end
mutual
def D.lvlN : D → Bool
  | .dic ks => D.lvlK ks
  | .tup xs => D.lvlL xs
  | .non => true
  | .bl _ => true
  | .int i => decide (i.natAbs.log2 < 1920)
  | .str _ => true
  | _ => false
def D.lvlL : List D → Bool
  | [] => true
  | d :: ds => D.lvlN d && D.lvlL ds
def D.lvlK : List (Key × D) → Bool
  | [] => true
  | (k, d) :: ks => keyOk k && (D.lvlN d && D.lvlK ks)
end
mutual
def D.wtA : D → Nat
  | .dic ks => D.wtK ks + 4
  | .tup xs => D.wtAL xs + 4
  | .non => 4
  | .bl _ => 5
  | .int _ => 1921
  | .str s => 10 * s.length + 2
  | _ => 0
def D.wtAL : List D → Nat
  | [] => 0
  | d :: ds => D.wtA d + 2 + D.wtAL ds
def D.wtK : List (Key × D) → Nat
  | [] => 0
  | (k, d) :: ks => keyWt k + D.wtA d + 4 + D.wtK ks
end
mutual
theorem pyA_py : ∀ (d : D) (n : Nat), D.lvl n d = true → d.pyA = d.py
  | .non, _, _ => by simp only [D.pyA, D.py]
  | .bl b, _, _ => by simp only [D.pyA, D.py]
  | .int i, _, _ => by simp only [D.pyA, D.py]
  | .str s, _, _ => by simp only [D.pyA, D.py]
  | .lst xs, _, _ => by simp only [D.pyA, D.py]
  | .tup xs, 0, h => by simp [D.lvl] at h
  | .tup xs, n + 1, h => by
    simp only [D.pyA, D.py]
    rw [pyAL_py xs n (by simpa [D.lvl] using h)]
  | .dic ks, 0, h => by simp [D.lvl] at h
  | .dic ks, n + 1, h => by simp [D.lvl] at h
  | .scr _, 0, h => by simp [D.lvl] at h
  | .scr _, n + 1, h => by simp [D.lvl] at h
  | .fn _, 0, h => by simp [D.lvl] at h
  | .fn _, n + 1, h => by simp [D.lvl] at h
  | .obj _ _, 0, h => by simp [D.lvl] at h
  | .obj _ _, n + 1, h => by simp [D.lvl] at h
  | .exc _ _ _, 0, h => by simp [D.lvl] at h
  | .exc _ _ _, n + 1, h => by simp [D.lvl] at h
theorem pyAL_py : ∀ (ds : List D) (n : Nat), ds.all (D.lvl n) = true → D.pyAL ds = D.pyL ds
  | [], _, _ => by simp only [D.pyAL, D.pyL]
  | d :: ds, n, h => by
    simp only [List.all_cons, Bool.and_eq_true] at h
    simp only [D.pyAL, D.pyL]
    rw [pyA_py d n h.1, pyAL_py ds n h.2]
end
theorem key_shown {k : Key} (h : keyOk k = true) : (keyPy k).showable = true ∧ PyData.strOk (keyPy k).shown = true ∧ (keyPy k).shown.length ≤ keyWt k := by
  cases k with
  | inl i =>
    have h' : i.natAbs.log2 < 1920 := by simpa [keyOk] using h
    refine ⟨by simpa [keyPy, PyData.showable] using h', ?_, ?_⟩
    · simp only [keyPy, PyData.shown]; exact sOk_ofString _
    · simp only [keyPy, PyData.shown, keyWt, PySem.ofString_length]
      exact int_text_length_le (by decide) h'
  | inr x =>
    have h' : PyData.strOk x = true := h
    refine ⟨rfl, ?_, ?_⟩
    · simp only [keyPy, PyData.shown]; exact sOk_repr h'
    · simp only [keyPy, PyData.shown, keyWt]; exact repr_len h'
mutual
theorem shownA {K : PySem.W.Frag} {F : Hp} : ∀ (d : D) (v : V), Rep K F v d → D.lvlN d = true → d.pyA.showable = true ∧ PyData.strOk d.pyA.shown = true ∧ d.pyA.shown.length ≤ d.wtA
  | .non, _, .non, _ => ⟨rfl, by simp only [D.pyA, D.py, PyData.shown]; exact sOk_ofString _, by simp only [D.pyA, D.py, PyData.shown]; exact Nat.le_refl _⟩
  | .bl b, _, .bl _, _ => ⟨rfl, by simp only [D.pyA, D.py, PyData.shown]; split <;> exact sOk_ofString _, by cases b <;> simp only [D.pyA, D.py, PyData.shown] <;> decide⟩
  | .int i, _, .int _, h => by
    have h' : i.natAbs.log2 < 1920 := by simpa [D.lvlN] using h
    refine ⟨by simpa [D.pyA, D.py, PyData.showable] using h', by simp only [D.pyA, D.py, PyData.shown]; exact sOk_ofString _, ?_⟩
    simp only [D.pyA, D.py, PyData.shown, D.wtA, PySem.ofString_length]
    exact int_text_length_le (by decide) h'
  | .str s, _, .str _ o, _ => ⟨rfl, by simp only [D.pyA, D.py, PyData.shown]; exact sOk_repr o, by simp only [D.pyA, D.py, PyData.shown, D.wtA]; exact repr_len o⟩
  | .tup ds, _, .tup e r, h => by
    obtain ⟨a, b, c⟩ := shownAL ds _ r (by simpa [D.lvlN] using h)
    refine ⟨by simpa [D.pyA, PyData.showable] using a, ?_, ?_⟩
    · simp only [D.pyA, PyData.shown, tupleText]
      exact sOk_append (sOk_append (sOk_ofString _) (sOk_join (sOk_ofString _) b)) (sOk_ofString _)
    · simp only [D.pyA, PyData.shown, D.wtA, tupleText]
      have := join_size (PyData.shownAll (D.pyAL ds))
      have e1 : Str.length ("(" : String) = 1 := rfl
      rw [strLen_append, strLen_append]
      have e2 : Str.length (if ((PyData.shownAll (D.pyAL ds)).length == 1) = true then ",)" else ")" : String) ≤ 2 := by
        split
        · exact Nat.le_refl 2
        · exact (by decide : (1 : Nat) ≤ 2)
      omega
  | .dic ks, _, .dic (kvs := kvs) e k r, h => by
    obtain ⟨a, b, c⟩ := shownKL ks _ r (by simpa [D.lvlN] using h)
    refine ⟨by simpa [D.pyA, PyData.showable] using a, ?_, ?_⟩
    · simp only [D.pyA, PyData.shown, dictText]
      exact sOk_append (sOk_append (sOk_ofString _) (sOk_join (sOk_ofString _) b)) (sOk_ofString _)
    · simp only [D.pyA, PyData.shown, D.wtA, dictText]
      have := join_size (PyData.shownKv (D.pyK ks))
      have e1 : Str.length ("{" : String) = 1 := rfl
      have e2 : Str.length ("}" : String) = 1 := rfl
      rw [strLen_append, strLen_append]
      omega
  | .lst _, _, _, h => by simp [D.lvlN] at h
  | .scr _, _, _, h => by simp [D.lvlN] at h
  | .fn _, _, _, h => by simp [D.lvlN] at h
  | .obj _ _, _, _, h => by simp [D.lvlN] at h
  | .exc _ _ _, _, _, h => by simp [D.lvlN] at h
theorem shownAL {K : PySem.W.Frag} {F : Hp} : ∀ (ds : List D) (vs : List V), RepL K F vs ds → D.lvlL ds = true → PyData.showableAll (D.pyAL ds) = true ∧ (∀ t ∈ PyData.shownAll (D.pyAL ds), PyData.strOk t = true) ∧ ((PyData.shownAll (D.pyAL ds)).map fun t => t.length + 2).sum ≤ D.wtAL ds
  | [], _, .nil, _ => ⟨rfl, by simp [D.pyAL, PyData.shownAll], by simp [D.pyAL, PyData.shownAll]⟩
  | d :: ds, _, .cons x r, h => by
    simp only [D.lvlL, Bool.and_eq_true] at h
    obtain ⟨a1, b1, c1⟩ := shownA d _ x h.1
    obtain ⟨a2, b2, c2⟩ := shownAL ds _ r h.2
    refine ⟨by simp [D.pyAL, PyData.showableAll, a1, a2], ?_, ?_⟩
    · intro t ht
      simp only [D.pyAL, PyData.shownAll, List.mem_cons] at ht
      rcases ht with rfl | ht
      · exact b1
      · exact b2 t ht
    · simp only [D.pyAL, PyData.shownAll, List.map_cons, List.sum_cons, D.wtAL]
      omega
theorem shownKL {K : PySem.W.Frag} {F : Hp} : ∀ (ks : List (Key × D)) (vs : List V), RepL K F vs (ks.map (·.2)) → D.lvlK ks = true → PyData.showableKv (D.pyK ks) = true ∧ (∀ t ∈ PyData.shownKv (D.pyK ks), PyData.strOk t = true) ∧ ((PyData.shownKv (D.pyK ks)).map fun t => t.length + 2).sum ≤ D.wtK ks
  | [], _, _, _ => ⟨rfl, by simp [D.pyK, PyData.shownKv], by simp [D.pyK, PyData.shownKv]⟩
  | (k, d) :: ks, _, .cons x r, h => by
    simp only [D.lvlK, Bool.and_eq_true] at h
    obtain ⟨a0, b0, c0⟩ := key_shown h.1
    obtain ⟨a1, b1, c1⟩ := shownA d _ x h.2.1
    obtain ⟨a2, b2, c2⟩ := shownKL ks _ r h.2.2
    refine ⟨by simp [D.pyK, PyData.showableKv, a0, a1, a2], ?_, ?_⟩
    · intro t ht
      simp only [D.pyK, PyData.shownKv, List.mem_cons] at ht
      rcases ht with rfl | ht
      · exact sOk_append (sOk_append b0 (sOk_ofString _)) b1
      · exact b2 t ht
    · simp only [D.pyK, PyData.shownKv, List.map_cons, List.sum_cons, D.wtK]
      have e1 : Str.length (": " : String) = 2 := rfl
      rw [strLen_append, strLen_append]
      omega
end
mutual
def D.dep : D → Nat
  | .dic ks => D.depK ks + 1
  | .tup xs => D.depL xs + 1
  | _ => 0
def D.depL : List D → Nat
  | [] => 0
  | d :: ds => max (D.dep d) (D.depL ds)
def D.depK : List (Key × D) → Nat
  | [] => 0
  | (_, d) :: ks => max (D.dep d) (D.depK ks)
end
section
variable {X : Cx} {pins : List (Addr × Obj)} {σ : L2.St} {H F : Hp} {s : Shared}
theorem keyReads {h : Heap} {k : Key} {v : Value} (hk : keyIs k v = true) : Reads h v (keyPy k) [] := by
  rcases keyIs_shape hk with ⟨i, t, rfl, rfl⟩ | ⟨x, t, rfl, rfl⟩
  · exact Reads.int i t
  · exact Reads.str x t
theorem key_dep (k : Key) : (keyPy k).depth = 0 := by cases k <;> simp only [keyPy, PyData.depth]
mutual
theorem readsA (I : Inv X pins σ H s) (ex : Ex F H) : ∀ (d : D) (v : V) (u : Value), Rep X.K F v d → D.lvlN d = true → RelV v u → ∃ as, Reads s.heap u d.pyA as ∧ sysModules ∉ as ∧ d.pyA.depth ≤ d.dep
  | .non, _, _, .non, _, r => by cases r; simp only [D.pyA, D.py]; exact ⟨_, Reads.none, (by simp), by simp only [PyData.depth]; exact Nat.zero_le _⟩
  | .bl b, _, _, .bl _, _, r => by cases r; simp only [D.pyA, D.py]; exact ⟨_, Reads.bool b, (by simp), by simp only [PyData.depth]; exact Nat.zero_le _⟩
  | .int i, _, _, .int _, _, r => by obtain ⟨t, rfl⟩ := r; simp only [D.pyA, D.py]; exact ⟨_, Reads.int i t, (by simp), by simp only [PyData.depth]; exact Nat.zero_le _⟩
  | .str x, _, _, .str _ _, _, r => by obtain ⟨t, rfl⟩ := r; simp only [D.pyA, D.py]; exact ⟨_, Reads.str x t, (by simp), by simp only [PyData.depth]; exact Nat.zero_le _⟩
  | .tup ds, _, _, .tup (a := a) e q, h, r => by
    cases r
    obtain ⟨its, rv, ⟨o, ho, hc, n, hd⟩, _⟩ := I.tuple (ex_t ex e)
    obtain ⟨as, hr, ns, dp⟩ := readsAL I ex ds _ its q (by simpa [D.lvlN] using h) rv
    simp only [D.pyA, D.dep, PyData.depth]
    exact ⟨_, Reads.tuple ho hc hd hr, ns, by omega⟩
  | .dic ks, _, _, .dic (a := a) (kvs := kvs) e k q, h, r => by
    cases r
    obtain ⟨_, lo, vs, rel, dd⟩ := dk_of I.hok (ex _ _ e)
    obtain ⟨bs, hp, ns, dp⟩ := readsKL I ex ks kvs vs k q (by simpa [D.lvlN] using h) rel
    simp only [D.pyA, D.dep, PyData.depth]
    refine ⟨_, PyProof.V.reads_dictOf (fun k key hk => keyReads hk) dd hp, ?_, by omega⟩
    intro m
    rcases List.mem_cons.mp m with m | m
    · rw [m] at lo; simp at lo
    · exact ns m
  | .lst _, _, _, _, h, _ => by simp [D.lvlN] at h
  | .scr _, _, _, _, h, _ => by simp [D.lvlN] at h
  | .fn _, _, _, _, h, _ => by simp [D.lvlN] at h
  | .obj _ _, _, _, _, h, _ => by simp [D.lvlN] at h
  | .exc _ _ _, _, _, _, h, _ => by simp [D.lvlN] at h
theorem readsAL (I : Inv X pins σ H s) (ex : Ex F H) : ∀ (ds : List D) (vs : List V) (us : List Value), RepL X.K F vs ds → D.lvlL ds = true → Vals vs us → ∃ as, ReadsAll s.heap us (D.pyAL ds) as ∧ sysModules ∉ as ∧ PyData.depthAll (D.pyAL ds) ≤ D.depL ds
  | [], _, _, .nil, _, r => by cases r; simp only [D.pyAL]; exact ⟨_, ReadsAll.nil, (by simp), by simp only [PyData.depthAll]; exact Nat.zero_le _⟩
  | d :: ds, _, _, .cons x q, h, r => by
    cases r with
    | cons r1 r2 =>
      simp only [D.lvlL, Bool.and_eq_true] at h
      obtain ⟨as, h1, n1, d1⟩ := readsA I ex d _ _ x h.1 r1
      obtain ⟨bs, h2, n2, d2⟩ := readsAL I ex ds _ _ q h.2 r2
      simp only [D.pyAL, PyData.depthAll, D.depL]
      exact ⟨_, ReadsAll.cons h1 h2, fun m => (List.mem_append.mp m).elim n1 n2, by omega⟩
theorem readsKL (I : Inv X pins σ H s) (ex : Ex F H) : ∀ (ks : List (Key × D)) (kvs : List (Key × V)) (vs : List (Key × Value)), kvs.map (·.1) = ks.map (·.1) → RepL X.K F (kvs.map (·.2)) (ks.map (·.2)) → D.lvlK ks = true → KV kvs vs →
    ∃ bs, PyProof.V.PairsRead s.heap keyPy vs (D.pyK ks) bs ∧ sysModules ∉ bs ∧ PyData.depthKv (D.pyK ks) ≤ D.depK ks
  | [], [], _, _, _, _, r => by cases r; simp only [D.pyK]; exact ⟨_, .nil, (by simp), by simp only [PyData.depthKv]; exact Nat.zero_le _⟩
  | [], _ :: _, _, e, _, _, _ => by simp at e
  | _ :: _, [], _, e, _, _, _ => by simp at e
  | (k, d) :: ks, (k', v) :: kvs, _, e, q, h, r => by
    rw [List.map_cons, List.map_cons, List.cons.injEq] at e
    rw [List.map_cons, List.map_cons] at q
    cases q with
    | cons x q =>
      cases r with
      | cons r1 r2 =>
        rename_i y ys
        obtain ⟨ky, vy⟩ := y
        have r1 : k' = ky ∧ RelV v vy := r1
        have e1 : k' = k := e.1
        simp only [D.lvlK, Bool.and_eq_true] at h
        obtain ⟨as, h1, n1, d1⟩ := readsA I ex d _ _ x h.2.1 r1.2
        obtain ⟨bs, h2, n2, d2⟩ := readsKL I ex ks _ _ e.2 q h.2.2 r2
        rw [← r1.1, e1]
        simp only [D.pyK, PyData.depthKv, D.depK, key_dep]
        exact ⟨_, .cons h1 h2, fun m => (List.mem_append.mp m).elim n1 n2, by omega⟩
end

end
def reprA (d : D) : Str := d.pyA.shown
theorem reprA_lvl {d : D} (h : D.lvl 60 d = true) : reprA d = reprD d := by unfold reprA reprD; rw [pyA_py d 60 h]
def RepOk (d : D) : Prop := (D.lvl 60 d = true ∧ d.shw = true ∧ d.wt ≤ 16000000) ∨ (d.lvlN = true ∧ d.dep ≤ 60 ∧ d.wtA ≤ 16000000)
@[simp] def aReprA : List D → (RV → Prop) → Prop
  | [d], R => RepOk d ∧ R (.vl (.str (reprA d)))
  | _, _ => False
section
variable {X : Cx} {K : PySem.W.Frag}
theorem See.plainA {F H : Hp} {v : V} {d : D} (x : Ex F H) (s : See K F H v d) : ∃ F', Ex F F' ∧ (F' = F ∨ ∃ p o, F' = upd F p o ∧ H p = some o) ∧ Rep K F' v d := by
  cases s with
  | rep r => exact ⟨F, Ex.refl F, Or.inl rfl, r⟩
  | obj e r =>
    rename_i p o
    cases q : F p with
    | none => exact ⟨upd F p o, Ex.new q, Or.inr ⟨p, o, rfl, e⟩, (r.mono (Ex.new q)).rep upd_same⟩
    | some u =>
      have := x p u q
      rw [e] at this; cases this
      exact ⟨F, Ex.refl F, Or.inl rfl, r.rep q⟩
def rRepr2 (K : PySem.W.Frag) : List V → Hp → VK → Prop := fun xs H Q => ∃ x d F, xs = [x] ∧ Rep K F x d ∧ Ex F H ∧ d.lvlN = true ∧ d.dep ≤ 60 ∧ d.pyA.shown.length ≤ sizeLine ∧ Q (.str d.pyA.shown) H
theorem call_repr2 (hgd : X.A.guards = some []) (hu : X.A.units + 64 < cLine) : CallR X (.builtin "repr") (rRepr2 X.K) := by
  intro pins s σ H xs us Q I r h
  obtain ⟨x, d, F, rfl, rp, ex, hl, hp, hz, q⟩ := h
  obtain ⟨u, rfl, rx⟩ := vals1 r
  obtain ⟨as, rd, ns, dp⟩ := readsA I ex d x u rp hl rx
  obtain ⟨hs, _, _⟩ := shownA d x rp hl
  cases rp with
  | non =>
    cases rx
    simp only [D.pyA, D.py, PyData.shown] at q
    exact PySem.P.repr_of_none ⟨.str _, H, I.tok _, ⟨_, rfl⟩, q⟩
  | bl b =>
    cases rx
    simp only [D.pyA, D.py, PyData.shown] at q
    refine PySem.P.repr_of_bool ⟨.str _, H, I.tok _, ⟨_, rfl⟩, ?_⟩
    exact q
  | int i =>
    obtain ⟨t, rfl⟩ := rx
    simp only [D.pyA, D.py, PyData.shown] at q
    exact PySem.P.repr_of_int (by simpa [D.lvlN] using hl) ⟨.str _, H, I.tok _, ⟨_, rfl⟩, q⟩
  | str z =>
    obtain ⟨t, rfl⟩ := rx
    simp only [D.pyA, D.py, PyData.shown] at q hz
    exact PySem.P.repr_of_str ⟨.str _, H, I.tok _, ⟨_, rfl⟩, q⟩ hz
  | tup _ _ =>
    cases rx
    exact repr_of_reads' rd hs (fun _ => ns) hgd (by omega) (fun _ _ e => e) (fun h' u tk hk => ⟨.str _, H, I.kept hk, ⟨_, rfl⟩, q⟩) hz
  | dic _ _ _ =>
    cases rx
    exact repr_of_reads' rd hs (fun _ => ns) hgd (by omega) (fun _ _ e => e) (fun h' u tk hk => ⟨.str _, H, I.kept hk, ⟨_, rfl⟩, q⟩) hz
  | _ => simp [D.lvlN] at hl
def rReprA (K : PySem.W.Frag) : List V → Hp → VK → Prop := fun xs H Q => rRepr K xs H Q ∨ rRepr2 K xs H Q
theorem call_reprA (hgd : X.A.guards = some []) (hu : X.A.units + 64 < cLine) : CallR X (.builtin "repr") (rReprA X.K) := by
  intro pins s σ H xs us Q I r h
  rcases h with h | h
  · exact call_repr hgd hu pins s σ H xs us Q I r h
  · exact call_repr2 hgd hu pins s σ H xs us Q I r h
theorem on_reprA : OpN K (rReprA K) aReprA := by
  intro C F env σ H vs ds R Q I s h g
  unfold aReprA at h
  split at h
  · rename_i d
    obtain ⟨h1, h2⟩ := h
    rcases h1 with ⟨a, b, c⟩ | ⟨a, b, c⟩
    · refine Or.inl (on_repr C F env σ H vs [d] R Q I s ⟨a, b, c, ?_⟩ g)
      rw [← reprA_lvl a]
      exact h2
    · obtain ⟨v, rfl, se⟩ := s.one
      obtain ⟨F', ex, hF', rp⟩ := se.plainA I.sub
      have ex' : Ex F' H := by
        rcases hF' with rfl | ⟨p, o, rfl, hp⟩
        · exact I.sub
        · intro b u e
          by_cases z : b = p
          · subst z; rw [upd_same] at e; cases e; exact hp
          · rw [upd_ne z] at e; exact I.sub b u e
      obtain ⟨b1, b2, b3⟩ := shownA _ v rp a
      exact Or.inr ⟨v, _, F', rfl, rp, ex', a, b, by rw [sizeLine_eq]; omega, g.str I b2 h2⟩
  · exact h.elim
end
end DL

set_option Elab.async false
set_option linter.all false
set_option maxRecDepth 100000
set_option maxHeartbeats 4000000
set_option autoImplicit false
/-! X23: `if b == n: x = x.replace(y, z, 1)` with written texts (the tokens of the texts must be told apart); s.partition, s.endswith. -/
namespace DL
open PySem PySem.Spec L2 Evl PyProof.Rows Builtin Builtin.Str
def rep1 (x y z : Str) : Str :=
  if ((occurrences x y 0 x.length 1).isEmpty || (y.length == 0 && z.length == 0)) = true then x else glued z (partsBetween x (occurrences x y 0 x.length 1) y.length)
theorem gives_replace1 (x y z : Str) (t u v n : Tok)
    (hf : ((occurrences x y 0 x.length 1).isEmpty || (y.length == 0 && z.length == 0)) = false →
      (u == 0 || v == 0) = false ∧ (u == v) = false ∧ (y == z) = false ∧ tooLong (x.length + (occurrences x y 0 x.length 1).length * z.length) = false) :
    PySem.Gives («str.replace» ⟨[.str x t, .str y u, .str z v, .int 1 n], []⟩) (if ((occurrences x y 0 x.length 1).isEmpty || (y.length == 0 && z.length == 0)) = true then .val (.str x t) else .str (glued z (partsBetween x (occurrences x y 0 x.length 1) y.length))) := by
  show PySem.Gives (do let limit ← countLimit "str.replace" (some (.int 1 n)) (x.length + 1); if ((occurrences x y 0 x.length limit).isEmpty || (y.length == 0 && z.length == 0)) = true then (do rule "str.replace.nothing"; ret (.str x t)) else
                  (do let same ← isSame (.str y u) (.str z v)
                      if same = true then (do rule "str.replace.old-is-new"; ret (.str x t)) else
                      if tooLong (x.length + (occurrences x y 0 x.length limit).length * z.length) = true then unsupported "str.replace:memory" else
                      retStr (glued z (partsBetween x (occurrences x y 0 x.length limit) y.length)))) _
  rw [countLimit_int "str.replace" 1 n _ (by decide)]
  show PySem.Gives (if ((occurrences x y 0 x.length 1).isEmpty || (y.length == 0 && z.length == 0)) = true then (do rule "str.replace.nothing"; ret (.str x t)) else
                  (do let same ← isSame (.str y u) (.str z v)
                      if same = true then (do rule "str.replace.old-is-new"; ret (.str x t)) else
                      if tooLong (x.length + (occurrences x y 0 x.length 1).length * z.length) = true then unsupported "str.replace:memory" else
                      retStr (glued z (partsBetween x (occurrences x y 0 x.length 1) y.length)))) _
  cases hc : ((occurrences x y 0 x.length 1).isEmpty || (y.length == 0 && z.length == 0))
  · obtain ⟨h0, huv, hyz, hl⟩ := hf hc
    rw [isSame_str_other y z u v h0 huv hyz, hl]
    exact .of_eq rfl
  · exact .rule (.of_eq rfl)
theorem args_replace_4 (a b c d : Value) : argsOk "str.replace" ⟨[a, b, c, d], []⟩ := F.args_str_replace_4 a b c d
theorem replace1_run {prog : Program} {w : World} {A : Around} {E : Value → Shared → Prop} {s : Shared} {x y z : Str} {t u v n : Tok} {Q : Value → Shared → Prop} (hu : u ≠ 0) (hv : v ≠ 0) (huv : u ≠ v) (hyz : (y == z) = false) (hb : x.length + (x.length + 1) * z.length ≤ 16777216)
    (hq : ∀ t' k, Q (.str (rep1 x y z) t') { s with toks := k }) :
    wpAny (model prog w) A (call (.builtin "str.replace") [.str x t, .str y u, .str z v, .int 1 n]) Q E s := by
  have h1 := StrLaws.occ_length_le x y 0 x.length 1
  have h2 : (occurrences x y 0 x.length 1).length * z.length ≤ (x.length + 1) * z.length := Nat.mul_le_mul_right _ (by omega)
  have hl : tooLong (x.length + (occurrences x y 0 x.length 1).length * z.length) = false := by
    unfold tooLong sizeLine
    exact decide_eq_false (by omega)
  refine call_givesAt F.slot_str_replace (typeIs_str _ _ _) F.entry_str_replace (args_replace_4 _ _ _ _) (P := fun _ => True)
    (gives_replace1 x y z t u v n fun _ => ⟨by simp [hu, hv], by simp [huv], hyz, hl⟩).at trivial ?_
  have hq' := hq
  unfold rep1 at hq'
  cases hc : ((occurrences x y 0 x.length 1).isEmpty || (y.length == 0 && z.length == 0))
  · rw [hc] at hq'
    simp only [Bool.false_eq_true, if_false] at hq' ⊢
    refine ⟨?_, hq' _ _⟩
    have hs : (glued z (partsBetween x (occurrences x y 0 x.length 1) y.length)).length ≤ x.length + (occurrences x y 0 x.length 1).length * z.length := by
      have hy : (glued y (partsBetween x (occurrences x y 0 x.length 1) y.length)).length = x.length := by rw [StrLaws.glued_between_self]
      rw [size_glued, length_partsBetween, Nat.add_sub_cancel] at hy
      rw [size_glued, length_partsBetween, Nat.add_sub_cancel]
      omega
    rw [sizeLine_eq]
    omega
  · rw [hc] at hq'
    simp only [if_true] at hq' ⊢
    exact hq' t s.toks
section
variable {X : Cx}
def tIfRep (ib ix : Nat) (n : Int) (y z : Str) : TS := fun D σ H => ∃ i x, σ[ib]? = some (some (.int i)) ∧ σ[ix]? = some (some (.str x)) ∧ x.length ≤ 100000 ∧ if i = n then D.nx (σ.set ix (some (.str (rep1 x y z)))) H else D.nx σ H
theorem ps_ifRep {ib ix : Nat} {bn xn y z : Str} {n : Int} {j j1 j2 j3 : Nat} {pb cp c0 px p1 apos q1 q2 q3 cpos spos ipos : Pos} (hN : X.N.Nodup) (hNb : X.N[ib]? = some bn) (hvb : Vis X.env.scope bn) (hNx : X.N[ix]? = some xn) (hvx : Vis X.env.scope xn) (hlx : Loc X.env.scope xn)
    (hyz : (y == z) = false) (hz : z.length ≤ 100)
    (hst : starEach [.Constant (.str y) j1 q1, .Constant (.str z) j2 q2, .Constant (.int 1) j3 q3] X.env = [(false, eval (.Constant (.str y) j1 q1) X.env), (false, eval (.Constant (.str z) j2 q2) X.env), (false, eval (.Constant (.int 1) j3 q3) X.env)] := by rfl)
    (hbase : attributeBase (.Name xn p1) "replace" X.env (eval (.Name xn p1) X.env) = eval (.Name xn p1) X.env := by rfl) (hline : (apos.endLine == cpos.line) = true := by rfl)
    (hdb : (bn == ("__debug__" : Str)) = false := by decide) (hcb : (bn == ("__classdict__" : Str)) = false := by decide) (hdx : (xn == ("__debug__" : Str)) = false := by decide) (hcx : (xn == ("__classdict__" : Str)) = false := by decide)
    (hs : swapsWith (.Call (.Attribute (.Name xn p1) "replace" apos) [.Constant (.str y) j1 q1, .Constant (.str z) j2 q2, .Constant (.int 1) j3 q3] [] cpos) (some (.Name xn px)) spos.line X.env = pure false := by rfl)
    (hm : behindInMarks .Eq (.Constant (.int n) j c0) = false := by first | exact nomark _ | rfl | with_unfolding_all rfl)
    (hf : X.fn xn = true ∨ X.env.scope.names.lookup xn = some .local := by first | exact .inl rfl | exact .inr rfl | assumption) :
    PS X (.If (.Compare (.Name bn pb) [.Eq] [.Constant (.int n) j c0] cp) [.Assign [.Name xn px] (.Call (.Attribute (.Name xn p1) "replace" apos) [.Constant (.str y) j1 q1, .Constant (.str z) j2 q2, .Constant (.int 1) j3 q3] [] cpos) spos] [] ipos) (tIfRep ib ix n y z) := by
  refine ⟨fun pins s σ H D I h => ?_⟩
  obtain ⟨i, x, hb, hx, hl, h⟩ := h
  have hbd : x.length + (x.length + 1) * z.length ≤ 16777216 := by
    have : (x.length + 1) * z.length ≤ 100001 * 100 := Nat.mul_le_mul (by omega) hz
    omega
  refine wpAny_If (wpAny_isTrue_Compare1 (raw_name hNb hvb I hb (fun u ru => ?_) hdb hcb) hm)
  obtain ⟨tu, rfl⟩ := ru
  refine wpAny_Constant_int ?_
  have I1 : Inv X pins σ H { s with toks := s.toks + 1 } := I.tok _
  refine wpAny_with_toks (n := s.toks + 1) (Nat.le_refl _) ?_
  refine wpAny_mono (op_eq pins { s with toks := s.toks + 1 } σ H (.int i) (.int n) (.int i tu) (.int n s.toks) (fun v H' => H' = H ∧ v = .bl (decide (i = n))) I1 ⟨tu, rfl⟩ ⟨_, rfl⟩ ⟨rfl, rfl, by congr 1; exact decide_eq_decide.mpr ⟨fun e => V.int.inj e, fun e => by rw [e]⟩⟩) (fun c s2 hc => ?_) fun _ _ hx _ => hx
  obtain ⟨v, H2, I2, r2, rfl, rfl⟩ := hc
  cases r2
  intro hk
  refine wpAny_truthy_bool ?_
  by_cases e : i = n
  · rw [if_pos e] at h
    rw [decide_eq_true e]
    show wpAny _ _ (execs [_] _) _ _ _
    refine wpAny_execs_cons ?_
    refine wpAny_Assign_Name ?_ hs
    refine PySem.wpAny_Call_method_lateS hbase (by rw [hst]; rfl) hline (raw_name hNx hvx I2 hx (fun v r => ?_) hdx hcx)
    obtain ⟨tx, rfl⟩ := r
    rw [hst]
    refine ⟨"str", _, F.plainAttrs_str, F.slot_str_replace, F.type_str_replace, typeIs_str _ _ _, (fun _ e => nomatch e), Calls.callWith_builtin rfl (Calls.evalArgs_plain (Calls.spliced_cons ?_))⟩
    refine Calls.Constant_str (k := j1) (pos := q1) (Calls.spliced_cons (Calls.Constant_str (k := j2) (pos := q2) (Calls.spliced_cons (wpAny_Constant_int (k := j3) (pos := q3) (Calls.spliced_nil ?_)))))
    have hk1 : s.toks + 1 ≤ s2.toks := hk
    refine replace1_run (by show s2.toks ≠ 0; omega) (by show s2.toks + 1 ≠ 0; omega) (by show s2.toks ≠ s2.toks + 1; omega) hyz hbd fun t' k => ?_
    refine store_ok (v := .str (rep1 x y z)) (I2.tok k) hN hNx hlx ⟨t', rfl⟩ (fun s3 I3 => ?_) hf
    exact wpAny_execs_nil ⟨_, _, I3, h⟩
  · rw [if_neg e] at h
    rw [decide_eq_false e]
    exact wpAny_execs_nil ⟨_, _, I2, h⟩
end
end DL

set_option Elab.async false
set_option linter.all false
set_option maxRecDepth 100000
set_option maxHeartbeats 4000000
set_option autoImplicit false
/-! X24: the readings of X23; s.partition, s.endswith. -/
namespace DL
open PySem PySem.Spec L2 Evl PyProof.Rows Builtin Builtin.Str
@[simp] def mIfRep (ib ix : Nat) (n : Int) (y z : Str) : DStm := fun P env => match env[ib]?, env[ix]? with
  | some (.val (.int i)), some (.val (.str x)) => x.length ≤ 100000 ∧ if i = n then P.nx (env.set ix (.val (.str (rep1 x y z)))) else P.nx env
  | _, _ => False
theorem rep1_part {x y z a b : Str} (hy : (y.length == 0) = false) (h : Txt.partition x y = (a, y, b)) : rep1 x y z = a ++ z ++ b := by
  unfold Txt.partition at h
  unfold rep1
  rw [hy, Bool.false_and, Bool.or_false]
  have hl := StrLaws.occ_length_le x y 0 x.length 1
  cases q : occurrences x y 0 x.length 1 with
  | nil =>
    rw [q] at h
    have h2 : Str.empty = y := congrArg (·.2.1) h
    rw [← h2] at hy
    cases hy
  | cons i r =>
    rw [q] at h hl
    have : r = [] := by
      cases r with
      | nil => rfl
      | cons _ _ => simp at hl
    subst this
    have ea : strSub x 0 i = a := congrArg (·.1) h
    have eb : strSub x (i + y.length) x.length = b := congrArg (·.2.2) h
    show glued z [strSub x 0 i, strSub x (i + y.length) x.length] = _
    rw [ea, eb]
    rfl
theorem rep1_none {x y z : Str} (hy : (y.length == 0) = false) (h : Txt.partition x y = (x, Str.empty, Str.empty)) : rep1 x y z = x := by
  unfold Txt.partition at h
  unfold rep1
  rw [hy, Bool.false_and, Bool.or_false]
  cases q : occurrences x y 0 x.length 1 with
  | nil => rfl
  | cons i r =>
    rw [q] at h
    have h2 : y = Str.empty := congrArg (·.2.1) h
    rw [h2] at hy
    cases hy
theorem sOk_part {x y : Str} (hx : PyData.strOk x = true) (hy : PyData.strOk y = true) : PyData.strOk (Txt.partition x y).1 = true ∧ PyData.strOk (Txt.partition x y).2.1 = true ∧ PyData.strOk (Txt.partition x y).2.2 = true := by
  have sub : ∀ i j, PyData.strOk (strSub x i j) = true := fun i j => sOk_sub hx fun c hc => by
    have hc : c ∈ TL.tl (strSub x i j) := hc
    rw [TL.tl_strSub] at hc
    exact List.mem_of_mem_drop (List.mem_of_mem_take hc)
  unfold Txt.partition
  split
  · exact ⟨sub _ _, hy, sub _ _⟩
  · have e : PyData.strOk Str.empty = true := by decide +kernel
    exact ⟨hx, e, e⟩
theorem sOk_rep1 {x y z : Str} (hx : PyData.strOk x = true) (hy : PyData.strOk y = true) (hz : PyData.strOk z = true) (h0 : (y.length == 0) = false) : PyData.strOk (rep1 x y z) = true := by
  obtain ⟨p1, p2, p3⟩ := sOk_part hx hy
  by_cases q : (Txt.partition x y).2.1 = y
  · rw [rep1_part (a := (Txt.partition x y).1) (b := (Txt.partition x y).2.2) h0 (by conv => lhs; rw [show Txt.partition x y = ((Txt.partition x y).1, (Txt.partition x y).2.1, (Txt.partition x y).2.2) from rfl, q])]
    exact sOk_append (sOk_append p1 hz) p3
  · have e : Txt.partition x y = (x, Str.empty, Str.empty) := by
      unfold Txt.partition at q ⊢
      cases w : occurrences x y 0 x.length 1 with
      | nil => rfl
      | cons i r => rw [w] at q; exact absurd rfl q
    rw [rep1_none h0 e]
    exact hx
section
variable {X : Cx}
theorem ds_ifRep (ib ix : Nat) (n : Int) (y z : Str) {bn xn : Str} {j j1 j2 j3 : Nat} {pb cp c0 px p1 apos q1 q2 q3 cpos spos ipos : Pos} (hN : X.N.Nodup) (hNb : X.N[ib]? = some bn) (hvb : Vis X.env.scope bn) (hNx : X.N[ix]? = some xn) (hvx : Vis X.env.scope xn) (hlx : L2.Loc X.env.scope xn)
    (hyz : (y == z) = false := by decide +kernel) (hz : z.length ≤ 100 := by decide) (ho : PyData.strOk y = true := by decide +kernel) (ho2 : PyData.strOk z = true := by decide +kernel) (h0 : (y.length == 0) = false := by decide)
    (hst : starEach [.Constant (.str y) j1 q1, .Constant (.str z) j2 q2, .Constant (.int 1) j3 q3] X.env = [(false, eval (.Constant (.str y) j1 q1) X.env), (false, eval (.Constant (.str z) j2 q2) X.env), (false, eval (.Constant (.int 1) j3 q3) X.env)] := by rfl)
    (hbase : attributeBase (.Name xn p1) "replace" X.env (eval (.Name xn p1) X.env) = eval (.Name xn p1) X.env := by rfl) (hline : (apos.endLine == cpos.line) = true := by rfl)
    (hdb : (bn == ("__debug__" : Str)) = false := by decide) (hcb : (bn == ("__classdict__" : Str)) = false := by decide) (hdx : (xn == ("__debug__" : Str)) = false := by decide) (hcx : (xn == ("__classdict__" : Str)) = false := by decide)
    (hs : swapsWith (.Call (.Attribute (.Name xn p1) "replace" apos) [.Constant (.str y) j1 q1, .Constant (.str z) j2 q2, .Constant (.int 1) j3 q3] [] cpos) (some (.Name xn px)) spos.line X.env = pure false := by rfl)
    (hm : behindInMarks .Eq (.Constant (.int n) j c0) = false := by first | exact nomark _ | rfl | with_unfolding_all rfl)
    (hf : X.fn xn = true ∨ X.env.scope.names.lookup xn = some .local := by first | exact .inl rfl | exact .inr rfl | assumption) :
    DS X (.If (.Compare (.Name bn pb) [.Eq] [.Constant (.int n) j c0] cp) [.Assign [.Name xn px] (.Call (.Attribute (.Name xn p1) "replace" apos) [.Constant (.str y) j1 q1, .Constant (.str z) j2 q2, .Constant (.int 1) j3 q3] [] cpos) spos] [] ipos) (mIfRep ib ix n y z) := by
  refine ⟨_, ps_ifRep hN hNb hvb hNx hvx hlx hyz hz hst hbase hline hdb hcb hdx hcx hs hm hf, ?_⟩
  intro C F env σ H D P I h k
  unfold mIfRep at h
  split at h
  · rename_i i x e1 e2
    obtain ⟨v, s1, r1⟩ := I.vals ib _ e1
    obtain ⟨w, s2, r2⟩ := I.vals ix _ e2
    cases r1
    cases r2 with
    | str _ ok =>
      refine ⟨i, x, s1, s2, h.1, ?_⟩
      have h2 := h.2
      split
      · rename_i c
        rw [if_pos c] at h2
        refine k.nx F _ _ H (I.setVal ?_ (Rep.str _ (sOk_rep1 ok ho ho2 h0))) h2
        unfold Free
        rw [e2]
        trivial
      · rename_i c
        rw [if_neg c] at h2
        exact k.nx F _ _ H I h2
  · exact h.elim
@[simp] def aPart (d e : D) (R : RV → Prop) : Prop := match d, e with
  | .str s, .str t => (t.length == 0) = false ∧ s.length ≤ sizeLine ∧ R (.vl (.tup [.str (Txt.partition s t).1, .str (Txt.partition s t).2.1, .str (Txt.partition s t).2.2]))
  | _, _ => False
theorem dpartition {o e : Expr} {m1 m2 : DM} {apos pos : Pos} (ho : DE X o m1) (he : DE X e m2) (hs : starEach [e] X.env = [(false, eval e X.env)] := by rfl) (hb : attributeBase o "partition" X.env (eval o X.env) = eval o X.env := by rfl) (hl : (apos.endLine == pos.line) = true := by rfl) :
    DE X (.Call (.Attribute o "partition" apos) [e] [] pos) (mM1 aPart m1 m2) := by
  obtain ⟨t, p, ev⟩ := ho
  obtain ⟨u, q, ev2⟩ := he
  refine ⟨_, pe_partition p q hs hb hl, evd_m1 ?_ ev ev2⟩
  intro C F env σ H s w e R Q I hs s2 h g
  unfold aPart at h
  split at h
  · rename_i t e1
    cases e1
    obtain ⟨o1, o2, o3⟩ := sOk_part hs s2.str.2
    exact ⟨_, _, rfl, by rw [s2.str.1], h.1, h.2.1, fun q hq => g.tup I h.2.2 (.cons (.str _ o1) (.cons (.str _ o2) (.cons (.str _ o3) .nil))) q hq⟩
  · exact h.elim
@[simp] def aEnds (d e : D) (R : RV → Prop) : Prop := match d, e with
  | .str s, .str t => R (.vl (.bl (Txt.endswith s t)))
  | _, _ => False
theorem dendswith {o e : Expr} {m1 m2 : DM} {apos pos : Pos} (ho : DE X o m1) (he : DE X e m2) (hs : starEach [e] X.env = [(false, eval e X.env)] := by rfl) (hb : attributeBase o "endswith" X.env (eval o X.env) = eval o X.env := by rfl) (hl : (apos.endLine == pos.line) = true := by rfl) :
    DE X (.Call (.Attribute o "endswith" apos) [e] [] pos) (mM1 aEnds m1 m2) := by
  obtain ⟨t, p, ev⟩ := ho
  obtain ⟨u, q, ev2⟩ := he
  refine ⟨_, pe_m1 F.slot_str_endswith F.type_str_endswith mt_endswith p q hs hb hl, evd_m1 ?_ ev ev2⟩
  intro C F env σ H s w e R Q I hs s2 h g
  unfold aEnds at h
  split at h
  · rename_i t e1
    cases e1
    exact ⟨_, _, rfl, by rw [s2.str.1], g.bl I h⟩
  · exact h.elim
end
end DL

set_option Elab.async false
set_option linter.all false
set_option maxRecDepth 100000
set_option maxHeartbeats 4000000
set_option autoImplicit false
/-! X25: calls of defs with keyword-only parameters (X14), their binding by looks. -/
namespace DL
open PySem PySem.Spec L2 Evl PyProof.Rows
theorem looks_f {M : Model} {h : Heap} {α : Type} {c : Prop} [Decidable c] {a b : Sem α} {r : α} (e : decide c = false) (k : PySem.W.Looks M h b r) : PySem.W.Looks M h (if c then a else b) r := by
  rw [if_neg (of_decide_eq_false e)]
  exact k
def BindL (K : PySem.W.Frag) (x : Str) (st : Stmt) (ps ks : List Str) (ms : List (Str × V)) (n : Nat) (perm : List Nat) : Prop :=
  ∀ (D : Addr) (doc pm : Value) (an : Option Addr) (cdv ct : Value) (us mv ws : List Value), us.length = n → mv.length = ms.length → ws.length = ks.length →
    (∀ q ∈ (ms.map (·.1)).zip mv, PySem.W.nsIn K D q.1 = some (some q.2)) → ∀ (M : Model) (hp : Heap), K.In hp →
      PySem.W.Looks M hp (bindArgs (PySem.W.fnOf x x (defArgs st) (defBody st) (defScope st) .none (.ref D) doc pm an cdv ct) ⟨us, ks.zip ws⟩) (ps.zip (arr perm (us ++ mv) ws))
theorem kbinds_l {K : PySem.W.Frag} {x : Str} {st : Stmt} {ps ks : List Str} {dfs ms : List (Str × V)} {f : Addr} {fd : FuncData} (F : FunD K x x (defArgs st) (defBody st) (defScope st) [] dfs f fd) (n m : Nat) (perm : List Nat) (hp : ps ≠ []) (hk : dfs ≠ []) (hm : ks.length = m) (hms : ∀ q ∈ ms, q ∈ dfs)
    (h : BindL K x st ps ks ms n perm) : ∃ g, KBinds K fd ps ks g (arrD n m perm (ms.map (·.2))) := by
  obtain ⟨oc, od, dV, kV, doc, pm, an, cdv, ct, osl, rfl, lk, hcd, hD, hK⟩ := F.ex
  rcases hD with ⟨_, rfl⟩ | ⟨e, _⟩
  · rcases hK with e | ⟨D, rfl, hq⟩
    · exact absurd e hk
    · obtain ⟨mv, hl, rk, hks⟩ := kwd_vals (ms := ms) fun q hq' => hq q (hms q hq')
      refine ⟨arrD n m perm mv, ⟨fun s us ws X hl2 => ?_, fun r1 r2 => arrD_vals rk r1 r2⟩⟩
      unfold arrD at hl2 ⊢
      split at hl2
      · rename_i hc
        rw [if_pos hc]
        exact BindsTo.of_looks fun M => h D doc pm an cdv ct us mv ws hc.1 hl (by rw [hc.2, hm]) hks M _ X
      · exact absurd (List.length_eq_zero_iff.mp hl2.symm) hp
  · exact absurd rfl e
section
variable {X : Cx} {k : Nat} {st : Stmt} {ps ks : List Str} {dfs ms : List (Str × V)} {sd : DSpec} {x : Str} {p pos : Pos} {e : Expr} {es : List Expr} {kws : List Keyword}
theorem dcallD2 (c : CalD X.prog X.w X.K X.mg X.base x st k ps dfs sd) (ms : List (Str × V)) (dds : List D) (rd : ∀ (K : PySem.W.Frag) (F : Hp), RepL K F (ms.map (·.2)) dds) (n m : Nat) (perm : List Nat) (hgd : X.A.guards = some []) (hr : Room k X.A) (hg : Gl X x) (hp : ps ≠ []) (hk : dfs ≠ []) (hm : ks.length = m) (hms : ∀ q ∈ ms, q ∈ dfs)
    (hb : ∀ K, BindL K x st ps ks ms n perm)
    {mc mk : DMC} (h : DC X (e :: es) mc) (h2 : DK X kws mk) (hall : (backToKw pos (keywordEach kws X.env)).all (·.1.isSome) = true := by rfl) (hks : (backToKw pos (keywordEach kws X.env)).filterMap (·.1) = ks := by rfl)
    (hdb : (x == ("__debug__" : Str)) = false := by decide) (he : starEach (e :: es) X.env = (false, eval e X.env) :: starEach es X.env := by rfl)
    (hpl : ((backTo pos (starEach (e :: es) X.env)).any (·.1) || (backToKw pos (keywordEach kws X.env)).any (·.1.isNone)) = false := by rfl) : DE X (.Call (.Name x p) (e :: es) kws pos) (mCallK sd (arrD n m perm (dds.map CA.vl)) mc mk) := by
  obtain ⟨f, fd, F, G, hm'⟩ := c.ex
  obtain ⟨g, kb⟩ := kbinds_l (ps := ps) (ks := ks) F n m perm hp hk hm hms (hb _)
  exact dcallK (arrD n m perm (dds.map CA.vl)) G hgd hr hg hm' F.kp kb (arrD_ca rd) h h2 hall hks hdb he hpl
end
end DL

set_option Elab.async false
set_option linter.all false
set_option maxRecDepth 100000
set_option maxHeartbeats 4000000
set_option autoImplicit false
/-! DL19: what most laws draw: numbers out of a box, names. -/
namespace DL
open PySem L2

theorem log2_small {n k : Nat} (hk : 0 < k) (h : n < 2 ^ k) : n.log2 < k := by
  by_cases z : n = 0
  · subst z; simpa using hk
  · exact (Nat.log2_lt z).mpr h
theorem cmul_ok {i j : Int} (h1 : i.natAbs < 2 ^ 4000) (h2 : j.natAbs < 2 ^ 4000) : CMulW i j := by
  have a := log2_small (by decide) h1
  have b := log2_small (by decide) h2
  unfold CMulW
  omega
theorem cmul_s {i j : Int} (h1 : i.natAbs < 18446744073709551616) (h2 : j.natAbs < 18446744073709551616) : CMulW i j :=
  cmul_ok (Nat.lt_of_lt_of_le h1 (by decide +kernel)) (Nat.lt_of_lt_of_le h2 (by decide +kernel))
theorem cpow_s {i j : Int} (h0 : 0 ≤ j) (h1 : j ≤ 1000000) (h2 : i.natAbs < 18446744073709551616) : CPow i j := ⟨h0, h1, h2⟩
theorem clog_s {j : Int} (h : j.natAbs < 18446744073709551616) : j.natAbs.log2 < 9000 := Nat.lt_of_lt_of_le (log2_small (k := 64) (by decide) h) (by decide)

theorem app_list (a b : Str) : (a ++ b).cps.toList = a.cps.toList ++ b.cps.toList := by
  show (a.cps ++ b.cps).toList = _
  simp
theorem len_list (a : Str) : a.length = a.cps.toList.length := by simp [Str.length]
theorem str_ext {a b : Str} (h : a.cps.toList = b.cps.toList) : a = b := by
  cases a; cases b
  simp at h
  simpa using h
section
local macro_rules | `(tactic| k_upd) => `(tactic| (first | exact trivial | exact rfl | ((try dsimp only); first | assumption | exact fits62 (by omega) (by omega) | exact cmul_s (by omega) (by omega) | exact cpow_s (by omega) (by omega) (by omega) | exact And.intro (by omega) (clog_s (by omega)) | exact Nat.le_of_ble_eq_true rfl | decide | omega)))
local macro_rules | `(tactic| k_memK) => `(tactic| first | (refine an_i ?_ ?_; focus k_upd) | refine ex_i rfl ?_ | refine ite_t rfl ?_ | refine ite_f Bool.false_ne_true ?_)
local macro_rules | `(tactic| k_allIn) => `(tactic| repeat k_memK)

def Bx (m : Int) (d : D) : Prop := ∃ a b n : Int, d = .lst [.int a, .int b, .int n] ∧ 0 ≤ a ∧ 0 ≤ b ∧ b < 2147483647 ∧ 0 ≤ n ∧ n ≤ m
theorem Bx.mono {m k : Int} {d : D} (h : Bx m d) (l : m ≤ k) : Bx k d := by
  obtain ⟨a, b, n, h1, h2, h3, h4, h5, h6⟩ := h
  exact ⟨a, b, n, h1, h2, h3, h4, h5, by omega⟩
def takeM (c : Int) : DStm :=
  mSeq (mIfS (mB (mOp2 aGt (mOp2 aIx (mVar 0) (mC (.int 0))) (mC (.int 0)))) (mSeq (mSet 2 (mOp2 aMod (mOp2 aIx (mVar 0) (mC (.int 0))) (mVar 1))) (mSeq (mSetIx 0 (mC (.int 0)) (mOp2 aFdiv (mOp2 aIx (mVar 0) (mC (.int 0))) (mVar 1))) (mRet (mVar 2)))) (mSkip)) (mSeq (mSetIx 0 (mC (.int 2)) (mOp2 aAdd (mOp2 aIx (mVar 0) (mC (.int 2))) (mC (.int 1)))) (mSeq (mSet 3 (mOp2 aMod (mOp2 aPow (mOp2 aAdd (mOp2 aAdd (mOp2 aIx (mVar 0) (mC (.int 1))) (mOp2 aMul (mC (.int 7919)) (mOp2 aIx (mVar 0) (mC (.int 2))))) (mC (.int c))) (mC (.int 5))) (mC (.int 2147483647)))) (mSeq (mSet 4 (mOp2 aMod (mOp2 aPow (mOp2 aAdd (mOp2 aAdd (mOp2 aFdiv (mVar 3) (mC (.int 8))) (mOp2 aMul (mOp2 aMul (mC (.int 96581)) (mOp2 aIx (mVar 0) (mC (.int 2)))) (mOp2 aIx (mVar 0) (mC (.int 2))))) (mC (.int 3))) (mC (.int 3))) (mC (.int 2147483629)))) (mRet (mOp2 aMod (mOp2 aAdd (mOp2 aFdiv (mVar 3) (mC (.int 4))) (mOp2 aMul (mC (.int 536870909)) (mOp2 aFdiv (mVar 4) (mC (.int 4))))) (mVar 1))))))
def sdTake : DSpec := fun args R => ∃ (m many : Int) (d : D), args = [.own true d, .val (.int many)] ∧ Bx m d ∧ m < 900000 ∧ 0 < many ∧ many < 1000000 ∧
  ∀ (k : Int) (d' : D), 0 ≤ k → k < many → Bx (m + 1) d' → R (.vl (.int k)) [.own true d', .no]
theorem take_len : ∀ args R, sdTake args R → args.length = 2 := by
  rintro args R ⟨m, many, d, rfl, _⟩; rfl
theorem take_i {args : List Slot} {R : RV → List Slot → Prop} {m many : Int} {d : D} (B : Bx m d) (hm : m < 900000) (h0 : 0 < many) (h1 : many < 1000000) (e : args = [.own true d, .val (.int many)])
    (k : ∀ (k : Int) (d' : D), 0 ≤ k → k < many → Bx (m + 1) d' → R (.vl (.int k)) [.own true d', .no]) : sdTake args R := ⟨m, many, d, e, B, hm, h0, h1, k⟩
theorem take_spec {c : Int} (hc : c.natAbs < 1000000) : ∀ args R, sdTake args R → takeM c { nx := fun e => R (.vl .non) (outs 2 e), rt := fun r e => R r (outs 2 e) } (startE 5 args) := by
  rintro args R ⟨m, many, d, rfl, ⟨a, b, n, rfl, h3, h4, h5, h6, h7⟩, hm, h1, h2, h8⟩
  have q0 : 0 ≤ 96581 * (n + 1) * (n + 1) := Int.mul_nonneg (by omega) (by omega)
  have q1 : 96581 * (n + 1) * (n + 1) ≤ 96581 * 1000000 * 1000000 := Int.mul_le_mul (by omega) (by omega) (by omega) (by omega)
  k_allIn
  refine ite_i (fun cc => ?_) (fun cc => ?_)
  · k_allIn
    exact h8 _ _ (Int.emod_nonneg _ (by omega)) (Int.emod_lt_of_pos _ h1) ⟨_, b, n, rfl, Int.ediv_nonneg h3 (by omega), h4, h5, h6, by omega⟩
  · k_allIn
    exact h8 _ _ (Int.emod_nonneg _ (by omega)) (Int.emod_lt_of_pos _ h1) ⟨a, b, n + 1, rfl, h3, h4, h5, by omega, by omega⟩
end
end DL

set_option Elab.async false
set_option linter.all false
set_option maxRecDepth 100000
set_option maxHeartbeats 4000000
set_option autoImplicit false
/-! DL20: the drawn names. -/
namespace DL
open PySem L2

def LET : Str := "abcdefghijklmnopqrstuvwxyz"
def okName (s : Str) : Prop := 1 ≤ s.length ∧ s.length ≤ 8 ∧ ∀ c ∈ s.cps.toList, c ∈ LET.cps.toList
structure NamesOk (m : Nat) (l : List Str) : Prop where
  len : l.length = m
  ok : ∀ s ∈ l, okName s
  nd : l.Nodup
def namesM (sd_l_take : DSpec) : DStm :=
  mSeq (mSet 2 (mC (.str "abcdefghijklmnopqrstuvwxyz"))) (mSeq (mUn 2 (gsCons (gN 3) (gsCons (gN 4) (gsNil))) (mTup (mCons (mCall sd_l_take [] (mcCons (mVar 0) (mcCons (mC (.int 3)) (mcNil)))) (mCons (mCall sd_l_take [] (mcCons (mVar 0) (mcCons (mC (.int 26)) (mcNil)))) (mNil))))) (mSeq (mUn 2 (gsCons (gN 5) (gsCons (gN 6) (gsNil))) (mTup (mCons (mOp2 aAdd (mC (.int 1)) (mCall sd_l_take [] (mcCons (mVar 0) (mcCons (mC (.int 8)) (mcNil))))) (mCons (mOp2 aIx (mLst (mCons (mC (.int 1)) (mCons (mC (.int 3)) (mCons (mC (.int 5)) (mCons (mC (.int 7)) (mCons (mC (.int 9)) (mCons (mC (.int 11)) (mCons (mC (.int 15)) (mNil))))))))) (mCall sd_l_take [] (mcCons (mVar 0) (mcCons (mC (.int 7)) (mcNil))))) (mNil))))) (mSeq (mSet 7 (mCall sd_l_take [] (mcCons (mVar 0) (mcCons (mVar 5) (mcNil))))) (mSeq (mSet 8 (mM1 aJoin (mC (.str "")) (mLc (mRange1 (mC (.int 7))) (gN 11) (mYes) (mOp2 aIx (mVar 2) (mCall sd_l_take [] (mcCons (mVar 0) (mcCons (mC (.int 26)) (mcNil))))) [11]))) (mSeq (mIfS (mB (mOp2 aEq (mVar 3) (mC (.int 0)))) (mSeq (mSet 9 (mM1 aSplit (mC (.str "here silent gone top back add begin cut leave stop wrong right lie turn takes gives")) (mC (.str " ")))) (mSeq (mSet 6 (mOp2 aIx (mLst (mCons (mC (.int 1)) (mCons (mC (.int 3)) (mCons (mC (.int 5)) (mCons (mC (.int 7)) (mCons (mC (.int 9)) (mCons (mC (.int 11)) (mCons (mC (.int 13)) (mNil))))))))) (mOp2 aMod (mVar 6) (mC (.int 7))))) (mRet (mLc (mRange1 (mVar 1)) (gN 11) (mYes) (mOp2 aIx (mVar 9) (mOp2 aMod (mOp2 aAdd (mVar 4) (mOp2 aMul (mVar 6) (mVar 11))) (mC (.int 16)))) [11])))) (mSkip)) (mSeq (mIfS (mAndT (mB (mOp2 aEq (mVar 3) (mC (.int 1)))) (mB (mOp2 aLe (mVar 1) (mC (.int 8))))) (mSeq (mSet 8 (mOp2 aAdd (mVar 8) (mOp2 aIx (mVar 2) (mVar 4)))) (mRet (mLc (mRange1 (mVar 1)) (gN 11) (mYes) (mSl (mVar 8) (moNo) (moSo (mOp2 aAdd (mC (.int 1)) (mOp2 aMod (mOp2 aAdd (mVar 7) (mVar 11)) (mC (.int 8)))))) [11]))) (mSkip)) (mSeq (mSet 10 (mLc (mRange1 (mVar 1)) (gN 11) (mYes) (mOp2 aIx (mVar 2) (mOp2 aMod (mOp2 aAdd (mVar 4) (mOp2 aMul (mVar 6) (mVar 11))) (mC (.int 26)))) [11])) (mRet (mLc (mIt (mVar 10)) (gN 12) (mYes) (mOp2 aAdd (mOp2 aAdd (mSl (mVar 8) (moNo) (moSo (mVar 7))) (mVar 12)) (mSl (mVar 8) (moSo (mVar 7)) (moSo (mOp2 aSub (mVar 5) (mC (.int 1)))))) [12])))))))))
def sdNames : DSpec := fun args R => ∃ (m : Int) (many : Nat) (d : D), args = [.own true d, .val (.int many)] ∧ Bx m d ∧ 0 ≤ m ∧ m < 800000 ∧ 1 ≤ many ∧ many ≤ 12 ∧
  ∀ (l : List Str) (d' : D), NamesOk many l → Bx (m + 13) d' → R (.tm (.lst (l.map .str))) [.own true d', .no]
theorem names_len : ∀ args R, sdNames args R → args.length = 2 := by
  rintro args R ⟨m, many, d, rfl, _⟩; rfl
theorem LET_list : LET.cps.toList = (List.range 26).map (· + 97) := by decide +kernel
theorem ixN_nat {n k : Nat} (h : k < n) : ixN n (k : Int) = some k := by
  unfold ixN
  rw [if_pos (by omega)]
  simp [h]
theorem atI_nat {α : Type} {l : List α} {k : Nat} {x : α} (h : l[k]? = some x) : atI l (k : Int) = some x := by
  have hk : k < l.length := by
    rcases Nat.lt_or_ge k l.length with z | z
    · exact z
    · rw [List.getElem?_eq_none z] at h; cases h
  unfold atI
  rw [ixN_nat hk]
  exact h
theorem let_at {k : Nat} (h : k < 26) : atI LET.cps.toList (k : Int) = some (k + 97) := by
  refine atI_nat ?_
  rw [LET_list, List.getElem?_map, List.getElem?_range h]
  rfl
theorem let_mem {k : Nat} (h : k < 26) : k + 97 ∈ LET.cps.toList := by
  rw [LET_list]
  exact List.mem_map.mpr ⟨k, List.mem_range.mpr h, rfl⟩
theorem join_nil_list (l : List Str) : (Txt.join "" l).cps.toList = (l.map fun s => s.cps.toList).flatten := by
  show (Builtin.Str.glued (Str.ofString "") l).cps.toList = _
  rw [StrLaws.glued_eq_join]
  have e : (Str.ofString "").cps.toList = [] := by decide
  induction l with
  | nil => rfl
  | cons a r ih =>
    cases r with
    | nil => simp [Str.join]
    | cons b r =>
      rw [show Str.join (Str.ofString "") (a :: b :: r) = a ++ Str.ofString "" ++ Str.join (Str.ofString "") (b :: r) from rfl, app_list, app_list, ih, e]
      simp
abbrev sg (c : Nat) : Str := ⟨#[c]⟩
def WORDS : List Str := ["here", "silent", "gone", "top", "back", "add", "begin", "cut", "leave", "stop", "wrong", "right", "lie", "turn", "takes", "gives"]
theorem words_split : Txt.split "here silent gone top back add begin cut leave stop wrong right lie turn takes gives" " " = WORDS := by decide +kernel
theorem words_ok : ∀ s ∈ WORDS, okName s := by
  have h : WORDS.all (fun s => decide (1 ≤ s.length) && decide (s.length ≤ 8) && s.cps.toList.all fun c => decide (c ∈ LET.cps.toList)) = true := by decide +kernel
  intro s m
  have := List.all_eq_true.mp h s m
  simp only [Bool.and_eq_true, decide_eq_true_eq, List.all_eq_true] at this
  exact ⟨this.1.1, this.1.2, this.2⟩
theorem words_nd : ∀ i j : Fin 16, WORDS.getD i.val "" = WORDS.getD j.val "" → i = j := by decide +kernel
theorem step_at {st : Int} (h0 : 0 ≤ st) (h1 : st < 7) : ∃ s : Int, atI [D.int 1, .int 3, .int 5, .int 7, .int 9, .int 11, .int 15] st = some (.int s) ∧ (s = 1 ∨ s = 3 ∨ s = 5 ∨ s = 7 ∨ s = 9 ∨ s = 11 ∨ s = 15) := by
  have : st = 0 ∨ st = 1 ∨ st = 2 ∨ st = 3 ∨ st = 4 ∨ st = 5 ∨ st = 6 := by omega
  rcases this with rfl | rfl | rfl | rfl | rfl | rfl | rfl <;> exact ⟨_, rfl, by decide⟩
theorem step_at2 {st : Int} (h0 : 0 ≤ st) (h1 : st < 7) : ∃ s : Int, atI [D.int 1, .int 3, .int 5, .int 7, .int 9, .int 11, .int 13] st = some (.int s) ∧ (s = 1 ∨ s = 3 ∨ s = 5 ∨ s = 7 ∨ s = 9 ∨ s = 11 ∨ s = 13) := by
  have : st = 0 ∨ st = 1 ∨ st = 2 ∨ st = 3 ∨ st = 4 ∨ st = 5 ∨ st = 6 := by omega
  rcases this with rfl | rfl | rfl | rfl | rfl | rfl | rfl <;> exact ⟨_, rfl, by decide⟩
theorem names_range (n : Nat) (nm : Nat → Str) : ((List.range n).filterMap fun k => some (D.str (nm k))) = ((List.range n).map nm).map D.str := by
  rw [List.map_map, ← List.filterMap_eq_map]; rfl
theorem cast_ix (a b k n : Nat) : ((a : Int) + (b : Int) * (k : Int)) % (n : Int) = (((a + b * k) % n : Nat) : Int) := by
  rw [Int.natCast_emod, Int.natCast_add, Int.natCast_mul]
theorem way0_ok {fn sp many : Nat} (hs : sp = 1 ∨ sp = 3 ∨ sp = 5 ∨ sp = 7 ∨ sp = 9 ∨ sp = 11 ∨ sp = 13) (hm : many ≤ 12) : NamesOk many ((List.range many).map fun k => WORDS.getD ((fn + sp * k) % 16) "") := by
  have hl : WORDS.length = 16 := by decide
  have ix : ∀ k, (fn + sp * k) % 16 < WORDS.length := fun k => by rw [hl]; omega
  have gd : ∀ k, WORDS.getD ((fn + sp * k) % 16) "" = WORDS[(fn + sp * k) % 16]'(ix k) := fun k => by rw [List.getD_eq_getElem?_getD, List.getElem?_eq_getElem (ix k)]; rfl
  refine ⟨by simp, fun s m => ?_, nodup_range_map fun i j hi hj e => ?_⟩
  · obtain ⟨k, _, rfl⟩ := List.mem_map.mp m
    rw [gd]
    exact words_ok _ (List.getElem_mem _)
  · have := congrArg Fin.val (words_nd ⟨(fn + sp * i) % 16, by omega⟩ ⟨(fn + sp * j) % 16, by omega⟩ e)
    simp only [] at this
    rcases hs with rfl | rfl | rfl | rfl | rfl | rfl | rfl <;> omega
theorem way1_ok {L : List Nat} {at_ many : Nat} (hL : L.length = 8) (hm : ∀ c ∈ L, c ∈ LET.cps.toList) (h8 : many ≤ 8) : NamesOk many ((List.range many).map fun k => ⟨(L.take (1 + (at_ + k) % 8)).toArray⟩) := by
  refine ⟨by simp, fun s m => ?_, nodup_range_map fun i j hi hj e => ?_⟩
  · obtain ⟨k, _, rfl⟩ := List.mem_map.mp m
    have h : (L.take (1 + (at_ + k) % 8)).length = 1 + (at_ + k) % 8 := by rw [List.length_take, hL]; omega
    refine ⟨?_, ?_, fun c hc => hm c (List.mem_of_mem_take (by simpa using hc))⟩
    · rw [len_list]; simp only []; rw [h]; omega
    · rw [len_list]; simp only []; rw [h]; omega
  · have h := congrArg (fun s : Str => s.cps.toList.length) e
    simp only [List.length_take, hL] at h
    omega
theorem way2_ok {L : List Nat} {at_ z fn sp many : Nat} (hL : L.length = 7) (hm : ∀ c ∈ L, c ∈ LET.cps.toList) (hz : z < 8) (ha : at_ ≤ z) (hs : sp = 1 ∨ sp = 3 ∨ sp = 5 ∨ sp = 7 ∨ sp = 9 ∨ sp = 11 ∨ sp = 15) (hmany : many ≤ 12) :
    NamesOk many ((List.range many).map fun k => ⟨(L.take at_ ++ [(fn + sp * k) % 26 + 97] ++ (L.drop at_).take (z - at_)).toArray⟩) := by
  refine ⟨by simp, fun s m => ?_, nodup_range_map fun i j hi hj e => ?_⟩
  · obtain ⟨k, _, rfl⟩ := List.mem_map.mp m
    have h : (L.take at_ ++ [(fn + sp * k) % 26 + 97] ++ (L.drop at_).take (z - at_)).length = z + 1 := by
      simp only [List.length_append, List.length_take, List.length_drop, List.length_cons, List.length_nil, hL]; omega
    refine ⟨?_, ?_, fun c hc => ?_⟩
    · rw [len_list]; simp only []; rw [h]; omega
    · rw [len_list]; simp only []; rw [h]; omega
    · have hc' : c ∈ L.take at_ ++ [(fn + sp * k) % 26 + 97] ++ (L.drop at_).take (z - at_) := hc
      rcases List.mem_append.mp hc' with q | q
      · rcases List.mem_append.mp q with q | q
        · exact hm c (List.mem_of_mem_take q)
        · rw [List.mem_singleton.mp q]; exact let_mem (Nat.mod_lt _ (by decide))
      · exact hm c (List.mem_of_mem_drop (List.mem_of_mem_take q))
  · have h := congrArg (fun s : Str => s.cps.toList[at_]?) e
    have la : (L.take at_).length = at_ := by rw [List.length_take, hL]; omega
    have g : ∀ c : Nat, (L.take at_ ++ [c] ++ (L.drop at_).take (z - at_))[at_]? = some c := fun c => by
      rw [List.append_assoc, List.getElem?_append_right (by omega), la]; simp
    simp only [g, Option.some.injEq] at h
    rcases hs with rfl | rfl | rfl | rfl | rfl | rfl | rfl <;> omega
section
local macro_rules | `(tactic| k_upd) => `(tactic| (first | exact trivial | exact rfl | ((try dsimp only); first | assumption | exact fits62 (by omega) (by omega) | exact cmul_s (by omega) (by omega) | exact cpow_s (by omega) (by omega) (by omega) | exact And.intro (by omega) (clog_s (by omega)) | exact Nat.le_of_ble_eq_true rfl | decide | omega)))
local macro_rules | `(tactic| k_memK) => `(tactic| first | (refine an_i ?_ ?_; focus k_upd) | refine ex_i rfl ?_ | refine ite_t rfl ?_ | refine ite_f Bool.false_ne_true ?_)
local macro_rules | `(tactic| k_allIn) => `(tactic| repeat k_memK)

set_option pp.deepTerms false
set_option pp.maxSteps 1500
theorem le_line {n : Nat} (h : n ≤ 16000000) : n ≤ sizeLine := Nat.le_trans h (Nat.le_of_ble_eq_true rfl)
theorem cut_list (s : Str) (lo hi : Option Int) : (cutS s lo hi).cps.toList = (s.cps.toList.drop (HT.sIx s.length 0 lo)).take (HT.sIx s.length s.length hi - HT.sIx s.length 0 lo) := by
  unfold cutS; simp
def lastM : DStm :=
  mSeq (mSet 10 (mLc (mRange1 (mVar 1)) (gN 11) mYes (mOp2 aIx (mVar 2) (mOp2 aMod (mOp2 aAdd (mVar 4) (mOp2 aMul (mVar 6) (mVar 11))) (mC (.int 26)))) [11]))
    (mRet (mLc (mIt (mVar 10)) (gN 12) mYes (mOp2 aAdd (mOp2 aAdd (mSl (mVar 8) moNo (moSo (mVar 7))) (mVar 12)) (mSl (mVar 8) (moSo (mVar 7)) (moSo (mOp2 aSub (mVar 5) (mC (.int 1)))))) [12]))
theorem last_ok {R : RV → List Slot → Prop} {many fn sp at_ z : Nat} {d6 : D} {way : Int} {S : Str} (h3 : many ≤ 12) (hf : fn < 26) (hs : sp = 1 ∨ sp = 3 ∨ sp = 5 ∨ sp = 7 ∨ sp = 9 ∨ sp = 11 ∨ sp = 15) (hz : z < 8) (ha : at_ ≤ z) (hS : S.cps.toList.length = 7) (hm : ∀ c ∈ S.cps.toList, c ∈ LET.cps.toList)
    (fin : ∀ l : List Str, NamesOk many l → R (.tm (.lst (l.map .str))) [.own true d6, .no]) :
    lastM { nx := fun e => R (.vl .non) (outs 2 e), rt := fun r e => R r (outs 2 e) } [.own true d6, .val (.int (many : Int)), .val (.str LET), .val (.int way), .val (.int (fn : Int)), .val (.int (1 + (z : Int))), .val (.int (sp : Int)), .val (.int (at_ : Int)), .val (.str S), .no, .no, .no, .no] := by
  have lS : S.length ≤ sizeLine := by rw [len_list, hS]; exact Nat.le_of_ble_eq_true rfl
  k_allIn
  refine compI_range (n := many) (fun k => some (.str (sg ((fn + sp * k) % 26 + 97)))) trivial (by omega) (fun k hk K hK => ?_) ?_
  · k_allIn
    have e : atI LET.cps.toList (((fn : Int) + (sp : Int) * (k : Int)) % 26) = some ((fn + sp * k) % 26 + 97) := by
      rw [show (26 : Int) = ((26 : Nat) : Int) from rfl, cast_ix]
      exact let_at (Nat.mod_lt _ (by decide))
    refine ex_i e ?_
    exact hK
  · rw [names_range]
    k_allIn
    refine compI_list (fun d => match d with
      | .str q => some (.str (cutS S none (some (at_ : Int)) ++ q ++ cutS S (some (at_ : Int)) (some (1 + (z : Int) - 1))))
      | _ => none) trivial (by simp; omega) (fun x hx K hK => ?_) ?_
    · obtain ⟨q, hq, rfl⟩ := List.mem_map.mp hx
      obtain ⟨kk, _, rfl⟩ := List.mem_map.mp hq
      k_allIn
      refine an_i (le_line (by rw [len_list, cut_list, List.length_take, List.length_drop]; show _ + 1 ≤ _; omega)) ?_
      k_allIn
      refine an_i (le_line (by rw [len_list, len_list, app_list, cut_list, cut_list, List.length_append, List.length_take, List.length_drop, List.length_take, List.length_drop]; show _ + 1 + _ ≤ _; omega)) ?_
      exact hK
    · have e : ((((List.range many).map fun k => sg ((fn + sp * k) % 26 + 97)).map D.str).filterMap fun d => match d with
          | .str q => some (.str (cutS S none (some (at_ : Int)) ++ q ++ cutS S (some (at_ : Int)) (some (1 + (z : Int) - 1))))
          | _ => none) = (((List.range many).map fun k => (⟨(S.cps.toList.take at_ ++ [(fn + sp * k) % 26 + 97] ++ (S.cps.toList.drop at_).take (z - at_)).toArray⟩ : Str)).map D.str) := by
        rw [List.map_map, List.filterMap_map, List.map_map, ← List.filterMap_eq_map]
        refine congrFun (congrArg _ (funext fun k => ?_)) _
        show some (D.str _) = some (D.str _)
        refine congrArg some (congrArg D.str (str_ext ?_))
        rw [app_list, app_list, cut_list, cut_list, show (1 + (z : Int) - 1) = ((z : Nat) : Int) by omega]
        simp only [HT.sIx_nat, HT.sIx_none, List.drop_zero, Nat.sub_zero]
        rw [len_list, hS]
        simp only [show min at_ 7 = at_ by omega, show min z 7 = z by omega]
      show R (.tm (.lst (List.filterMap _ _))) _
      refine (congrArg (fun l => R (.tm (.lst l)) [.own true d6, .no]) e).mpr ?_
      exact fin _ (way2_ok hS hm hz ha hs h3)
theorem names_spec : ∀ args R, sdNames args R → namesM sdTake { nx := fun e => R (.vl .non) (outs 2 e), rt := fun r e => R r (outs 2 e) } (startE 13 args) := by
  rintro args R ⟨m, many, d, rfl, B0, h0, h1, h2, h3, fin⟩
  k_allIn
  refine take_i B0 (by omega) (by decide) (by decide) rfl fun way d1 w0 w1 B1 => ?_
  k_allIn
  refine take_i B1 (by omega) (by decide) (by decide) rfl fun first d2 f0 f1 B2 => ?_
  k_allIn
  refine take_i B2 (by omega) (by decide) (by decide) rfl fun size d3 z0 z1 B3 => ?_
  k_allIn
  refine take_i B3 (by omega) (by decide) (by decide) rfl fun st d4 s0 s1 B4 => ?_
  k_allIn
  obtain ⟨step, hs, hstep⟩ := step_at s0 s1
  refine ex_i hs ?_
  k_allIn
  refine take_i B4 (by omega) (by omega) (by omega) rfl fun at_ d5 a0 a1 B5 => ?_
  k_allIn
  refine compI_inv (fun j acc env => j ≤ 7 ∧ ∃ d6, Bx (m + 5 + j) d6 ∧ (∃ L : List Nat, L.length = j ∧ (∀ c ∈ L, c ∈ LET.cps.toList) ∧ acc = L.map fun c => .str (sg c)) ∧
    env = [.own true d6, .val (.int many), .val (.str LET), .val (.int way), .val (.int first), .val (.int (1 + size)), .val (.int step), .val (.int at_), .no, .no, .no, .no, .no]) ?_ ?_ ?_ ?_
  · exact ⟨by omega, d5, B5.mono (by omega), ⟨[], rfl, by simp, rfl⟩, rfl⟩
  · rintro j acc env ⟨hj, d6, B6, ⟨L, hL, hm, rfl⟩, rfl⟩
    exact ⟨trivial, by rw [List.length_map]; omega⟩
  · rintro j x acc env hx ⟨hj, d6, B6, ⟨L, hL, hm, rfl⟩, rfl⟩ K hK
    have hj7 : j < 7 := by
      rcases Nat.lt_or_ge j 7 with z | z
      · exact z
      · rw [List.getElem?_eq_none (by simpa [rangeD] using z)] at hx; cases hx
    k_allIn
    refine take_i B6 (by omega) (by omega) (by omega) rfl fun c d7 c0 c1 B7 => ?_
    k_allIn
    obtain ⟨cn, rfl⟩ : ∃ cn : Nat, c = (cn : Int) := ⟨c.toNat, by omega⟩
    refine ex_i (let_at (show cn < 26 by omega)) ?_
    refine hK _ _ ⟨by omega, d7, B7.mono (by omega), ⟨L ++ [cn + 97], by simp [hL], ?_, ?_⟩, rfl⟩
    · intro z hz
      rcases List.mem_append.mp hz with hz | hz
      · exact hm z hz
      · rw [List.mem_singleton.mp hz]; exact let_mem (by omega)
    · simp
  rintro acc env ⟨_, d6, B6, ⟨L, hL, hm, rfl⟩, rfl⟩
  have hL7 : L.length = 7 := by simpa [rangeD] using hL
  have eL : asStrs (L.map fun c => .str (sg c)) = some (L.map sg) := by
    rw [show (L.map fun c => D.str (sg c)) = (L.map sg).map D.str by rw [List.map_map]; rfl]
    exact asStrs_map _
  have eS : (Txt.join "" (L.map sg)).cps.toList = L := by
    rw [join_nil_list, List.map_map]
    show (L.map fun c => [c]).flatten = L
    clear eL hL7 hL hm
    induction L with
    | nil => rfl
    | cons a r ih => simp [ih]
  refine ex_i eL ?_
  refine an_i (by
    have : ((L.map sg).map (·.length)).sum = L.length := by
      clear eL hL7 hL hm eS
      induction L with
      | nil => rfl
      | cons a r ih => rw [List.map_cons, List.map_cons, List.sum_cons, ih, List.length_cons]; show 1 + _ = _; omega
    rw [this, List.length_map, hL7]
    exact Nat.le_of_ble_eq_true rfl) ?_
  revert eS
  generalize Txt.join "" (L.map sg) = S
  intro eS
  have lS : S.length = 7 := by rw [len_list, eS]; exact hL7
  k_allIn
  obtain ⟨fn, rfl⟩ : ∃ fn : Nat, first = (fn : Int) := ⟨first.toNat, by omega⟩
  refine ite_i (fun cw => ?_) (fun cw => ?_)
  · k_allIn
    refine an_i (by rw [words_split]; decide +kernel) ?_
    have eW : (Txt.split "here silent gone top back add begin cut leave stop wrong right lie turn takes gives" " ").map D.str = WORDS.map D.str := by rw [words_split]
    revert eW
    generalize (Txt.split "here silent gone top back add begin cut leave stop wrong right lie turn takes gives" " ").map D.str = W
    intro eW
    obtain ⟨st2, hs2, hstep2⟩ := step_at2 (st := step % 7) (by omega) (by omega)
    k_allIn
    refine ex_i hs2 ?_
    k_allIn
    obtain ⟨sp, rfl⟩ : ∃ sp : Nat, st2 = (sp : Int) := ⟨st2.toNat, by omega⟩
    refine compI_range (n := many) (fun k => some (.str (WORDS.getD ((fn + sp * k) % 16) ""))) trivial (by omega) (fun k hk K hK => ?_) ?_
    · k_allIn
      have e : atI W (((fn : Int) + (sp : Int) * (k : Int)) % 16) = some (D.str (WORDS.getD ((fn + sp * k) % 16) "")) := by
        rw [eW, show (16 : Int) = ((16 : Nat) : Int) from rfl, cast_ix]
        refine atI_nat ?_
        have hl : (fn + sp * k) % 16 < WORDS.length := by rw [show WORDS.length = 16 by decide]; omega
        rw [List.getElem?_map, List.getElem?_eq_getElem hl, List.getD_eq_getElem?_getD, List.getElem?_eq_getElem hl]
        rfl
      refine ex_i e ?_
      exact hK
    · rw [names_range]
      exact fin _ d6 (way0_ok (by omega) h3) (B6.mono (by simp [rangeD]; omega))
  · obtain ⟨sp, rfl⟩ : ∃ sp : Nat, step = (sp : Int) := ⟨step.toNat, by omega⟩
    obtain ⟨z, rfl⟩ : ∃ z : Nat, size = (z : Int) := ⟨size.toNat, by omega⟩
    obtain ⟨an, rfl⟩ : ∃ an : Nat, at_ = (an : Int) := ⟨at_.toNat, by omega⟩
    have last := last_ok (R := R) (many := many) (fn := fn) (sp := sp) (at_ := an) (z := z) (d6 := d6) (way := way) (S := S) h3 (by omega) (by omega) (by omega) (by omega) (by rw [eS]; exact hL7) (by rw [eS]; exact hm) (fun l hl => fin l d6 hl (B6.mono (by simp [rangeD]; omega)))
    k_allIn
    refine ite_i (fun c1 => ?_) (fun c1 => ?_)
    · k_allIn
      refine ite_i (fun c2 => ?_) (fun c2 => ?_)
      · have hm8 : many ≤ 8 := by
          have := of_decide_eq_true c2
          omega
        have lS1 : (S ++ sg (fn + 97)).length ≤ sizeLine := le_line (by rw [len_list, app_list, List.length_append, eS, hL7]; exact Nat.le_of_ble_eq_true rfl)
        k_allIn
        refine ex_i (let_at (show fn < 26 by omega)) ?_
        k_allIn
        refine an_i (le_line (by rw [lS]; exact Nat.le_of_ble_eq_true rfl)) ?_
        k_allIn
        refine compI_range (n := many) (fun k => some (.str (cutS (S ++ sg (fn + 97)) none (some (1 + ((an : Int) + (k : Int)) % 8))))) trivial (by omega) (fun k hk K hK => ?_) ?_
        · k_allIn
          exact hK
        · rw [names_range]
          have e : ((List.range many).map fun (k : Nat) => cutS (S ++ sg (fn + 97)) none (some (1 + ((an : Int) + (k : Int)) % 8))) = (List.range many).map fun k => (⟨((L ++ [fn + 97]).take (1 + (an + k) % 8)).toArray⟩ : Str) := by
            refine congrFun (congrArg _ (funext fun k => str_ext ?_)) _
            rw [cut_list, show (1 + ((an : Int) + (k : Int)) % 8) = ((1 + (an + k) % 8 : Nat) : Int) by omega, HT.sIx_nat, HT.sIx_none, len_list, app_list, eS]
            simp only [List.drop_zero, Nat.sub_zero]
            rw [show (L ++ (sg (fn + 97)).cps.toList) = L ++ [fn + 97] from rfl, show min (1 + (an + k) % 8) (L ++ [fn + 97]).length = 1 + (an + k) % 8 by rw [List.length_append, hL7]; simp; omega]
          rw [e]
          refine fin _ d6 (way1_ok (by rw [List.length_append, hL7]; rfl) (fun c hc => ?_) hm8) (B6.mono (by simp [rangeD]; omega))
          rcases List.mem_append.mp hc with q | q
          · exact hm c q
          · rw [List.mem_singleton.mp q]; exact let_mem (by omega)
      · exact last
    · exact last
end
end DL

set_option Elab.async false
set_option linter.all false
set_option maxRecDepth 100000
set_option maxHeartbeats 4000000
set_option autoImplicit false
namespace Law
open PySem L2 DL

def m_is_name  : DStm :=
  mRet (mAndV (mIsi (mVar 0) "str") (mAndV (mChain aLe aLe (mC (.int 1)) (mFn aLen (maCons (mVar 0) (maNil))) (mC (.int 8))) (mFn aAll (maCons (mLc (mIt (mVar 0)) (gN 1) (mYes) (mOp2 aIn (mVar 1) (mC (.str "abcdefghijklmnopqrstuvwxyz"))) [1]) (maNil)))))

def m_is_text  : DStm :=
  mSeq (mIfS (mOrT (mNotT (mTru (mIsi (mVar 0) "str"))) (mB (mOp2 aGt (mFn aLen (maCons (mVar 0) (maNil))) (mC (.int 60))))) (mRet (mC (.bl false))) (mSkip)) (mRet (mFn aAll (maCons (mLc (mIt (mVar 0)) (gN 1) (mYes) (mAndV (mChain aLe aLe (mC (.str " ")) (mVar 1) (mC (.str "~"))) (mOp2 aNe (mFn aOrd1 (maCons (mVar 1) (maNil))) (mC (.int 37)))) [1]) (maNil))))

def m_number_in  : DStm :=
  mSeq (mIfS (mOrT (mNotT (mTru (mIsi (mVar 0) "str"))) (mOrT (mB (mOp2 aEq (mVar 0) (mC (.str "")))) (mOrT (mB (mOp2 aGt (mFn aLen (maCons (mVar 0) (maNil))) (mC (.int 30)))) (mNotT (mTru (mFn aAll (maCons (mLc (mIt (mVar 0)) (gN 4) (mYes) (mOp2 aIn (mVar 4) (mC (.str "0123456789"))) [4]) (maNil)))))))) (mRet (mC .non)) (mSkip)) (mSeq (mIfS (mAndT (mB (mOp2 aEq (mOp2 aIx (mVar 0) (mC (.int 0))) (mC (.str "0")))) (mB (mOp2 aNe (mVar 0) (mC (.str "0"))))) (mRet (mC .non)) (mSkip)) (mSeq (mSet 3 (mFn aIntOf (maCons (mVar 0) (maNil)))) (mRet (mIf (mB (mChain aLe aLe (mVar 1) (mVar 3) (mVar 2))) (mVar 3) (mC .non)))))

def m_words_in  : DStm :=
  mSeq (mIfS (mNotT (mTru (mIsi (mVar 0) "str"))) (mRet (mC .non)) (mSkip)) (mSeq (mSet 1 (mM1 aSplit (mVar 0) (mC (.str " ")))) (mSeq (mIfS (mOrT (mB (mOp2 aIn (mC (.str "")) (mVar 1))) (mB (mOp2 aIn (mC (.str "\n")) (mVar 0)))) (mRet (mC .non)) (mSkip)) (mRet (mVar 1))))

def m_split_text (sd_words_in : DSpec) : DStm :=
  mSeq (mUn 3 (gsCons (gN 1) (gsCons (gN 2) (gsCons (gN 3) (gsNil)))) (mM1 aPart (mVar 0) (mC (.str "=")))) (mSeq (mIfS (mB (mOp2 aEq (mVar 2) (mC (.str "")))) (mRet (mTup (mCons (mCall sd_words_in [] (mcCons (mVar 0) (mcNil))) (mCons (mC .non) (mNil))))) (mSkip)) (mRet (mTup (mCons (mIf (mTru (mM1 aEnds (mVar 1) (mC (.str " ")))) (mCall sd_words_in [] (mcCons (mSl (mVar 1) (moNo) (moSo (mNeg (mC (.int 1))))) (mcNil))) (mC .non)) (mCons (mVar 3) (mNil))))))

def m_word_id_in (sd_is_name : DSpec) (sd_number_in : DSpec) : DStm :=
  mSeq (mPar2 1 2 (mCons (mCallK sd_number_in (arrD 1 2 [0, 1, 2] (List.map CA.vl [])) (mcCons (mOp2 aIx (mVar 0) (mC (.int 1))) (mcNil)) (mcCons (mC (.int 1)) (mcCons (mC (.int 999999999999999999999999999999)) (mcNil)))) (mCons (mCallK sd_number_in (arrD 1 2 [0, 1, 2] (List.map CA.vl [])) (mcCons (mOp2 aIx (mVar 0) (mC (.int 2))) (mcNil)) (mcCons (mC (.int 1)) (mcCons (mC (.int 999999999999999999999999999999)) (mcNil)))) (mNil)))) (mRet (mIf (mAndT (mTru (mCall sd_is_name [] (mcCons (mOp2 aIx (mVar 0) (mC (.int 0))) (mcNil)))) (mAndT (mB (mOp2 aIsN (mVar 1) (mC .non))) (mB (mOp2 aIsN (mVar 2) (mC .non))))) (mTup (mCons (mOp2 aIx (mVar 0) (mC (.int 0))) (mCons (mVar 1) (mCons (mVar 2) (mNil))))) (mC .non)))

def m_sign_id_in (sd_number_in : DSpec) (sd_word_id_in : DSpec) : DStm :=
  mSeq (mSet 1 (mM1 aSplit (mVar 0) (mC (.str ".")))) (mSeq (mIfS (mB (mOp2 aNe (mFn aLen (maCons (mVar 1) (maNil))) (mC (.int 4)))) (mRet (mC .non)) (mSkip)) (mSeq (mPar2 2 3 (mCons (mCall sd_word_id_in [] (mcCons (mSl (mVar 1) (moNo) (moSo (mC (.int 3)))) (mcNil))) (mCons (mCallK sd_number_in (arrD 1 1 [0, 1, 2] (List.map CA.vl [D.int 0])) (mcCons (mOp2 aIx (mVar 1) (mC (.int 3))) (mcNil)) (mcCons (mOp2 aSub (mC (.int 60)) (mC (.int 1))) (mcNil))) (mNil)))) (mRet (mIf (mAndT (mB (mOp2 aIsN (mVar 2) (mC .non))) (mB (mOp2 aIsN (mVar 3) (mC .non)))) (mOp2 aAdd (mVar 2) (mTup (mCons (mVar 3) (mNil)))) (mC .non)))))

def m_add_in (sd_number_in : DSpec) (sd_sign_id_in : DSpec) : DStm :=
  mSeq (mIfS (mOrT (mB (mOp2 aNe (mFn aLen (maCons (mVar 0) (maNil))) (mC (.int 3)))) (mOrT (mB (mOp2 aNe (mOp2 aIx (mVar 0) (mC (.int 0))) (mC (.str "add")))) (mB (mOp2 aEq (mVar 1) (mC (.str "")))))) (mRet (mC .non)) (mSkip)) (mSeq (mSet 2 (mCallK sd_number_in (arrD 1 1 [0, 2, 1] (List.map CA.vl [D.int 999999])) (mcCons (mOp2 aIx (mVar 0) (mC (.int 1))) (mcNil)) (mcCons (mC (.int 1)) (mcNil)))) (mSeq (mSet 3 (mIf (mB (mOp2 aEq (mOp2 aIx (mVar 0) (mC (.int 2))) (mC (.str "top")))) (mTup (mNil)) (mCall sd_sign_id_in [] (mcCons (mOp2 aIx (mVar 0) (mC (.int 2))) (mcNil))))) (mRet (mIf (mAndT (mB (mOp2 aIsN (mVar 2) (mC .non))) (mB (mOp2 aIsN (mVar 3) (mC .non)))) (mTup (mCons (mC (.str "add")) (mCons (mVar 2) (mCons (mVar 3) (mCons (mVar 1) (mNil)))))) (mC .non)))))

def m_cut_in (sd_number_in : DSpec) (sd_word_id_in : DSpec) : DStm :=
  mSeq (mIfS (mOrT (mB (mOp2 aNe (mFn aLen (maCons (mVar 0) (maNil))) (mC (.int 4)))) (mOrT (mB (mOp2 aNe (mOp2 aIx (mVar 0) (mC (.int 0))) (mC (.str "cut")))) (mB (mOp2 aNe (mFn aLen (maCons (mM1 aSplit (mOp2 aIx (mVar 0) (mC (.int 1))) (mC (.str "."))) (maNil))) (mC (.int 3)))))) (mRet (mC .non)) (mSkip)) (mSeq (mSet 1 (mCall sd_word_id_in [] (mcCons (mM1 aSplit (mOp2 aIx (mVar 0) (mC (.int 1))) (mC (.str "."))) (mcNil)))) (mSeq (mUnL 2 (gsCons (gN 2) (gsCons (gN 3) (gsNil))) (mLc (mIt (mSl (mVar 0) (moSo (mC (.int 2))) (moNo))) (gN 4) (mYes) (mCallK sd_number_in (arrD 1 1 [0, 1, 2] (List.map CA.vl [D.int 0])) (mcCons (mVar 4) (mcNil)) (mcCons (mOp2 aSub (mC (.int 60)) (mC (.int 1))) (mcNil))) [4])) (mSeq (mIfS (mOrT (mB (mOp2 aIs (mVar 1) (mC .non))) (mOrT (mB (mOp2 aIs (mVar 2) (mC .non))) (mOrT (mB (mOp2 aIs (mVar 3) (mC .non))) (mB (mOp2 aGt (mVar 2) (mVar 3)))))) (mRet (mC .non)) (mSkip)) (mRet (mTup (mCons (mC (.str "cut")) (mCons (mVar 1) (mCons (mVar 2) (mCons (mVar 3) (mNil))))))))))

def m_edit_in (sd_is_text : DSpec) (sd_split_text : DSpec) (sd_add_in : DSpec) (sd_cut_in : DSpec) : DStm :=
  mSeq (mIfS (mNotT (mTru (mCall sd_is_text [] (mcCons (mVar 0) (mcNil))))) (mRet (mC .non)) (mSkip)) (mSeq (mUn 2 (gsCons (gN 1) (gsCons (gN 2) (gsNil))) (mCall sd_split_text [] (mcCons (mVar 0) (mcNil)))) (mSeq (mIfS (mB (mOp2 aIs (mVar 1) (mC .non))) (mRet (mC .non)) (mSkip)) (mRet (mIf (mB (mOp2 aIs (mVar 2) (mC .non))) (mCall sd_cut_in [] (mcCons (mVar 1) (mcNil))) (mCall sd_add_in [] (mcCons (mVar 1) (mcCons (mVar 2) (mcNil))))))))

def m_l_cell  : DStm :=
  mSeq (mIfS (mB (mOp2 aLt (mVar 1) (mFn aLen (maCons (mVar 0) (maNil))))) (mRet (mOp2 aIx (mVar 0) (mVar 1))) (mSkip)) (mRet (mOp2 aAdd (mOp2 aMul (mC (.int 8101)) (mVar 1)) (mC (.int 91))))

def m_l_box  : DStm :=
  mRet (mLst (mCons (mFn aMax (maCons (mC (.int 0)) (maCons (mOp2 aSub (mVar 0) (mOp2 aPow (mC (.int 10)) (mC (.int 18)))) (maNil)))) (mCons (mOp2 aMod (mVar 0) (mC (.int 2147483629))) (mCons (mC (.int 0)) (mNil)))))

def m_l_take  : DStm :=
  mSeq (mIfS (mB (mOp2 aGt (mOp2 aIx (mVar 0) (mC (.int 0))) (mC (.int 0)))) (mSeq (mSet 2 (mOp2 aMod (mOp2 aIx (mVar 0) (mC (.int 0))) (mVar 1))) (mSeq (mSetIx 0 (mC (.int 0)) (mOp2 aFdiv (mOp2 aIx (mVar 0) (mC (.int 0))) (mVar 1))) (mRet (mVar 2)))) (mSkip)) (mSeq (mSetIx 0 (mC (.int 2)) (mOp2 aAdd (mOp2 aIx (mVar 0) (mC (.int 2))) (mC (.int 1)))) (mSeq (mSet 3 (mOp2 aMod (mOp2 aPow (mOp2 aAdd (mOp2 aAdd (mOp2 aIx (mVar 0) (mC (.int 1))) (mOp2 aMul (mC (.int 7919)) (mOp2 aIx (mVar 0) (mC (.int 2))))) (mC (.int 164))) (mC (.int 5))) (mC (.int 2147483647)))) (mSeq (mSet 4 (mOp2 aMod (mOp2 aPow (mOp2 aAdd (mOp2 aAdd (mOp2 aFdiv (mVar 3) (mC (.int 8))) (mOp2 aMul (mOp2 aMul (mC (.int 96581)) (mOp2 aIx (mVar 0) (mC (.int 2)))) (mOp2 aIx (mVar 0) (mC (.int 2))))) (mC (.int 3))) (mC (.int 3))) (mC (.int 2147483629)))) (mRet (mOp2 aMod (mOp2 aAdd (mOp2 aFdiv (mVar 3) (mC (.int 4))) (mOp2 aMul (mC (.int 536870909)) (mOp2 aFdiv (mVar 4) (mC (.int 4))))) (mVar 1))))))

def m_l_pick (sd_l_take : DSpec) : DStm :=
  mSeq (mSet 4 (mIf (mTru (mVar 3)) (mVar 2) (mVar 1))) (mRet (mOp2 aIx (mVar 4) (mCall sd_l_take [] (mcCons (mVar 0) (mcCons (mFn aLen (maCons (mVar 4) (maNil))) (mcNil))))))

def m_l_number (sd_l_pick : DSpec) : DStm :=
  mSeq (mSet 3 (mOp2 aAdd (mLst (mCons (mC (.str "1")) (mCons (mC (.str "7")) (mCons (mC (.str "30")) (mCons (mC (.str "59")) (mCons (mC (.str "12")) (mNil))))))) (mIf (mB (mOp2 aEq (mVar 1) (mC (.int 0)))) (mLst (mCons (mC (.str "0")) (mNil))) (mLst (mNil))))) (mSeq (mSet 4 (mLst (mCons (mC (.str "01")) (mCons (mC (.str "")) (mCons (mC (.str "x")) (mCons (mC (.str "-1")) (mCons (mC (.str "1 ")) (mCons (mC (.str "+1")) (mCons (mIf (mB (mOp2 aEq (mVar 1) (mC (.int 0)))) (mC (.str "60")) (mC (.str "0"))) (mCons (mOp2 aAdd (mC (.str "1")) (mOp2 aMulA (mC (.str "0")) (mC (.int 30)))) (mNil))))))))))) (mRet (mCall sd_l_pick [] (mcCons (mVar 0) (mcCons (mVar 3) (mcCons (mVar 4) (mcCons (mVar 2) (mcNil))))))))

def m_l_word (sd_l_take : DSpec) (sd_l_pick : DSpec) : DStm :=
  mSeq (mSet 2 (mIf (mTru (mVar 1)) (mCall sd_l_take [] (mcCons (mVar 0) (mcCons (mC (.int 3)) (mcNil)))) (mC (.int 9)))) (mSeq (mSet 3 (mCall sd_l_pick [] (mcCons (mVar 0) (mcCons (mLst (mCons (mC (.str "a")) (mCons (mC (.str "top")) (mCons (mC (.str "add")) (mCons (mC (.str "abcdefgh")) (mCons (mC (.str "cut")) (mNil))))))) (mcCons (mLst (mCons (mC (.str "")) (mCons (mC (.str "A")) (mCons (mC (.str "abcdefghi")) (mCons (mC (.str "a b")) (mCons (mC (.str "7")) (mNil))))))) (mcCons (mOp2 aEq (mVar 2) (mC (.int 0))) (mcNil))))))) (mSeq (mSet 4 (mCall sd_l_pick [] (mcCons (mVar 0) (mcCons (mLst (mCons (mC (.str "1")) (mCons (mC (.str "7")) (mCons (mC (.str "999999")) (mCons (mC (.str "1000000")) (mCons (mOp2 aMulA (mC (.str "9")) (mC (.int 30))) (mNil))))))) (mcCons (mLst (mCons (mC (.str "0")) (mCons (mC (.str "01")) (mCons (mC (.str "")) (mCons (mC (.str "x")) (mCons (mOp2 aMulA (mC (.str "9")) (mC (.int 31))) (mNil))))))) (mcCons (mOp2 aEq (mVar 2) (mC (.int 1))) (mcNil))))))) (mSeq (mSet 5 (mCall sd_l_pick [] (mcCons (mVar 0) (mcCons (mLst (mCons (mC (.str "1")) (mCons (mC (.str "30")) (mCons (mC (.str "4")) (mNil))))) (mcCons (mLst (mCons (mC (.str "0")) (mCons (mC (.str "01")) (mCons (mC (.str "")) (mCons (mC (.str "-1")) (mNil)))))) (mcCons (mOp2 aEq (mVar 2) (mC (.int 2))) (mcNil))))))) (mRet (mLst (mCons (mVar 3) (mCons (mVar 4) (mCons (mVar 5) (mNil)))))))))

def m_l_add (sd_l_take : DSpec) (sd_l_pick : DSpec) (sd_l_number : DSpec) (sd_l_word : DSpec) : DStm :=
  mSeq (mPar2 2 3 (mCons (mCall sd_l_word [] (mcCons (mVar 0) (mcCons (mOp2 aEq (mVar 1) (mC (.int 2))) (mcNil)))) (mCons (mCall sd_l_number [] (mcCons (mVar 0) (mcCons (mC (.int 0)) (mcCons (mOp2 aEq (mVar 1) (mC (.int 3))) (mcNil))))) (mNil)))) (mSeq (mSet 4 (mAndV (mOp2 aNotIn (mVar 1) (mTup (mCons (mC (.int 2)) (mCons (mC (.int 3)) (mNil))))) (mOp2 aEq (mCall sd_l_take [] (mcCons (mVar 0) (mcCons (mC (.int 3)) (mcNil)))) (mC (.int 0))))) (mSeq (mSet 5 (mIf (mTru (mVar 4)) (mC (.str "top")) (mM1 aJoin (mC (.str ".")) (mOp2 aAdd (mVar 2) (mLst (mCons (mVar 3) (mNil))))))) (mSeq (mIfS (mB (mOp2 aEq (mVar 1) (mC (.int 4)))) (mSet 5 (mOp2 aIx (mLst (mCons (mC (.str "Top")) (mCons (mC (.str "top.")) (mCons (mM1 aJoin (mC (.str ".")) (mVar 2)) (mCons (mM1 aJoin (mC (.str ".")) (mOp2 aAdd (mVar 2) (mLst (mCons (mVar 3) (mCons (mC (.str "1")) (mNil)))))) (mCons (mC (.str "tops")) (mNil))))))) (mCall sd_l_take [] (mcCons (mVar 0) (mcCons (mC (.int 5)) (mcNil)))))) (mSkip)) (mSeq (mSet 6 (mCall sd_l_pick [] (mcCons (mVar 0) (mcCons (mLst (mCons (mC (.str "1")) (mCons (mC (.str "12")) (mCons (mC (.str "999999")) (mNil))))) (mcCons (mLst (mCons (mC (.str "0")) (mCons (mC (.str "01")) (mCons (mC (.str "1000000")) (mCons (mC (.str "x")) (mCons (mC (.str "")) (mCons (mC (.str "-1")) (mNil)))))))) (mcCons (mOp2 aEq (mVar 1) (mC (.int 1))) (mcNil))))))) (mSeq (mSet 7 (mLst (mCons (mC (.str "x")) (mCons (mC (.str "=")) (mCons (mC (.str "a b  ")) (mCons (mC (.str " ")) (mCons (mC (.str "==top")) (mCons (mC (.str "add 1 top =x")) (mCons (mOp2 aMulA (mC (.str "z")) (mOp2 aSub (mC (.int 60)) (mFn aLen (maCons (mOp2 aAdd (mOp2 aAdd (mOp2 aAdd (mOp2 aAdd (mC (.str "add ")) (mVar 6)) (mC (.str " "))) (mVar 5)) (mC (.str " ="))) (maNil))))) (mNil)))))))))) (mSeq (mSet 7 (mIf (mB (mOp2 aEq (mVar 1) (mC (.int 5)))) (mC (.str "")) (mOp2 aIx (mVar 7) (mCall sd_l_take [] (mcCons (mVar 0) (mcCons (mC (.int 7)) (mcNil))))))) (mSeq (mSet 8 (mOp2 aIx (mLst (mCons (mLst (mCons (mC (.str "add")) (mNil))) (mCons (mLst (mCons (mC (.str "Add")) (mNil))) (mCons (mLst (mCons (mC (.str "add")) (mCons (mC (.str "")) (mNil)))) (mCons (mLst (mCons (mC (.str "cut")) (mNil))) (mCons (mLst (mCons (mC (.str "add")) (mCons (mC (.str "add")) (mNil)))) (mNil))))))) (mIf (mB (mOp2 aNe (mVar 1) (mC (.int 6)))) (mC (.int 0)) (mOp2 aAdd (mC (.int 1)) (mCall sd_l_take [] (mcCons (mVar 0) (mcCons (mC (.int 4)) (mcNil)))))))) (mSeq (mSet 9 (mOp2 aAdd (mOp2 aAdd (mM1 aJoin (mC (.str " ")) (mOp2 aAdd (mVar 8) (mLst (mCons (mVar 6) (mCons (mVar 5) (mNil)))))) (mIf (mB (mOp2 aEq (mVar 1) (mC (.int 7)))) (mC (.str "=")) (mC (.str " =")))) (mVar 7))) (mSeq (mIfRep 1 9 8 " =" "  =") (mSeq (mIfS (mOrT (mAndT (mB (mOp2 aNe (mVar 1) (mC (.int 9)))) (mB (mOp2 aGt (mVar 1) (mC (.int 0))))) (mOrT (mB (mOp2 aEq (mVar 7) (mC (.str "")))) (mB (mOp2 aGt (mFn aLen (maCons (mVar 9) (maNil))) (mC (.int 60)))))) (mRet (mTup (mCons (mVar 9) (mCons (mC .non) (mNil))))) (mSkip)) (mRet (mTup (mCons (mVar 9) (mCons (mTup (mCons (mC (.str "add")) (mCons (mFn aIntOf (maCons (mVar 6) (maNil))) (mCons (mIf (mTru (mVar 4)) (mTup (mNil)) (mTup (mCons (mOp2 aIx (mVar 2) (mC (.int 0))) (mCons (mFn aIntOf (maCons (mOp2 aIx (mVar 2) (mC (.int 1))) (maNil))) (mCons (mFn aIntOf (maCons (mOp2 aIx (mVar 2) (mC (.int 2))) (maNil))) (mCons (mFn aIntOf (maCons (mVar 3) (maNil))) (mNil))))))) (mCons (mVar 7) (mNil)))))) (mNil)))))))))))))))

def m_l_cut (sd_l_take : DSpec) (sd_l_number : DSpec) (sd_l_word : DSpec) : DStm :=
  mSeq (mSet 2 (mCall sd_l_word [] (mcCons (mVar 0) (mcCons (mOp2 aEq (mVar 1) (mC (.int 2))) (mcNil))))) (mSeq (mPar2 3 4 (mCons (mCall sd_l_number [] (mcCons (mVar 0) (mcCons (mC (.int 0)) (mcCons (mOp2 aEq (mVar 1) (mC (.int 1))) (mcNil))))) (mCons (mCall sd_l_number [] (mcCons (mVar 0) (mcCons (mC (.int 0)) (mcCons (mOp2 aEq (mVar 1) (mC (.int 3))) (mcNil))))) (mNil)))) (mSeq (mSet 5 (mM1 aJoin (mC (.str ".")) (mVar 2))) (mSeq (mIfS (mB (mOp2 aEq (mVar 1) (mC (.int 4)))) (mSet 5 (mOp2 aIx (mLst (mCons (mM1 aJoin (mC (.str ".")) (mOp2 aAdd (mVar 2) (mLst (mCons (mC (.str "0")) (mNil))))) (mCons (mM1 aJoin (mC (.str ".")) (mSl (mVar 2) (moNo) (moSo (mC (.int 2))))) (mCons (mC (.str "top")) (mCons (mOp2 aIx (mVar 2) (mC (.int 0))) (mNil)))))) (mCall sd_l_take [] (mcCons (mVar 0) (mcCons (mC (.int 4)) (mcNil)))))) (mSkip)) (mSeq (mSet 6 (mM1 aJoin (mC (.str " ")) (mOp2 aAdd (mOp2 aIx (mLst (mCons (mLst (mCons (mC (.str "cut")) (mNil))) (mCons (mLst (mCons (mC (.str "Cut")) (mNil))) (mCons (mLst (mCons (mC (.str "cut")) (mCons (mC (.str "")) (mNil)))) (mCons (mLst (mCons (mC (.str "add")) (mNil))) (mNil)))))) (mIf (mB (mOp2 aNe (mVar 1) (mC (.int 6)))) (mC (.int 0)) (mOp2 aAdd (mC (.int 1)) (mCall sd_l_take [] (mcCons (mVar 0) (mcCons (mC (.int 3)) (mcNil))))))) (mLst (mCons (mVar 5) (mCons (mVar 3) (mCons (mVar 4) (mNil)))))))) (mSeq (mSet 6 (mOp2 aAdd (mVar 6) (mOp2 aIx (mLst (mCons (mC (.str "")) (mCons (mC (.str " 1")) (mCons (mC (.str " ")) (mCons (mC (.str " =")) (mCons (mC (.str "=x")) (mNil))))))) (mIf (mB (mOp2 aNe (mVar 1) (mC (.int 5)))) (mC (.int 0)) (mOp2 aAdd (mC (.int 1)) (mCall sd_l_take [] (mcCons (mVar 0) (mcCons (mC (.int 4)) (mcNil))))))))) (mSeq (mIfRep 1 6 7 " " "  ") (mSeq (mIfS (mB (mOp2 aEq (mVar 1) (mC (.int 8)))) (mRet (mTup (mCons (mM1 aJoin (mC (.str " ")) (mLst (mCons (mC (.str "cut")) (mCons (mVar 5) (mCons (mC (.str "7")) (mCons (mC (.str "6")) (mNil))))))) (mCons (mC .non) (mNil))))) (mSkip)) (mSeq (mIfS (mOrT (mAndT (mB (mOp2 aNe (mVar 1) (mC (.int 9)))) (mB (mOp2 aGt (mVar 1) (mC (.int 0))))) (mOrT (mB (mOp2 aGt (mFn aLen (maCons (mVar 6) (maNil))) (mC (.int 60)))) (mB (mOp2 aGt (mFn aIntOf (maCons (mVar 3) (maNil))) (mFn aIntOf (maCons (mVar 4) (maNil))))))) (mRet (mTup (mCons (mVar 6) (mCons (mC .non) (mNil))))) (mSkip)) (mRet (mTup (mCons (mVar 6) (mCons (mTup (mCons (mC (.str "cut")) (mCons (mTup (mCons (mOp2 aIx (mVar 2) (mC (.int 0))) (mCons (mFn aIntOf (maCons (mOp2 aIx (mVar 2) (mC (.int 1))) (maNil))) (mCons (mFn aIntOf (maCons (mOp2 aIx (mVar 2) (mC (.int 2))) (maNil))) (mNil))))) (mCons (mFn aIntOf (maCons (mVar 3) (maNil))) (mCons (mFn aIntOf (maCons (mVar 4) (maNil))) (mNil)))))) (mNil)))))))))))))

def m_law (sd_edit_in : DSpec) (sd_l_cell : DSpec) (sd_l_box : DSpec) (sd_l_take : DSpec) (sd_l_add : DSpec) (sd_l_cut : DSpec) : DStm :=
  mSeq (mFor (mRange1 (mFn aMax (maCons (mC (.int 2)) (maCons (mFn aMin (maCons (mC (.int 8)) (maCons (mFn aLen (maCons (mVar 0) (maNil))) (maNil)))) (maNil))))) (gN 1) (mSeq (mSetO 2 (mCall sd_l_box [] (mcCons (mCall sd_l_cell [] (mcCons (mVar 0) (mcCons (mVar 1) (mcNil)))) (mcNil)))) (mSeq (mFor (mRange1 (mC (.int 12))) (gN 3) (mSeq (mSet 4 (mOp2 aIx (mLst (mCons (mC (.int 0)) (mCons (mOp2 aAdd (mC (.int 1)) (mCall sd_l_take [] (mcCons (mVar 2) (mcCons (mC (.int 9)) (mcNil))))) (mNil)))) (mCall sd_l_take [] (mcCons (mVar 2) (mcCons (mC (.int 2)) (mcNil)))))) (mSeq (mUn 2 (gsCons (gN 5) (gsCons (gN 6) (gsNil))) (mIf (mB (mOp2 aEq (mCall sd_l_take [] (mcCons (mVar 2) (mcCons (mC (.int 2)) (mcNil)))) (mC (.int 0)))) (mCall sd_l_add [] (mcCons (mVar 2) (mcCons (mVar 4) (mcNil)))) (mCall sd_l_cut [] (mcCons (mVar 2) (mcCons (mVar 4) (mcNil)))))) (mSeq (mSet 7 (mCall sd_edit_in [] (mcCons (mVar 5) (mcNil)))) (mIfS (mOrT (mB (mOp2 aNe (mFn aReprA (maCons (mVar 7) (maNil))) (mFn aReprA (maCons (mVar 6) (maNil))))) (mB (mOp2 aNe (mFn aReprA (maCons (mCallK sd_edit_in (arrN 0 1 [0]) mcNil (mcCons (mVar 5) (mcNil))) (maNil))) (mFn aReprA (maCons (mVar 6) (maNil)))))) (mRet (mC (.bl false))) (mSkip)))))) (mFor (mIt (mLst (mCons (mC .non) (mCons (mC (.int 7)) (mCons (mC (.bl true)) (mCons (mC (.str "")) (mCons (mC (.str "add")) (mCons (mC (.str "cut")) (mCons (mC (.str "hello")) (mCons (mLst (mCons (mC (.str "add 1 top =x")) (mNil))) (mCons (mDNew) (mCons (mTup (mCons (mC (.str "add")) (mCons (mC (.int 1)) (mCons (mTup (mNil)) (mCons (mC (.str "x")) (mNil)))))) (mCons (mC (.str "add 1 top =\n")) (mNil)))))))))))))) (gN 8) (mIfS (mB (mOp2 aIsN (mCall sd_edit_in [] (mcCons (mVar 8) (mcNil))) (mC .non))) (mRet (mC (.bl false))) (mSkip)))))) (mRet (mAndV (mOp2 aEq (mFn aReprA (maCons (mCall sd_edit_in [] (mcCons (mC (.str "add 1 top =x")) (mcNil))) (maNil))) (mFn aReprA (maCons (mTup (mCons (mC (.str "add")) (mCons (mC (.int 1)) (mCons (mTup (mNil)) (mCons (mC (.str "x")) (mNil)))))) (maNil)))) (mOp2 aIs (mCall sd_edit_in [] (mcCons (mC (.str "add 1 top x")) (mcNil))) (mC .non))))
end Law

set_option Elab.async false
set_option linter.all false
set_option maxRecDepth 100000
set_option maxHeartbeats 4000000
set_option autoImplicit false
namespace Law
open PySem L2 DL

def top (i : Nat) : Stmt := PySem.Challenge.pw_peershold_k91_edits_read.main.body.getD i (.Pass ⟨0, 0, 0, 0⟩)
structure Txt (K : PySem.W.Frag) (mg : Str → Option Value) (cm : Nat → Value) : Prop where
  b_all : mg "all" = none
  b_int : mg "int" = none
  b_isinstance : mg "isinstance" = none
  b_len : mg "len" = none
  b_max : mg "max" = none
  b_min : mg "min" = none
  b_ord : mg "ord" = none
  b_range : mg "range" = none
  b_repr : mg "repr" = none
  b_str : mg "str" = none
  c_ADD : ∃ u, mg "ADD" = some u ∧ RelV (.str "add") u
  c_CUT : ∃ u, mg "CUT" = some u ∧ RelV (.str "cut") u
  c_EQUAL : ∃ u, mg "EQUAL" = some u ∧ RelV (.str "=") u
  c_FIGURES : ∃ u, mg "FIGURES" = some u ∧ RelV (.str "0123456789") u
  c_LETTERS : ∃ u, mg "LETTERS" = some u ∧ RelV (.str "abcdefghijklmnopqrstuvwxyz") u
  c_MOST_COUNT : ∃ u, mg "MOST_COUNT" = some u ∧ RelV (.int 999999999999999999999999999999) u
  c_MOST_NUMBER : ∃ u, mg "MOST_NUMBER" = some u ∧ RelV (.int 999999) u
  c_MOST_SIGNS : ∃ u, mg "MOST_SIGNS" = some u ∧ RelV (.int 60) u
  c_PER_CENT : ∃ u, mg "PER_CENT" = some u ∧ RelV (.int 37) u
  c_TOP : ∃ u, mg "TOP" = some u ∧ RelV (.str "top") u
section
variable {P : Program} {w : World} {K : PySem.W.Frag} {mg : Str → Option Value} {cm : Nat → Value} {base : Heap}

abbrev s_is_name : Stmt := top 6
theorem sc_is_name : FnScope ["thing", "sign"] ["thing"] (defScope s_is_name) := ⟨rfl, rfl, rfl, by decide +kernel, rfl, by decide +kernel, by decide +kernel⟩
theorem d_is_name (T : Txt K mg cm)  {f : Addr} {cdv : Value} {A : Around} {outer : List PySem.Env} {s : Shared} {H : Hp} {E : XK} (hgd : A.guards = some []) (hr : Room 0 (A.deeper (PyProof.Rows.envOfC "is_name" (defScope s_is_name) s.heap.objs.size f cdv))) :
    DB (cxOf CX0 P w K mg base ["thing", "sign"] "is_name" (defScope s_is_name) f cdv A outer s H E).nox (defBody s_is_name) (m_is_name  ) := by
  unfold m_is_name
  exact db_one (ds_ret (dand (disi (T := "str") (dvar 0) rfl T.b_isinstance rfl T.b_str (by decide +kernel) kt_str) (dand (dchain op_leD o2_ord op_leD o2_ord (dint) (dfnB call_lenX on_len rfl T.b_len (by decide +kernel) (da_cons (dvar 0) (da_nil))) (dint)) (done1 (dfnB (cr_all rfl) on_all rfl T.b_all (by decide +kernel) (da_cons (dlc (js := [1]) [("sign", 1)] rfl sc_is_name.nd (blkOk_by (by kernel_rfl)) (di_any (dvar 0)) (fun _ _ _ _ _ => dg_name 1 sc_is_name.nd rfl (Or.inl rfl)) (fun _ _ _ _ _ => dts_nil) (fun _ _ _ _ _ => dcmp op_inB o2_inB (dvar 1) (dgstrE rfl T.c_LETTERS))) (da_nil)))))))

theorem k_is_name (T : Txt K mg cm)  {f : Addr} {fd : FuncData} (F : Fun K "is_name" "is_name" s_is_name f fd) (hm : mg "is_name" = some (.ref f)) {sd : DSpec} (len : ∀ args R, sd args R → args.length = 1)
    (sp : ∀ args R, sd args R → m_is_name   { nx := fun e => R (.vl .non) (outs 1 e), rt := fun r e => R r (outs 1 e) } (startE 2 args)) : Cal P w K mg base "is_name" s_is_name 1 ["thing"] sd :=
  ⟨f, fd, F, FunG.ok (FunG.of F) sc_is_name len (fun cdv A outer s H E hgd hr => d_is_name T  hgd hr) sp, hm, F.binds (ps := ["thing"]) fun _ _ _ _ _ _ us hl => match us, hl with | [_], _ => rfl⟩

abbrev s_is_text : Stmt := top 7
theorem sc_is_text : FnScope ["thing", "sign"] ["thing"] (defScope s_is_text) := ⟨rfl, rfl, rfl, by decide +kernel, rfl, by decide +kernel, by decide +kernel⟩
theorem d_is_text (T : Txt K mg cm)  {f : Addr} {cdv : Value} {A : Around} {outer : List PySem.Env} {s : Shared} {H : Hp} {E : XK} (hgd : A.guards = some []) (hr : Room 0 (A.deeper (PyProof.Rows.envOfC "is_text" (defScope s_is_text) s.heap.objs.size f cdv))) :
    DB (cxOf CX0 P w K mg base ["thing", "sign"] "is_text" (defScope s_is_text) f cdv A outer s H E).nox (defBody s_is_text) (m_is_text  ) := by
  unfold m_is_text
  exact db_cons (ds_if (dtw (dw_or (dtnot (dtru (disi (T := "str") (dvar 0) rfl T.b_isinstance rfl T.b_str (by decide +kernel) kt_str))) (dw_or1 (dtcmp op_gtD o2_ord (dfnB call_lenX on_len rfl T.b_len (by decide +kernel) (da_cons (dvar 0) (da_nil))) (dgintE rfl T.c_MOST_SIGNS))))) (db_one (ds_ret (dbl))) (db_nil)) (db_one (ds_ret (dfnB (cr_all rfl) on_all rfl T.b_all (by decide +kernel) (da_cons (dlc (js := [1]) [("sign", 1)] rfl sc_is_text.nd (blkOk_by (by kernel_rfl)) (di_any (dvar 0)) (fun _ _ _ _ _ => dg_name 1 sc_is_text.nd rfl (Or.inl rfl)) (fun _ _ _ _ _ => dts_nil) (fun _ _ _ _ _ => dand (dchain op_leD o2_ord op_leD o2_ord (dstr) (dvar 1) (dstr)) (done1 (dcmp (op_neD hr.units) o2_ne (dfnB call_ord on_ord rfl T.b_ord (by decide +kernel) (da_cons (dvar 1) (da_nil))) (dgintE rfl T.c_PER_CENT))))) (da_nil)))))

theorem k_is_text (T : Txt K mg cm)  {f : Addr} {fd : FuncData} (F : Fun K "is_text" "is_text" s_is_text f fd) (hm : mg "is_text" = some (.ref f)) {sd : DSpec} (len : ∀ args R, sd args R → args.length = 1)
    (sp : ∀ args R, sd args R → m_is_text   { nx := fun e => R (.vl .non) (outs 1 e), rt := fun r e => R r (outs 1 e) } (startE 2 args)) : Cal P w K mg base "is_text" s_is_text 1 ["thing"] sd :=
  ⟨f, fd, F, FunG.ok (FunG.of F) sc_is_text len (fun cdv A outer s H E hgd hr => d_is_text T  hgd hr) sp, hm, F.binds (ps := ["thing"]) fun _ _ _ _ _ _ us hl => match us, hl with | [_], _ => rfl⟩

abbrev s_number_in : Stmt := top 8
theorem sc_number_in : FnScope ["thing", "low", "high", "number", "sign"] ["thing", "low", "high"] (defScope s_number_in) := ⟨rfl, rfl, rfl, by decide +kernel, rfl, by decide +kernel, by decide +kernel⟩
theorem d_number_in (T : Txt K mg cm)  {f : Addr} {cdv : Value} {A : Around} {outer : List PySem.Env} {s : Shared} {H : Hp} {E : XK} (hgd : A.guards = some []) (hr : Room 0 (A.deeper (PyProof.Rows.envOfC "number_in" (defScope s_number_in) s.heap.objs.size f cdv))) :
    DB (cxOf CX0 P w K mg base ["thing", "low", "high", "number", "sign"] "number_in" (defScope s_number_in) f cdv A outer s H E).nox (defBody s_number_in) (m_number_in  ) := by
  unfold m_number_in
  exact db_cons (ds_if (dtw (dw_or (dtnot (dtru (disi (T := "str") (dvar 0) rfl T.b_isinstance rfl T.b_str (by decide +kernel) kt_str))) (dw_or (dtcmp (op_eqD hr.units) o2_eq (dvar 0) (dstr)) (dw_or (dtcmp op_gtD o2_ord (dfnB call_lenX on_len rfl T.b_len (by decide +kernel) (da_cons (dvar 0) (da_nil))) (dint)) (dw_or1 (dtnot (dtru (dfnB (cr_all rfl) on_all rfl T.b_all (by decide +kernel) (da_cons (dlc (js := [4]) [("sign", 4)] rfl sc_number_in.nd (blkOk_by (by kernel_rfl)) (di_any (dvar 0)) (fun _ _ _ _ _ => dg_name 4 sc_number_in.nd rfl (Or.inl rfl)) (fun _ _ _ _ _ => dts_nil) (fun _ _ _ _ _ => dcmp op_inB o2_inB (dvar 4) (dgstrE rfl T.c_FIGURES))) (da_nil)))))))))) (db_one (ds_ret (dnon))) (db_nil)) (db_cons (ds_if (dtw (dw_and (dtcmp (op_eqD hr.units) o2_eq (dix (dvar 0) (dint)) (dstr)) (dw_and1 (dtcmp (op_neD hr.units) o2_ne (dvar 0) (dstr))))) (db_one (ds_ret (dnon))) (db_nil)) (db_cons (ds_set (j := 3) sc_number_in.nd rfl (Or.inl rfl) (dfnT call_int_str on_int rfl T.b_int (by decide +kernel) (da_cons (dvar 0) (da_nil)))) (db_one (ds_ret (dif (dtchain op_leD o2_ord op_leD o2_ord (dvar 1) (dvar 3) (dvar 2)) (dvar 3) (dnon))))))

theorem k_number_in (T : Txt K mg cm)  {f : Addr} {fd : FuncData} (F : FunD K "number_in" "number_in" (defArgs s_number_in) (defBody s_number_in) (defScope s_number_in) [] [("low", V.int 0), ("high", V.int 999999)] f fd) (hm : mg "number_in" = some (.ref f)) {sd : DSpec} (len : ∀ args R, sd args R → args.length = 3)
    (sp : ∀ args R, sd args R → m_number_in   { nx := fun e => R (.vl .non) (outs 3 e), rt := fun r e => R r (outs 3 e) } (startE 5 args)) : CalD P w K mg base "number_in" s_number_in 1 ["thing", "low", "high"] [("low", V.int 0), ("high", V.int 999999)] sd :=
  ⟨f, fd, F, FunG.ok (FunG.ofD F) sc_number_in len (fun cdv A outer s H E hgd hr => d_number_in T  hgd hr) sp, hm⟩

theorem bl_number_in_1_low_high {K : PySem.W.Frag} : BindL K "number_in" s_number_in ([("thing" : Str), ("low" : Str), ("high" : Str)] : List Str) ([("low" : Str), ("high" : Str)] : List Str) [] 1 [0, 1, 2] := by
  intro D doc pm an cdv ct us mv ws h1 h2 h3 hks M hp X
  refine (match us, mv, ws, h1, h2, h3, hks with
  | [u0], [], [w0, w1], _, _, _, hks => ?_)
  exact PySem.W.Looks.of_pure rfl

theorem bl_number_in_1_high {K : PySem.W.Frag} : BindL K "number_in" s_number_in ([("thing" : Str), ("low" : Str), ("high" : Str)] : List Str) ([("high" : Str)] : List Str) [("low", V.int 0)] 1 [0, 1, 2] := by
  intro D doc pm an cdv ct us mv ws h1 h2 h3 hks M hp X
  refine (match us, mv, ws, h1, h2, h3, hks with
  | [u0], [m0], [w0], _, _, _, hks => ?_)
  have k0 : PySem.W.nsIn K D "low" = some (some m0) := hks ("low", m0) (by simp)
  have e1 : (defArgs s_number_in).posonlyargs.map (·.arg) = [] := rfl
  have e2 : (defArgs s_number_in).args.map (·.arg) = ([("thing" : Str)] : List Str) := rfl
  have e3 : (defArgs s_number_in).kwonlyargs.map (·.arg) = ([("low" : Str), ("high" : Str)] : List Str) := rfl
  have e4 : (defArgs s_number_in).vararg = none := rfl
  have e5 : (defArgs s_number_in).kwarg = none := rfl
  have e6 : seqItems? Value.none = pure none := rfl
  have d0 : (("thing" : Str) == ("low" : Str)) = false := by decide
  have d1 : (("thing" : Str) == ("high" : Str)) = false := by decide
  have d2 : (("low" : Str) == ("thing" : Str)) = false := by decide
  have d3 : (("low" : Str) == ("high" : Str)) = false := by decide
  have d4 : (("high" : Str) == ("thing" : Str)) = false := by decide
  have d5 : (("high" : Str) == ("low" : Str)) = false := by decide
  show PySem.W.Looks M hp (bindArgs (PySem.W.fnOf "number_in" "number_in" (defArgs s_number_in) (defBody s_number_in) (defScope s_number_in) .none (.ref D) doc pm an cdv ct) ⟨[u0], [("high", w0)]⟩) [("thing", u0), ("low", m0), ("high", w0)]
  unfold bindArgs
  simp (config := {zeta := true, decide := true}) only [PySem.W.fnOf, e6, pure_bind, bind_assoc, bind_pure_comp, e1, e2, e3, e4, e5, d0, d1, d2, d3, d4, d5, List.forIn_cons, List.forIn_nil, List.nil_append, List.zip_cons_cons, List.zip_nil_right, List.zip_nil_left, List.contains_cons, List.lookup, if_true, if_false, Option.isSome, Bool.or_true, Bool.true_or, Bool.false_or, beq_self_eq_true, Option.getD, List.length_cons, List.length_nil, List.cons_append, List.drop, List.take, List.filter, Option.isNone, Bool.false_eq_true, List.contains_nil, List.isEmpty, Bool.not_true]
  refine looks_f rfl ?_
  simp (config := {zeta := true, decide := true}) only [List.drop_nil, List.zip_nil_right, List.length_nil, Nat.sub_zero, List.forIn_nil, pure_bind, bind_assoc, List.lookup, d0, d1, d2, d3, d4, d5, beq_self_eq_true, if_true, if_false, Bool.false_eq_true, List.cons_append, List.nil_append, bind_pure_comp]
  refine (PySem.W.looks_nsIn X k0).andThen ?_
  exact PySem.W.Looks.of_pure rfl

theorem bl_number_in_1_low {K : PySem.W.Frag} : BindL K "number_in" s_number_in ([("thing" : Str), ("low" : Str), ("high" : Str)] : List Str) ([("low" : Str)] : List Str) [("high", V.int 999999)] 1 [0, 2, 1] := by
  intro D doc pm an cdv ct us mv ws h1 h2 h3 hks M hp X
  refine (match us, mv, ws, h1, h2, h3, hks with
  | [u0], [m0], [w0], _, _, _, hks => ?_)
  have k0 : PySem.W.nsIn K D "high" = some (some m0) := hks ("high", m0) (by simp)
  have e1 : (defArgs s_number_in).posonlyargs.map (·.arg) = [] := rfl
  have e2 : (defArgs s_number_in).args.map (·.arg) = ([("thing" : Str)] : List Str) := rfl
  have e3 : (defArgs s_number_in).kwonlyargs.map (·.arg) = ([("low" : Str), ("high" : Str)] : List Str) := rfl
  have e4 : (defArgs s_number_in).vararg = none := rfl
  have e5 : (defArgs s_number_in).kwarg = none := rfl
  have e6 : seqItems? Value.none = pure none := rfl
  have d0 : (("thing" : Str) == ("low" : Str)) = false := by decide
  have d1 : (("thing" : Str) == ("high" : Str)) = false := by decide
  have d2 : (("low" : Str) == ("thing" : Str)) = false := by decide
  have d3 : (("low" : Str) == ("high" : Str)) = false := by decide
  have d4 : (("high" : Str) == ("thing" : Str)) = false := by decide
  have d5 : (("high" : Str) == ("low" : Str)) = false := by decide
  show PySem.W.Looks M hp (bindArgs (PySem.W.fnOf "number_in" "number_in" (defArgs s_number_in) (defBody s_number_in) (defScope s_number_in) .none (.ref D) doc pm an cdv ct) ⟨[u0], [("low", w0)]⟩) [("thing", u0), ("low", w0), ("high", m0)]
  unfold bindArgs
  simp (config := {zeta := true, decide := true}) only [PySem.W.fnOf, e6, pure_bind, bind_assoc, bind_pure_comp, e1, e2, e3, e4, e5, d0, d1, d2, d3, d4, d5, List.forIn_cons, List.forIn_nil, List.nil_append, List.zip_cons_cons, List.zip_nil_right, List.zip_nil_left, List.contains_cons, List.lookup, if_true, if_false, Option.isSome, Bool.or_true, Bool.true_or, Bool.false_or, beq_self_eq_true, Option.getD, List.length_cons, List.length_nil, List.cons_append, List.drop, List.take, List.filter, Option.isNone, Bool.false_eq_true, List.contains_nil, List.isEmpty, Bool.not_true]
  refine looks_f rfl ?_
  simp (config := {zeta := true, decide := true}) only [List.drop_nil, List.zip_nil_right, List.length_nil, Nat.sub_zero, List.forIn_nil, pure_bind, bind_assoc, List.lookup, d0, d1, d2, d3, d4, d5, beq_self_eq_true, if_true, if_false, Bool.false_eq_true, List.cons_append, List.nil_append, bind_pure_comp]
  refine (PySem.W.looks_nsIn X k0).andThen ?_
  exact PySem.W.Looks.of_pure rfl

abbrev s_words_in : Stmt := top 9
theorem sc_words_in : FnScope ["thing", "words"] ["thing"] (defScope s_words_in) := ⟨rfl, rfl, rfl, by decide +kernel, rfl, by decide +kernel, by decide +kernel⟩
theorem d_words_in (T : Txt K mg cm)  {f : Addr} {cdv : Value} {A : Around} {outer : List PySem.Env} {s : Shared} {H : Hp} {E : XK} (hgd : A.guards = some []) (hr : Room 0 (A.deeper (PyProof.Rows.envOfC "words_in" (defScope s_words_in) s.heap.objs.size f cdv))) :
    DB (cxOf CX0 P w K mg base ["thing", "words"] "words_in" (defScope s_words_in) f cdv A outer s H E).nox (defBody s_words_in) (m_words_in  ) := by
  unfold m_words_in
  exact db_cons (ds_if (dtnot (dtru (disi (T := "str") (dvar 0) rfl T.b_isinstance rfl T.b_str (by decide +kernel) kt_str))) (db_one (ds_ret (dnon))) (db_nil)) (db_cons (ds_set (j := 1) sc_words_in.nd rfl (Or.inl rfl) (dsplit (dvar 0) (dstr))) (db_cons (ds_if (dtw (dw_or (dtcmp op_inB o2_inB (dstr) (dvar 1)) (dw_or1 (dtcmp op_inB o2_inB (dstr) (dvar 0))))) (db_one (ds_ret (dnon))) (db_nil)) (db_one (ds_ret (dvar 1)))))

theorem k_words_in (T : Txt K mg cm)  {f : Addr} {fd : FuncData} (F : Fun K "words_in" "words_in" s_words_in f fd) (hm : mg "words_in" = some (.ref f)) {sd : DSpec} (len : ∀ args R, sd args R → args.length = 1)
    (sp : ∀ args R, sd args R → m_words_in   { nx := fun e => R (.vl .non) (outs 1 e), rt := fun r e => R r (outs 1 e) } (startE 2 args)) : Cal P w K mg base "words_in" s_words_in 1 ["thing"] sd :=
  ⟨f, fd, F, FunG.ok (FunG.of F) sc_words_in len (fun cdv A outer s H E hgd hr => d_words_in T  hgd hr) sp, hm, F.binds (ps := ["thing"]) fun _ _ _ _ _ _ us hl => match us, hl with | [_], _ => rfl⟩

abbrev s_split_text : Stmt := top 13
theorem sc_split_text : FnScope ["text", "head", "sign", "tail"] ["text"] (defScope s_split_text) := ⟨rfl, rfl, rfl, by decide +kernel, rfl, by decide +kernel, by decide +kernel⟩
theorem d_split_text (T : Txt K mg cm) {sd_words_in : DSpec} (c_words_in : Cal P w K mg base "words_in" s_words_in 1 ["thing"] sd_words_in) {f : Addr} {cdv : Value} {A : Around} {outer : List PySem.Env} {s : Shared} {H : Hp} {E : XK} (hgd : A.guards = some []) (hr : Room 1 (A.deeper (PyProof.Rows.envOfC "split_text" (defScope s_split_text) s.heap.objs.size f cdv))) :
    DB (cxOf CX0 P w K mg base ["text", "head", "sign", "tail"] "split_text" (defScope s_split_text) f cdv A outer s H E).nox (defBody s_split_text) (m_split_text  sd_words_in) := by
  unfold m_split_text
  exact db_cons (ds_un (js := [1, 2, 3]) rfl (dgs_cons (dg_name 1 sc_split_text.nd rfl (Or.inl rfl)) (dgs_cons (dg_name 2 sc_split_text.nd rfl (Or.inl rfl)) (dgs_cons (dg_name 3 sc_split_text.nd rfl (Or.inl rfl)) (dgs_nil)))) (dpartition (dvar 0) (dgstrE rfl T.c_EQUAL))) (db_cons (ds_if (dtcmp (op_eqD hr.units) o2_eq (dvar 2) (dstr)) (db_one (ds_ret (dtup (dl_cons (dcallC c_words_in hgd (hr.mono (by decide)) (by exact rfl) (dc_cons (dvar 0) (dc_nil))) (dl_cons (dnon) (dl_nil)))))) (db_nil)) (db_one (ds_ret (dtup (dl_cons (dif (dtru (dendswith (dvar 1) (dstr))) (dcallC c_words_in hgd (hr.mono (by decide)) (by exact rfl) (dc_cons (dslice (dvar 1) (do_none) (do_some (dneg (dint)))) (dc_nil))) (dnon)) (dl_cons (dvar 3) (dl_nil)))))))

theorem k_split_text (T : Txt K mg cm) {sd_words_in : DSpec} (c_words_in : Cal P w K mg base "words_in" s_words_in 1 ["thing"] sd_words_in) {f : Addr} {fd : FuncData} (F : Fun K "split_text" "split_text" s_split_text f fd) (hm : mg "split_text" = some (.ref f)) {sd : DSpec} (len : ∀ args R, sd args R → args.length = 1)
    (sp : ∀ args R, sd args R → m_split_text  sd_words_in { nx := fun e => R (.vl .non) (outs 1 e), rt := fun r e => R r (outs 1 e) } (startE 4 args)) : Cal P w K mg base "split_text" s_split_text 2 ["text"] sd :=
  ⟨f, fd, F, FunG.ok (FunG.of F) sc_split_text len (fun cdv A outer s H E hgd hr => d_split_text T c_words_in hgd hr) sp, hm, F.binds (ps := ["text"]) fun _ _ _ _ _ _ us hl => match us, hl with | [_], _ => rfl⟩

abbrev s_word_id_in : Stmt := top 18
theorem sc_word_id_in : FnScope ["parts", "number", "at"] ["parts"] (defScope s_word_id_in) := ⟨rfl, rfl, rfl, by decide +kernel, rfl, by decide +kernel, by decide +kernel⟩
theorem d_word_id_in (T : Txt K mg cm) {sd_is_name : DSpec} (c_is_name : Cal P w K mg base "is_name" s_is_name 1 ["thing"] sd_is_name) {sd_number_in : DSpec} (c_number_in : CalD P w K mg base "number_in" s_number_in 1 ["thing", "low", "high"] [("low", V.int 0), ("high", V.int 999999)] sd_number_in) {f : Addr} {cdv : Value} {A : Around} {outer : List PySem.Env} {s : Shared} {H : Hp} {E : XK} (hgd : A.guards = some []) (hr : Room 1 (A.deeper (PyProof.Rows.envOfC "word_id_in" (defScope s_word_id_in) s.heap.objs.size f cdv))) :
    DB (cxOf CX0 P w K mg base ["parts", "number", "at"] "word_id_in" (defScope s_word_id_in) f cdv A outer s H E).nox (defBody s_word_id_in) (m_word_id_in  sd_is_name sd_number_in) := by
  unfold m_word_id_in
  exact db_cons (ds_par2 (i := 1) (j := 2) rfl sc_word_id_in.nd rfl rfl (by decide) rfl rfl (dl_cons (dcallD2 (ks := [("low" : Str), ("high" : Str)]) c_number_in [] [] (fun _ _ => .nil) 1 2 [0, 1, 2] hgd (hr.mono (by decide)) (by exact rfl) (by simp) (by simp) rfl (by simp) (fun K => bl_number_in_1_low_high) (dc_cons (dix (dvar 0) (dint)) (dc_nil)) (dk_cons (dint) (dk_cons (dgintE rfl T.c_MOST_COUNT) (dk_nil)))) (dl_cons (dcallD2 (ks := [("low" : Str), ("high" : Str)]) c_number_in [] [] (fun _ _ => .nil) 1 2 [0, 1, 2] hgd (hr.mono (by decide)) (by exact rfl) (by simp) (by simp) rfl (by simp) (fun K => bl_number_in_1_low_high) (dc_cons (dix (dvar 0) (dint)) (dc_nil)) (dk_cons (dint) (dk_cons (dgintE rfl T.c_MOST_COUNT) (dk_nil)))) (dl_nil))) (by first | rfl | kernel_rfl)) (db_one (ds_ret (dif (dtw (dw_and (dtru (dcallC c_is_name hgd (hr.mono (by decide)) (by exact rfl) (dc_cons (dix (dvar 0) (dint)) (dc_nil)))) (dw_and (dtcmp op_isND o2_isN (dvar 1) (dnon)) (dw_and1 (dtcmp op_isND o2_isN (dvar 2) (dnon)))))) (dtup (dl_cons (dix (dvar 0) (dint)) (dl_cons (dvar 1) (dl_cons (dvar 2) (dl_nil))))) (dnon))))

theorem k_word_id_in (T : Txt K mg cm) {sd_is_name : DSpec} (c_is_name : Cal P w K mg base "is_name" s_is_name 1 ["thing"] sd_is_name) {sd_number_in : DSpec} (c_number_in : CalD P w K mg base "number_in" s_number_in 1 ["thing", "low", "high"] [("low", V.int 0), ("high", V.int 999999)] sd_number_in) {f : Addr} {fd : FuncData} (F : Fun K "word_id_in" "word_id_in" s_word_id_in f fd) (hm : mg "word_id_in" = some (.ref f)) {sd : DSpec} (len : ∀ args R, sd args R → args.length = 1)
    (sp : ∀ args R, sd args R → m_word_id_in  sd_is_name sd_number_in { nx := fun e => R (.vl .non) (outs 1 e), rt := fun r e => R r (outs 1 e) } (startE 3 args)) : Cal P w K mg base "word_id_in" s_word_id_in 2 ["parts"] sd :=
  ⟨f, fd, F, FunG.ok (FunG.of F) sc_word_id_in len (fun cdv A outer s H E hgd hr => d_word_id_in T c_is_name c_number_in hgd hr) sp, hm, F.binds (ps := ["parts"]) fun _ _ _ _ _ _ us hl => match us, hl with | [_], _ => rfl⟩

abbrev s_sign_id_in : Stmt := top 19
theorem sc_sign_id_in : FnScope ["text", "parts", "word", "at"] ["text"] (defScope s_sign_id_in) := ⟨rfl, rfl, rfl, by decide +kernel, rfl, by decide +kernel, by decide +kernel⟩
theorem d_sign_id_in (T : Txt K mg cm) {sd_number_in : DSpec} (c_number_in : CalD P w K mg base "number_in" s_number_in 1 ["thing", "low", "high"] [("low", V.int 0), ("high", V.int 999999)] sd_number_in) {sd_word_id_in : DSpec} (c_word_id_in : Cal P w K mg base "word_id_in" s_word_id_in 2 ["parts"] sd_word_id_in) {f : Addr} {cdv : Value} {A : Around} {outer : List PySem.Env} {s : Shared} {H : Hp} {E : XK} (hgd : A.guards = some []) (hr : Room 2 (A.deeper (PyProof.Rows.envOfC "sign_id_in" (defScope s_sign_id_in) s.heap.objs.size f cdv))) :
    DB (cxOf CX0 P w K mg base ["text", "parts", "word", "at"] "sign_id_in" (defScope s_sign_id_in) f cdv A outer s H E).nox (defBody s_sign_id_in) (m_sign_id_in  sd_number_in sd_word_id_in) := by
  unfold m_sign_id_in
  exact db_cons (ds_set (j := 1) sc_sign_id_in.nd rfl (Or.inl rfl) (dsplit (dvar 0) (dstr))) (db_cons (ds_if (dtcmp (op_neD hr.units) o2_ne (dfnB call_lenX on_len rfl T.b_len (by decide +kernel) (da_cons (dvar 1) (da_nil))) (dint)) (db_one (ds_ret (dnon))) (db_nil)) (db_cons (ds_par2 (i := 2) (j := 3) rfl sc_sign_id_in.nd rfl rfl (by decide) rfl rfl (dl_cons (dcallC c_word_id_in hgd (hr.mono (by decide)) (by exact rfl) (dc_cons (dslice (dvar 1) (do_none) (do_some (dint))) (dc_nil))) (dl_cons (dcallD2 (ks := [("high" : Str)]) c_number_in [("low", V.int 0)] [D.int 0] (fun _ _ => .cons (.int _) (.nil)) 1 1 [0, 1, 2] hgd (hr.mono (by decide)) (by exact rfl) (by simp) (by simp) rfl (by simp) (fun K => bl_number_in_1_high) (dc_cons (dix (dvar 1) (dint)) (dc_nil)) (dk_cons (dop op_sub o2_sub (dgintE rfl T.c_MOST_SIGNS) (dint)) (dk_nil))) (dl_nil))) (by first | rfl | kernel_rfl)) (db_one (ds_ret (dif (dtw (dw_and (dtcmp op_isND o2_isN (dvar 2) (dnon)) (dw_and1 (dtcmp op_isND o2_isN (dvar 3) (dnon))))) (dop op_addD o2_add (dvar 2) (dtup (dl_cons (dvar 3) (dl_nil)))) (dnon))))))

theorem k_sign_id_in (T : Txt K mg cm) {sd_number_in : DSpec} (c_number_in : CalD P w K mg base "number_in" s_number_in 1 ["thing", "low", "high"] [("low", V.int 0), ("high", V.int 999999)] sd_number_in) {sd_word_id_in : DSpec} (c_word_id_in : Cal P w K mg base "word_id_in" s_word_id_in 2 ["parts"] sd_word_id_in) {f : Addr} {fd : FuncData} (F : Fun K "sign_id_in" "sign_id_in" s_sign_id_in f fd) (hm : mg "sign_id_in" = some (.ref f)) {sd : DSpec} (len : ∀ args R, sd args R → args.length = 1)
    (sp : ∀ args R, sd args R → m_sign_id_in  sd_number_in sd_word_id_in { nx := fun e => R (.vl .non) (outs 1 e), rt := fun r e => R r (outs 1 e) } (startE 4 args)) : Cal P w K mg base "sign_id_in" s_sign_id_in 3 ["text"] sd :=
  ⟨f, fd, F, FunG.ok (FunG.of F) sc_sign_id_in len (fun cdv A outer s H E hgd hr => d_sign_id_in T c_number_in c_word_id_in hgd hr) sp, hm, F.binds (ps := ["text"]) fun _ _ _ _ _ _ us hl => match us, hl with | [_], _ => rfl⟩

abbrev s_add_in : Stmt := top 20
theorem sc_add_in : FnScope ["words", "signs", "stamp", "behind"] ["words", "signs"] (defScope s_add_in) := ⟨rfl, rfl, rfl, by decide +kernel, rfl, by decide +kernel, by decide +kernel⟩
theorem d_add_in (T : Txt K mg cm) {sd_number_in : DSpec} (c_number_in : CalD P w K mg base "number_in" s_number_in 1 ["thing", "low", "high"] [("low", V.int 0), ("high", V.int 999999)] sd_number_in) {sd_sign_id_in : DSpec} (c_sign_id_in : Cal P w K mg base "sign_id_in" s_sign_id_in 3 ["text"] sd_sign_id_in) {f : Addr} {cdv : Value} {A : Around} {outer : List PySem.Env} {s : Shared} {H : Hp} {E : XK} (hgd : A.guards = some []) (hr : Room 3 (A.deeper (PyProof.Rows.envOfC "add_in" (defScope s_add_in) s.heap.objs.size f cdv))) :
    DB (cxOf CX0 P w K mg base ["words", "signs", "stamp", "behind"] "add_in" (defScope s_add_in) f cdv A outer s H E).nox (defBody s_add_in) (m_add_in  sd_number_in sd_sign_id_in) := by
  unfold m_add_in
  exact db_cons (ds_if (dtw (dw_or (dtcmp (op_neD hr.units) o2_ne (dfnB call_lenX on_len rfl T.b_len (by decide +kernel) (da_cons (dvar 0) (da_nil))) (dint)) (dw_or (dtcmp (op_neD hr.units) o2_ne (dix (dvar 0) (dint)) (dgstrE rfl T.c_ADD)) (dw_or1 (dtcmp (op_eqD hr.units) o2_eq (dvar 1) (dstr)))))) (db_one (ds_ret (dnon))) (db_nil)) (db_cons (ds_set (j := 2) sc_add_in.nd rfl (Or.inl rfl) (dcallD2 (ks := [("low" : Str)]) c_number_in [("high", V.int 999999)] [D.int 999999] (fun _ _ => .cons (.int _) (.nil)) 1 1 [0, 2, 1] hgd (hr.mono (by decide)) (by exact rfl) (by simp) (by simp) rfl (by simp) (fun K => bl_number_in_1_low) (dc_cons (dix (dvar 0) (dint)) (dc_nil)) (dk_cons (dint) (dk_nil)))) (db_cons (ds_set (j := 3) sc_add_in.nd rfl (Or.inl rfl) (dif (dtcmp (op_eqD hr.units) o2_eq (dix (dvar 0) (dint)) (dgstrE rfl T.c_TOP)) (dtup (dl_nil)) (dcallC c_sign_id_in hgd (hr.mono (by decide)) (by exact rfl) (dc_cons (dix (dvar 0) (dint)) (dc_nil))))) (db_one (ds_ret (dif (dtw (dw_and (dtcmp op_isND o2_isN (dvar 2) (dnon)) (dw_and1 (dtcmp op_isND o2_isN (dvar 3) (dnon))))) (dtup (dl_cons (dgstrE rfl T.c_ADD) (dl_cons (dvar 2) (dl_cons (dvar 3) (dl_cons (dvar 1) (dl_nil)))))) (dnon))))))

theorem k_add_in (T : Txt K mg cm) {sd_number_in : DSpec} (c_number_in : CalD P w K mg base "number_in" s_number_in 1 ["thing", "low", "high"] [("low", V.int 0), ("high", V.int 999999)] sd_number_in) {sd_sign_id_in : DSpec} (c_sign_id_in : Cal P w K mg base "sign_id_in" s_sign_id_in 3 ["text"] sd_sign_id_in) {f : Addr} {fd : FuncData} (F : Fun K "add_in" "add_in" s_add_in f fd) (hm : mg "add_in" = some (.ref f)) {sd : DSpec} (len : ∀ args R, sd args R → args.length = 2)
    (sp : ∀ args R, sd args R → m_add_in  sd_number_in sd_sign_id_in { nx := fun e => R (.vl .non) (outs 2 e), rt := fun r e => R r (outs 2 e) } (startE 4 args)) : Cal P w K mg base "add_in" s_add_in 4 ["words", "signs"] sd :=
  ⟨f, fd, F, FunG.ok (FunG.of F) sc_add_in len (fun cdv A outer s H E hgd hr => d_add_in T c_number_in c_sign_id_in hgd hr) sp, hm, F.binds (ps := ["words", "signs"]) fun _ _ _ _ _ _ us hl => match us, hl with | [_, _], _ => rfl⟩

abbrev s_cut_in : Stmt := top 21
theorem sc_cut_in : FnScope ["words", "word", "first", "last", "part"] ["words"] (defScope s_cut_in) := ⟨rfl, rfl, rfl, by decide +kernel, rfl, by decide +kernel, by decide +kernel⟩
theorem d_cut_in (T : Txt K mg cm) {sd_number_in : DSpec} (c_number_in : CalD P w K mg base "number_in" s_number_in 1 ["thing", "low", "high"] [("low", V.int 0), ("high", V.int 999999)] sd_number_in) {sd_word_id_in : DSpec} (c_word_id_in : Cal P w K mg base "word_id_in" s_word_id_in 2 ["parts"] sd_word_id_in) {f : Addr} {cdv : Value} {A : Around} {outer : List PySem.Env} {s : Shared} {H : Hp} {E : XK} (hgd : A.guards = some []) (hr : Room 2 (A.deeper (PyProof.Rows.envOfC "cut_in" (defScope s_cut_in) s.heap.objs.size f cdv))) :
    DB (cxOf CX0 P w K mg base ["words", "word", "first", "last", "part"] "cut_in" (defScope s_cut_in) f cdv A outer s H E).nox (defBody s_cut_in) (m_cut_in  sd_number_in sd_word_id_in) := by
  unfold m_cut_in
  exact db_cons (ds_if (dtw (dw_or (dtcmp (op_neD hr.units) o2_ne (dfnB call_lenX on_len rfl T.b_len (by decide +kernel) (da_cons (dvar 0) (da_nil))) (dint)) (dw_or (dtcmp (op_neD hr.units) o2_ne (dix (dvar 0) (dint)) (dgstrE rfl T.c_CUT)) (dw_or1 (dtcmp (op_neD hr.units) o2_ne (dfnB call_lenX on_len rfl T.b_len (by decide +kernel) (da_cons (dsplit (dix (dvar 0) (dint)) (dstr)) (da_nil))) (dint)))))) (db_one (ds_ret (dnon))) (db_nil)) (db_cons (ds_set (j := 1) sc_cut_in.nd rfl (Or.inl rfl) (dcallC c_word_id_in hgd (hr.mono (by decide)) (by exact rfl) (dc_cons (dsplit (dix (dvar 0) (dint)) (dstr)) (dc_nil)))) (db_cons (ds_unL (js := [2, 3]) rfl (dgs_cons (dg_name 2 sc_cut_in.nd rfl (Or.inl rfl)) (dgs_cons (dg_name 3 sc_cut_in.nd rfl (Or.inl rfl)) (dgs_nil))) (dlc (js := [4]) [("part", 4)] rfl sc_cut_in.nd (blkOk_by (by kernel_rfl)) (di_any (dslice (dvar 0) (do_some (dint)) (do_none))) (fun _ _ _ _ _ => dg_name 4 sc_cut_in.nd rfl (Or.inl rfl)) (fun _ _ _ _ _ => dts_nil) (fun _ _ _ _ _ => dcallD2 (ks := [("high" : Str)]) c_number_in [("low", V.int 0)] [D.int 0] (fun _ _ => .cons (.int _) (.nil)) 1 1 [0, 1, 2] hgd (hr.mono (by decide)) (by exact rfl) (by simp) (by simp) rfl (by simp) (fun K => bl_number_in_1_high) (dc_cons (dvar 4) (dc_nil)) (dk_cons (dop op_sub o2_sub (dgintE rfl T.c_MOST_SIGNS) (dint)) (dk_nil))))) (db_cons (ds_if (dtw (dw_or (dtcmp op_isD o2_is (dvar 1) (dnon)) (dw_or (dtcmp op_isD o2_is (dvar 2) (dnon)) (dw_or (dtcmp op_isD o2_is (dvar 3) (dnon)) (dw_or1 (dtcmp op_gtD o2_ord (dvar 2) (dvar 3))))))) (db_one (ds_ret (dnon))) (db_nil)) (db_one (ds_ret (dtup (dl_cons (dgstrE rfl T.c_CUT) (dl_cons (dvar 1) (dl_cons (dvar 2) (dl_cons (dvar 3) (dl_nil)))))))))))

theorem k_cut_in (T : Txt K mg cm) {sd_number_in : DSpec} (c_number_in : CalD P w K mg base "number_in" s_number_in 1 ["thing", "low", "high"] [("low", V.int 0), ("high", V.int 999999)] sd_number_in) {sd_word_id_in : DSpec} (c_word_id_in : Cal P w K mg base "word_id_in" s_word_id_in 2 ["parts"] sd_word_id_in) {f : Addr} {fd : FuncData} (F : Fun K "cut_in" "cut_in" s_cut_in f fd) (hm : mg "cut_in" = some (.ref f)) {sd : DSpec} (len : ∀ args R, sd args R → args.length = 1)
    (sp : ∀ args R, sd args R → m_cut_in  sd_number_in sd_word_id_in { nx := fun e => R (.vl .non) (outs 1 e), rt := fun r e => R r (outs 1 e) } (startE 5 args)) : Cal P w K mg base "cut_in" s_cut_in 3 ["words"] sd :=
  ⟨f, fd, F, FunG.ok (FunG.of F) sc_cut_in len (fun cdv A outer s H E hgd hr => d_cut_in T c_number_in c_word_id_in hgd hr) sp, hm, F.binds (ps := ["words"]) fun _ _ _ _ _ _ us hl => match us, hl with | [_], _ => rfl⟩

abbrev s_edit_in : Stmt := top 22
theorem sc_edit_in : FnScope ["thing", "words", "signs"] ["thing"] (defScope s_edit_in) := ⟨rfl, rfl, rfl, by decide +kernel, rfl, by decide +kernel, by decide +kernel⟩
theorem d_edit_in (T : Txt K mg cm) {sd_is_text : DSpec} (c_is_text : Cal P w K mg base "is_text" s_is_text 1 ["thing"] sd_is_text) {sd_split_text : DSpec} (c_split_text : Cal P w K mg base "split_text" s_split_text 2 ["text"] sd_split_text) {sd_add_in : DSpec} (c_add_in : Cal P w K mg base "add_in" s_add_in 4 ["words", "signs"] sd_add_in) {sd_cut_in : DSpec} (c_cut_in : Cal P w K mg base "cut_in" s_cut_in 3 ["words"] sd_cut_in) {f : Addr} {cdv : Value} {A : Around} {outer : List PySem.Env} {s : Shared} {H : Hp} {E : XK} (hgd : A.guards = some []) (hr : Room 4 (A.deeper (PyProof.Rows.envOfC "edit_in" (defScope s_edit_in) s.heap.objs.size f cdv))) :
    DB (cxOf CX0 P w K mg base ["thing", "words", "signs"] "edit_in" (defScope s_edit_in) f cdv A outer s H E).nox (defBody s_edit_in) (m_edit_in  sd_is_text sd_split_text sd_add_in sd_cut_in) := by
  unfold m_edit_in
  exact db_cons (ds_if (dtnot (dtru (dcallC c_is_text hgd (hr.mono (by decide)) (by exact rfl) (dc_cons (dvar 0) (dc_nil))))) (db_one (ds_ret (dnon))) (db_nil)) (db_cons (ds_un (js := [1, 2]) rfl (dgs_cons (dg_name 1 sc_edit_in.nd rfl (Or.inl rfl)) (dgs_cons (dg_name 2 sc_edit_in.nd rfl (Or.inl rfl)) (dgs_nil))) (dcallC c_split_text hgd (hr.mono (by decide)) (by exact rfl) (dc_cons (dvar 0) (dc_nil)))) (db_cons (ds_if (dtcmp op_isD o2_is (dvar 1) (dnon)) (db_one (ds_ret (dnon))) (db_nil)) (db_one (ds_ret (dif (dtcmp op_isD o2_is (dvar 2) (dnon)) (dcallC c_cut_in hgd (hr.mono (by decide)) (by exact rfl) (dc_cons (dvar 1) (dc_nil))) (dcallC c_add_in hgd (hr.mono (by decide)) (by exact rfl) (dc_cons (dvar 1) (dc_cons (dvar 2) (dc_nil)))))))))

theorem k_edit_in (T : Txt K mg cm) {sd_is_text : DSpec} (c_is_text : Cal P w K mg base "is_text" s_is_text 1 ["thing"] sd_is_text) {sd_split_text : DSpec} (c_split_text : Cal P w K mg base "split_text" s_split_text 2 ["text"] sd_split_text) {sd_add_in : DSpec} (c_add_in : Cal P w K mg base "add_in" s_add_in 4 ["words", "signs"] sd_add_in) {sd_cut_in : DSpec} (c_cut_in : Cal P w K mg base "cut_in" s_cut_in 3 ["words"] sd_cut_in) {f : Addr} {fd : FuncData} (F : Fun K "edit_in" "edit_in" s_edit_in f fd) (hm : mg "edit_in" = some (.ref f)) {sd : DSpec} (len : ∀ args R, sd args R → args.length = 1)
    (sp : ∀ args R, sd args R → m_edit_in  sd_is_text sd_split_text sd_add_in sd_cut_in { nx := fun e => R (.vl .non) (outs 1 e), rt := fun r e => R r (outs 1 e) } (startE 3 args)) : Cal P w K mg base "edit_in" s_edit_in 5 ["thing"] sd :=
  ⟨f, fd, F, FunG.ok (FunG.of F) sc_edit_in len (fun cdv A outer s H E hgd hr => d_edit_in T c_is_text c_split_text c_add_in c_cut_in hgd hr) sp, hm, F.binds (ps := ["thing"]) fun _ _ _ _ _ _ us hl => match us, hl with | [_], _ => rfl⟩

abbrev s_l_cell : Stmt := top 24
theorem sc_l_cell : FnScope ["script", "k"] ["script", "k"] (defScope s_l_cell) := ⟨rfl, rfl, rfl, by decide +kernel, rfl, by decide +kernel, by decide +kernel⟩
theorem d_l_cell (T : Txt K mg cm)  {f : Addr} {cdv : Value} {A : Around} {outer : List PySem.Env} {s : Shared} {H : Hp} {E : XK} (hgd : A.guards = some []) (hr : Room 0 (A.deeper (PyProof.Rows.envOfC "_law_cell" (defScope s_l_cell) s.heap.objs.size f cdv))) :
    DB (cxOf CX0 P w K mg base ["script", "k"] "_law_cell" (defScope s_l_cell) f cdv A outer s H E).nox (defBody s_l_cell) (m_l_cell  ) := by
  unfold m_l_cell
  exact db_cons (ds_if (dtcmp op_ltD o2_ord (dvar 1) (dfnB call_lenX on_len rfl T.b_len (by decide +kernel) (da_cons (dvar 0) (da_nil)))) (db_one (ds_ret (dix (dvar 0) (dvar 1)))) (db_nil)) (db_one (ds_ret (dop op_addD o2_add (dop op_mulD o2_mul (dint) (dvar 1)) (dint))))

theorem k_l_cell (T : Txt K mg cm)  {f : Addr} {fd : FuncData} (F : Fun K "_law_cell" "_law_cell" s_l_cell f fd) (hm : mg "_law_cell" = some (.ref f)) {sd : DSpec} (len : ∀ args R, sd args R → args.length = 2)
    (sp : ∀ args R, sd args R → m_l_cell   { nx := fun e => R (.vl .non) (outs 2 e), rt := fun r e => R r (outs 2 e) } (startE 2 args)) : Cal P w K mg base "_law_cell" s_l_cell 1 ["script", "k"] sd :=
  ⟨f, fd, F, FunG.ok (FunG.of F) sc_l_cell len (fun cdv A outer s H E hgd hr => d_l_cell T  hgd hr) sp, hm, F.binds (ps := ["script", "k"]) fun _ _ _ _ _ _ us hl => match us, hl with | [_, _], _ => rfl⟩

abbrev s_l_box : Stmt := top 25
theorem sc_l_box : FnScope ["cell"] ["cell"] (defScope s_l_box) := ⟨rfl, rfl, rfl, by decide +kernel, rfl, by decide +kernel, by decide +kernel⟩
theorem d_l_box (T : Txt K mg cm)  {f : Addr} {cdv : Value} {A : Around} {outer : List PySem.Env} {s : Shared} {H : Hp} {E : XK} (hgd : A.guards = some []) (hr : Room 0 (A.deeper (PyProof.Rows.envOfC "_law_box" (defScope s_l_box) s.heap.objs.size f cdv))) :
    DB (cxOf CX0 P w K mg base ["cell"] "_law_box" (defScope s_l_box) f cdv A outer s H E).nox (defBody s_l_box) (m_l_box  ) := by
  unfold m_l_box
  exact db_one (ds_ret (dlst (dl_cons (dfnB (call_maxX rfl) on_max rfl T.b_max (by decide +kernel) (da_cons (dint) (da_cons (dop op_sub o2_sub (dvar 0) (dop op_pow o2_pow (dint) (dint))) (da_nil)))) (dl_cons (dop op_mod o2_mod (dvar 0) (dint)) (dl_cons (dint) (dl_nil))))))

theorem k_l_box (T : Txt K mg cm)  {f : Addr} {fd : FuncData} (F : Fun K "_law_box" "_law_box" s_l_box f fd) (hm : mg "_law_box" = some (.ref f)) {sd : DSpec} (len : ∀ args R, sd args R → args.length = 1)
    (sp : ∀ args R, sd args R → m_l_box   { nx := fun e => R (.vl .non) (outs 1 e), rt := fun r e => R r (outs 1 e) } (startE 1 args)) : Cal P w K mg base "_law_box" s_l_box 1 ["cell"] sd :=
  ⟨f, fd, F, FunG.ok (FunG.of F) sc_l_box len (fun cdv A outer s H E hgd hr => d_l_box T  hgd hr) sp, hm, F.binds (ps := ["cell"]) fun _ _ _ _ _ _ us hl => match us, hl with | [_], _ => rfl⟩

abbrev s_l_take : Stmt := top 26
theorem sc_l_take : FnScope ["box", "many", "digit", "one", "other"] ["box", "many"] (defScope s_l_take) := ⟨rfl, rfl, rfl, by decide +kernel, rfl, by decide +kernel, by decide +kernel⟩
theorem d_l_take (T : Txt K mg cm)  {f : Addr} {cdv : Value} {A : Around} {outer : List PySem.Env} {s : Shared} {H : Hp} {E : XK} (hgd : A.guards = some []) (hr : Room 0 (A.deeper (PyProof.Rows.envOfC "_law_take" (defScope s_l_take) s.heap.objs.size f cdv))) :
    DB (cxOf CX0 P w K mg base ["box", "many", "digit", "one", "other"] "_law_take" (defScope s_l_take) f cdv A outer s H E).nox (defBody s_l_take) (m_l_take  ) := by
  unfold m_l_take
  exact db_cons (ds_if (dtcmp op_gtD o2_ord (dix (dvar 0) (dint)) (dint)) (db_cons (ds_set (j := 2) sc_l_take.nd rfl (Or.inl rfl) (dop op_mod o2_mod (dix (dvar 0) (dint)) (dvar 1))) (db_cons (ds_setIx 0 rfl (Or.inl rfl) (dint) (dop op_fdivW o2_fdiv (dix (dvar 0) (dint)) (dvar 1))) (db_one (ds_ret (dvar 2))))) (db_nil)) (db_cons (ds_setIx 0 rfl (Or.inl rfl) (dint) (dop op_addD o2_add (dix (dvar 0) (dint)) (dint))) (db_cons (ds_set (j := 3) sc_l_take.nd rfl (Or.inl rfl) (dop op_mod o2_mod (dop op_pow o2_pow (dop op_addD o2_add (dop op_addD o2_add (dix (dvar 0) (dint)) (dop op_mulD o2_mul (dint) (dix (dvar 0) (dint)))) (dint)) (dint)) (dint))) (db_cons (ds_set (j := 4) sc_l_take.nd rfl (Or.inl rfl) (dop op_mod o2_mod (dop op_pow o2_pow (dop op_addD o2_add (dop op_addD o2_add (dop op_fdivW o2_fdiv (dvar 3) (dint)) (dop op_mulD o2_mul (dop op_mulD o2_mul (dint) (dix (dvar 0) (dint))) (dix (dvar 0) (dint)))) (dint)) (dint)) (dint))) (db_one (ds_ret (dop op_mod o2_mod (dop op_addD o2_add (dop op_fdivW o2_fdiv (dvar 3) (dint)) (dop op_mulD o2_mul (dint) (dop op_fdivW o2_fdiv (dvar 4) (dint)))) (dvar 1)))))))

theorem k_l_take (T : Txt K mg cm)  {f : Addr} {fd : FuncData} (F : Fun K "_law_take" "_law_take" s_l_take f fd) (hm : mg "_law_take" = some (.ref f)) {sd : DSpec} (len : ∀ args R, sd args R → args.length = 2)
    (sp : ∀ args R, sd args R → m_l_take   { nx := fun e => R (.vl .non) (outs 2 e), rt := fun r e => R r (outs 2 e) } (startE 5 args)) : Cal P w K mg base "_law_take" s_l_take 1 ["box", "many"] sd :=
  ⟨f, fd, F, FunG.ok (FunG.of F) sc_l_take len (fun cdv A outer s H E hgd hr => d_l_take T  hgd hr) sp, hm, F.binds (ps := ["box", "many"]) fun _ _ _ _ _ _ us hl => match us, hl with | [_, _], _ => rfl⟩

abbrev s_l_pick : Stmt := top 27
theorem sc_l_pick : FnScope ["box", "right", "wrong", "spoilt", "some"] ["box", "right", "wrong", "spoilt"] (defScope s_l_pick) := ⟨rfl, rfl, rfl, by decide +kernel, rfl, by decide +kernel, by decide +kernel⟩
theorem d_l_pick (T : Txt K mg cm) {sd_l_take : DSpec} (c_l_take : Cal P w K mg base "_law_take" s_l_take 1 ["box", "many"] sd_l_take) {f : Addr} {cdv : Value} {A : Around} {outer : List PySem.Env} {s : Shared} {H : Hp} {E : XK} (hgd : A.guards = some []) (hr : Room 1 (A.deeper (PyProof.Rows.envOfC "_law_pick" (defScope s_l_pick) s.heap.objs.size f cdv))) :
    DB (cxOf CX0 P w K mg base ["box", "right", "wrong", "spoilt", "some"] "_law_pick" (defScope s_l_pick) f cdv A outer s H E).nox (defBody s_l_pick) (m_l_pick  sd_l_take) := by
  unfold m_l_pick
  exact db_cons (ds_set (j := 4) sc_l_pick.nd rfl (Or.inl rfl) (dif (dtru (dvar 3)) (dvar 2) (dvar 1))) (db_one (ds_ret (dix (dvar 4) (dcallC c_l_take hgd (hr.mono (by decide)) (by exact rfl) (dc_cons (dvar 0) (dc_cons (dfnB call_lenX on_len rfl T.b_len (by decide +kernel) (da_cons (dvar 4) (da_nil))) (dc_nil)))))))

theorem k_l_pick (T : Txt K mg cm) {sd_l_take : DSpec} (c_l_take : Cal P w K mg base "_law_take" s_l_take 1 ["box", "many"] sd_l_take) {f : Addr} {fd : FuncData} (F : Fun K "_law_pick" "_law_pick" s_l_pick f fd) (hm : mg "_law_pick" = some (.ref f)) {sd : DSpec} (len : ∀ args R, sd args R → args.length = 4)
    (sp : ∀ args R, sd args R → m_l_pick  sd_l_take { nx := fun e => R (.vl .non) (outs 4 e), rt := fun r e => R r (outs 4 e) } (startE 5 args)) : Cal P w K mg base "_law_pick" s_l_pick 2 ["box", "right", "wrong", "spoilt"] sd :=
  ⟨f, fd, F, FunG.ok (FunG.of F) sc_l_pick len (fun cdv A outer s H E hgd hr => d_l_pick T c_l_take hgd hr) sp, hm, F.binds (ps := ["box", "right", "wrong", "spoilt"]) fun _ _ _ _ _ _ us hl => match us, hl with | [_, _, _, _], _ => rfl⟩

abbrev s_l_number : Stmt := top 28
theorem sc_l_number : FnScope ["box", "low", "spoilt", "right", "wrong"] ["box", "low", "spoilt"] (defScope s_l_number) := ⟨rfl, rfl, rfl, by decide +kernel, rfl, by decide +kernel, by decide +kernel⟩
theorem d_l_number (T : Txt K mg cm) {sd_l_pick : DSpec} (c_l_pick : Cal P w K mg base "_law_pick" s_l_pick 2 ["box", "right", "wrong", "spoilt"] sd_l_pick) {f : Addr} {cdv : Value} {A : Around} {outer : List PySem.Env} {s : Shared} {H : Hp} {E : XK} (hgd : A.guards = some []) (hr : Room 2 (A.deeper (PyProof.Rows.envOfC "_law_number" (defScope s_l_number) s.heap.objs.size f cdv))) :
    DB (cxOf CX0 P w K mg base ["box", "low", "spoilt", "right", "wrong"] "_law_number" (defScope s_l_number) f cdv A outer s H E).nox (defBody s_l_number) (m_l_number  sd_l_pick) := by
  unfold m_l_number
  exact db_cons (ds_set (j := 3) sc_l_number.nd rfl (Or.inl rfl) (dop op_addD o2_add (dlst (dl_cons (dstr) (dl_cons (dstr) (dl_cons (dstr) (dl_cons (dstr) (dl_cons (dstr) (dl_nil))))))) (dif (dtcmp (op_eqD hr.units) o2_eq (dvar 1) (dint)) (dlst (dl_cons (dstr) (dl_nil))) (dlst (dl_nil))))) (db_cons (ds_set (j := 4) sc_l_number.nd rfl (Or.inl rfl) (dlst (dl_cons (dstr) (dl_cons (dstr) (dl_cons (dstr) (dl_cons (dstr) (dl_cons (dstr) (dl_cons (dstr) (dl_cons (dif (dtcmp (op_eqD hr.units) o2_eq (dvar 1) (dint)) (dstr) (dstr)) (dl_cons (dop op_addD o2_add (dstr) (dop op_mulA o2_mulA (dstr) (dint))) (dl_nil))))))))))) (db_one (ds_ret (dcallC c_l_pick hgd (hr.mono (by decide)) (by exact rfl) (dc_cons (dvar 0) (dc_cons (dvar 3) (dc_cons (dvar 4) (dc_cons (dvar 2) (dc_nil)))))))))

theorem k_l_number (T : Txt K mg cm) {sd_l_pick : DSpec} (c_l_pick : Cal P w K mg base "_law_pick" s_l_pick 2 ["box", "right", "wrong", "spoilt"] sd_l_pick) {f : Addr} {fd : FuncData} (F : Fun K "_law_number" "_law_number" s_l_number f fd) (hm : mg "_law_number" = some (.ref f)) {sd : DSpec} (len : ∀ args R, sd args R → args.length = 3)
    (sp : ∀ args R, sd args R → m_l_number  sd_l_pick { nx := fun e => R (.vl .non) (outs 3 e), rt := fun r e => R r (outs 3 e) } (startE 5 args)) : Cal P w K mg base "_law_number" s_l_number 3 ["box", "low", "spoilt"] sd :=
  ⟨f, fd, F, FunG.ok (FunG.of F) sc_l_number len (fun cdv A outer s H E hgd hr => d_l_number T c_l_pick hgd hr) sp, hm, F.binds (ps := ["box", "low", "spoilt"]) fun _ _ _ _ _ _ us hl => match us, hl with | [_, _, _], _ => rfl⟩

abbrev s_l_word : Stmt := top 29
theorem sc_l_word : FnScope ["box", "spoilt", "at", "name", "number", "place"] ["box", "spoilt"] (defScope s_l_word) := ⟨rfl, rfl, rfl, by decide +kernel, rfl, by decide +kernel, by decide +kernel⟩
theorem d_l_word (T : Txt K mg cm) {sd_l_take : DSpec} (c_l_take : Cal P w K mg base "_law_take" s_l_take 1 ["box", "many"] sd_l_take) {sd_l_pick : DSpec} (c_l_pick : Cal P w K mg base "_law_pick" s_l_pick 2 ["box", "right", "wrong", "spoilt"] sd_l_pick) {f : Addr} {cdv : Value} {A : Around} {outer : List PySem.Env} {s : Shared} {H : Hp} {E : XK} (hgd : A.guards = some []) (hr : Room 2 (A.deeper (PyProof.Rows.envOfC "_law_word" (defScope s_l_word) s.heap.objs.size f cdv))) :
    DB (cxOf CX0 P w K mg base ["box", "spoilt", "at", "name", "number", "place"] "_law_word" (defScope s_l_word) f cdv A outer s H E).nox (defBody s_l_word) (m_l_word  sd_l_take sd_l_pick) := by
  unfold m_l_word
  exact db_cons (ds_set (j := 2) sc_l_word.nd rfl (Or.inl rfl) (dif (dtru (dvar 1)) (dcallC c_l_take hgd (hr.mono (by decide)) (by exact rfl) (dc_cons (dvar 0) (dc_cons (dint) (dc_nil)))) (dint))) (db_cons (ds_set (j := 3) sc_l_word.nd rfl (Or.inl rfl) (dcallC c_l_pick hgd (hr.mono (by decide)) (by exact rfl) (dc_cons (dvar 0) (dc_cons (dlst (dl_cons (dstr) (dl_cons (dstr) (dl_cons (dstr) (dl_cons (dstr) (dl_cons (dstr) (dl_nil))))))) (dc_cons (dlst (dl_cons (dstr) (dl_cons (dstr) (dl_cons (dstr) (dl_cons (dstr) (dl_cons (dstr) (dl_nil))))))) (dc_cons (dcmp (op_eqD hr.units) o2_eq (dvar 2) (dint)) (dc_nil))))))) (db_cons (ds_set (j := 4) sc_l_word.nd rfl (Or.inl rfl) (dcallC c_l_pick hgd (hr.mono (by decide)) (by exact rfl) (dc_cons (dvar 0) (dc_cons (dlst (dl_cons (dstr) (dl_cons (dstr) (dl_cons (dstr) (dl_cons (dstr) (dl_cons (dop op_mulA o2_mulA (dstr) (dint)) (dl_nil))))))) (dc_cons (dlst (dl_cons (dstr) (dl_cons (dstr) (dl_cons (dstr) (dl_cons (dstr) (dl_cons (dop op_mulA o2_mulA (dstr) (dint)) (dl_nil))))))) (dc_cons (dcmp (op_eqD hr.units) o2_eq (dvar 2) (dint)) (dc_nil))))))) (db_cons (ds_set (j := 5) sc_l_word.nd rfl (Or.inl rfl) (dcallC c_l_pick hgd (hr.mono (by decide)) (by exact rfl) (dc_cons (dvar 0) (dc_cons (dlst (dl_cons (dstr) (dl_cons (dstr) (dl_cons (dstr) (dl_nil))))) (dc_cons (dlst (dl_cons (dstr) (dl_cons (dstr) (dl_cons (dstr) (dl_cons (dstr) (dl_nil)))))) (dc_cons (dcmp (op_eqD hr.units) o2_eq (dvar 2) (dint)) (dc_nil))))))) (db_one (ds_ret (dlst (dl_cons (dvar 3) (dl_cons (dvar 4) (dl_cons (dvar 5) (dl_nil))))))))))

theorem k_l_word (T : Txt K mg cm) {sd_l_take : DSpec} (c_l_take : Cal P w K mg base "_law_take" s_l_take 1 ["box", "many"] sd_l_take) {sd_l_pick : DSpec} (c_l_pick : Cal P w K mg base "_law_pick" s_l_pick 2 ["box", "right", "wrong", "spoilt"] sd_l_pick) {f : Addr} {fd : FuncData} (F : Fun K "_law_word" "_law_word" s_l_word f fd) (hm : mg "_law_word" = some (.ref f)) {sd : DSpec} (len : ∀ args R, sd args R → args.length = 2)
    (sp : ∀ args R, sd args R → m_l_word  sd_l_take sd_l_pick { nx := fun e => R (.vl .non) (outs 2 e), rt := fun r e => R r (outs 2 e) } (startE 6 args)) : Cal P w K mg base "_law_word" s_l_word 3 ["box", "spoilt"] sd :=
  ⟨f, fd, F, FunG.ok (FunG.of F) sc_l_word len (fun cdv A outer s H E hgd hr => d_l_word T c_l_take c_l_pick hgd hr) sp, hm, F.binds (ps := ["box", "spoilt"]) fun _ _ _ _ _ _ us hl => match us, hl with | [_, _], _ => rfl⟩

abbrev s_l_add : Stmt := top 30
theorem sc_l_add : FnScope ["box", "bad", "word", "k", "top", "behind", "stamp", "signs", "head", "line"] ["box", "bad"] (defScope s_l_add) := ⟨rfl, rfl, rfl, by decide +kernel, rfl, by decide +kernel, by decide +kernel⟩
theorem d_l_add (T : Txt K mg cm) {sd_l_take : DSpec} (c_l_take : Cal P w K mg base "_law_take" s_l_take 1 ["box", "many"] sd_l_take) {sd_l_pick : DSpec} (c_l_pick : Cal P w K mg base "_law_pick" s_l_pick 2 ["box", "right", "wrong", "spoilt"] sd_l_pick) {sd_l_number : DSpec} (c_l_number : Cal P w K mg base "_law_number" s_l_number 3 ["box", "low", "spoilt"] sd_l_number) {sd_l_word : DSpec} (c_l_word : Cal P w K mg base "_law_word" s_l_word 3 ["box", "spoilt"] sd_l_word) {f : Addr} {cdv : Value} {A : Around} {outer : List PySem.Env} {s : Shared} {H : Hp} {E : XK} (hgd : A.guards = some []) (hr : Room 3 (A.deeper (PyProof.Rows.envOfC "_law_add" (defScope s_l_add) s.heap.objs.size f cdv))) :
    DB (cxOf CX0 P w K mg base ["box", "bad", "word", "k", "top", "behind", "stamp", "signs", "head", "line"] "_law_add" (defScope s_l_add) f cdv A outer s H E).nox (defBody s_l_add) (m_l_add  sd_l_take sd_l_pick sd_l_number sd_l_word) := by
  unfold m_l_add
  exact db_cons (ds_par2 (i := 2) (j := 3) rfl sc_l_add.nd rfl rfl (by decide) rfl rfl (dl_cons (dcallC c_l_word hgd (hr.mono (by decide)) (by exact rfl) (dc_cons (dvar 0) (dc_cons (dcmp (op_eqD hr.units) o2_eq (dvar 1) (dint)) (dc_nil)))) (dl_cons (dcallC c_l_number hgd (hr.mono (by decide)) (by exact rfl) (dc_cons (dvar 0) (dc_cons (dint) (dc_cons (dcmp (op_eqD hr.units) o2_eq (dvar 1) (dint)) (dc_nil))))) (dl_nil))) (by first | rfl | kernel_rfl)) (db_cons (ds_set (j := 4) sc_l_add.nd rfl (Or.inl rfl) (dand (dcmp op_notInB o2_inB (dvar 1) (dtup (dl_cons (dint) (dl_cons (dint) (dl_nil))))) (done1 (dcmp (op_eqD hr.units) o2_eq (dcallC c_l_take hgd (hr.mono (by decide)) (by exact rfl) (dc_cons (dvar 0) (dc_cons (dint) (dc_nil)))) (dint))))) (db_cons (ds_set (j := 5) sc_l_add.nd rfl (Or.inl rfl) (dif (dtru (dvar 4)) (dstr) (djoin (dstr) (dop op_addD o2_add (dvar 2) (dlst (dl_cons (dvar 3) (dl_nil))))))) (db_cons (ds_if (dtcmp (op_eqD hr.units) o2_eq (dvar 1) (dint)) (db_one (ds_set (j := 5) sc_l_add.nd rfl (Or.inl rfl) (dix (dlst (dl_cons (dstr) (dl_cons (dstr) (dl_cons (djoin (dstr) (dvar 2)) (dl_cons (djoin (dstr) (dop op_addD o2_add (dvar 2) (dlst (dl_cons (dvar 3) (dl_cons (dstr) (dl_nil)))))) (dl_cons (dstr) (dl_nil))))))) (dcallC c_l_take hgd (hr.mono (by decide)) (by exact rfl) (dc_cons (dvar 0) (dc_cons (dint) (dc_nil))))))) (db_nil)) (db_cons (ds_set (j := 6) sc_l_add.nd rfl (Or.inl rfl) (dcallC c_l_pick hgd (hr.mono (by decide)) (by exact rfl) (dc_cons (dvar 0) (dc_cons (dlst (dl_cons (dstr) (dl_cons (dstr) (dl_cons (dstr) (dl_nil))))) (dc_cons (dlst (dl_cons (dstr) (dl_cons (dstr) (dl_cons (dstr) (dl_cons (dstr) (dl_cons (dstr) (dl_cons (dstr) (dl_nil)))))))) (dc_cons (dcmp (op_eqD hr.units) o2_eq (dvar 1) (dint)) (dc_nil))))))) (db_cons (ds_set (j := 7) sc_l_add.nd rfl (Or.inl rfl) (dlst (dl_cons (dstr) (dl_cons (dstr) (dl_cons (dstr) (dl_cons (dstr) (dl_cons (dstr) (dl_cons (dstr) (dl_cons (dop op_mulA o2_mulA (dstr) (dop op_sub o2_sub (dint) (dfnB call_lenX on_len rfl T.b_len (by decide +kernel) (da_cons (dop op_addD o2_add (dop op_addD o2_add (dop op_addD o2_add (dop op_addD o2_add (dstr) (dvar 6)) (dstr)) (dvar 5)) (dstr)) (da_nil))))) (dl_nil)))))))))) (db_cons (ds_set (j := 7) sc_l_add.nd rfl (Or.inl rfl) (dif (dtcmp (op_eqD hr.units) o2_eq (dvar 1) (dint)) (dstr) (dix (dvar 7) (dcallC c_l_take hgd (hr.mono (by decide)) (by exact rfl) (dc_cons (dvar 0) (dc_cons (dint) (dc_nil))))))) (db_cons (ds_set (j := 8) sc_l_add.nd rfl (Or.inl rfl) (dix (dlst (dl_cons (dlst (dl_cons (dstr) (dl_nil))) (dl_cons (dlst (dl_cons (dstr) (dl_nil))) (dl_cons (dlst (dl_cons (dstr) (dl_cons (dstr) (dl_nil)))) (dl_cons (dlst (dl_cons (dstr) (dl_nil))) (dl_cons (dlst (dl_cons (dstr) (dl_cons (dstr) (dl_nil)))) (dl_nil))))))) (dif (dtcmp (op_neD hr.units) o2_ne (dvar 1) (dint)) (dint) (dop op_addD o2_add (dint) (dcallC c_l_take hgd (hr.mono (by decide)) (by exact rfl) (dc_cons (dvar 0) (dc_cons (dint) (dc_nil)))))))) (db_cons (ds_set (j := 9) sc_l_add.nd rfl (Or.inl rfl) (dop op_addD o2_add (dop op_addD o2_add (djoin (dstr) (dop op_addD o2_add (dvar 8) (dlst (dl_cons (dvar 6) (dl_cons (dvar 5) (dl_nil)))))) (dif (dtcmp (op_eqD hr.units) o2_eq (dvar 1) (dint)) (dstr) (dstr))) (dvar 7))) (db_cons (ds_ifRep 1 9 8 " =" "  =" sc_l_add.nd rfl (Or.inl rfl) rfl (Or.inl rfl) (Or.inl rfl)) (db_cons (ds_if (dtw (dw_or (dtw (dw_and (dtcmp (op_neD hr.units) o2_ne (dvar 1) (dint)) (dw_and1 (dtcmp op_gtD o2_ord (dvar 1) (dint))))) (dw_or (dtcmp (op_eqD hr.units) o2_eq (dvar 7) (dstr)) (dw_or1 (dtcmp op_gtD o2_ord (dfnB call_lenX on_len rfl T.b_len (by decide +kernel) (da_cons (dvar 9) (da_nil))) (dint)))))) (db_one (ds_ret (dtup (dl_cons (dvar 9) (dl_cons (dnon) (dl_nil)))))) (db_nil)) (db_one (ds_ret (dtup (dl_cons (dvar 9) (dl_cons (dtup (dl_cons (dstr) (dl_cons (dfnT call_int_str on_int rfl T.b_int (by decide +kernel) (da_cons (dvar 6) (da_nil))) (dl_cons (dif (dtru (dvar 4)) (dtup (dl_nil)) (dtup (dl_cons (dix (dvar 2) (dint)) (dl_cons (dfnT call_int_str on_int rfl T.b_int (by decide +kernel) (da_cons (dix (dvar 2) (dint)) (da_nil))) (dl_cons (dfnT call_int_str on_int rfl T.b_int (by decide +kernel) (da_cons (dix (dvar 2) (dint)) (da_nil))) (dl_cons (dfnT call_int_str on_int rfl T.b_int (by decide +kernel) (da_cons (dvar 3) (da_nil))) (dl_nil))))))) (dl_cons (dvar 7) (dl_nil)))))) (dl_nil))))))))))))))))

theorem k_l_add (T : Txt K mg cm) {sd_l_take : DSpec} (c_l_take : Cal P w K mg base "_law_take" s_l_take 1 ["box", "many"] sd_l_take) {sd_l_pick : DSpec} (c_l_pick : Cal P w K mg base "_law_pick" s_l_pick 2 ["box", "right", "wrong", "spoilt"] sd_l_pick) {sd_l_number : DSpec} (c_l_number : Cal P w K mg base "_law_number" s_l_number 3 ["box", "low", "spoilt"] sd_l_number) {sd_l_word : DSpec} (c_l_word : Cal P w K mg base "_law_word" s_l_word 3 ["box", "spoilt"] sd_l_word) {f : Addr} {fd : FuncData} (F : Fun K "_law_add" "_law_add" s_l_add f fd) (hm : mg "_law_add" = some (.ref f)) {sd : DSpec} (len : ∀ args R, sd args R → args.length = 2)
    (sp : ∀ args R, sd args R → m_l_add  sd_l_take sd_l_pick sd_l_number sd_l_word { nx := fun e => R (.vl .non) (outs 2 e), rt := fun r e => R r (outs 2 e) } (startE 10 args)) : Cal P w K mg base "_law_add" s_l_add 4 ["box", "bad"] sd :=
  ⟨f, fd, F, FunG.ok (FunG.of F) sc_l_add len (fun cdv A outer s H E hgd hr => d_l_add T c_l_take c_l_pick c_l_number c_l_word hgd hr) sp, hm, F.binds (ps := ["box", "bad"]) fun _ _ _ _ _ _ us hl => match us, hl with | [_, _], _ => rfl⟩

abbrev s_l_cut : Stmt := top 31
theorem sc_l_cut : FnScope ["box", "bad", "word", "first", "last", "name", "line"] ["box", "bad"] (defScope s_l_cut) := ⟨rfl, rfl, rfl, by decide +kernel, rfl, by decide +kernel, by decide +kernel⟩
theorem d_l_cut (T : Txt K mg cm) {sd_l_take : DSpec} (c_l_take : Cal P w K mg base "_law_take" s_l_take 1 ["box", "many"] sd_l_take) {sd_l_number : DSpec} (c_l_number : Cal P w K mg base "_law_number" s_l_number 3 ["box", "low", "spoilt"] sd_l_number) {sd_l_word : DSpec} (c_l_word : Cal P w K mg base "_law_word" s_l_word 3 ["box", "spoilt"] sd_l_word) {f : Addr} {cdv : Value} {A : Around} {outer : List PySem.Env} {s : Shared} {H : Hp} {E : XK} (hgd : A.guards = some []) (hr : Room 3 (A.deeper (PyProof.Rows.envOfC "_law_cut" (defScope s_l_cut) s.heap.objs.size f cdv))) :
    DB (cxOf CX0 P w K mg base ["box", "bad", "word", "first", "last", "name", "line"] "_law_cut" (defScope s_l_cut) f cdv A outer s H E).nox (defBody s_l_cut) (m_l_cut  sd_l_take sd_l_number sd_l_word) := by
  unfold m_l_cut
  exact db_cons (ds_set (j := 2) sc_l_cut.nd rfl (Or.inl rfl) (dcallC c_l_word hgd (hr.mono (by decide)) (by exact rfl) (dc_cons (dvar 0) (dc_cons (dcmp (op_eqD hr.units) o2_eq (dvar 1) (dint)) (dc_nil))))) (db_cons (ds_par2 (i := 3) (j := 4) rfl sc_l_cut.nd rfl rfl (by decide) rfl rfl (dl_cons (dcallC c_l_number hgd (hr.mono (by decide)) (by exact rfl) (dc_cons (dvar 0) (dc_cons (dint) (dc_cons (dcmp (op_eqD hr.units) o2_eq (dvar 1) (dint)) (dc_nil))))) (dl_cons (dcallC c_l_number hgd (hr.mono (by decide)) (by exact rfl) (dc_cons (dvar 0) (dc_cons (dint) (dc_cons (dcmp (op_eqD hr.units) o2_eq (dvar 1) (dint)) (dc_nil))))) (dl_nil))) (by first | rfl | kernel_rfl)) (db_cons (ds_set (j := 5) sc_l_cut.nd rfl (Or.inl rfl) (djoin (dstr) (dvar 2))) (db_cons (ds_if (dtcmp (op_eqD hr.units) o2_eq (dvar 1) (dint)) (db_one (ds_set (j := 5) sc_l_cut.nd rfl (Or.inl rfl) (dix (dlst (dl_cons (djoin (dstr) (dop op_addD o2_add (dvar 2) (dlst (dl_cons (dstr) (dl_nil))))) (dl_cons (djoin (dstr) (dslice (dvar 2) (do_none) (do_some (dint)))) (dl_cons (dstr) (dl_cons (dix (dvar 2) (dint)) (dl_nil)))))) (dcallC c_l_take hgd (hr.mono (by decide)) (by exact rfl) (dc_cons (dvar 0) (dc_cons (dint) (dc_nil))))))) (db_nil)) (db_cons (ds_set (j := 6) sc_l_cut.nd rfl (Or.inl rfl) (djoin (dstr) (dop op_addD o2_add (dix (dlst (dl_cons (dlst (dl_cons (dstr) (dl_nil))) (dl_cons (dlst (dl_cons (dstr) (dl_nil))) (dl_cons (dlst (dl_cons (dstr) (dl_cons (dstr) (dl_nil)))) (dl_cons (dlst (dl_cons (dstr) (dl_nil))) (dl_nil)))))) (dif (dtcmp (op_neD hr.units) o2_ne (dvar 1) (dint)) (dint) (dop op_addD o2_add (dint) (dcallC c_l_take hgd (hr.mono (by decide)) (by exact rfl) (dc_cons (dvar 0) (dc_cons (dint) (dc_nil))))))) (dlst (dl_cons (dvar 5) (dl_cons (dvar 3) (dl_cons (dvar 4) (dl_nil)))))))) (db_cons (ds_set (j := 6) sc_l_cut.nd rfl (Or.inl rfl) (dop op_addD o2_add (dvar 6) (dix (dlst (dl_cons (dstr) (dl_cons (dstr) (dl_cons (dstr) (dl_cons (dstr) (dl_cons (dstr) (dl_nil))))))) (dif (dtcmp (op_neD hr.units) o2_ne (dvar 1) (dint)) (dint) (dop op_addD o2_add (dint) (dcallC c_l_take hgd (hr.mono (by decide)) (by exact rfl) (dc_cons (dvar 0) (dc_cons (dint) (dc_nil))))))))) (db_cons (ds_ifRep 1 6 7 " " "  " sc_l_cut.nd rfl (Or.inl rfl) rfl (Or.inl rfl) (Or.inl rfl)) (db_cons (ds_if (dtcmp (op_eqD hr.units) o2_eq (dvar 1) (dint)) (db_one (ds_ret (dtup (dl_cons (djoin (dstr) (dlst (dl_cons (dstr) (dl_cons (dvar 5) (dl_cons (dstr) (dl_cons (dstr) (dl_nil))))))) (dl_cons (dnon) (dl_nil)))))) (db_nil)) (db_cons (ds_if (dtw (dw_or (dtw (dw_and (dtcmp (op_neD hr.units) o2_ne (dvar 1) (dint)) (dw_and1 (dtcmp op_gtD o2_ord (dvar 1) (dint))))) (dw_or (dtcmp op_gtD o2_ord (dfnB call_lenX on_len rfl T.b_len (by decide +kernel) (da_cons (dvar 6) (da_nil))) (dint)) (dw_or1 (dtcmp op_gtD o2_ord (dfnT call_int_str on_int rfl T.b_int (by decide +kernel) (da_cons (dvar 3) (da_nil))) (dfnT call_int_str on_int rfl T.b_int (by decide +kernel) (da_cons (dvar 4) (da_nil)))))))) (db_one (ds_ret (dtup (dl_cons (dvar 6) (dl_cons (dnon) (dl_nil)))))) (db_nil)) (db_one (ds_ret (dtup (dl_cons (dvar 6) (dl_cons (dtup (dl_cons (dstr) (dl_cons (dtup (dl_cons (dix (dvar 2) (dint)) (dl_cons (dfnT call_int_str on_int rfl T.b_int (by decide +kernel) (da_cons (dix (dvar 2) (dint)) (da_nil))) (dl_cons (dfnT call_int_str on_int rfl T.b_int (by decide +kernel) (da_cons (dix (dvar 2) (dint)) (da_nil))) (dl_nil))))) (dl_cons (dfnT call_int_str on_int rfl T.b_int (by decide +kernel) (da_cons (dvar 3) (da_nil))) (dl_cons (dfnT call_int_str on_int rfl T.b_int (by decide +kernel) (da_cons (dvar 4) (da_nil))) (dl_nil)))))) (dl_nil))))))))))))))

theorem k_l_cut (T : Txt K mg cm) {sd_l_take : DSpec} (c_l_take : Cal P w K mg base "_law_take" s_l_take 1 ["box", "many"] sd_l_take) {sd_l_number : DSpec} (c_l_number : Cal P w K mg base "_law_number" s_l_number 3 ["box", "low", "spoilt"] sd_l_number) {sd_l_word : DSpec} (c_l_word : Cal P w K mg base "_law_word" s_l_word 3 ["box", "spoilt"] sd_l_word) {f : Addr} {fd : FuncData} (F : Fun K "_law_cut" "_law_cut" s_l_cut f fd) (hm : mg "_law_cut" = some (.ref f)) {sd : DSpec} (len : ∀ args R, sd args R → args.length = 2)
    (sp : ∀ args R, sd args R → m_l_cut  sd_l_take sd_l_number sd_l_word { nx := fun e => R (.vl .non) (outs 2 e), rt := fun r e => R r (outs 2 e) } (startE 7 args)) : Cal P w K mg base "_law_cut" s_l_cut 4 ["box", "bad"] sd :=
  ⟨f, fd, F, FunG.ok (FunG.of F) sc_l_cut len (fun cdv A outer s H E hgd hr => d_l_cut T c_l_take c_l_number c_l_word hgd hr) sp, hm, F.binds (ps := ["box", "bad"]) fun _ _ _ _ _ _ us hl => match us, hl with | [_, _], _ => rfl⟩

abbrev s_law : Stmt := top 32
theorem sc_law : FnScope ["script", "k", "box", "turn", "bad", "line", "due", "told", "thing"] ["script"] (defScope s_law) := ⟨rfl, rfl, rfl, by decide +kernel, rfl, by decide +kernel, by decide +kernel⟩
theorem d_law (T : Txt K mg cm) {sd_edit_in : DSpec} (c_edit_in : Cal P w K mg base "edit_in" s_edit_in 5 ["thing"] sd_edit_in) {sd_l_cell : DSpec} (c_l_cell : Cal P w K mg base "_law_cell" s_l_cell 1 ["script", "k"] sd_l_cell) {sd_l_box : DSpec} (c_l_box : Cal P w K mg base "_law_box" s_l_box 1 ["cell"] sd_l_box) {sd_l_take : DSpec} (c_l_take : Cal P w K mg base "_law_take" s_l_take 1 ["box", "many"] sd_l_take) {sd_l_add : DSpec} (c_l_add : Cal P w K mg base "_law_add" s_l_add 4 ["box", "bad"] sd_l_add) {sd_l_cut : DSpec} (c_l_cut : Cal P w K mg base "_law_cut" s_l_cut 4 ["box", "bad"] sd_l_cut) {f : Addr} {cdv : Value} {A : Around} {outer : List PySem.Env} {s : Shared} {H : Hp} {E : XK} (hgd : A.guards = some []) (hr : Room 5 (A.deeper (PyProof.Rows.envOfC "law" (defScope s_law) s.heap.objs.size f cdv))) :
    DB (cxOf CX0 P w K mg base ["script", "k", "box", "turn", "bad", "line", "due", "told", "thing"] "law" (defScope s_law) f cdv A outer s H E).nox (defBody s_law) (m_law  sd_edit_in sd_l_cell sd_l_box sd_l_take sd_l_add sd_l_cut) := by
  unfold m_law
  exact db_cons (ds_for (js := [1]) PassesOwn.never rfl (di_range1 rfl T.b_range (dfnB (call_maxX rfl) on_max rfl T.b_max (by decide +kernel) (da_cons (dint) (da_cons (dfnB (call_minX rfl) on_min rfl T.b_min (by decide +kernel) (da_cons (dint) (da_cons (dfnB call_lenX on_len rfl T.b_len (by decide +kernel) (da_cons (dvar 0) (da_nil))) (da_nil)))) (da_nil))))) (dg_name 1 sc_law.nd rfl (Or.inl rfl)) (db_cons (ds_setO (j := 2) sc_law.nd rfl (Or.inl rfl) (dcallC c_l_box hgd (hr.mono (by decide)) (by exact rfl) (dc_cons (dcallC c_l_cell hgd (hr.mono (by decide)) (by exact rfl) (dc_cons (dvar 0) (dc_cons (dvar 1) (dc_nil)))) (dc_nil)))) (db_cons (ds_for (js := [3]) PassesOwn.never rfl (di_range1 rfl T.b_range (dint)) (dg_name 3 sc_law.nd rfl (Or.inl rfl)) (db_cons (ds_set (j := 4) sc_law.nd rfl (Or.inl rfl) (dix (dlst (dl_cons (dint) (dl_cons (dop op_addD o2_add (dint) (dcallC c_l_take hgd (hr.mono (by decide)) (by exact rfl) (dc_cons (dvar 2) (dc_cons (dint) (dc_nil))))) (dl_nil)))) (dcallC c_l_take hgd (hr.mono (by decide)) (by exact rfl) (dc_cons (dvar 2) (dc_cons (dint) (dc_nil)))))) (db_cons (ds_un (js := [5, 6]) rfl (dgs_cons (dg_name 5 sc_law.nd rfl (Or.inl rfl)) (dgs_cons (dg_name 6 sc_law.nd rfl (Or.inl rfl)) (dgs_nil))) (dif (dtcmp (op_eqD hr.units) o2_eq (dcallC c_l_take hgd (hr.mono (by decide)) (by exact rfl) (dc_cons (dvar 2) (dc_cons (dint) (dc_nil)))) (dint)) (dcallC c_l_add hgd (hr.mono (by decide)) (by exact rfl) (dc_cons (dvar 2) (dc_cons (dvar 4) (dc_nil)))) (dcallC c_l_cut hgd (hr.mono (by decide)) (by exact rfl) (dc_cons (dvar 2) (dc_cons (dvar 4) (dc_nil)))))) (db_cons (ds_set (j := 7) sc_law.nd rfl (Or.inl rfl) (dcallC c_edit_in hgd (hr.mono (by decide)) (by exact rfl) (dc_cons (dvar 5) (dc_nil)))) (db_one (ds_if (dtw (dw_or (dtcmp (op_neD hr.units) o2_ne (dfnB (call_reprA hgd hr.units) on_reprA rfl T.b_repr (by decide +kernel) (da_cons (dvar 7) (da_nil))) (dfnB (call_reprA hgd hr.units) on_reprA rfl T.b_repr (by decide +kernel) (da_cons (dvar 6) (da_nil)))) (dw_or1 (dtcmp (op_neD hr.units) o2_ne (dfnB (call_reprA hgd hr.units) on_reprA rfl T.b_repr (by decide +kernel) (da_cons (dcallKC0 (ks := [("thing" : Str)]) c_edit_in 1 [0] hgd (hr.mono (by decide)) (by exact rfl) (by simp) (fun _ _ _ _ _ _ us ws h1 h2 => match us, ws, h1, h2 with | [], [_], _, _ => rfl) (dk_cons (dvar 5) (dk_nil))) (da_nil))) (dfnB (call_reprA hgd hr.units) on_reprA rfl T.b_repr (by decide +kernel) (da_cons (dvar 6) (da_nil))))))) (db_one (ds_ret (dbl))) (db_nil))))))) (db_one (ds_for (js := [8]) PassesOwn.never rfl (di_any (dlst (dl_cons (dnon) (dl_cons (dint) (dl_cons (dbl) (dl_cons (dstr) (dl_cons (dstr) (dl_cons (dstr) (dl_cons (dstr) (dl_cons (dlst (dl_cons (dstr) (dl_nil))) (dl_cons (ddnew) (dl_cons (dtup (dl_cons (dstr) (dl_cons (dint) (dl_cons (dtup (dl_nil)) (dl_cons (dstr) (dl_nil)))))) (dl_cons (dstr) (dl_nil)))))))))))))) (dg_name 8 sc_law.nd rfl (Or.inl rfl)) (db_one (ds_if (dtcmp op_isND o2_isN (dcallC c_edit_in hgd (hr.mono (by decide)) (by exact rfl) (dc_cons (dvar 8) (dc_nil))) (dnon)) (db_one (ds_ret (dbl))) (db_nil)))))))) (db_one (ds_ret (dand (dcmp (op_eqD hr.units) o2_eq (dfnB (call_reprA hgd hr.units) on_reprA rfl T.b_repr (by decide +kernel) (da_cons (dcallC c_edit_in hgd (hr.mono (by decide)) (by exact rfl) (dc_cons (dstr) (dc_nil))) (da_nil))) (dfnB (call_reprA hgd hr.units) on_reprA rfl T.b_repr (by decide +kernel) (da_cons (dtup (dl_cons (dstr) (dl_cons (dint) (dl_cons (dtup (dl_nil)) (dl_cons (dstr) (dl_nil)))))) (da_nil)))) (done1 (dcmp op_isD o2_is (dcallC c_edit_in hgd (hr.mono (by decide)) (by exact rfl) (dc_cons (dstr) (dc_nil))) (dnon))))))

theorem k_law (T : Txt K mg cm) {sd_edit_in : DSpec} (c_edit_in : Cal P w K mg base "edit_in" s_edit_in 5 ["thing"] sd_edit_in) {sd_l_cell : DSpec} (c_l_cell : Cal P w K mg base "_law_cell" s_l_cell 1 ["script", "k"] sd_l_cell) {sd_l_box : DSpec} (c_l_box : Cal P w K mg base "_law_box" s_l_box 1 ["cell"] sd_l_box) {sd_l_take : DSpec} (c_l_take : Cal P w K mg base "_law_take" s_l_take 1 ["box", "many"] sd_l_take) {sd_l_add : DSpec} (c_l_add : Cal P w K mg base "_law_add" s_l_add 4 ["box", "bad"] sd_l_add) {sd_l_cut : DSpec} (c_l_cut : Cal P w K mg base "_law_cut" s_l_cut 4 ["box", "bad"] sd_l_cut) {f : Addr} {fd : FuncData} (F : Fun K "law" "law" s_law f fd) (hm : mg "law" = some (.ref f)) {sd : DSpec} (len : ∀ args R, sd args R → args.length = 1)
    (sp : ∀ args R, sd args R → m_law  sd_edit_in sd_l_cell sd_l_box sd_l_take sd_l_add sd_l_cut { nx := fun e => R (.vl .non) (outs 1 e), rt := fun r e => R r (outs 1 e) } (startE 9 args)) : Cal P w K mg base "law" s_law 6 ["script"] sd :=
  ⟨f, fd, F, FunG.ok (FunG.of F) sc_law len (fun cdv A outer s H E hgd hr => d_law T c_edit_in c_l_cell c_l_box c_l_take c_l_add c_l_cut hgd hr) sp, hm, F.binds (ps := ["script"]) fun _ _ _ _ _ _ us hl => match us, hl with | [_], _ => rfl⟩

end
end Law

set_option Elab.async false
set_option linter.all false
set_option maxRecDepth 100000
set_option maxHeartbeats 4000000
set_option autoImplicit false
namespace Law
open PySem L2 DL
section
local macro_rules | `(tactic| k_upd) => `(tactic| (first | exact trivial | exact rfl | ((try dsimp only); first | assumption | exact fits62 (by omega) (by omega) | exact cmul_s (by omega) (by omega) | exact cpow_s (by omega) (by omega) (by omega) | exact And.intro (by omega) (clog_s (by omega)) | omega | (simp only [List.length_append, List.length_cons, List.length_nil, List.length_map]; omega) | exact Nat.le_of_ble_eq_true rfl | decide)))
local macro_rules | `(tactic| k_memK) => `(tactic| first | (refine an_i ?_ ?_; focus k_upd) | refine ex_i rfl ?_ | refine ite_t rfl ?_ | refine ite_f Bool.false_ne_true ?_)
local macro_rules | `(tactic| k_allIn) => `(tactic| repeat k_memK)

set_option pp.deepTerms false
set_option pp.maxSteps 1500

/-! texts as lists of signs -/
def ofL (L : List Nat) : Str := ⟨L.toArray⟩
theorem ofL_list (L : List Nat) : (ofL L).cps.toList = L := rfl
theorem ofL_len (L : List Nat) : (ofL L).length = L.length := by rw [len_list, ofL_list]
theorem ofL_self (s : Str) : ofL s.cps.toList = s := str_ext rfl
theorem ofL_inj {a b : List Nat} (h : ofL a = ofL b) : a = b := by
  have := congrArg (fun s => s.cps.toList) h
  exact this
def sgOk (c : Nat) : Bool := (!decide (c < 32) && !decide (126 < c)) && !(((c : Nat) : Int) == 37)
theorem one_lt (a b : Nat) : decide ([a] < [b]) = decide (a < b) := by
  by_cases h : a < b
  · rw [decide_eq_true h, decide_eq_true (show [a] < [b] from List.Lex.rel h)]
  · rw [decide_eq_false h, decide_eq_false]
    intro q
    cases q with
    | rel q => exact h q
    | cons q => cases q
theorem bls_fm {α : Type} (f : α → Bool) (l : List α) : asBls (l.filterMap fun x => some (D.bl (f x))) = some (l.map f) := by
  rw [← asBls_map, List.map_map, ← List.filterMap_eq_map]
  rfl
def plain : D → Prop
  | .fn _ => False
  | .obj _ _ => False
  | .exc _ _ _ => False
  | .scr _ => False
  | _ => True
def nameL (L : List Nat) : Bool := decide (1 ≤ L.length) && (decide (L.length ≤ 8) && L.all fun c => decide (c ∈ LET.cps.toList))
def sd_is_name : DSpec := fun args R => ∃ L : List Nat, args = [.val (.str (ofL L))] ∧ L.length ≤ 1000 ∧ R (.vl (.bl (nameL L))) [.no]
theorem len_is_name : ∀ args R, sd_is_name args R → args.length = 1 := by rintro args R ⟨s, rfl, _⟩; rfl
theorem sp_is_name : ∀ args R, sd_is_name args R → m_is_name { nx := fun e => R (.vl .non) (outs 1 e), rt := fun r e => R r (outs 1 e) } (startE 2 args) := by
  rintro args R ⟨L, rfl, hl, h⟩
  have ol := ofL_len L
  k_allIn
  refine an_i (le_line (by omega)) ?_
  refine ite_i (fun c => ?_) (fun c => ?_)
  · have c : decide ((1 : Int) ≤ ((ofL L).length : Int)) = true := c
    have c1 : 1 ≤ L.length := by have := of_decide_eq_true c; omega
    k_allIn
    refine ite_i (fun c2 => ?_) (fun c2 => ?_)
    · have c2 : decide (((ofL L).length : Int) ≤ 8) = true := c2
      have c3 : L.length ≤ 8 := by have := of_decide_eq_true c2; omega
      have e : nameL L = L.all fun c => decide (c ∈ LET.cps.toList) := by unfold nameL; rw [decide_eq_true c1, decide_eq_true c3]; rfl
      rw [e] at h
      k_allIn
      refine compI_list (fun d => match d with
        | .str x => some (.bl (inStr x LET))
        | _ => none) trivial (by simp [signsD, ofL_list]; omega) (fun x hx K hK => ?_) ?_
      · obtain ⟨c, hc, rfl⟩ := List.mem_map.mp hx
        k_allIn
        have hK' : K (some (.bl (inStr (sg c) LET))) (startE 2 [Slot.val (D.str (ofL L))]) := hK
        show K (some (.bl (false ^^ inStr (sg c) LET))) _
        rw [Bool.false_xor]
        exact hK'
      · have e : ((signsD (ofL L)).filterMap fun d => match d with
          | .str x => some (D.bl (inStr x LET))
          | _ => none) = L.filterMap fun c => some (D.bl (decide (c ∈ LET.cps.toList))) := by
          show (L.map _).filterMap _ = _
          rw [List.filterMap_map]
          rfl
        refine ex_i (show asBls _ = some (L.map fun c => decide (c ∈ LET.cps.toList)) by rw [e, bls_fm]) ?_
        have e2 : (L.map fun c => decide (c ∈ LET.cps.toList)).all id = L.all fun c => decide (c ∈ LET.cps.toList) := by rw [List.all_map]; rfl
        show R (.vl (.bl ((L.map fun c => decide (c ∈ LET.cps.toList)).all id))) _
        rw [e2]
        exact h
    · have c2 : ¬ decide (((ofL L).length : Int) ≤ 8) = true := c2
      have c3 : decide (L.length ≤ 8) = false := decide_eq_false fun q => c2 (decide_eq_true (by omega))
      have e : nameL L = false := by unfold nameL; rw [c3]; simp
      rw [e] at h
      have e2 : decide (((ofL L).length : Int) ≤ 8) = false := Bool.eq_false_iff.mpr c2
      k_allIn
      exact h
  · have c : ¬ decide ((1 : Int) ≤ ((ofL L).length : Int)) = true := c
    have c3 : decide (1 ≤ L.length) = false := decide_eq_false fun q => c (decide_eq_true (by omega))
    have e : nameL L = false := by unfold nameL; rw [c3]; simp
    rw [e] at h
    k_allIn
    exact h
/-! is_text -/
def textB : D → Bool
  | .str s => decide (s.length ≤ 60) && s.cps.toList.all sgOk
  | _ => false
def sd_is_text : DSpec := fun args R => ∃ d : D, args = [.val d] ∧ plain d ∧ (∀ s, d = .str s → s.length ≤ 1000) ∧ R (.vl (.bl (textB d))) [.no]
theorem len_is_text : ∀ args R, sd_is_text args R → args.length = 1 := by rintro args R ⟨s, rfl, _⟩; rfl
theorem sp_is_text : ∀ args R, sd_is_text args R → m_is_text { nx := fun e => R (.vl .non) (outs 1 e), rt := fun r e => R r (outs 1 e) } (startE 2 args) := by
  rintro args R ⟨d, rfl, pd, ps, h⟩
  cases d with
  | str s =>
    have hl := ps s rfl
    k_allIn
    refine an_i (le_line (by omega)) ?_
    refine ite_i (fun c => ?_) (fun c => ?_)
    · have c : decide ((60 : Int) < (s.length : Int)) = true := c
      have c3 : decide (s.length ≤ 60) = false := decide_eq_false fun q => by have := of_decide_eq_true c; omega
      have e : textB (.str s) = false := by show (decide (s.length ≤ 60) && s.cps.toList.all sgOk) = _; rw [c3]; rfl
      rw [e] at h
      k_allIn
      exact h
    · have c : ¬ decide ((60 : Int) < (s.length : Int)) = true := c
      have c3 : decide (s.length ≤ 60) = true := decide_eq_true (by have : ¬ (60 : Int) < (s.length : Int) := fun q => c (decide_eq_true q); omega)
      have e : textB (.str s) = s.cps.toList.all sgOk := by show (decide (s.length ≤ 60) && s.cps.toList.all sgOk) = _; rw [c3]; rfl
      rw [e] at h
      k_allIn
      refine compI_list (fun d => match d with
        | .str x => some (.bl (sgOk (x.cps.getD 0 0)))
        | _ => none) trivial (by rw [len_list] at hl; simp [signsD]; simp at hl; omega) (fun x hx K hK => ?_) ?_
      · obtain ⟨c, hc, rfl⟩ := List.mem_map.mp hx
        have hK' : K (some (.bl (sgOk c))) (startE 2 [Slot.val (D.str s)]) := hK
        k_allIn
        refine ite_i (fun c1 => ?_) (fun c1 => ?_)
        · have c1 : (!decide ([c] < [32])) = true := c1
          rw [one_lt] at c1
          refine ite_i (fun c2 => ?_) (fun c2 => ?_)
          · have c2 : (!decide ([126] < [c])) = true := c2
            rw [one_lt] at c2
            k_allIn
            have e : sgOk c = !(deq (.int ((c : Nat) : Int)) (.int 37)) := by unfold sgOk; rw [c1, c2, deq_int]; rfl
            rw [e] at hK'
            exact hK'
          · have c2 : ¬ (!decide ([126] < [c])) = true := c2
            rw [one_lt] at c2
            have e : sgOk c = false := by unfold sgOk; rw [Bool.eq_false_iff.mpr c2]; simp
            rw [e] at hK'
            exact hK'
        · have c1 : ¬ (!decide ([c] < [32])) = true := c1
          rw [one_lt] at c1
          have e : sgOk c = false := by unfold sgOk; rw [Bool.eq_false_iff.mpr c1]; simp
          rw [e] at hK'
          exact hK'
      · have e : ((signsD s).filterMap fun d => match d with
          | .str x => some (D.bl (sgOk (x.cps.getD 0 0)))
          | _ => none) = s.cps.toList.filterMap fun c => some (D.bl (sgOk c)) := by
          show (s.cps.toList.map _).filterMap _ = _
          rw [List.filterMap_map]; rfl
        refine ex_i (show asBls _ = some (s.cps.toList.map sgOk) by rw [e, bls_fm]) ?_
        have e2 : (s.cps.toList.map sgOk).all id = s.cps.toList.all sgOk := by rw [List.all_map]; rfl
        show R (.vl (.bl ((s.cps.toList.map sgOk).all id))) _
        rw [e2]
        exact h
  | fn a => exact pd.elim
  | obj a b => exact pd.elim
  | exc a b c => exact pd.elim
  | scr a => exact pd.elim
  | _ =>
    k_allIn
    exact h
/-! number_in -/
def dig (c : Nat) : Bool := decide (48 ≤ c) && decide (c ≤ 57)
def numI (L : List Nat) (lo hi : Int) : Option Int :=
  if (L == []) = true then none else if decide (30 < L.length) = true then none else if (!L.all dig) = true then none else
  if (L.head? == some 48 && L != [48]) = true then none else
  if (decide (lo ≤ ((NumText.digitsVal L : Nat) : Int)) && decide (((NumText.digitsVal L : Nat) : Int) ≤ hi)) = true then some ((NumText.digitsVal L : Nat) : Int) else none
def oI : Option Int → D
  | none => .non
  | some n => .int n
abbrev FIG : Str := "0123456789"
theorem fig_dig (c : Nat) : decide (c ∈ FIG.cps.toList) = dig c := by
  have e : FIG.cps.toList = [48, 49, 50, 51, 52, 53, 54, 55, 56, 57] := by decide +kernel
  rw [e]
  unfold dig
  rw [Bool.eq_iff_iff, Bool.and_eq_true, decide_eq_true_eq, decide_eq_true_eq, decide_eq_true_eq]
  simp only [List.mem_cons, List.not_mem_nil, or_false]
  omega
theorem ofL_beq (L : List Nat) (s : Str) : (ofL L == s) = (L == s.cps.toList) := by
  rw [Bool.eq_iff_iff, beq_iff_eq, beq_iff_eq]
  constructor
  · intro h; rw [← h]; rfl
  · intro h; rw [h]; exact ofL_self s
def sd_number_in : DSpec := fun args R => ∃ (L : List Nat) (lo hi : Int), args = [.val (.str (ofL L)), .val (.int lo), .val (.int hi)] ∧ L.length ≤ 1000 ∧ R (.vl (oI (numI L lo hi))) [.no, .no, .no]
theorem len_number_in : ∀ args R, sd_number_in args R → args.length = 3 := by rintro args R ⟨s, lo, hi, rfl, _⟩; rfl
theorem sp_number_in : ∀ args R, sd_number_in args R → m_number_in { nx := fun e => R (.vl .non) (outs 3 e), rt := fun r e => R r (outs 3 e) } (startE 5 args) := by
  rintro args R ⟨L, lo, hi, rfl, hl, h⟩
  have ol := ofL_len L
  unfold numI at h
  k_allIn
  refine ite_i (fun c => ?_) (fun c => ?_)
  · have c : deq (.str (ofL L)) (.str "") = true := c
    rw [deq_str, ofL_beq] at c
    have c : (L == []) = true := c
    rw [if_pos c] at h
    k_allIn
    exact h
  · have c : ¬ deq (.str (ofL L)) (.str "") = true := c
    rw [deq_str, ofL_beq] at c
    have c : ¬ (L == []) = true := c
    rw [if_neg c] at h
    k_allIn
    refine an_i (le_line (by omega)) ?_
    refine ite_i (fun c2 => ?_) (fun c2 => ?_)
    · have c2 : decide ((30 : Int) < ((ofL L).length : Int)) = true := c2
      rw [if_pos (decide_eq_true (by have := of_decide_eq_true c2; omega))] at h
      k_allIn
      exact h
    · have c2 : ¬ decide ((30 : Int) < ((ofL L).length : Int)) = true := c2
      have c3 : ¬ (30 : Int) < ((ofL L).length : Int) := fun q => c2 (decide_eq_true q)
      have l30 : L.length ≤ 30 := by omega
      rw [if_neg (fun q => by have := of_decide_eq_true q; omega)] at h
      k_allIn
      refine compI_list (fun d => match d with
        | .str x => some (.bl (inStr x FIG))
        | _ => none) trivial (by simp [signsD, ofL_list]; omega) (fun x hx K hK => ?_) ?_
      · obtain ⟨c, hc, rfl⟩ := List.mem_map.mp hx
        k_allIn
        have hK' : K (some (.bl (inStr (sg c) FIG))) [.val (.str (ofL L)), .val (.int lo), .val (.int hi), .no, .no] := hK
        show K (some (.bl (false ^^ inStr (sg c) FIG))) _
        rw [Bool.false_xor]
        exact hK'
      · have e : ((signsD (ofL L)).filterMap fun d => match d with
          | .str x => some (D.bl (inStr x FIG))
          | _ => none) = L.filterMap fun c => some (D.bl (dig c)) := by
          show (L.map _).filterMap _ = _
          rw [List.filterMap_map]
          refine congrFun (congrArg _ (funext fun c => ?_)) _
          show some (D.bl (decide (c ∈ FIG.cps.toList))) = _
          rw [fig_dig]
        refine ex_i (show asBls _ = some (L.map dig) by rw [e, bls_fm]) ?_
        have e2 : (L.map dig).all id = L.all dig := by rw [List.all_map]; rfl
        k_allIn
        refine ite_i (fun c4 => ?_) (fun c4 => ?_)
        · have c4 : (!(L.map dig).all id) = true := c4
          rw [e2] at c4
          rw [if_pos c4] at h
          k_allIn
          exact h
        · have c4 : ¬ (!(L.map dig).all id) = true := c4
          rw [e2] at c4
          rw [if_neg c4] at h
          have ad : L.all dig = true := by cases q : L.all dig with | true => rfl | false => rw [q] at c4; exact absurd rfl c4
          have hne : L ≠ [] := fun q => c (by rw [q]; rfl)
          obtain ⟨a, r, rfl⟩ : ∃ a r, L = a :: r := by
            cases L with
            | nil => exact absurd rfl hne
            | cons a r => exact ⟨a, r, rfl⟩
          have it : intText? (ofL (a :: r)) = some ((NumText.digitsVal (a :: r) : Nat) : Int) := intText_digits (x := ofL (a :: r)) (fun c hc => by
            have := List.all_eq_true.mp ad c hc
            unfold dig at this
            rw [Bool.and_eq_true, decide_eq_true_eq, decide_eq_true_eq] at this
            exact this) hne (by omega)
          have tail : (mSeq (mSet 3 (mFn aIntOf (maCons (mVar 0) (maNil)))) (mRet (mIf (mB (mChain aLe aLe (mVar 1) (mVar 3) (mVar 2))) (mVar 3) (mC .non)))) { nx := fun e => R (.vl .non) (outs 3 e), rt := fun r e => R r (outs 3 e) } [.val (.str (ofL (a :: r))), .val (.int lo), .val (.int hi), .no, .no] ∨ ((a :: r).head? == some 48 && (a :: r) != [48]) = true := by
            by_cases z : ((a :: r).head? == some 48 && (a :: r) != [48]) = true
            · exact Or.inr z
            · rw [if_neg z] at h
              refine Or.inl ?_
              k_allIn
              refine ex_i it ?_
              refine an_i (by omega) ?_
              k_allIn
              refine ite_i (fun c5 => ?_) (fun c5 => ?_)
              · have c5 : decide (lo ≤ ((NumText.digitsVal (a :: r) : Nat) : Int)) = true := c5
                rw [c5, Bool.true_and] at h
                k_allIn
                refine ite_i (fun c6 => ?_) (fun c6 => ?_)
                · have c6 : decide (((NumText.digitsVal (a :: r) : Nat) : Int) ≤ hi) = true := c6
                  rw [if_pos c6] at h
                  k_allIn
                  exact h
                · have c6 : ¬ decide (((NumText.digitsVal (a :: r) : Nat) : Int) ≤ hi) = true := c6
                  rw [if_neg c6] at h
                  k_allIn
                  exact h
              · have c5 : ¬ decide (lo ≤ ((NumText.digitsVal (a :: r) : Nat) : Int)) = true := c5
                rw [Bool.eq_false_iff.mpr c5, Bool.false_and, if_neg Bool.false_ne_true] at h
                k_allIn
                exact h
          k_allIn
          refine an_i (le_line (by omega)) ?_
          refine ex_i (show atI (ofL (a :: r)).cps.toList 0 = some a from DL.atI_nat (k := 0) rfl) ?_
          k_allIn
          have e0 : deq (.str ⟨#[a]⟩) (.str "0") = (a == 48) := by
            rw [deq_str, Bool.eq_iff_iff, beq_iff_eq, beq_iff_eq]
            constructor
            · intro q
              have := congrArg (fun s => s.cps.toList) q
              exact (List.cons.inj this).1
            · rintro rfl; rfl
          refine ite_i (fun c5 => ?_) (fun c5 => ?_)
          · have c5 : deq (.str ⟨#[a]⟩) (.str "0") = true := c5
            rw [e0] at c5
            k_allIn
            refine ite_i (fun c6 => ?_) (fun c6 => ?_)
            · have c6 : (!deq (.str (ofL (a :: r))) (.str "0")) = true := c6
              rw [deq_str, ofL_beq] at c6
              have c6 : ((a :: r) != [48]) = true := c6
              rw [if_pos (by rw [Bool.and_eq_true]; exact ⟨by rw [beq_iff_eq] at c5 ⊢; rw [c5]; rfl, c6⟩)] at h
              k_allIn
              exact h
            · have c6 : ¬ (!deq (.str (ofL (a :: r))) (.str "0")) = true := c6
              rw [deq_str, ofL_beq] at c6
              have c6 : ¬ ((a :: r) != [48]) = true := c6
              rcases tail with t | t
              · exact t
              · rw [Bool.and_eq_true] at t
                exact absurd t.2 c6
          · have c5 : ¬ deq (.str ⟨#[a]⟩) (.str "0") = true := c5
            rw [e0] at c5
            rcases tail with t | t
            · exact t
            · rw [Bool.and_eq_true, beq_iff_eq] at t
              refine absurd ?_ c5
              rw [beq_iff_eq]
              exact Option.some.inj t.1
end
end Law

set_option Elab.async false
set_option linter.all false
set_option maxRecDepth 100000
set_option maxHeartbeats 4000000
set_option autoImplicit false
namespace Law
open PySem L2 DL
section
local macro_rules | `(tactic| k_upd) => `(tactic| (first | exact trivial | exact rfl | ((try dsimp only); first | assumption | exact fits62 (by omega) (by omega) | exact cmul_s (by omega) (by omega) | exact cpow_s (by omega) (by omega) (by omega) | exact And.intro (by omega) (clog_s (by omega)) | omega | (simp only [List.length_append, List.length_cons, List.length_nil, List.length_map]; omega) | exact Nat.le_of_ble_eq_true rfl | decide)))
local macro_rules | `(tactic| k_memK) => `(tactic| first | (refine an_i ?_ ?_; focus k_upd) | refine ex_i rfl ?_ | refine ite_t rfl ?_ | refine ite_f Bool.false_ne_true ?_)
local macro_rules | `(tactic| k_allIn) => `(tactic| repeat k_memK)

set_option pp.deepTerms false
set_option pp.maxSteps 1500

/-! splitting at one sign -/
def sp1 (c : Nat) : List Nat → List (List Nat)
  | [] => [[]]
  | a :: r => if a = c then [] :: sp1 c r else match sp1 c r with
    | [] => [[a]]
    | w :: ws => (a :: w) :: ws
theorem sp1_hit {c : Nat} {r : List Nat} : sp1 c (c :: r) = [] :: sp1 c r := by
  show (if c = c then _ else _) = _
  rw [if_pos rfl]
theorem sp1_miss {a c : Nat} {r w : List Nat} {ws : List (List Nat)} (h : a ≠ c) (e : sp1 c r = w :: ws) : sp1 c (a :: r) = (a :: w) :: ws := by
  show (if a = c then _ else match sp1 c r with
    | [] => [[a]]
    | w :: ws => (a :: w) :: ws) = _
  rw [if_neg h, e]
theorem spl_sp1 (c : Nat) : ∀ (L acc : List Nat), ∃ w ws, sp1 c L = w :: ws ∧ TL.spl [c] 0 acc L = (acc ++ w) :: ws
  | [], acc => ⟨[], [], rfl, by rw [TL.spl_nil, List.append_nil]⟩
  | a :: r, acc => by
    by_cases h : a = c
    · subst h
      obtain ⟨w, ws, e1, e2⟩ := spl_sp1 a r []
      refine ⟨[], sp1 a r, sp1_hit, ?_⟩
      rw [TL.spl_hit (by show ([a] == [a]) = true; exact beq_self_eq_true _)]
      show acc :: TL.spl [a] 0 [] r = _
      rw [e2, e1, List.append_nil]; rfl
    · obtain ⟨w, ws, e1, e2⟩ := spl_sp1 c r (acc ++ [a])
      refine ⟨a :: w, ws, sp1_miss h e1, ?_⟩
      rw [TL.spl_miss (TL.pre_of_head _ _ h), e2, List.append_assoc]; rfl
theorem sp1_cons (c : Nat) (L : List Nat) : ∃ w ws, sp1 c L = w :: ws := by
  obtain ⟨w, ws, e, _⟩ := spl_sp1 c L []
  exact ⟨w, ws, e⟩
theorem split_S (L : List Nat) {c : Nat} (hc : c < 256) : Txt.split (ofL L) (ofL [c]) = (sp1 c L).map ofL := by
  refine TL.map_tl_inj ?_
  rw [TL.split_spl _ _ (by show ([c] : List Nat) ≠ []; simp) (TL.kind_ok (by show (#[c] : Array Nat).all _ = true; simp [hc]))]
  show TL.spl [c] 0 [] L = _
  obtain ⟨w, ws, e1, e2⟩ := spl_sp1 c L []
  rw [e2, List.nil_append, ← e1, List.map_map]
  exact (List.map_id _).symm.trans rfl
theorem sp1_mem (c : Nat) : ∀ (L : List Nat), ∀ w ∈ sp1 c L, w.length ≤ L.length ∧ ∀ a ∈ w, a ∈ L
  | [], w, h => by rw [List.mem_singleton.mp h]; exact ⟨Nat.le_refl _, fun a h => h⟩
  | a :: r, w, h => by
    by_cases q : a = c
    · subst q
      rw [sp1_hit] at h
      rcases List.mem_cons.mp h with rfl | h
      · exact ⟨Nat.zero_le _, fun a h => nomatch h⟩
      · have := sp1_mem a r w h
        exact ⟨by rw [List.length_cons]; omega, fun b hb => List.mem_cons_of_mem _ (this.2 b hb)⟩
    · obtain ⟨v, vs, e⟩ := sp1_cons c r
      rw [sp1_miss q e] at h
      rcases List.mem_cons.mp h with rfl | h
      · have := sp1_mem c r v (by rw [e]; exact List.mem_cons_self ..)
        refine ⟨by simp only [List.length_cons]; omega, fun b hb => ?_⟩
        rcases List.mem_cons.mp hb with rfl | hb
        · exact List.mem_cons_self ..
        · exact List.mem_cons_of_mem _ (this.2 b hb)
      · have := sp1_mem c r w (by rw [e]; exact List.mem_cons_of_mem _ h)
        exact ⟨by rw [List.length_cons]; omega, fun b hb => List.mem_cons_of_mem _ (this.2 b hb)⟩
theorem sp1_len (c : Nat) : ∀ L : List Nat, (sp1 c L).length ≤ L.length + 1
  | [] => Nat.le_refl _
  | a :: r => by
    have := sp1_len c r
    by_cases q : a = c
    · subst q; rw [sp1_hit]; simp only [List.length_cons]; omega
    · obtain ⟨v, vs, e⟩ := sp1_cons c r
      rw [sp1_miss q e]; rw [e] at this; simp only [List.length_cons] at this ⊢; omega
def asc (L : List Nat) : Prop := L.length ≤ 60 ∧ ∀ c ∈ L, c < 128
theorem asc_sp1 {c : Nat} {L w : List Nat} (h : asc L) (hw : w ∈ sp1 c L) : asc w := ⟨Nat.le_trans (sp1_mem c L w hw).1 h.1, fun a ha => h.2 a ((sp1_mem c L w hw).2 a ha)⟩
theorem sOk_ofL {L : List Nat} (h : asc L) : PyData.strOk (ofL L) = true := sOk_list fun c hc => by have := h.2 c hc; omega
theorem sOk_pieces {c : Nat} {L : List Nat} (h : asc L) (hc : c < 256) : ∀ x ∈ Txt.split (ofL L) (ofL [c]), PyData.strOk x = true := by
  rw [split_S L hc]
  intro x hx
  obtain ⟨w, hw, rfl⟩ := List.mem_map.mp hx
  exact sOk_ofL (asc_sp1 h hw)
def strD (w : List Nat) : D := .str (ofL w)
def wsD (ws : List (List Nat)) : D := .lst (ws.map strD)
theorem split_D (L : List Nat) {c : Nat} (hc : c < 256) : (Txt.split (ofL L) (ofL [c])).map D.str = (sp1 c L).map strD := by
  rw [split_S L hc, List.map_map]; rfl
/-! words_in -/
def wordsL (L : List Nat) : Option (List (List Nat)) := if [] ∈ sp1 32 L then none else if 10 ∈ L then none else some (sp1 32 L)
def oW : Option (List (List Nat)) → D
  | none => .non
  | some ws => wsD ws
theorem flat_ws (ws : List (List Nat)) : (ws.map strD).all D.flat = true := List.all_eq_true.mpr fun x h => by
  obtain ⟨w, _, rfl⟩ := List.mem_map.mp h
  rfl
theorem in_empty (ws : List (List Nat)) : inD (.str "") (ws.map strD) = decide ([] ∈ ws) := by
  show (ws.map strD).any (fun y => feq y (.str "")) = _
  rw [List.any_map, Bool.eq_iff_iff, List.any_eq_true, decide_eq_true_eq]
  constructor
  · rintro ⟨w, hw, e⟩
    have e : (ofL w == ("" : Str)) = true := e
    rw [ofL_beq] at e
    have e : (w == []) = true := e
    rw [beq_iff_eq] at e
    rw [← e]; exact hw
  · intro h
    exact ⟨[], h, rfl⟩
def sd_words_in : DSpec := fun args R => ∃ L : List Nat, args = [.val (.str (ofL L))] ∧ asc L ∧ R (.vl (oW (wordsL L))) [.no]
theorem len_words_in : ∀ args R, sd_words_in args R → args.length = 1 := by rintro args R ⟨s, rfl, _⟩; rfl
theorem sp_words_in : ∀ args R, sd_words_in args R → m_words_in { nx := fun e => R (.vl .non) (outs 1 e), rt := fun r e => R r (outs 1 e) } (startE 2 args) := by
  rintro args R ⟨L, rfl, as, h⟩
  have ol := ofL_len L
  have l60 := as.1
  k_allIn
  refine an_i (le_line (by omega)) ?_
  refine an_i (sOk_pieces (c := 32) as (by decide)) ?_
  have e : (Txt.split (ofL L) " ").map D.str = (sp1 32 L).map strD := split_D L (c := 32) (by decide)
  rw [e]
  unfold wordsL at h
  k_allIn
  refine an_i (flat_ws _) ?_
  rw [in_empty]
  refine ite_i (fun c => ?_) (fun c => ?_)
  · have c : (false ^^ decide ([] ∈ sp1 32 L)) = true := c
    rw [Bool.false_xor, decide_eq_true_eq] at c
    rw [if_pos c] at h
    k_allIn
    exact h
  · have c : ¬ (false ^^ decide ([] ∈ sp1 32 L)) = true := c
    rw [Bool.false_xor, decide_eq_true_eq] at c
    rw [if_neg c] at h
    k_allIn
    refine ite_i (fun c2 => ?_) (fun c2 => ?_)
    · have c2 : (false ^^ decide (10 ∈ L)) = true := c2
      rw [Bool.false_xor, decide_eq_true_eq] at c2
      rw [if_pos c2] at h
      k_allIn
      exact h
    · have c2 : ¬ (false ^^ decide (10 ∈ L)) = true := c2
      rw [Bool.false_xor, decide_eq_true_eq] at c2
      rw [if_neg c2] at h
      k_allIn
      exact h
/-! split_text -/
def par1 (c : Nat) : List Nat → Option (List Nat × List Nat)
  | [] => none
  | a :: r => if a = c then some ([], r) else (par1 c r).map fun p => (a :: p.1, p.2)
theorem par1_none {c : Nat} : ∀ {L : List Nat}, par1 c L = none → c ∉ L
  | [], _ => fun h => nomatch h
  | a :: r, h => by
    by_cases q : a = c
    · have : par1 c (a :: r) = some ([], r) := if_pos q
      rw [this] at h; cases h
    · have e : par1 c (a :: r) = (par1 c r).map fun p => (a :: p.1, p.2) := if_neg q
      rw [e, Option.map_eq_none_iff] at h
      have := par1_none h
      intro m
      rcases List.mem_cons.mp m with rfl | m
      · exact q rfl
      · exact this m
theorem par1_some {c : Nat} : ∀ {L x y : List Nat}, par1 c L = some (x, y) → L = x ++ c :: y ∧ c ∉ x
  | [], x, y, h => nomatch h
  | a :: r, x, y, h => by
    by_cases q : a = c
    · have : par1 c (a :: r) = some ([], r) := if_pos q
      rw [this] at h; cases h
      exact ⟨by rw [q]; rfl, fun h => nomatch h⟩
    · have e : par1 c (a :: r) = (par1 c r).map fun p => (a :: p.1, p.2) := if_neg q
      rw [e, Option.map_eq_some_iff] at h
      obtain ⟨⟨x', y'⟩, h1, h2⟩ := h
      cases h2
      obtain ⟨e1, e2⟩ := par1_some h1
      refine ⟨by rw [e1]; rfl, fun m => ?_⟩
      rcases List.mem_cons.mp m with e | m
      · exact q e.symm
      · exact e2 m
theorem par1_app {c : Nat} {y : List Nat} : ∀ {x : List Nat}, c ∉ x → par1 c (x ++ c :: y) = some (x, y)
  | [], _ => if_pos rfl
  | a :: r, h => by
    have e : par1 c (a :: r ++ c :: y) = (par1 c (r ++ c :: y)).map fun p => (a :: p.1, p.2) := if_neg fun q => h (by rw [q]; exact List.mem_cons_self ..)
    rw [e, par1_app fun m => h (List.mem_cons_of_mem _ m)]
    rfl
theorem par1_free {c : Nat} : ∀ {x : List Nat}, c ∉ x → par1 c x = none
  | [], _ => rfl
  | a :: r, h => by
    have e : par1 c (a :: r) = (par1 c r).map fun p => (a :: p.1, p.2) := if_neg fun q => h (by rw [q]; exact List.mem_cons_self ..)
    rw [e, par1_free fun m => h (List.mem_cons_of_mem _ m)]
    rfl
def headW (h : List Nat) : Option (List (List Nat)) := if (h.getLast? == some 32) = true then wordsL h.dropLast else none
def splitL (L : List Nat) : Option (List (List Nat)) × Option (List Nat) := match par1 61 L with
  | none => (wordsL L, none)
  | some p => (headW p.1, some p.2)
def oS : Option (List Nat) → D
  | none => .non
  | some L => strD L
theorem ends_sp (L : List Nat) : Txt.endswith (ofL L) " " = (L.getLast? == some 32) := by
  rcases List.eq_nil_or_concat L with rfl | ⟨h, c, rfl⟩
  · decide +kernel
  · rw [List.concat_eq_append, List.getLast?_append, show ([c] : List Nat).getLast? = some c from rfl, show ((some c).or h.getLast?) = some c from rfl]
    have e : ofL (h ++ [c]) = ofL h ++ ofL [c] := str_ext (by rw [app_list]; rfl)
    rw [e, PySem.W.KAf.ends_right (d := " ") (y := ofL [c]) (show 1 ≤ 1 from Nat.le_refl _)]
    unfold Txt.endswith
    rw [StrLaws.subAt_eq]
    show (decide (0 + 1 ≤ 1) && ([c] == [32])) = (some c == some 32)
    rw [Bool.eq_iff_iff]
    simp
theorem cut_last (L : List Nat) : cutS (ofL L) none (some (-1)) = ofL L.dropLast := by
  refine str_ext ?_
  rw [cut_list, ofL_list, ofL_list, HT.sIx_none, List.drop_zero, Nat.sub_zero, ofL_len]
  have e : HT.sIx L.length L.length (some (-1)) = L.length - 1 := by
    show (if (-1 : Int) < 0 then ((-1 : Int) + (L.length : Int)).toNat else min (-1 : Int).toNat L.length) = _
    rw [if_pos (by decide)]
    omega
  rw [e, List.dropLast_eq_take]
theorem asc_drop {L : List Nat} (h : asc L) : asc L.dropLast := ⟨by rw [List.length_dropLast]; have := h.1; omega, fun c hc => h.2 c (List.dropLast_subset _ hc)⟩
def sd_split_text : DSpec := fun args R => ∃ L : List Nat, args = [.val (.str (ofL L))] ∧ asc L ∧ R (.vl (.tup [oW (splitL L).1, oS (splitL L).2])) [.no]
theorem len_split_text : ∀ args R, sd_split_text args R → args.length = 1 := by rintro args R ⟨s, rfl, _⟩; rfl
theorem sp_split_text : ∀ args R, sd_split_text args R → m_split_text sd_words_in { nx := fun e => R (.vl .non) (outs 1 e), rt := fun r e => R r (outs 1 e) } (startE 4 args) := by
  rintro args R ⟨L, rfl, as, h⟩
  have ol := ofL_len L
  have l60 := as.1
  k_allIn
  refine an_i (le_line (by omega)) ?_
  unfold splitL at h
  cases q : par1 61 L with
  | none =>
    rw [q] at h
    have e : Txt.partition (ofL L) "=" = (ofL L, Str.empty, Str.empty) := TL.partition_none (y := "=") (s := 61) (S := []) rfl (par1_none q)
    rw [e]
    k_allIn
    refine ⟨L, rfl, as, ?_⟩
    k_allIn
    exact h
  | some p =>
    obtain ⟨x, y⟩ := p
    rw [q] at h
    obtain ⟨e1, e2⟩ := par1_some q
    have e : Txt.partition (ofL L) "=" = (ofL x, ("=" : Str), ofL y) := by
      have := TL.partition_app (y := "=") (s := 61) (S := []) rfl (a := ofL x) (b := ofL y) e2
      rw [← this]
      congr 1
      refine str_ext ?_
      rw [app_list, app_list, ofL_list, ofL_list, ofL_list, e1, List.append_assoc]; rfl
    rw [e]
    have ax : asc x := by
      refine ⟨by have := as.1; rw [e1, List.length_append] at this; omega, fun c hc => as.2 c ?_⟩
      rw [e1]; exact List.mem_append_left _ hc
    have ox := ofL_len x
    have x60 := ax.1
    have h : R (.vl (.tup [oW (headW x), .str (ofL y)])) [.no] := h
    unfold headW at h
    k_allIn
    refine ite_i (fun c => ?_) (fun c => ?_)
    · have c : Txt.endswith (ofL x) " " = true := c
      rw [ends_sp] at c
      rw [if_pos c] at h
      k_allIn
      refine an_i (show (ofL x).length ≤ sizeLine from le_line (by omega)) ?_
      k_allIn
      refine ⟨x.dropLast, ?_, asc_drop ax, ?_⟩
      · show [Slot.val (.str (cutS (ofL x) none (some (-1))))] = _
        rw [cut_last]
      · k_allIn
        exact h
    · have c : ¬ Txt.endswith (ofL x) " " = true := c
      rw [ends_sp] at c
      rw [if_neg c] at h
      k_allIn
      exact h
end
end Law

set_option Elab.async false
set_option linter.all false
set_option maxRecDepth 100000
set_option maxHeartbeats 4000000
set_option autoImplicit false
namespace Law
open PySem L2 DL
section
local macro_rules | `(tactic| k_upd) => `(tactic| (first | exact trivial | exact rfl | ((try dsimp only); first | assumption | exact fits62 (by omega) (by omega) | exact cmul_s (by omega) (by omega) | exact cpow_s (by omega) (by omega) (by omega) | exact And.intro (by omega) (clog_s (by omega)) | omega | (simp only [List.length_append, List.length_cons, List.length_nil, List.length_map]; omega) | exact Nat.le_of_ble_eq_true rfl | decide)))
local macro_rules | `(tactic| k_memK) => `(tactic| first | (refine an_i ?_ ?_; focus k_upd) | refine ex_i rfl ?_ | refine ite_t rfl ?_ | refine ite_f Bool.false_ne_true ?_)
local macro_rules | `(tactic| k_allIn) => `(tactic| repeat k_memK)

set_option pp.deepTerms false
set_option pp.maxSteps 1500

abbrev MC : Int := 999999999999999999999999999999
theorem asc_le {L : List Nat} (h : asc L) : L.length ≤ 1000 := by have := h.1; omega
def widL (a b c : List Nat) : Option (List D) := if nameL a = true then match numI b 1 MC, numI c 1 MC with
  | some n, some m => some [strD a, .int n, .int m]
  | _, _ => none else none
def oT : Option (List D) → D
  | none => .non
  | some ds => .tup ds
def sd_word_id_in : DSpec := fun args R => ∃ a b c : List Nat, args = [.val (.lst [strD a, strD b, strD c])] ∧ asc a ∧ asc b ∧ asc c ∧ R (.vl (oT (widL a b c))) [.no]
theorem len_word_id_in : ∀ args R, sd_word_id_in args R → args.length = 1 := by rintro args R ⟨a, b, c, rfl, _⟩; rfl
theorem sp_word_id_in : ∀ args R, sd_word_id_in args R → m_word_id_in sd_is_name sd_number_in { nx := fun e => R (.vl .non) (outs 1 e), rt := fun r e => R r (outs 1 e) } (startE 3 args) := by
  rintro args R ⟨a, b, c, rfl, aa, ab, ac, h⟩
  unfold widL at h
  k_allIn
  refine ⟨b, 1, MC, rfl, asc_le ab, ?_⟩
  k_allIn
  refine ⟨c, 1, MC, rfl, asc_le ac, ?_⟩
  k_allIn
  refine ⟨a, rfl, asc_le aa, ?_⟩
  k_allIn
  refine ite_i (fun c1 => ?_) (fun c1 => ?_)
  · have c1 : nameL a = true := c1
    rw [if_pos c1] at h
    cases hb : numI b 1 MC with
    | none =>
      rw [hb] at h
      k_allIn
      exact h
    | some n =>
      rw [hb] at h
      cases hc : numI c 1 MC with
      | none =>
        rw [hc] at h
        k_allIn
        exact h
      | some m =>
        rw [hc] at h
        k_allIn
        exact h
  · have c1 : ¬ nameL a = true := c1
    rw [if_neg c1] at h
    k_allIn
    exact h
def sidL (L : List Nat) : Option (List D) := match sp1 46 L with
  | [a, b, c, d] => match widL a b c, numI d 0 59 with
    | some w, some k => some (w ++ [.int k])
    | _, _ => none
  | _ => none
theorem wid_len {a b c : List Nat} {w : List D} (h : widL a b c = some w) : w.length = 3 ∧ w ≠ [] := by
  unfold widL at h
  split at h
  · split at h
    · cases h; exact ⟨rfl, fun q => nomatch q⟩
    · cases h
  · cases h
theorem sid_four {L a b c d : List Nat} (e : sp1 46 L = [a, b, c, d]) : sidL L = match widL a b c, numI d 0 59 with
    | some w, some k => some (w ++ [.int k])
    | _, _ => none := by
  unfold sidL
  rw [e]
theorem sid_bad {L : List Nat} (h : (sp1 46 L).length ≠ 4) : sidL L = none := by
  unfold sidL
  split
  · rename_i e; rw [e] at h; exact absurd rfl h
  · rfl
theorem four_of {α : Type} {l : List α} (h : l.length = 4) : ∃ a b c d, l = [a, b, c, d] := by
  match l, h with
  | [a, b, c, d], _ => exact ⟨a, b, c, d, rfl⟩
theorem three_of {α : Type} {l : List α} (h : l.length = 3) : ∃ a b c, l = [a, b, c] := by
  match l, h with
  | [a, b, c], _ => exact ⟨a, b, c, rfl⟩
def sd_sign_id_in : DSpec := fun args R => ∃ L : List Nat, args = [.val (.str (ofL L))] ∧ asc L ∧ R (.vl (oT (sidL L))) [.no]
theorem len_sign_id_in : ∀ args R, sd_sign_id_in args R → args.length = 1 := by rintro args R ⟨a, rfl, _⟩; rfl
theorem sp_sign_id_in : ∀ args R, sd_sign_id_in args R → m_sign_id_in sd_number_in sd_word_id_in { nx := fun e => R (.vl .non) (outs 1 e), rt := fun r e => R r (outs 1 e) } (startE 4 args) := by
  rintro args R ⟨L, rfl, as, h⟩
  have ol := ofL_len L
  have l60 := as.1
  k_allIn
  refine an_i (le_line (by omega)) ?_
  refine an_i (sOk_pieces (c := 46) as (by decide)) ?_
  have e : (Txt.split (ofL L) ".").map D.str = (sp1 46 L).map strD := split_D L (c := 46) (by decide)
  rw [e]
  k_allIn
  have e0 : deq (.int (((sp1 46 L).map strD).length : Int)) (.int 4) = decide ((sp1 46 L).length = 4) := by
    rw [deq_int, List.length_map, Bool.eq_iff_iff, beq_iff_eq, decide_eq_true_eq]; omega
  refine ite_i (fun c => ?_) (fun c => ?_)
  · have c : (!deq (.int (((sp1 46 L).map strD).length : Int)) (.int 4)) = true := c
    rw [e0, Bool.not_eq_true', decide_eq_false_iff_not] at c
    rw [sid_bad c] at h
    k_allIn
    exact h
  · have c : ¬ (!deq (.int (((sp1 46 L).map strD).length : Int)) (.int 4)) = true := c
    rw [e0, Bool.not_eq_true', decide_eq_false_iff_not, Decidable.not_not] at c
    obtain ⟨a, b, c, d, e4⟩ := four_of c
    have al : ∀ w ∈ sp1 46 L, asc w := fun w hw => asc_sp1 as hw
    rw [sid_four e4] at h
    rw [e4] at al ⊢
    have aa := al a (by simp)
    have ab := al b (by simp)
    have ac := al c (by simp)
    have ad := al d (by simp)
    k_allIn
    refine ⟨a, b, c, rfl, aa, ab, ac, ?_⟩
    k_allIn
    refine ⟨d, 0, 59, rfl, asc_le ad, ?_⟩
    k_allIn
    cases hw : widL a b c with
    | none =>
      rw [hw] at h
      k_allIn
      exact h
    | some w =>
      obtain ⟨wl, wn⟩ := wid_len hw
      rw [hw] at h
      cases hd : numI d 0 59 with
      | none =>
        rw [hd] at h
        k_allIn
        exact h
      | some k =>
        rw [hd] at h
        k_allIn
        refine an_i (List.cons_ne_nil _ _) ?_
        refine an_i (show w.length + 1 ≤ 100000 by omega) ?_
        k_allIn
        exact h
/-! add_in -/
abbrev ADD : List Nat := [97, 100, 100]
abbrev TOP : List Nat := [116, 111, 112]
abbrev CUT : List Nat := [99, 117, 116]
def addL (ws : List (List Nat)) (sg : List Nat) : D := match ws with
  | [h, s, b] => if (h == ADD) = true then if (sg == []) = true then .non else match numI s 1 999999, (if (b == TOP) = true then some [] else sidL b) with
    | some n, some t => .tup [.str "add", .int n, .tup t, strD sg]
    | _, _ => .non else .non
  | _ => .non
theorem add_bad {ws : List (List Nat)} {sg : List Nat} (h : ws.length ≠ 3) : addL ws sg = .non := by
  unfold addL
  split
  · exact absurd rfl h
  · rfl
def sd_add_in : DSpec := fun args R => ∃ (ws : List (List Nat)) (sg : List Nat), args = [.val (wsD ws), .val (strD sg)] ∧ (∀ w ∈ ws, asc w) ∧ ws.length ≤ 100 ∧ R (.vl (addL ws sg)) [.no, .no]
theorem len_add_in : ∀ args R, sd_add_in args R → args.length = 2 := by rintro args R ⟨a, b, rfl, _⟩; rfl
theorem deq_ofL (a : List Nat) (s : Str) : deq (.str (ofL a)) (.str s) = (a == s.cps.toList) := by rw [deq_str, ofL_beq]
theorem sp_add_in : ∀ args R, sd_add_in args R → m_add_in sd_number_in sd_sign_id_in { nx := fun e => R (.vl .non) (outs 2 e), rt := fun r e => R r (outs 2 e) } (startE 4 args) := by
  rintro args R ⟨ws, sg, rfl, al, hl, h⟩
  have e0 : deq (.int ((ws.map strD).length : Int)) (.int 3) = decide (ws.length = 3) := by
    rw [deq_int, List.length_map, Bool.eq_iff_iff, beq_iff_eq, decide_eq_true_eq]; omega
  unfold wsD
  k_allIn
  refine ite_i (fun c => ?_) (fun c => ?_)
  · have c : (!deq (.int ((ws.map strD).length : Int)) (.int 3)) = true := c
    rw [e0, Bool.not_eq_true', decide_eq_false_iff_not] at c
    rw [add_bad c] at h
    k_allIn
    exact h
  · have c : ¬ (!deq (.int ((ws.map strD).length : Int)) (.int 3)) = true := c
    rw [e0, Bool.not_eq_true', decide_eq_false_iff_not, Decidable.not_not] at c
    obtain ⟨a, s, b, rfl⟩ := three_of c
    have as := al s (by simp)
    have ab := al b (by simp)
    have e1 : deq (strD a) (.str "add") = (a == ADD) := deq_ofL a "add"
    have e2 : deq (strD sg) (.str "") = (sg == []) := deq_ofL sg ""
    have e3 : deq (strD b) (.str "top") = (b == TOP) := deq_ofL b "top"
    have h : R (.vl (if (a == ADD) = true then if (sg == []) = true then .non else match numI s 1 999999, (if (b == TOP) = true then some [] else sidL b) with
      | some n, some t => .tup [.str "add", .int n, .tup t, strD sg]
      | _, _ => .non else .non)) [.no, .no] := h
    k_allIn
    refine ite_i (fun c1 => ?_) (fun c1 => ?_)
    · have c1 : (!deq (strD a) (.str "add")) = true := c1
      rw [e1, Bool.not_eq_true'] at c1
      rw [c1, if_neg Bool.false_ne_true] at h
      k_allIn
      exact h
    · have c1 : ¬ (!deq (strD a) (.str "add")) = true := c1
      rw [e1, Bool.not_eq_true', Bool.not_eq_false] at c1
      rw [if_pos c1] at h
      k_allIn
      refine ite_i (fun c2 => ?_) (fun c2 => ?_)
      · have c2 : deq (strD sg) (.str "") = true := c2
        rw [e2] at c2
        rw [if_pos c2] at h
        k_allIn
        exact h
      · have c2 : ¬ deq (strD sg) (.str "") = true := c2
        rw [e2] at c2
        rw [if_neg c2] at h
        k_allIn
        refine ⟨s, 1, 999999, rfl, asc_le as, ?_⟩
        have fin : ∀ o : Option (List D), (∀ t, o = some t → t.length ≤ 100) → R (.vl (match numI s 1 999999, o with
            | some n, some t => .tup [.str "add", .int n, .tup t, strD sg]
            | _, _ => .non)) [.no, .no] → mRet (mIf (mAndT (mB (mOp2 aIsN (mVar 2) (mC .non))) (mB (mOp2 aIsN (mVar 3) (mC .non)))) (mTup (mCons (mC (.str "add")) (mCons (mVar 2) (mCons (mVar 3) (mCons (mVar 1) (mNil)))))) (mC .non)) { nx := fun e => R (.vl .non) (outs 2 e), rt := fun r e => R r (outs 2 e) } [.val (.lst [strD a, strD s, strD b]), .val (strD sg), .val (oI (numI s 1 999999)), .val (oT o)] := by
          intro o ho h
          cases hn : numI s 1 999999 with
          | none =>
            rw [hn] at h
            k_allIn
            exact h
          | some n =>
            rw [hn] at h
            cases o with
            | none =>
              k_allIn
              exact h
            | some t =>
              k_allIn
              exact h
        k_allIn
        refine ite_i (fun c3 => ?_) (fun c3 => ?_)
        · have c3 : deq (strD b) (.str "top") = true := c3
          rw [e3] at c3
          rw [if_pos c3] at h
          k_allIn
          have fin := fin (some []) (fun t e => by cases e; exact Nat.zero_le _) h
          exact (show _ ∧ _ from fin).2
        · have c3 : ¬ deq (strD b) (.str "top") = true := c3
          rw [e3] at c3
          rw [if_neg c3] at h
          k_allIn
          refine ⟨b, rfl, ab, ?_⟩
          k_allIn
          have fin := fin (sidL b) (fun t e => by
            unfold sidL at e
            split at e
            · split at e
              · rename_i w k hw hk
                cases e
                have := (wid_len hw).1
                rw [List.length_append]; show w.length + 1 ≤ 100; omega
              · cases e
            · cases e) h
          exact (show _ ∧ _ from fin).2
/-! cut_in -/
def cutL (ws : List (List Nat)) : D := match ws with
  | [h, v, f, l] => if (h == CUT) = true then match sp1 46 v with
    | [a, b, c] => match widL a b c, numI f 0 59, numI l 0 59 with
      | some t, some x, some y => if decide (y < x) = true then .non else .tup [.str "cut", .tup t, .int x, .int y]
      | _, _, _ => .non
    | _ => .non else .non
  | _ => .non
theorem cut_bad {ws : List (List Nat)} (h : ws.length ≠ 4) : cutL ws = .non := by
  unfold cutL
  split
  · exact absurd rfl h
  · rfl
def sd_cut_in : DSpec := fun args R => ∃ (ws : List (List Nat)), args = [.val (wsD ws)] ∧ (∀ w ∈ ws, asc w) ∧ ws.length ≤ 100 ∧ R (.vl (cutL ws)) [.no]
theorem len_cut_in : ∀ args R, sd_cut_in args R → args.length = 1 := by rintro args R ⟨a, rfl, _⟩; rfl
theorem sp_cut_in : ∀ args R, sd_cut_in args R → m_cut_in sd_number_in sd_word_id_in { nx := fun e => R (.vl .non) (outs 1 e), rt := fun r e => R r (outs 1 e) } (startE 5 args) := by
  rintro args R ⟨ws, rfl, al, hl, h⟩
  have e0 : deq (.int ((ws.map strD).length : Int)) (.int 4) = decide (ws.length = 4) := by
    rw [deq_int, List.length_map, Bool.eq_iff_iff, beq_iff_eq, decide_eq_true_eq]; omega
  unfold wsD
  k_allIn
  refine ite_i (fun c => ?_) (fun c => ?_)
  · have c : (!deq (.int ((ws.map strD).length : Int)) (.int 4)) = true := c
    rw [e0, Bool.not_eq_true', decide_eq_false_iff_not] at c
    rw [cut_bad c] at h
    k_allIn
    exact h
  · have c : ¬ (!deq (.int ((ws.map strD).length : Int)) (.int 4)) = true := c
    rw [e0, Bool.not_eq_true', decide_eq_false_iff_not, Decidable.not_not] at c
    obtain ⟨hd, v, f, l, rfl⟩ := four_of c
    have av := al v (by simp)
    have af := al f (by simp)
    have al' := al l (by simp)
    have ov := ofL_len v
    have v60 := av.1
    have e1 : deq (strD hd) (.str "cut") = (hd == CUT) := deq_ofL hd "cut"
    have h : R (.vl (if (hd == CUT) = true then match sp1 46 v with
      | [a, b, c] => match widL a b c, numI f 0 59, numI l 0 59 with
        | some t, some x, some y => if decide (y < x) = true then .non else .tup [.str "cut", .tup t, .int x, .int y]
        | _, _, _ => .non
      | _ => .non else .non)) [.no] := h
    k_allIn
    refine ite_i (fun c1 => ?_) (fun c1 => ?_)
    · have c1 : (!deq (strD hd) (.str "cut")) = true := c1
      rw [e1, Bool.not_eq_true'] at c1
      rw [c1, if_neg Bool.false_ne_true] at h
      k_allIn
      exact h
    · have c1 : ¬ (!deq (strD hd) (.str "cut")) = true := c1
      rw [e1, Bool.not_eq_true', Bool.not_eq_false] at c1
      rw [if_pos c1] at h
      have sl : sd_word_id_in = sd_word_id_in := rfl
      have e : (Txt.split (ofL v) ".").map D.str = (sp1 46 v).map strD := split_D v (c := 46) (by decide)
      have ok := sOk_pieces (c := 46) av (by decide)
      have e5 : deq (.int (((sp1 46 v).map strD).length : Int)) (.int 3) = decide ((sp1 46 v).length = 3) := by
        rw [deq_int, List.length_map, Bool.eq_iff_iff, beq_iff_eq, decide_eq_true_eq]; omega
      k_allIn
      refine an_i (show (ofL v).length + 2 ≤ sizeLine from le_line (by omega)) ?_
      refine an_i ok ?_
      k_allIn
      refine ite_i (fun c2 => ?_) (fun c2 => ?_)
      · have c2 : (!deq (.int (((Txt.split (ofL v) ".").map D.str).length : Int)) (.int 3)) = true := c2
        rw [e, e5, Bool.not_eq_true', decide_eq_false_iff_not] at c2
        have : (match sp1 46 v with
          | [a, b, c] => match widL a b c, numI f 0 59, numI l 0 59 with
            | some t, some x, some y => if decide (y < x) = true then D.non else .tup [.str "cut", .tup t, .int x, .int y]
            | _, _, _ => .non
          | _ => .non) = .non := by
          split
          · rename_i e6; rw [e6] at c2; exact absurd rfl c2
          · rfl
        rw [this] at h
        k_allIn
        exact h
      · have c2 : ¬ (!deq (.int (((Txt.split (ofL v) ".").map D.str).length : Int)) (.int 3)) = true := c2
        rw [e, e5, Bool.not_eq_true', decide_eq_false_iff_not, Decidable.not_not] at c2
        obtain ⟨a, b, c, e6⟩ := three_of c2
        have ap : ∀ w ∈ sp1 46 v, asc w := fun w hw => asc_sp1 av hw
        rw [e6] at ap e h
        have h : R (.vl (match widL a b c, numI f 0 59, numI l 0 59 with
            | some t, some x, some y => if decide (y < x) = true then D.non else .tup [.str "cut", .tup t, .int x, .int y]
            | _, _, _ => .non)) [.no] := h
        k_allIn
        refine an_i (show (ofL v).length + 2 ≤ sizeLine from le_line (by omega)) ?_
        refine an_i ok ?_
        k_allIn
        refine ⟨a, b, c, ?_, ap a (by simp), ap b (by simp), ap c (by simp), ?_⟩
        · show [Slot.val (.lst ((Txt.split (ofL v) ".").map D.str))] = _
          rw [e]; rfl
        k_allIn
        refine compI_list (fun d => match d with
          | .str x => some (oI (numI x.cps.toList 0 59))
          | _ => none) trivial (by show 2 ≤ _; decide) (fun x hx K hK => ?_) ?_
        · have hx : x = strD f ∨ x = strD l := by
            have hx : x ∈ [strD f, strD l] := hx
            simpa using hx
          rcases hx with rfl | rfl
          · k_allIn
            refine ⟨f, 0, 59, rfl, asc_le af, ?_⟩
            exact hK
          · k_allIn
            refine ⟨l, 0, 59, rfl, asc_le al', ?_⟩
            exact hK
        · k_allIn
          cases hw : widL a b c with
          | none =>
            rw [hw] at h
            k_allIn
            exact h
          | some t =>
            rw [hw] at h
            have tl := (wid_len hw).1
            cases hf : numI f 0 59 with
            | none =>
              rw [hf] at h
              rw [show numI (ofL f).cps.toList 0 59 = none from hf]
              k_allIn
              exact h
            | some x =>
              rw [hf] at h
              cases hl : numI l 0 59 with
              | none =>
                rw [hl] at h
                rw [show numI (ofL f).cps.toList 0 59 = some x from hf, show numI (ofL l).cps.toList 0 59 = none from hl]
                k_allIn
                exact h
              | some y =>
                rw [hl] at h
                have h : R (.vl (if decide (y < x) = true then D.non else .tup [.str "cut", .tup t, .int x, .int y])) [.no] := h
                rw [show numI (ofL f).cps.toList 0 59 = some x from hf, show numI (ofL l).cps.toList 0 59 = some y from hl]
                k_allIn
                refine ite_i (fun c3 => ?_) (fun c3 => ?_)
                · have c3 : decide (y < x) = true := c3
                  rw [if_pos c3] at h
                  k_allIn
                  exact h
                · have c3 : ¬ decide (y < x) = true := c3
                  rw [if_neg c3] at h
                  k_allIn
                  exact h
/-! edit_in -/
def editL (L : List Nat) : D := match splitL L with
  | (none, _) => .non
  | (some ws, none) => cutL ws
  | (some ws, some sg) => addL ws sg
def editD : D → D
  | .str s => if textB (.str s) = true then editL s.cps.toList else .non
  | _ => .non
theorem words_mem {L : List Nat} {ws : List (List Nat)} (as : asc L) (h : wordsL L = some ws) : (∀ w ∈ ws, asc w) ∧ ws.length ≤ 100 := by
  unfold wordsL at h
  split at h
  · cases h
  · split at h
    · cases h
    · cases h
      exact ⟨fun w hw => asc_sp1 as hw, by have := sp1_len 32 L; have := as.1; omega⟩
theorem split_mem {L : List Nat} {ws : List (List Nat)} (as : asc L) (h : (splitL L).1 = some ws) : (∀ w ∈ ws, asc w) ∧ ws.length ≤ 100 := by
  unfold splitL at h
  cases q : par1 61 L with
  | none => rw [q] at h; exact words_mem as h
  | some p =>
    obtain ⟨x, y⟩ := p
    rw [q] at h
    have h : headW x = some ws := h
    unfold headW at h
    split at h
    · obtain ⟨e1, e2⟩ := par1_some q
      have ax : asc x := ⟨by have := as.1; rw [e1, List.length_append] at this; omega, fun c hc => as.2 c (by rw [e1]; exact List.mem_append_left _ hc)⟩
      exact words_mem (asc_drop ax) h
    · cases h
theorem text_asc {s : Str} (h : textB (.str s) = true) : asc s.cps.toList := by
  have h : (decide (s.length ≤ 60) && s.cps.toList.all sgOk) = true := h
  rw [Bool.and_eq_true, decide_eq_true_eq, List.all_eq_true] at h
  refine ⟨by rw [← len_list]; exact h.1, fun c hc => ?_⟩
  have := h.2 c hc
  unfold sgOk at this
  rw [Bool.and_eq_true, Bool.and_eq_true, Bool.not_eq_true', Bool.not_eq_true', decide_eq_false_iff_not, decide_eq_false_iff_not] at this
  omega
def sd_edit_in : DSpec := fun args R => ∃ d : D, args = [.val d] ∧ plain d ∧ (∀ s, d = .str s → s.length ≤ 1000) ∧ R (.vl (editD d)) [.no]
theorem len_edit_in : ∀ args R, sd_edit_in args R → args.length = 1 := by rintro args R ⟨a, rfl, _⟩; rfl
theorem sp_edit_in : ∀ args R, sd_edit_in args R → m_edit_in sd_is_text sd_split_text sd_add_in sd_cut_in { nx := fun e => R (.vl .non) (outs 1 e), rt := fun r e => R r (outs 1 e) } (startE 3 args) := by
  rintro args R ⟨d, rfl, pd, ps, h⟩
  k_allIn
  refine ⟨d, rfl, pd, ps, ?_⟩
  k_allIn
  refine ite_i (fun c => ?_) (fun c => ?_)
  · have c : (!textB d) = true := c
    have e : editD d = .non := by
      cases d with
      | str s => exact if_neg (by rw [Bool.not_eq_true'] at c; rw [c]; exact Bool.false_ne_true)
      | _ => rfl
    rw [e] at h
    k_allIn
    exact h
  · have c : ¬ (!textB d) = true := c
    rw [Bool.not_eq_true', Bool.not_eq_false] at c
    obtain ⟨s, rfl⟩ : ∃ s, d = .str s := by
      cases d with
      | str s => exact ⟨s, rfl⟩
      | _ => cases c
    have as := text_asc c
    have e : editD (.str s) = editL s.cps.toList := if_pos c
    rw [e] at h
    unfold editL at h
    generalize hL : s.cps.toList = L at *
    have es : s = ofL L := by rw [← hL, ofL_self]
    subst es
    k_allIn
    refine ⟨L, rfl, as, ?_⟩
    k_allIn
    cases q : splitL L with
    | mk o1 o2 =>
      rw [q] at h
      cases o1 with
      | none =>
        k_allIn
        exact h
      | some ws =>
        have al := split_mem as (ws := ws) (by rw [q])
        cases o2 with
        | none =>
          k_allIn
          refine ⟨ws, rfl, al.1, al.2, ?_⟩
          exact h
        | some sg =>
          k_allIn
          refine ⟨ws, sg, rfl, al.1, al.2, ?_⟩
          exact h
end
end Law

set_option Elab.async false
set_option linter.all false
set_option maxRecDepth 100000
set_option maxHeartbeats 4000000
set_option autoImplicit false
namespace Law
open PySem L2 DL
section
local macro_rules | `(tactic| k_upd) => `(tactic| (first | exact trivial | exact rfl | ((try dsimp only); first | assumption | exact fits62 (by omega) (by omega) | exact cmul_s (by omega) (by omega) | exact cpow_s (by omega) (by omega) (by omega) | exact And.intro (by omega) (clog_s (by omega)) | omega | (simp only [List.length_append, List.length_cons, List.length_nil, List.length_map]; omega) | exact Nat.le_of_ble_eq_true rfl | decide)))
local macro_rules | `(tactic| k_memK) => `(tactic| first | (refine an_i ?_ ?_; focus k_upd) | refine ex_i rfl ?_ | refine ite_t rfl ?_ | refine ite_f Bool.false_ne_true ?_)
local macro_rules | `(tactic| k_allIn) => `(tactic| repeat k_memK)

set_option pp.deepTerms false
set_option pp.maxSteps 1500
def GA : List (List Nat) := [[97], [116, 111, 112], [97, 100, 100], [97, 98, 99, 100, 101, 102, 103, 104], [99, 117, 116]]
def BA : List (List Nat) := [[], [65], [97, 98, 99, 100, 101, 102, 103, 104, 105], [97, 32, 98], [55]]
def GB : List (List Nat) := [[49], [55], [57, 57, 57, 57, 57, 57], [49, 48, 48, 48, 48, 48, 48], [57, 57, 57, 57, 57, 57, 57, 57, 57, 57, 57, 57, 57, 57, 57, 57, 57, 57, 57, 57, 57, 57, 57, 57, 57, 57, 57, 57, 57, 57]]
def BB : List (List Nat) := [[48], [48, 49], [], [120], [57, 57, 57, 57, 57, 57, 57, 57, 57, 57, 57, 57, 57, 57, 57, 57, 57, 57, 57, 57, 57, 57, 57, 57, 57, 57, 57, 57, 57, 57, 57]]
def GC : List (List Nat) := [[49], [51, 48], [52]]
def BC : List (List Nat) := [[48], [48, 49], [], [45, 49]]
def NR : List (List Nat) := [[49], [55], [51, 48], [53, 57], [49, 50], [48]]
def NW : List (List Nat) := [[48, 49], [], [120], [45, 49], [49, 32], [43, 49], [54, 48], [49, 48, 48, 48, 48, 48, 48, 48, 48, 48, 48, 48, 48, 48, 48, 48, 48, 48, 48, 48, 48, 48, 48, 48, 48, 48, 48, 48, 48, 48, 48]]
def SR : List (List Nat) := [[49], [49, 50], [57, 57, 57, 57, 57, 57]]
def SW : List (List Nat) := [[48], [48, 49], [49, 48, 48, 48, 48, 48, 48], [120], [], [45, 49]]
def HW : List (List (List Nat)) := [[[65, 100, 100]], [[97, 100, 100], []], [[99, 117, 116]], [[97, 100, 100], [97, 100, 100]]]
def CW : List (List (List Nat)) := [[[67, 117, 116]], [[99, 117, 116], []], [[97, 100, 100]]]
def SG6 : List (List Nat) := [[120], [61], [97, 32, 98, 32, 32], [32], [61, 61, 116, 111, 112], [97, 100, 100, 32, 49, 32, 116, 111, 112, 32, 61, 120]]
def TW : List (List Nat) := [[84, 111, 112], [116, 111, 112, 46], [116, 111, 112, 115]]

theorem sp1_free {c : Nat} : ∀ {w : List Nat}, c ∉ w → sp1 c w = [w]
  | [], _ => rfl
  | a :: r, h => sp1_miss (fun q => h (by rw [q]; exact List.mem_cons_self ..)) (sp1_free fun m => h (List.mem_cons_of_mem _ m))
theorem sp1_app (c : Nat) (b : List Nat) : ∀ a : List Nat, sp1 c (a ++ c :: b) = sp1 c a ++ sp1 c b
  | [] => sp1_hit
  | x :: r => by
    have ih := sp1_app c b r
    by_cases q : x = c
    · subst q
      rw [List.cons_append, sp1_hit, sp1_hit, ih]; rfl
    · obtain ⟨w, ws, e⟩ := sp1_cons c r
      rw [e] at ih
      rw [List.cons_append, sp1_miss q ih, sp1_miss q e]; rfl
theorem sp1_join (c : Nat) : ∀ (ps : List (List Nat)) (p : List Nat), sp1 c (TL.joinL [c] (p :: ps)) = (p :: ps).flatMap (sp1 c)
  | [], p => by show sp1 c p = sp1 c p ++ []; rw [List.append_nil]
  | q :: r, p => by
    show sp1 c (p ++ (c :: TL.joinL [c] (q :: r))) = _
    rw [sp1_app, sp1_join c r q]
    simp only [List.flatMap_cons]
theorem sp1_count (c : Nat) : ∀ L : List Nat, (sp1 c L).length = L.count c + 1
  | [] => rfl
  | a :: r => by
    have ih := sp1_count c r
    by_cases q : a = c
    · subst q; rw [sp1_hit, List.count_cons_self, List.length_cons, ih]
    · obtain ⟨w, ws, e⟩ := sp1_cons c r
      rw [e] at ih
      rw [sp1_miss q e, List.count_cons_of_ne q, ← ih]; rfl
theorem sp1_two {c : Nat} {L : List Nat} (h : c ∈ L) : 2 ≤ (sp1 c L).length := by
  have := List.count_pos_iff.mpr h
  rw [sp1_count]; omega
theorem mem_join {c x : Nat} : ∀ {ps : List (List Nat)}, x ∈ TL.joinL [c] ps → x = c ∨ ∃ p ∈ ps, x ∈ p
  | [p], h => Or.inr ⟨p, by simp, h⟩
  | p :: q :: r, h => by
    have h : x ∈ p ++ (c :: TL.joinL [c] (q :: r)) := h
    rcases List.mem_append.mp h with h | h
    · exact Or.inr ⟨p, by simp, h⟩
    · rcases List.mem_cons.mp h with h | h
      · exact Or.inl h
      · rcases mem_join h with h | ⟨w, hw, h⟩
        · exact Or.inl h
        · exact Or.inr ⟨w, List.mem_cons_of_mem _ hw, h⟩
theorem in_join {c x : Nat} : ∀ {ps : List (List Nat)} {p : List Nat}, p ∈ ps → x ∈ p → x ∈ TL.joinL [c] ps
  | [q], p, h, hx => by rw [List.mem_singleton.mp h] at hx; exact hx
  | a :: q :: r, p, h, hx => by
    show x ∈ a ++ (c :: TL.joinL [c] (q :: r))
    rcases List.mem_cons.mp h with rfl | h
    · exact List.mem_append_left _ hx
    · exact List.mem_append_right _ (List.mem_cons_of_mem _ (in_join h hx))
theorem fm_free {c : Nat} : ∀ {ps : List (List Nat)}, (∀ p ∈ ps, c ∉ p) → ps.flatMap (sp1 c) = ps
  | [], _ => rfl
  | p :: r, h => by
    rw [List.flatMap_cons, sp1_free (h p (by simp)), fm_free fun q hq => h q (List.mem_cons_of_mem _ hq)]; rfl
theorem sp1_join_free {c : Nat} {ps : List (List Nat)} {p : List Nat} (h : ∀ q ∈ p :: ps, c ∉ q) : sp1 c (TL.joinL [c] (p :: ps)) = p :: ps := by rw [sp1_join, fm_free h]
/-! lines -/
theorem edit_none {L : List Nat} (h : editL L = .non) : editD (.str (ofL L)) = .non := by
  show (if textB (.str (ofL L)) = true then editL L else .non) = .non
  split
  · exact h
  · rfl
theorem edit_add {T sg : List Nat} (h : 61 ∉ T) : editL (T ++ ([32, 61] ++ sg)) = match wordsL T with
    | none => .non
    | some ws => addL ws sg := by
  have e : par1 61 (T ++ ([32, 61] ++ sg)) = some (T ++ [32], sg) := by
    rw [show T ++ ([32, 61] ++ sg) = (T ++ [32]) ++ 61 :: sg by simp]
    exact par1_app (by simp [h])
  have e2 : splitL (T ++ ([32, 61] ++ sg)) = (wordsL T, some sg) := by
    unfold splitL
    rw [e]
    show (headW (T ++ [32]), some sg) = _
    unfold headW
    rw [if_pos (by simp), List.dropLast_concat]
  unfold editL
  rw [e2]
  cases wordsL T <;> rfl
theorem words_or (T : List Nat) : wordsL T = none ∨ wordsL T = some (sp1 32 T) := by
  unfold wordsL
  split
  · exact Or.inl rfl
  · split
    · exact Or.inl rfl
    · exact Or.inr rfl
theorem add_non {T sg : List Nat} (h : 61 ∉ T) (e : addL (sp1 32 T) sg = .non) : editL (T ++ ([32, 61] ++ sg)) = .non := by
  rw [edit_add h]
  rcases words_or T with q | q <;> rw [q]
  exact e
theorem edit_cut {T : List Nat} (h : 61 ∉ T) : editL T = match wordsL T with
    | none => .non
    | some ws => cutL ws := by
  have e2 : splitL T = (wordsL T, none) := by
    unfold splitL
    rw [par1_free h]
  unfold editL
  rw [e2]
  cases wordsL T <;> rfl
theorem cut_non {T : List Nat} (h : 61 ∉ T) (e : cutL (sp1 32 T) = .non) : editL T = .non := by
  rw [edit_cut h]
  rcases words_or T with q | q <;> rw [q]
  exact e
theorem eq_non {T sg : List Nat} (h : 61 ∉ T) (e : T.getLast? ≠ some 32) : editL (T ++ ([61] ++ sg)) = .non := by
  have e1 : par1 61 (T ++ ([61] ++ sg)) = some (T, sg) := par1_app h
  have e2 : splitL (T ++ ([61] ++ sg)) = (none, some sg) := by
    unfold splitL
    rw [e1]
    show (headW T, some sg) = _
    unfold headW
    rw [if_neg (by rw [beq_iff_eq]; exact e)]
  unfold editL
  rw [e2]
theorem add_nil (ws : List (List Nat)) : addL ws [] = .non := by
  unfold addL
  split
  · split <;> rfl
  · rfl
theorem two_non {T sg : List Nat} (h : 61 ∉ T) : editL (T ++ ([32, 32, 61] ++ sg)) = .non := by
  rw [show T ++ ([32, 32, 61] ++ sg) = (T ++ [32]) ++ ([32, 61] ++ sg) by simp]
  rw [edit_add (by simp [h])]
  have e : wordsL (T ++ [32]) = none := by
    unfold wordsL
    rw [if_pos (by rw [sp1_app]; exact List.mem_append_right _ (by show [] ∈ [[]]; simp))]
  rw [e]
/-! pieces -/
def clean (w : List Nat) : Bool := !w.isEmpty && (decide (w.length ≤ 31) && w.all fun c => sgOk c && (c != 32 && (c != 61 && c != 46)))
structure Clean (w : List Nat) : Prop where
  ne : w ≠ []
  le : w.length ≤ 31
  ok : ∀ c ∈ w, sgOk c = true
  bl : 32 ∉ w
  eq : 61 ∉ w
  pt : 46 ∉ w
theorem clean_of {w : List Nat} (h : clean w = true) : Clean w := by
  unfold clean at h
  rw [Bool.and_eq_true, Bool.and_eq_true, decide_eq_true_eq, List.all_eq_true] at h
  obtain ⟨h1, h2, h3⟩ := h
  have k : ∀ c ∈ w, sgOk c = true ∧ c ≠ 32 ∧ c ≠ 61 ∧ c ≠ 46 := fun c hc => by
    have := h3 c hc
    rw [Bool.and_eq_true, Bool.and_eq_true, Bool.and_eq_true, bne_iff_ne, bne_iff_ne, bne_iff_ne] at this
    exact this
  refine ⟨by rintro rfl; exact absurd h1 (by decide), h2, fun c hc => (k c hc).1, fun m => (k _ m).2.1 rfl, fun m => (k _ m).2.2.1 rfl, fun m => (k _ m).2.2.2 rfl⟩
theorem ga_ok {w : List Nat} (h : w ∈ GA) : Clean w ∧ nameL w = true := by
  have := List.all_eq_true.mp (show GA.all (fun w => clean w && nameL w) = true by decide +kernel) w h
  rw [Bool.and_eq_true] at this
  exact ⟨clean_of this.1, this.2⟩
def numG (w : List Nat) (lo hi : Int) : Bool := clean w && (decide (numI w lo hi = some ((NumText.digitsVal w : Nat) : Int)) && w.all dig)
theorem int_dig {w : List Nat} (h : w.all dig = true) (hne : w ≠ []) (hl : w.length ≤ 4300) : intText? (ofL w) = some ((NumText.digitsVal w : Nat) : Int) :=
  intText_digits (x := ofL w) (fun c hc => by
    have := List.all_eq_true.mp h c hc
    unfold dig at this
    rw [Bool.and_eq_true, decide_eq_true_eq, decide_eq_true_eq] at this
    exact this) hne (by rw [ofL_len]; exact hl)
structure NumG (w : List Nat) (lo hi : Int) : Prop where
  cl : Clean w
  nm : numI w lo hi = some ((NumText.digitsVal w : Nat) : Int)
  it : intText? (ofL w) = some ((NumText.digitsVal w : Nat) : Int)
theorem numG_of {w : List Nat} {lo hi : Int} (h : numG w lo hi = true) : NumG w lo hi := by
  unfold numG at h
  rw [Bool.and_eq_true, Bool.and_eq_true, decide_eq_true_eq] at h
  have c := clean_of h.1
  exact ⟨c, h.2.1, int_dig h.2.2 c.ne (by have := c.le; omega)⟩
theorem gb_ok {w : List Nat} (h : w ∈ GB) : NumG w 1 MC := numG_of (List.all_eq_true.mp (show GB.all (fun w => numG w 1 MC) = true by decide +kernel) w h)
theorem gc_ok {w : List Nat} (h : w ∈ GC) : NumG w 1 MC := numG_of (List.all_eq_true.mp (show GC.all (fun w => numG w 1 MC) = true by decide +kernel) w h)
theorem nr_ok {w : List Nat} (h : w ∈ NR) : NumG w 0 59 := numG_of (List.all_eq_true.mp (show NR.all (fun w => numG w 0 59) = true by decide +kernel) w h)
theorem sr_ok {w : List Nat} (h : w ∈ SR) : NumG w 1 999999 := numG_of (List.all_eq_true.mp (show SR.all (fun w => numG w 1 999999) = true by decide +kernel) w h)
def loose (w : List Nat) : Bool := decide (w.length ≤ 31) && w.all fun c => decide (c < 128) && (c != 61 && c != 46)
structure Loose (w : List Nat) : Prop where
  le : w.length ≤ 31
  lt : ∀ c ∈ w, c < 128
  eq : 61 ∉ w
  pt : 46 ∉ w
theorem loose_of {w : List Nat} (h : loose w = true) : Loose w := by
  unfold loose at h
  rw [Bool.and_eq_true, decide_eq_true_eq, List.all_eq_true] at h
  have k : ∀ c ∈ w, c < 128 ∧ c ≠ 61 ∧ c ≠ 46 := fun c hc => by
    have := h.2 c hc
    rw [Bool.and_eq_true, Bool.and_eq_true, bne_iff_ne, bne_iff_ne, decide_eq_true_eq] at this
    exact this
  exact ⟨h.1, fun c hc => (k c hc).1, fun m => (k _ m).2.1 rfl, fun m => (k _ m).2.2 rfl⟩
theorem sg_lt {c : Nat} (h : sgOk c = true) : c < 128 := by
  unfold sgOk at h
  rw [Bool.and_eq_true, Bool.and_eq_true, Bool.not_eq_true', Bool.not_eq_true', decide_eq_false_iff_not, decide_eq_false_iff_not] at h
  omega
theorem Clean.loose {w : List Nat} (h : Clean w) : Loose w := ⟨h.le, fun c hc => sg_lt (h.ok c hc), h.eq, h.pt⟩
theorem ba_ok {w : List Nat} (h : w ∈ BA) : Loose w ∧ nameL w = false := by
  have := List.all_eq_true.mp (show BA.all (fun w => loose w && !nameL w) = true by decide +kernel) w h
  rw [Bool.and_eq_true, Bool.not_eq_true'] at this
  exact ⟨loose_of this.1, this.2⟩
theorem bb_ok {w : List Nat} (h : w ∈ BB) : Loose w ∧ numI w 1 MC = none := by
  have := List.all_eq_true.mp (show BB.all (fun w => loose w && decide (numI w 1 MC = none)) = true by decide +kernel) w h
  rw [Bool.and_eq_true, decide_eq_true_eq] at this
  exact ⟨loose_of this.1, this.2⟩
theorem bc_ok {w : List Nat} (h : w ∈ BC) : Loose w ∧ numI w 1 MC = none := by
  have := List.all_eq_true.mp (show BC.all (fun w => loose w && decide (numI w 1 MC = none)) = true by decide +kernel) w h
  rw [Bool.and_eq_true, decide_eq_true_eq] at this
  exact ⟨loose_of this.1, this.2⟩
theorem nw_ok {w : List Nat} (h : w ∈ NW) : Loose w ∧ numI w 0 59 = none := by
  have := List.all_eq_true.mp (show NW.all (fun w => loose w && decide (numI w 0 59 = none)) = true by decide +kernel) w h
  rw [Bool.and_eq_true, decide_eq_true_eq] at this
  exact ⟨loose_of this.1, this.2⟩
theorem sw_ok {w : List Nat} (h : w ∈ SW) : Loose w ∧ numI w 1 999999 = none ∧ 32 ∉ w := by
  have := List.all_eq_true.mp (show SW.all (fun w => loose w && (decide (numI w 1 999999 = none) && decide (32 ∉ w))) = true by decide +kernel) w h
  rw [Bool.and_eq_true, Bool.and_eq_true, decide_eq_true_eq, decide_eq_true_eq] at this
  exact ⟨loose_of this.1, this.2⟩
/-! words of a page -/
structure WordOk (a b c : List Nat) : Prop where
  fa : Clean a ∧ nameL a = true
  fb : NumG b 1 MC
  fc : NumG c 1 MC
structure WordBad (a b c : List Nat) : Prop where
  la : Loose a
  lb : Loose b
  lc : Loose c
  no : widL a b c = none
theorem word_ok {a b c : List Nat} (ha : a ∈ GA) (hb : b ∈ GB) (hc : c ∈ GC) : WordOk a b c := ⟨ga_ok ha, gb_ok hb, gc_ok hc⟩
theorem word_bad0 {a b c : List Nat} (ha : a ∈ BA) (hb : b ∈ GB) (hc : c ∈ GC) : WordBad a b c :=
  ⟨(ba_ok ha).1, (gb_ok hb).cl.loose, (gc_ok hc).cl.loose, by unfold widL; rw [(ba_ok ha).2]; rfl⟩
theorem word_bad1 {a b c : List Nat} (ha : a ∈ GA) (hb : b ∈ BB) (hc : c ∈ GC) : WordBad a b c :=
  ⟨(ga_ok ha).1.loose, (bb_ok hb).1, (gc_ok hc).cl.loose, by unfold widL; rw [if_pos (ga_ok ha).2, (bb_ok hb).2]⟩
theorem word_bad2 {a b c : List Nat} (ha : a ∈ GA) (hb : b ∈ GB) (hc : c ∈ BC) : WordBad a b c :=
  ⟨(ga_ok ha).1.loose, (gb_ok hb).cl.loose, (bc_ok hc).1, by unfold widL; rw [if_pos (ga_ok ha).2, (bc_ok hc).2]; cases numI b 1 MC <;> rfl⟩
theorem WordOk.wid {a b c : List Nat} (h : WordOk a b c) : widL a b c = some [strD a, .int ((NumText.digitsVal b : Nat) : Int), .int ((NumText.digitsVal c : Nat) : Int)] := by
  unfold widL; rw [if_pos h.fa.2, h.fb.nm, h.fc.nm]
structure Word (a b c : List Nat) : Prop where
  la : Loose a
  lb : Loose b
  lc : Loose c
theorem WordOk.w {a b c : List Nat} (h : WordOk a b c) : Word a b c := ⟨h.fa.1.loose, h.fb.cl.loose, h.fc.cl.loose⟩
theorem WordBad.w {a b c : List Nat} (h : WordBad a b c) : Word a b c := ⟨h.la, h.lb, h.lc⟩
end
end Law

set_option Elab.async false
set_option linter.all false
set_option maxRecDepth 100000
set_option maxHeartbeats 4000000
set_option autoImplicit false
namespace Law
open PySem L2 DL
section
local macro_rules | `(tactic| k_upd) => `(tactic| (first | exact trivial | exact rfl | ((try dsimp only); first | assumption | exact fits62 (by omega) (by omega) | exact cmul_s (by omega) (by omega) | exact cpow_s (by omega) (by omega) (by omega) | exact And.intro (by omega) (clog_s (by omega)) | omega | (simp only [List.length_append, List.length_cons, List.length_nil, List.length_map]; omega) | exact Nat.le_of_ble_eq_true rfl | decide)))
local macro_rules | `(tactic| k_memK) => `(tactic| first | (refine an_i ?_ ?_; focus k_upd) | refine ex_i rfl ?_ | refine ite_t rfl ?_ | refine ite_f Bool.false_ne_true ?_)
local macro_rules | `(tactic| k_allIn) => `(tactic| repeat k_memK)

set_option pp.deepTerms false
set_option pp.maxSteps 1500

/-! behind -/
def BadB (L : List Nat) : Prop := 61 ∉ L ∧ L ≠ TOP ∧ sidL L = none
theorem join_eq {ps : List (List Nat)} {c x : Nat} (hx : x ≠ c) (h : ∀ p ∈ ps, x ∉ p) : x ∉ TL.joinL [c] ps := fun m => by
  rcases mem_join m with q | ⟨p, hp, q⟩
  · exact hx q
  · exact h p hp q
theorem four_pt {a b c k : List Nat} : TL.joinL [46] [a, b, c, k] ≠ TOP := fun e => by
  have : 46 ∈ TL.joinL [46] [a, b, c, k] := by show 46 ∈ a ++ (46 :: _); simp
  rw [e] at this
  exact absurd this (by decide)
theorem sid_join {a b c k : List Nat} (w : Word a b c) (hk : Loose k) : sidL (TL.joinL [46] [a, b, c, k]) = match widL a b c, numI k 0 59 with
    | some w, some k => some (w ++ [.int k])
    | _, _ => none :=
  sid_four (sp1_join_free (by simp [w.la.pt, w.lb.pt, w.lc.pt, hk.pt]))
theorem four_eq {a b c k : List Nat} (w : Word a b c) (hk : Loose k) : 61 ∉ TL.joinL [46] [a, b, c, k] :=
  join_eq (by decide) (by simp [w.la.eq, w.lb.eq, w.lc.eq, hk.eq])
theorem beh_bad2 {a b c k : List Nat} (w : WordBad a b c) (hk : Loose k) : BadB (TL.joinL [46] [a, b, c, k]) :=
  ⟨four_eq w.w hk, four_pt, by rw [sid_join w.w hk, w.no]⟩
theorem beh_bad3 {a b c k : List Nat} (w : Word a b c) (hk : Loose k) (h : numI k 0 59 = none) : BadB (TL.joinL [46] [a, b, c, k]) :=
  ⟨four_eq w hk, four_pt, by rw [sid_join w hk, h]; cases widL a b c <;> rfl⟩
theorem beh_bad4 {L : List Nat} (h : L ∈ TW) : BadB L := by
  have := List.all_eq_true.mp (show TW.all (fun L => decide (61 ∉ L) && (decide (L ≠ TOP) && decide ((sp1 46 L).length ≠ 4))) = true by decide +kernel) L h
  rw [Bool.and_eq_true, Bool.and_eq_true, decide_eq_true_eq, decide_eq_true_eq, decide_eq_true_eq] at this
  exact ⟨this.1, this.2.1, sid_bad this.2.2⟩
theorem beh_bad4a {a b c : List Nat} (w : Word a b c) : BadB (TL.joinL [46] [a, b, c]) := by
  refine ⟨join_eq (by decide) (by simp [w.la.eq, w.lb.eq, w.lc.eq]), fun e => ?_, sid_bad ?_⟩
  · have : 46 ∈ TL.joinL [46] [a, b, c] := by show 46 ∈ a ++ (46 :: _); simp
    rw [e] at this
    exact absurd this (by decide)
  · rw [sp1_join_free (by simp [w.la.pt, w.lb.pt, w.lc.pt])]; show 3 ≠ 4; decide
theorem beh_bad4b {a b c k : List Nat} (w : Word a b c) (hk : Loose k) : BadB (TL.joinL [46] [a, b, c, k, [49]]) := by
  refine ⟨join_eq (by decide) (by simp [w.la.eq, w.lb.eq, w.lc.eq, hk.eq]), fun e => ?_, sid_bad ?_⟩
  · have : 46 ∈ TL.joinL [46] [a, b, c, k, [49]] := by show 46 ∈ a ++ (46 :: _); simp
    rw [e] at this
    exact absurd this (by decide)
  · rw [sp1_join_free (by simp [w.la.pt, w.lb.pt, w.lc.pt, hk.pt])]; simp
abbrev dv (w : List Nat) : D := .int ((NumText.digitsVal w : Nat) : Int)
def behD (top : Bool) (a b c k : List Nat) : List D := if top = true then [] else [strD a, dv b, dv c, dv k]
structure GoodB (top : Bool) (a b c k L : List Nat) : Prop where
  ne : L ≠ []
  ok : ∀ x ∈ L, sgOk x = true
  bl : 32 ∉ L
  eq : 61 ∉ L
  val : (if (L == TOP) = true then some [] else sidL L) = some (behD top a b c k)
theorem good_top {a b c k : List Nat} : GoodB true a b c k TOP := ⟨by decide, by decide, by decide, by decide, by rw [if_pos (beq_self_eq_true _)]; rfl⟩
theorem good_four {a b c k : List Nat} (w : WordOk a b c) (hk : NumG k 0 59) : GoodB false a b c k (TL.joinL [46] [a, b, c, k]) := by
  refine ⟨fun e => ?_, fun x hx => ?_, join_eq (by decide) (by simp [w.fa.1.bl, w.fb.cl.bl, w.fc.cl.bl, hk.cl.bl]), four_eq w.w hk.cl.loose, ?_⟩
  · have : 46 ∈ TL.joinL [46] [a, b, c, k] := by show 46 ∈ a ++ (46 :: _); simp
    rw [e] at this; cases this
  · rcases mem_join hx with rfl | ⟨p, hp, q⟩
    · decide
    · simp only [List.mem_cons, List.not_mem_nil, or_false] at hp
      rcases hp with rfl | rfl | rfl | rfl
      · exact w.fa.1.ok _ q
      · exact w.fb.cl.ok _ q
      · exact w.fc.cl.ok _ q
      · exact hk.cl.ok _ q
  · rw [if_neg (by rw [beq_iff_eq]; exact four_pt), sid_join w.w hk.cl.loose, w.wid, hk.nm]
    rfl
/-! added lines -/
def addT (hs : List (List Nat)) (s L : List Nat) : List Nat := TL.joinL [32] (hs ++ [s, L])
theorem add_of {s L sg : List Nat} (h : addL [ADD, s, L] sg = .non) : addL (sp1 32 (addT [ADD] s L)) sg = .non := by
  have e : sp1 32 (addT [ADD] s L) = [ADD] ++ (sp1 32 s ++ sp1 32 L) := by
    unfold addT
    rw [show [ADD] ++ [s, L] = ADD :: [s, L] from rfl, sp1_join]
    simp only [List.flatMap_cons, List.flatMap_nil, List.append_nil]
    rw [sp1_free (show 32 ∉ ADD by decide)]
  rw [e]
  by_cases h1 : 32 ∈ s
  · refine add_bad ?_
    have := sp1_two h1
    have := sp1_count 32 L
    simp only [List.length_append, List.length_cons, List.length_nil]; omega
  · by_cases h2 : 32 ∈ L
    · refine add_bad ?_
      have := sp1_two h2
      have := sp1_count 32 s
      simp only [List.length_append, List.length_cons, List.length_nil]; omega
    · rw [sp1_free h1, sp1_free h2]; exact h
theorem add_three (s L sg : List Nat) : addL [ADD, s, L] sg = if (sg == []) = true then .non else match numI s 1 999999, (if (L == TOP) = true then some [] else sidL L) with
    | some n, some t => .tup [.str "add", .int n, .tup t, strD sg]
    | _, _ => .non := rfl
theorem addT_eq {hs : List (List Nat)} {s L : List Nat} (hh : ∀ h ∈ hs, 61 ∉ h) (h1 : 61 ∉ s) (h2 : 61 ∉ L) : 61 ∉ addT hs s L := by
  refine join_eq (by decide) fun p hp => ?_
  rcases List.mem_append.mp hp with hp | hp
  · exact hh p hp
  · simp only [List.mem_cons, List.not_mem_nil, or_false] at hp
    rcases hp with rfl | rfl
    · exact h1
    · exact h2
theorem hADD : ∀ h ∈ [ADD], 61 ∉ h := by decide
theorem add_badB {s L sg : List Nat} (hs : 61 ∉ s) (h : BadB L) : editL (addT [ADD] s L ++ ([32, 61] ++ sg)) = .non := by
  refine add_non (addT_eq hADD hs h.1) (add_of ?_)
  rw [add_three, if_neg (fun q => h.2.1 (eq_of_beq q)), h.2.2]
  split
  · rfl
  · cases numI s 1 999999 <;> rfl
theorem add_badS {s L sg : List Nat} (hs : 61 ∉ s) (hL : 61 ∉ L) (h : numI s 1 999999 = none) : editL (addT [ADD] s L ++ ([32, 61] ++ sg)) = .non := by
  refine add_non (addT_eq hADD hs hL) (add_of ?_)
  rw [add_three, h]
  split <;> rfl
theorem add_bad0 {s L : List Nat} (hs : 61 ∉ s) (hL : 61 ∉ L) : editL (addT [ADD] s L ++ ([32, 61] ++ [])) = .non :=
  add_non (addT_eq hADD hs hL) (add_nil _)
theorem hw_eq : ∀ hs ∈ HW, ∀ h ∈ hs, 61 ∉ h := by decide
theorem add_badH {hs : List (List Nat)} {s L sg : List Nat} (hh : hs ∈ HW) (h1 : 61 ∉ s) (h2 : 61 ∉ L) (b1 : 32 ∉ s) (b2 : 32 ∉ L) : editL (addT hs s L ++ ([32, 61] ++ sg)) = .non := by
  refine add_non (addT_eq (hw_eq hs hh) h1 h2) ?_
  have e : ∀ p ps, hs = p :: ps → sp1 32 (addT hs s L) = (p :: ps).flatMap (sp1 32) ++ [s, L] := by
    rintro p ps rfl
    unfold addT
    rw [List.cons_append, sp1_join]
    simp only [List.flatMap_cons, List.flatMap_append, List.flatMap_nil, List.append_nil]
    rw [sp1_free b1, sp1_free b2, List.append_assoc]; rfl
  simp only [HW, List.mem_cons, List.not_mem_nil, or_false] at hh
  rcases hh with rfl | rfl | rfl | rfl
  · rw [e _ _ rfl]; rfl
  · rw [e _ _ rfl]; rfl
  · rw [e _ _ rfl]; rfl
  · rw [e _ _ rfl]; rfl
theorem addT_last {hs : List (List Nat)} {s L : List Nat} (h0 : hs ≠ []) (hn : L ≠ []) (hb : 32 ∉ L) : (addT hs s L).getLast? ≠ some 32 := by
  have key : ∀ (ps : List (List Nat)) , ∃ X, TL.joinL [32] (ps ++ [s, L]) = X ++ L := by
    intro ps
    induction ps with
    | nil => exact ⟨s ++ [32], by show s ++ (32 :: L) = _; simp⟩
    | cons p r ih =>
      obtain ⟨X, e⟩ := ih
      cases hr : r ++ [s, L] with
      | nil => exact absurd hr (by simp)
      | cons q t =>
        rw [hr] at e
        refine ⟨p ++ (32 :: X), ?_⟩
        rw [List.cons_append, hr]
        show p ++ (32 :: TL.joinL [32] (q :: t)) = _
        rw [e, List.append_assoc]; rfl
  obtain ⟨X, e⟩ := key hs
  unfold addT
  rw [e, List.getLast?_append]
  cases q : L.getLast? with
  | none => exact absurd (List.getLast?_eq_none_iff.mp q) hn
  | some x =>
    intro h
    have h : some x = some 32 := h
    cases h
    exact hb (List.mem_of_getLast? q)
theorem add_bad7 {s L sg : List Nat} (hs : 61 ∉ s) (hL : 61 ∉ L) (hn : L ≠ []) (hb : 32 ∉ L) : editL (addT [ADD] s L ++ ([61] ++ sg)) = .non :=
  eq_non (addT_eq hADD hs hL) (addT_last (by simp) hn hb)
theorem text_ok {L : List Nat} (h : L.length ≤ 60) (ok : ∀ x ∈ L, sgOk x = true) : editD (.str (ofL L)) = editL L := by
  have t : textB (.str (ofL L)) = true := by
    show (decide ((ofL L).length ≤ 60) && L.all sgOk) = true
    rw [ofL_len, decide_eq_true h, List.all_eq_true.mpr ok]; rfl
  exact if_pos t
theorem text_long {L : List Nat} (h : 60 < L.length) : editD (.str (ofL L)) = .non := by
  have t : textB (.str (ofL L)) = false := by
    show (decide ((ofL L).length ≤ 60) && L.all sgOk) = false
    rw [ofL_len, decide_eq_false (by omega)]; rfl
  show (if textB (.str (ofL L)) = true then _ else _) = _
  rw [t]; rfl
theorem ten_bad : sgOk 10 = false := by decide
theorem words_good {T : List Nat} {ws : List (List Nat)} (ok : ∀ x ∈ T, sgOk x = true) (e : sp1 32 T = ws) (h : [] ∉ ws) : wordsL T = some ws := by
  unfold wordsL
  rw [e, if_neg h, if_neg (fun m => by have := ok _ m; rw [ten_bad] at this; cases this)]
theorem addT_ok {s L : List Nat} (h1 : ∀ x ∈ s, sgOk x = true) (h2 : ∀ x ∈ L, sgOk x = true) : ∀ x ∈ addT [ADD] s L, sgOk x = true := fun x hx => by
  rcases mem_join hx with rfl | ⟨p, hp, q⟩
  · decide
  · simp only [List.cons_append, List.nil_append, List.mem_cons, List.not_mem_nil, or_false] at hp
    rcases hp with rfl | rfl | rfl
    · exact (show ∀ x ∈ ADD, sgOk x = true by decide) x q
    · exact h1 x q
    · exact h2 x q
theorem add_good {top : Bool} {a b c k s L sg : List Nat} (hs : NumG s 1 999999) (g : GoodB top a b c k L) (so : ∀ x ∈ sg, sgOk x = true) (sn : sg ≠ [])
    (hl : (addT [ADD] s L ++ ([32, 61] ++ sg)).length ≤ 60) : editD (.str (ofL (addT [ADD] s L ++ ([32, 61] ++ sg)))) = .tup [.str "add", dv s, .tup (behD top a b c k), strD sg] := by
  have tk := addT_ok hs.cl.ok g.ok
  rw [text_ok hl (fun x hx => by
    rcases List.mem_append.mp hx with hx | hx
    · exact tk x hx
    · rcases List.mem_append.mp hx with hx | hx
      · exact (show ∀ x ∈ [32, 61], sgOk x = true by decide) x hx
      · exact so x hx), edit_add (addT_eq hADD hs.cl.eq g.eq)]
  have e : sp1 32 (addT [ADD] s L) = [ADD, s, L] := sp1_join_free (by simp [hs.cl.bl, g.bl])
  rw [words_good tk e (by
    simp only [List.mem_cons, List.not_mem_nil, or_false, not_or]
    exact ⟨by decide, fun q => hs.cl.ne q.symm, fun q => g.ne q.symm⟩)]
  show addL [ADD, s, L] sg = _
  rw [add_three, if_neg (fun q => sn (eq_of_beq q)), hs.nm, g.val]
/-! the first mark doubled -/
theorem part_mark {T sg : List Nat} (h : 61 ∉ T) : Txt.partition (ofL (T ++ ([32, 61] ++ sg))) " =" = (ofL T, (" =" : Str), ofL sg) := by
  rw [TL.partition_par _ _ (show ([32, 61] : List Nat) ≠ [] by decide)]
  show (match TL.par [32, 61] [] (T ++ ([32, 61] ++ sg)) with | some (a, b) => ((⟨a.toArray⟩ : Str), (" =" : Str), (⟨b.toArray⟩ : Str)) | none => _) = _
  rw [TL.par_part (S := [32, 61]) (p := T) (rest := sg) (by decide) (fun i hi => ?_)]
  · rfl
  · cases q : TL.pre [32, 61] ((T ++ ([32, 61] ++ sg)).drop i) with
    | false => rfl
    | true =>
      exfalso
      have q : (((T ++ ([32, 61] ++ sg)).drop i).take 2 == [32, 61]) = true := q
      have q := eq_of_beq q
      have e : ((T ++ ([32, 61] ++ sg)).drop i)[1]? = some 61 := by
        rw [← List.getElem?_take_of_lt (show 1 < 2 by decide), q]; rfl
      rw [List.getElem?_drop] at e
      rcases Nat.lt_or_ge (i + 1) T.length with l | l
      · rw [List.getElem?_append_left l] at e
        exact h (List.mem_of_getElem? e)
      · have : i + 1 = T.length := by omega
        rw [List.getElem?_append_right (by omega), this, Nat.sub_self] at e
        cases e
theorem rep_mark {T sg : List Nat} (h : 61 ∉ T) : rep1 (ofL (T ++ ([32, 61] ++ sg))) " =" "  =" = ofL (T ++ ([32, 32, 61] ++ sg)) := by
  rw [rep1_part (by decide) (part_mark h)]
  refine str_ext ?_
  rw [app_list, app_list, ofL_list, ofL_list, ofL_list, List.append_assoc]; rfl
/-! cut lines -/
def cutT (hs : List (List Nat)) (N f l : List Nat) : List Nat := TL.joinL [32] (hs ++ [N, f, l])
theorem cut_of {N f l : List Nat} (h : cutL [CUT, N, f, l] = .non) : cutL (sp1 32 (cutT [CUT] N f l)) = .non := by
  have e : sp1 32 (cutT [CUT] N f l) = [CUT] ++ (sp1 32 N ++ (sp1 32 f ++ sp1 32 l)) := by
    unfold cutT
    rw [show [CUT] ++ [N, f, l] = CUT :: [N, f, l] from rfl, sp1_join]
    simp only [List.flatMap_cons, List.flatMap_nil, List.append_nil]
    rw [sp1_free (show 32 ∉ CUT by decide)]
  rw [e]
  have c1 := sp1_count 32 N
  have c2 := sp1_count 32 f
  have c3 := sp1_count 32 l
  by_cases h1 : 32 ∈ N
  · refine cut_bad ?_
    have := sp1_two h1
    simp only [List.length_append, List.length_cons, List.length_nil]; omega
  · by_cases h2 : 32 ∈ f
    · refine cut_bad ?_
      have := sp1_two h2
      simp only [List.length_append, List.length_cons, List.length_nil]; omega
    · by_cases h3 : 32 ∈ l
      · refine cut_bad ?_
        have := sp1_two h3
        simp only [List.length_append, List.length_cons, List.length_nil]; omega
      · rw [sp1_free h1, sp1_free h2, sp1_free h3]; exact h
theorem cut_four (N f l : List Nat) : cutL [CUT, N, f, l] = match sp1 46 N with
    | [a, b, c] => match widL a b c, numI f 0 59, numI l 0 59 with
      | some t, some x, some y => if decide (y < x) = true then .non else .tup [.str "cut", .tup t, .int x, .int y]
      | _, _, _ => .non
    | _ => .non := rfl
theorem cutT_eq {hs : List (List Nat)} {N f l : List Nat} (hh : ∀ h ∈ hs, 61 ∉ h) (h1 : 61 ∉ N) (h2 : 61 ∉ f) (h3 : 61 ∉ l) : 61 ∉ cutT hs N f l := by
  refine join_eq (by decide) fun p hp => ?_
  rcases List.mem_append.mp hp with hp | hp
  · exact hh p hp
  · simp only [List.mem_cons, List.not_mem_nil, or_false] at hp
    rcases hp with rfl | rfl | rfl
    · exact h1
    · exact h2
    · exact h3
abbrev nameT (a b c : List Nat) : List Nat := TL.joinL [46] [a, b, c]
theorem name_eq {a b c : List Nat} (w : Word a b c) : 61 ∉ nameT a b c := join_eq (by decide) (by simp [w.la.eq, w.lb.eq, w.lc.eq])
theorem name_sp {a b c : List Nat} (w : Word a b c) : sp1 46 (nameT a b c) = [a, b, c] := sp1_join_free (by simp [w.la.pt, w.lb.pt, w.lc.pt])
theorem cut_name {a b c : List Nat} (w : Word a b c) (f l : List Nat) : cutL [CUT, nameT a b c, f, l] = match widL a b c, numI f 0 59, numI l 0 59 with
      | some t, some x, some y => if decide (y < x) = true then .non else .tup [.str "cut", .tup t, .int x, .int y]
      | _, _, _ => .non := by
  rw [cut_four, name_sp w]
theorem hCUT : ∀ h ∈ [CUT], 61 ∉ h := by decide
theorem cut_badW {a b c f l : List Nat} (w : WordBad a b c) (hf : 61 ∉ f) (hl : 61 ∉ l) : editL (cutT [CUT] (nameT a b c) f l) = .non :=
  cut_non (cutT_eq hCUT (name_eq w.w) hf hl) (cut_of (by rw [cut_name w.w, w.no]))
theorem cut_badF {a b c f l : List Nat} (w : Word a b c) (hf : 61 ∉ f) (hl : 61 ∉ l) (h : numI f 0 59 = none) : editL (cutT [CUT] (nameT a b c) f l) = .non :=
  cut_non (cutT_eq hCUT (name_eq w) hf hl) (cut_of (by rw [cut_name w, h]; cases widL a b c <;> rfl))
theorem cut_badL {a b c f l : List Nat} (w : Word a b c) (hf : 61 ∉ f) (hl : 61 ∉ l) (h : numI l 0 59 = none) : editL (cutT [CUT] (nameT a b c) f l) = .non :=
  cut_non (cutT_eq hCUT (name_eq w) hf hl) (cut_of (by rw [cut_name w, h]; cases widL a b c <;> cases numI f 0 59 <;> rfl))
def BadN (N : List Nat) : Prop := 61 ∉ N ∧ (sp1 46 N).length ≠ 3
theorem cut_badN {N f l : List Nat} (hN : BadN N) (hf : 61 ∉ f) (hl : 61 ∉ l) : editL (cutT [CUT] N f l) = .non :=
  cut_non (cutT_eq hCUT hN.1 hf hl) (cut_of (by
    rw [cut_four]
    split
    · rename_i e; exact absurd (by rw [e]; rfl) hN.2
    · rfl))
theorem badN_0 {a b c : List Nat} (w : Word a b c) : BadN (TL.joinL [46] [a, b, c, [48]]) :=
  ⟨join_eq (by decide) (by simp [w.la.eq, w.lb.eq, w.lc.eq]), by rw [sp1_join_free (by simp [w.la.pt, w.lb.pt, w.lc.pt])]; simp⟩
theorem badN_1 {a b c : List Nat} (w : Word a b c) : BadN (TL.joinL [46] [a, b]) :=
  ⟨join_eq (by decide) (by simp [w.la.eq, w.lb.eq]), by rw [sp1_join_free (by simp [w.la.pt, w.lb.pt])]; simp⟩
theorem badN_2 : BadN TOP := ⟨by decide, by decide⟩
theorem badN_3 {a b c : List Nat} (w : Word a b c) : BadN a := ⟨w.la.eq, by rw [sp1_free w.la.pt]; simp⟩
theorem seven : numI [55] 0 59 = some 7 := by decide +kernel
theorem six : numI [54] 0 59 = some 6 := by decide +kernel
theorem cut_bad8 {a b c : List Nat} (w : WordOk a b c) : editL (cutT [CUT] (nameT a b c) [55] [54]) = .non :=
  cut_non (cutT_eq hCUT (name_eq w.w) (by decide) (by decide)) (cut_of (by rw [cut_name w.w, w.wid, seven, six]; rfl))
structure CutOk (a b c f l : List Nat) : Prop where
  w : WordOk a b c
  f : NumG f 0 59
  l : NumG l 0 59
theorem name_ok {a b c : List Nat} (w : WordOk a b c) : nameT a b c ≠ [] ∧ (∀ x ∈ nameT a b c, sgOk x = true) ∧ 32 ∉ nameT a b c ∧ 61 ∉ nameT a b c := by
  refine ⟨fun e => ?_, fun x hx => ?_, join_eq (by decide) (by simp [w.fa.1.bl, w.fb.cl.bl, w.fc.cl.bl]), name_eq w.w⟩
  · have : 46 ∈ TL.joinL [46] [a, b, c] := by show 46 ∈ a ++ (46 :: _); simp
    rw [show TL.joinL [46] [a, b, c] = [] from e] at this; cases this
  · rcases mem_join hx with rfl | ⟨p, hp, q⟩
    · decide
    · simp only [List.mem_cons, List.not_mem_nil, or_false] at hp
      rcases hp with rfl | rfl | rfl
      · exact w.fa.1.ok _ q
      · exact w.fb.cl.ok _ q
      · exact w.fc.cl.ok _ q
theorem cutT_ok {a b c f l : List Nat} (h : CutOk a b c f l) : ∀ x ∈ cutT [CUT] (nameT a b c) f l, sgOk x = true := fun x hx => by
  rcases mem_join hx with rfl | ⟨p, hp, q⟩
  · decide
  · simp only [List.cons_append, List.nil_append, List.mem_cons, List.not_mem_nil, or_false] at hp
    rcases hp with rfl | rfl | rfl | rfl
    · exact (show ∀ x ∈ CUT, sgOk x = true by decide) x q
    · exact (name_ok h.w).2.1 x q
    · exact h.f.cl.ok x q
    · exact h.l.cl.ok x q
theorem cutT_sp {a b c f l : List Nat} (h : CutOk a b c f l) : sp1 32 (cutT [CUT] (nameT a b c) f l) = [CUT, nameT a b c, f, l] :=
  sp1_join_free (p := CUT) (ps := [nameT a b c, f, l]) (by
    intro q hq
    simp only [List.mem_cons, List.not_mem_nil, or_false] at hq
    rcases hq with rfl | rfl | rfl | rfl
    · decide
    · exact (name_ok h.w).2.2.1
    · exact h.f.cl.bl
    · exact h.l.cl.bl)
theorem cutT_free {a b c f l : List Nat} (h : CutOk a b c f l) : 61 ∉ cutT [CUT] (nameT a b c) f l := cutT_eq hCUT (name_eq h.w.w) h.f.cl.eq h.l.cl.eq
theorem cutT_last {a b c f l : List Nat} (h : CutOk a b c f l) : (cutT [CUT] (nameT a b c) f l).getLast? ≠ some 32 :=
  addT_last (hs := [CUT, nameT a b c]) (s := f) (L := l) (by simp) h.l.cl.ne h.l.cl.bl
def CE : List (List Nat) := [[32, 49], [32], [32, 61], [61, 120]]
theorem cut_bad5 {a b c f l E : List Nat} (h : CutOk a b c f l) (hE : E ∈ CE) : editL (cutT [CUT] (nameT a b c) f l ++ E) = .non := by
  have fr := cutT_free h
  simp only [CE, List.mem_cons, List.not_mem_nil, or_false] at hE
  rcases hE with rfl | rfl | rfl | rfl
  · refine cut_non (by simp [fr]) ?_
    rw [sp1_app 32 [49], cutT_sp h]
    exact cut_bad (show 5 ≠ 4 by decide)
  · refine cut_non (by simp [fr]) ?_
    rw [sp1_app 32 [], cutT_sp h]
    exact cut_bad (show 5 ≠ 4 by decide)
  · exact add_non (sg := []) fr (add_nil _)
  · exact eq_non (sg := [120]) fr (cutT_last h)
theorem cut_bad6 {hs : List (List Nat)} {a b c f l : List Nat} (h : CutOk a b c f l) (hh : hs ∈ CW) : editL (cutT hs (nameT a b c) f l) = .non := by
  refine cut_non (cutT_eq ((show ∀ hs ∈ CW, ∀ h ∈ hs, 61 ∉ h by decide) hs hh) (name_eq h.w.w) h.f.cl.eq h.l.cl.eq) ?_
  have e : ∀ p ps, hs = p :: ps → sp1 32 (cutT hs (nameT a b c) f l) = (p :: ps).flatMap (sp1 32) ++ [nameT a b c, f, l] := by
    rintro p ps rfl
    unfold cutT
    rw [List.cons_append, sp1_join]
    simp only [List.flatMap_cons, List.flatMap_append, List.flatMap_nil, List.append_nil]
    rw [sp1_free (name_ok h.w).2.2.1, sp1_free h.f.cl.bl, sp1_free h.l.cl.bl, List.append_assoc]; rfl
  simp only [CW, List.mem_cons, List.not_mem_nil, or_false] at hh
  rcases hh with rfl | rfl | rfl
  · rw [e _ _ rfl]; rfl
  · rw [e _ _ rfl]; rfl
  · rw [e _ _ rfl]; rfl
theorem cut_bad7 {a b c f l : List Nat} (h : CutOk a b c f l) : editL (CUT ++ ([32, 32] ++ TL.joinL [32] [nameT a b c, f, l])) = .non := by
  have e : sp1 32 (TL.joinL [32] [nameT a b c, f, l]) = [nameT a b c, f, l] := sp1_join_free (by
    intro q hq
    simp only [List.mem_cons, List.not_mem_nil, or_false] at hq
    rcases hq with rfl | rfl | rfl
    · exact (name_ok h.w).2.2.1
    · exact h.f.cl.bl
    · exact h.l.cl.bl)
  refine cut_non ?_ ?_
  · have : 61 ∉ TL.joinL [32] [nameT a b c, f, l] := join_eq (by decide) (by
      intro q hq
      simp only [List.mem_cons, List.not_mem_nil, or_false] at hq
      rcases hq with rfl | rfl | rfl
      · exact name_eq h.w.w
      · exact h.f.cl.eq
      · exact h.l.cl.eq)
    intro m
    rcases List.mem_append.mp m with m | m
    · exact absurd m (by decide)
    · rcases List.mem_append.mp m with m | m
      · exact absurd m (by decide)
      · exact this m
  · have e2 : sp1 32 (CUT ++ ([32, 32] ++ TL.joinL [32] [nameT a b c, f, l])) = [CUT, [], nameT a b c, f, l] := by
      show sp1 32 (CUT ++ 32 :: (32 :: TL.joinL [32] [nameT a b c, f, l])) = _
      rw [sp1_app, sp1_hit, e]; rfl
    rw [e2]
    exact cut_bad (by simp)
theorem rep_cut {N f l : List Nat} : rep1 (ofL (cutT [CUT] N f l)) " " "  " = ofL (CUT ++ ([32, 32] ++ TL.joinL [32] [N, f, l])) := by
  have p : Txt.partition (ofL (cutT [CUT] N f l)) " " = (ofL CUT, (" " : Str), ofL (TL.joinL [32] [N, f, l])) := by
    have := TL.partition_app (y := " ") (s := 32) (S := []) rfl (a := ofL CUT) (b := ofL (TL.joinL [32] [N, f, l])) (by decide)
    rw [← this]
    congr 1
    refine str_ext ?_
    rw [app_list, app_list, ofL_list, ofL_list, ofL_list]; rfl
  rw [rep1_part (by decide) p]
  refine str_ext ?_
  rw [app_list, app_list, ofL_list, ofL_list, ofL_list, List.append_assoc]; rfl
theorem cut_good {a b c f l : List Nat} (h : CutOk a b c f l) (hl : (cutT [CUT] (nameT a b c) f l).length ≤ 60) :
    editD (.str (ofL (cutT [CUT] (nameT a b c) f l))) = if ((NumText.digitsVal l : Nat) : Int) < ((NumText.digitsVal f : Nat) : Int) then .non else .tup [.str "cut", .tup [strD a, dv b, dv c], dv f, dv l] := by
  rw [text_ok hl (cutT_ok h), edit_cut (cutT_free h), words_good (cutT_ok h) (cutT_sp h) (by
    simp only [List.mem_cons, List.not_mem_nil, or_false, not_or]
    exact ⟨by decide, fun q => (name_ok h.w).1 q.symm, fun q => h.f.cl.ne q.symm, fun q => h.l.cl.ne q.symm⟩)]
  show cutL [CUT, nameT a b c, f, l] = _
  rw [cut_name h.w.w, h.w.wid, h.f.nm, h.l.nm]
  show (if decide _ = true then _ else _) = _
  simp only [decide_eq_true_eq]
end
end Law

set_option Elab.async false
set_option linter.all false
set_option maxRecDepth 100000
set_option maxHeartbeats 4000000
set_option autoImplicit false
namespace Law
open PySem L2 DL
section
local macro_rules | `(tactic| k_upd) => `(tactic| (first | exact trivial | exact rfl | ((try dsimp only); first | assumption | exact fits62 (by omega) (by omega) | exact cmul_s (by omega) (by omega) | exact cpow_s (by omega) (by omega) (by omega) | exact And.intro (by omega) (clog_s (by omega)) | omega | (simp only [List.length_append, List.length_cons, List.length_nil, List.length_map]; omega) | exact Nat.le_of_ble_eq_true rfl | decide)))
local macro_rules | `(tactic| k_memK) => `(tactic| first | (refine an_i ?_ ?_; focus k_upd) | refine ex_i rfl ?_ | refine ite_t rfl ?_ | refine ite_f Bool.false_ne_true ?_)
local macro_rules | `(tactic| k_allIn) => `(tactic| repeat k_memK)

set_option pp.deepTerms false
set_option pp.maxSteps 1500
/-! cells, boxes -/
def sd_l_cell : DSpec := fun args R => ∃ (ns : List Int) (k : Nat), args = [.val (.scr ns), .val (.int (k : Int))] ∧ k < 1000000 ∧ ∀ c : Int, R (.vl (.int c)) [.no, .no]
theorem len_l_cell : ∀ args R, sd_l_cell args R → args.length = 2 := by rintro args R ⟨t, k, rfl, _⟩; rfl
theorem sp_l_cell : ∀ args R, sd_l_cell args R → m_l_cell { nx := fun e => R (.vl .non) (outs 2 e), rt := fun r e => R r (outs 2 e) } (startE 2 args) := by
  rintro args R ⟨ns, k, rfl, hk, h⟩
  k_allIn
  refine ite_i (fun c => ?_) (fun c => ?_)
  · have hlt : k < ns.length := by
      have := of_decide_eq_true c
      omega
    k_allIn
    refine ex_i (DL.atI_nat (List.getElem?_eq_getElem hlt)) ?_
    exact h _
  · k_allIn
    exact h _
def sd_l_box : DSpec := fun args R => ∃ c : Int, args = [.val (.int c)] ∧ ∀ d : D, Bx 0 d → R (.tm d) [.no]
theorem len_l_box : ∀ args R, sd_l_box args R → args.length = 1 := by rintro args R ⟨t, rfl, _⟩; rfl
theorem sp_l_box : ∀ args R, sd_l_box args R → m_l_box { nx := fun e => R (.vl .non) (outs 1 e), rt := fun r e => R r (outs 1 e) } (startE 1 args) := by
  rintro args R ⟨c, rfl, h⟩
  k_allIn
  refine h _ ⟨_, _, _, rfl, ?_, ?_, ?_, by decide, by decide⟩
  · show 0 ≤ if _ > 0 then _ else _
    split <;> omega
  · exact Int.emod_nonneg _ (by decide)
  · have := Int.emod_lt_of_pos c (show (0 : Int) < 2147483629 by decide)
    show c % 2147483629 < _
    omega
def sd_l_take := sdTake
theorem len_l_take : ∀ args R, sd_l_take args R → args.length = 2 := take_len
theorem sp_l_take : ∀ args R, sd_l_take args R → m_l_take { nx := fun e => R (.vl .non) (outs 2 e), rt := fun r e => R r (outs 2 e) } (startE 5 args) := take_spec (c := 164) (by decide)

def sd_l_pick : DSpec := fun args R => ∃ (m : Int) (d : D) (rs ws : List (List Nat)) (sp : Bool), args = [.own true d, .val (wsD rs), .val (wsD ws), .val (.bl sp)] ∧ Bx m d ∧ 0 ≤ m ∧ m < 800000 ∧ 1 ≤ rs.length ∧ rs.length ≤ 100 ∧ 1 ≤ ws.length ∧ ws.length ≤ 100 ∧
  ∀ (L : List Nat) (d' : D), L ∈ (if sp = true then ws else rs) → Bx (m + 1) d' → R (.vl (strD L)) [.own true d', .no, .no, .no]
theorem len_l_pick : ∀ args R, sd_l_pick args R → args.length = 4 := by rintro args R ⟨m, d, rs, ws, sp, rfl, _⟩; rfl
theorem sp_l_pick : ∀ args R, sd_l_pick args R → m_l_pick sd_l_take { nx := fun e => R (.vl .non) (outs 4 e), rt := fun r e => R r (outs 4 e) } (startE 5 args) := by
  rintro args R ⟨m, d, rs, ws, sp, rfl, B, h0, h1, r1, r2, w1, w2, fin⟩
  have lr : (rs.map strD).length = rs.length := List.length_map ..
  have lw : (ws.map strD).length = ws.length := List.length_map ..
  unfold wsD
  cases sp with
  | true =>
    k_allIn
    refine take_i B (by omega) (by omega) (by omega) rfl fun t d1 t0 t1 B1 => ?_
    obtain ⟨k, rfl⟩ : ∃ k : Nat, t = (k : Int) := ⟨t.toNat, by omega⟩
    have hk : k < ws.length := by omega
    k_allIn
    refine ex_i (DL.atI_nat (by rw [List.getElem?_map, List.getElem?_eq_getElem hk]; rfl)) ?_
    exact fin _ _ (List.getElem_mem hk) B1
  | false =>
    k_allIn
    refine take_i B (by omega) (by omega) (by omega) rfl fun t d1 t0 t1 B1 => ?_
    obtain ⟨k, rfl⟩ : ∃ k : Nat, t = (k : Int) := ⟨t.toNat, by omega⟩
    have hk : k < rs.length := by omega
    k_allIn
    refine ex_i (DL.atI_nat (by rw [List.getElem?_map, List.getElem?_eq_getElem hk]; rfl)) ?_
    exact fin _ _ (List.getElem_mem hk) B1
def sd_l_number : DSpec := fun args R => ∃ (m : Int) (d : D) (sp : Bool), args = [.own true d, .val (.int 0), .val (.bl sp)] ∧ Bx m d ∧ 0 ≤ m ∧ m < 700000 ∧
  ∀ (L : List Nat) (d' : D), L ∈ (if sp = true then NW else NR) → Bx (m + 1) d' → R (.vl (strD L)) [.own true d', .no, .no]
theorem len_l_number : ∀ args R, sd_l_number args R → args.length = 3 := by rintro args R ⟨m, d, sp, rfl, _⟩; rfl
theorem one_30 : ("1" : Str) ++ repS "0" 30 = ofL (49 :: List.replicate 30 48) := by decide +kernel
theorem sp_l_number : ∀ args R, sd_l_number args R → m_l_number sd_l_pick { nx := fun e => R (.vl .non) (outs 3 e), rt := fun r e => R r (outs 3 e) } (startE 5 args) := by
  rintro args R ⟨m, d, sp, rfl, B, h0, h1, fin⟩
  have e0 : deq (.int 0) (.int 0) = true := rfl
  k_allIn
  refine ⟨m, d, NR, NW, sp, ?_, B, by omega, by omega, by decide, by decide, by decide, by decide, fun L d' hL B' => ?_⟩
  · show [Slot.own true d, .val _, .val (.lst [.str "01", .str "", .str "x", .str "-1", .str "1 ", .str "+1", .str "60", .str (("1" : Str) ++ repS "0" 30)]), .val (.bl sp)] = _
    rw [one_30]
    rfl
  · exact fin L d' hL B'
theorem nine_30 : repS "9" 30 = ofL (List.replicate 30 57) := by decide +kernel
theorem nine_31 : repS "9" 31 = ofL (List.replicate 31 57) := by decide +kernel
def sd_l_word : DSpec := fun args R => ∃ (m : Int) (d : D) (sp : Bool), args = [.own true d, .val (.bl sp)] ∧ Bx m d ∧ 0 ≤ m ∧ m < 600000 ∧
  ∀ (a b c : List Nat) (d' : D), (if sp = true then WordBad a b c else WordOk a b c) → Bx (m + 4) d' → R (.tm (wsD [a, b, c])) [.own true d', .no]
theorem len_l_word : ∀ args R, sd_l_word args R → args.length = 2 := by rintro args R ⟨m, d, sp, rfl, _⟩; rfl
theorem sp_l_word : ∀ args R, sd_l_word args R → m_l_word sd_l_take sd_l_pick { nx := fun e => R (.vl .non) (outs 2 e), rt := fun r e => R r (outs 2 e) } (startE 6 args) := by
  rintro args R ⟨m, d0, sp, rfl, B0, h0, h1, fin⟩
  cases sp with
  | false =>
    k_allIn
    refine ⟨m, d0, GA, BA, false, ?_, B0, by omega, by omega, by decide, by decide, by decide, by decide, fun a d1 ha B1 => ?_⟩
    · rfl
    k_allIn
    refine ⟨m + 1, d1, GB, BB, false, ?_, B1, by omega, by omega, by decide, by decide, by decide, by decide, fun b d2 hb B2 => ?_⟩
    · show [Slot.own true d1, .val (.lst [.str "1", .str "7", .str "999999", .str "1000000", .str (repS "9" 30)]), .val (.lst [.str "0", .str "01", .str "", .str "x", .str (repS "9" 31)]), .val (.bl _)] = _
      rw [nine_30, nine_31]
      rfl
    k_allIn
    refine ⟨m + 2, d2, GC, BC, false, ?_, (B2.mono (by omega)), by omega, by omega, by decide, by decide, by decide, by decide, fun c d3 hc B3 => ?_⟩
    · rfl
    k_allIn
    exact fin a b c d3 (word_ok ha hb hc) (B3.mono (by omega))
  | true =>
    k_allIn
    refine take_i B0 (by omega) (by omega) (by omega) rfl fun t d0 t0 t1 B0 => ?_
    have : t = 0 ∨ t = 1 ∨ t = 2 := by omega
    rcases this with rfl | rfl | rfl
    · k_allIn
      refine ⟨m + 1, d0, GA, BA, true, ?_, B0, by omega, by omega, by decide, by decide, by decide, by decide, fun a d1 ha B1 => ?_⟩
      · rfl
      k_allIn
      refine ⟨m + 1 + 1, d1, GB, BB, false, ?_, B1, by omega, by omega, by decide, by decide, by decide, by decide, fun b d2 hb B2 => ?_⟩
      · show [Slot.own true d1, .val (.lst [.str "1", .str "7", .str "999999", .str "1000000", .str (repS "9" 30)]), .val (.lst [.str "0", .str "01", .str "", .str "x", .str (repS "9" 31)]), .val (.bl _)] = _
        rw [nine_30, nine_31]
        rfl
      k_allIn
      refine ⟨m + 1 + 2, d2, GC, BC, false, ?_, (B2.mono (by omega)), by omega, by omega, by decide, by decide, by decide, by decide, fun c d3 hc B3 => ?_⟩
      · rfl
      k_allIn
      exact fin a b c d3 (word_bad0 ha hb hc) (B3.mono (by omega))
    · k_allIn
      refine ⟨m + 1, d0, GA, BA, false, ?_, B0, by omega, by omega, by decide, by decide, by decide, by decide, fun a d1 ha B1 => ?_⟩
      · rfl
      k_allIn
      refine ⟨m + 1 + 1, d1, GB, BB, true, ?_, B1, by omega, by omega, by decide, by decide, by decide, by decide, fun b d2 hb B2 => ?_⟩
      · show [Slot.own true d1, .val (.lst [.str "1", .str "7", .str "999999", .str "1000000", .str (repS "9" 30)]), .val (.lst [.str "0", .str "01", .str "", .str "x", .str (repS "9" 31)]), .val (.bl _)] = _
        rw [nine_30, nine_31]
        rfl
      k_allIn
      refine ⟨m + 1 + 2, d2, GC, BC, false, ?_, (B2.mono (by omega)), by omega, by omega, by decide, by decide, by decide, by decide, fun c d3 hc B3 => ?_⟩
      · rfl
      k_allIn
      exact fin a b c d3 (word_bad1 ha hb hc) (B3.mono (by omega))
    · k_allIn
      refine ⟨m + 1, d0, GA, BA, false, ?_, B0, by omega, by omega, by decide, by decide, by decide, by decide, fun a d1 ha B1 => ?_⟩
      · rfl
      k_allIn
      refine ⟨m + 1 + 1, d1, GB, BB, false, ?_, B1, by omega, by omega, by decide, by decide, by decide, by decide, fun b d2 hb B2 => ?_⟩
      · show [Slot.own true d1, .val (.lst [.str "1", .str "7", .str "999999", .str "1000000", .str (repS "9" 30)]), .val (.lst [.str "0", .str "01", .str "", .str "x", .str (repS "9" 31)]), .val (.bl _)] = _
        rw [nine_30, nine_31]
        rfl
      k_allIn
      refine ⟨m + 1 + 2, d2, GC, BC, true, ?_, (B2.mono (by omega)), by omega, by omega, by decide, by decide, by decide, by decide, fun c d3 hc B3 => ?_⟩
      · rfl
      k_allIn
      exact fin a b c d3 (word_bad2 ha hb hc) (B3.mono (by omega))
end
end Law

set_option Elab.async false
set_option linter.all false
set_option maxRecDepth 100000
set_option maxHeartbeats 4000000
set_option autoImplicit false
namespace Law
open PySem L2 DL
section
local macro_rules | `(tactic| k_upd) => `(tactic| (first | exact trivial | exact rfl | ((try dsimp only); first | assumption | exact fits62 (by omega) (by omega) | exact cmul_s (by omega) (by omega) | exact cpow_s (by omega) (by omega) (by omega) | exact And.intro (by omega) (clog_s (by omega)) | omega | (simp only [List.length_append, List.length_cons, List.length_nil, List.length_map]; omega) | exact Nat.le_of_ble_eq_true rfl | decide)))
local macro_rules | `(tactic| k_memK) => `(tactic| first | (refine an_i ?_ ?_; focus k_upd) | refine ex_i rfl ?_ | refine ite_t rfl ?_ | refine ite_f Bool.false_ne_true ?_)
local macro_rules | `(tactic| k_allIn) => `(tactic| repeat k_memK)

set_option pp.deepTerms false
set_option pp.maxSteps 1500

def aB (sd_l_take : DSpec) (sd_l_pick : DSpec) : DStm := mSeq (mSet 6 (mCall sd_l_pick [] (mcCons (mVar 0) (mcCons (mLst (mCons (mC (.str "1")) (mCons (mC (.str "12")) (mCons (mC (.str "999999")) (mNil))))) (mcCons (mLst (mCons (mC (.str "0")) (mCons (mC (.str "01")) (mCons (mC (.str "1000000")) (mCons (mC (.str "x")) (mCons (mC (.str "")) (mCons (mC (.str "-1")) (mNil)))))))) (mcCons (mOp2 aEq (mVar 1) (mC (.int 1))) (mcNil))))))) (mSeq (mSet 7 (mLst (mCons (mC (.str "x")) (mCons (mC (.str "=")) (mCons (mC (.str "a b  ")) (mCons (mC (.str " ")) (mCons (mC (.str "==top")) (mCons (mC (.str "add 1 top =x")) (mCons (mOp2 aMulA (mC (.str "z")) (mOp2 aSub (mC (.int 60)) (mFn aLen (maCons (mOp2 aAdd (mOp2 aAdd (mOp2 aAdd (mOp2 aAdd (mC (.str "add ")) (mVar 6)) (mC (.str " "))) (mVar 5)) (mC (.str " ="))) (maNil))))) (mNil)))))))))) (mSeq (mSet 7 (mIf (mB (mOp2 aEq (mVar 1) (mC (.int 5)))) (mC (.str "")) (mOp2 aIx (mVar 7) (mCall sd_l_take [] (mcCons (mVar 0) (mcCons (mC (.int 7)) (mcNil))))))) (mSeq (mSet 8 (mOp2 aIx (mLst (mCons (mLst (mCons (mC (.str "add")) (mNil))) (mCons (mLst (mCons (mC (.str "Add")) (mNil))) (mCons (mLst (mCons (mC (.str "add")) (mCons (mC (.str "")) (mNil)))) (mCons (mLst (mCons (mC (.str "cut")) (mNil))) (mCons (mLst (mCons (mC (.str "add")) (mCons (mC (.str "add")) (mNil)))) (mNil))))))) (mIf (mB (mOp2 aNe (mVar 1) (mC (.int 6)))) (mC (.int 0)) (mOp2 aAdd (mC (.int 1)) (mCall sd_l_take [] (mcCons (mVar 0) (mcCons (mC (.int 4)) (mcNil)))))))) (mSeq (mSet 9 (mOp2 aAdd (mOp2 aAdd (mM1 aJoin (mC (.str " ")) (mOp2 aAdd (mVar 8) (mLst (mCons (mVar 6) (mCons (mVar 5) (mNil)))))) (mIf (mB (mOp2 aEq (mVar 1) (mC (.int 7)))) (mC (.str "=")) (mC (.str " =")))) (mVar 7))) (mSeq (mIfRep 1 9 8 " =" "  =") (mSeq (mIfS (mOrT (mAndT (mB (mOp2 aNe (mVar 1) (mC (.int 9)))) (mB (mOp2 aGt (mVar 1) (mC (.int 0))))) (mOrT (mB (mOp2 aEq (mVar 7) (mC (.str "")))) (mB (mOp2 aGt (mFn aLen (maCons (mVar 9) (maNil))) (mC (.int 60)))))) (mRet (mTup (mCons (mVar 9) (mCons (mC .non) (mNil))))) (mSkip)) (mRet (mTup (mCons (mVar 9) (mCons (mTup (mCons (mC (.str "add")) (mCons (mFn aIntOf (maCons (mVar 6) (maNil))) (mCons (mIf (mTru (mVar 4)) (mTup (mNil)) (mTup (mCons (mOp2 aIx (mVar 2) (mC (.int 0))) (mCons (mFn aIntOf (maCons (mOp2 aIx (mVar 2) (mC (.int 1))) (maNil))) (mCons (mFn aIntOf (maCons (mOp2 aIx (mVar 2) (mC (.int 2))) (maNil))) (mCons (mFn aIntOf (maCons (mVar 3) (maNil))) (mNil))))))) (mCons (mVar 7) (mNil)))))) (mNil)))))))))))
def aC (sd_l_take : DSpec) : DStm := mSeq (mSet 8 (mOp2 aIx (mLst (mCons (mLst (mCons (mC (.str "add")) (mNil))) (mCons (mLst (mCons (mC (.str "Add")) (mNil))) (mCons (mLst (mCons (mC (.str "add")) (mCons (mC (.str "")) (mNil)))) (mCons (mLst (mCons (mC (.str "cut")) (mNil))) (mCons (mLst (mCons (mC (.str "add")) (mCons (mC (.str "add")) (mNil)))) (mNil))))))) (mIf (mB (mOp2 aNe (mVar 1) (mC (.int 6)))) (mC (.int 0)) (mOp2 aAdd (mC (.int 1)) (mCall sd_l_take [] (mcCons (mVar 0) (mcCons (mC (.int 4)) (mcNil)))))))) (mSeq (mSet 9 (mOp2 aAdd (mOp2 aAdd (mM1 aJoin (mC (.str " ")) (mOp2 aAdd (mVar 8) (mLst (mCons (mVar 6) (mCons (mVar 5) (mNil)))))) (mIf (mB (mOp2 aEq (mVar 1) (mC (.int 7)))) (mC (.str "=")) (mC (.str " =")))) (mVar 7))) (mSeq (mIfRep 1 9 8 " =" "  =") (mSeq (mIfS (mOrT (mAndT (mB (mOp2 aNe (mVar 1) (mC (.int 9)))) (mB (mOp2 aGt (mVar 1) (mC (.int 0))))) (mOrT (mB (mOp2 aEq (mVar 7) (mC (.str "")))) (mB (mOp2 aGt (mFn aLen (maCons (mVar 9) (maNil))) (mC (.int 60)))))) (mRet (mTup (mCons (mVar 9) (mCons (mC .non) (mNil))))) (mSkip)) (mRet (mTup (mCons (mVar 9) (mCons (mTup (mCons (mC (.str "add")) (mCons (mFn aIntOf (maCons (mVar 6) (maNil))) (mCons (mIf (mTru (mVar 4)) (mTup (mNil)) (mTup (mCons (mOp2 aIx (mVar 2) (mC (.int 0))) (mCons (mFn aIntOf (maCons (mOp2 aIx (mVar 2) (mC (.int 1))) (maNil))) (mCons (mFn aIntOf (maCons (mOp2 aIx (mVar 2) (mC (.int 2))) (maNil))) (mCons (mFn aIntOf (maCons (mVar 3) (maNil))) (mNil))))))) (mCons (mVar 7) (mNil)))))) (mNil))))))))
def aD : DStm := mSeq (mSet 9 (mOp2 aAdd (mOp2 aAdd (mM1 aJoin (mC (.str " ")) (mOp2 aAdd (mVar 8) (mLst (mCons (mVar 6) (mCons (mVar 5) (mNil)))))) (mIf (mB (mOp2 aEq (mVar 1) (mC (.int 7)))) (mC (.str "=")) (mC (.str " =")))) (mVar 7))) (mSeq (mIfRep 1 9 8 " =" "  =") (mSeq (mIfS (mOrT (mAndT (mB (mOp2 aNe (mVar 1) (mC (.int 9)))) (mB (mOp2 aGt (mVar 1) (mC (.int 0))))) (mOrT (mB (mOp2 aEq (mVar 7) (mC (.str "")))) (mB (mOp2 aGt (mFn aLen (maCons (mVar 9) (maNil))) (mC (.int 60)))))) (mRet (mTup (mCons (mVar 9) (mCons (mC .non) (mNil))))) (mSkip)) (mRet (mTup (mCons (mVar 9) (mCons (mTup (mCons (mC (.str "add")) (mCons (mFn aIntOf (maCons (mVar 6) (maNil))) (mCons (mIf (mTru (mVar 4)) (mTup (mNil)) (mTup (mCons (mOp2 aIx (mVar 2) (mC (.int 0))) (mCons (mFn aIntOf (maCons (mOp2 aIx (mVar 2) (mC (.int 1))) (maNil))) (mCons (mFn aIntOf (maCons (mOp2 aIx (mVar 2) (mC (.int 2))) (maNil))) (mCons (mFn aIntOf (maCons (mVar 3) (maNil))) (mNil))))))) (mCons (mVar 7) (mNil)))))) (mNil)))))))

theorem deq_nat (n k : Nat) : deq (.int (n : Int)) (.int (k : Int)) = decide (n = k) := by
  rw [deq_int, Bool.eq_iff_iff, beq_iff_eq, decide_eq_true_eq]; omega
theorem asStrs_ws : ∀ ws : List (List Nat), asStrs (ws.map strD) = some (ws.map ofL)
  | [] => rfl
  | w :: r => by
    show (asStrs (r.map strD)).map (ofL w :: ·) = _
    rw [asStrs_ws r]; rfl
theorem join_S (c : Nat) (ws : List (List Nat)) : Txt.join (ofL [c]) (ws.map ofL) = ofL (TL.joinL [c] ws) := by
  rw [TL.join_eq]
  refine str_ext ?_
  have := TL.tl_join (ofL [c]) (ws.map ofL)
  rw [List.map_map] at this
  have e : ws.map (TL.tl ∘ ofL) = ws := by
    refine (List.map_congr_left (fun w _ => ?_)).trans (List.map_id ws)
    rfl
  rw [e] at this
  exact this
theorem join_sum {ws : List (List Nat)} (c : Str) (hc : c.length = 1) (h : (ws.map List.length).sum + ws.length ≤ 100000) : ((ws.map ofL).map (·.length)).sum + (ws.map ofL).length * c.length ≤ 16777216 := by
  have e : ((ws.map ofL).map (·.length)) = ws.map List.length := by
    rw [List.map_map]
    exact List.map_congr_left fun w _ => ofL_len w
  rw [e, List.length_map, hc]
  omega
theorem joinL_len (c : Nat) : ∀ ws : List (List Nat), (TL.joinL [c] ws).length ≤ (ws.map List.length).sum + ws.length
  | [] => Nat.zero_le _
  | [p] => by show p.length ≤ p.length + 0 + 1; omega
  | p :: q :: r => by
    have := joinL_len c (q :: r)
    show (p ++ (c :: TL.joinL [c] (q :: r))).length ≤ _
    rw [List.length_append, List.length_cons]
    simp only [List.map_cons, List.sum_cons, List.length_cons] at this ⊢
    omega
/-! the facts of an added line -/
structure BehP (bad : Nat) (top : Bool) (a b c k L : List Nat) : Prop where
  bd : bad = 2 ∨ bad = 3 ∨ bad = 4 → BadB L
  gd : bad ≠ 2 → bad ≠ 3 → bad ≠ 4 → GoodB top a b c k L ∧ (top = false → WordOk a b c ∧ NumG k 0 59)
  le : L.length ≤ 200
structure SgP (bad : Nat) (sg : List Nat) : Prop where
  nl : bad = 5 → sg = []
  ok : ∀ x ∈ sg, sgOk x = true
  le : sg.length ≤ 60
def HsP (bad : Nat) (hs : List (List Nat)) : Prop := if bad = 6 then hs ∈ HW else hs = [ADD]
def StP (bad : Nat) (s : List Nat) : Prop := s ∈ (if decide (bad = 1) = true then SW else SR)
theorem BehP.eq {bad : Nat} {top : Bool} {a b c k L : List Nat} (h : BehP bad top a b c k L) : 61 ∉ L := by
  by_cases q : bad = 2 ∨ bad = 3 ∨ bad = 4
  · exact (h.bd q).1
  · exact (h.gd (by omega) (by omega) (by omega)).1.eq
theorem StP.fr {bad : Nat} {s : List Nat} (h : StP bad s) : Loose s ∧ 32 ∉ s := by
  unfold StP at h
  split at h
  · exact ⟨(sw_ok h).1, (sw_ok h).2.2⟩
  · exact ⟨(sr_ok h).cl.loose, (sr_ok h).cl.bl⟩
theorem StP.gd {bad : Nat} {s : List Nat} (h : StP bad s) (n : bad ≠ 1) : NumG s 1 999999 := by
  unfold StP at h
  rw [if_neg (by rw [decide_eq_true_eq]; exact n)] at h
  exact sr_ok h
theorem StP.bd {bad : Nat} {s : List Nat} (h : StP bad s) (n : bad = 1) : numI s 1 999999 = none := by
  unfold StP at h
  rw [if_pos (by rw [decide_eq_true_eq]; exact n)] at h
  exact (sw_ok h).2.1
theorem HsP.add {bad : Nat} {hs : List (List Nat)} (h : HsP bad hs) (n : bad ≠ 6) : hs = [ADD] := by
  unfold HsP at h
  rw [if_neg n] at h
  exact h
theorem add_six {bad : Nat} {top : Bool} {a b c k L s sg : List Nat} {hs : List (List Nat)} (b1 : 1 ≤ bad) (b6 : bad ≤ 6) (hb : BehP bad top a b c k L) (st : StP bad s) (sp : SgP bad sg) (hp : HsP bad hs) :
    editL (addT hs s L ++ ([32, 61] ++ sg)) = .non := by
  have fe := hb.eq
  have se := st.fr
  by_cases h6 : bad = 6
  · have g := (hb.gd (by omega) (by omega) (by omega)).1
    unfold HsP at hp
    rw [if_pos h6] at hp
    exact add_badH hp se.1.eq fe se.2 g.bl
  · have := hp.add h6
    subst this
    by_cases h1 : bad = 1
    · exact add_badS se.1.eq fe (st.bd h1)
    · by_cases h5 : bad = 5
      · rw [sp.nl h5]
        exact add_bad0 se.1.eq fe
      · exact add_badB se.1.eq (hb.bd (by omega))
theorem hs_two {bad : Nat} {hs : List (List Nat)} (h : HsP bad hs) : hs.length ≤ 2 ∧ (hs.map List.length).sum ≤ 6 := by
  by_cases q : bad = 6
  · unfold HsP at h
    rw [if_pos q] at h
    exact (show ∀ hs ∈ HW, hs.length ≤ 2 ∧ (hs.map List.length).sum ≤ 6 by decide) hs h
  · rw [h.add q]; decide
theorem rep_non : RepOk .non := Or.inl ⟨rfl, rfl, by decide⟩
theorem log_small {n : Int} (h0 : 0 ≤ n) (h : n ≤ MC) : decide (n.natAbs.log2 < 1920) = true := by
  refine decide_eq_true ?_
  by_cases z : n.natAbs = 0
  · rw [z]; decide
  · rw [Nat.log2_lt z]
    have : n.natAbs ≤ 999999999999999999999999999999 := by
      have : n ≤ 999999999999999999999999999999 := h
      omega
    exact Nat.lt_of_le_of_lt this (by decide +kernel)
theorem num_le {w : List Nat} {lo hi : Int} (h : NumG w lo hi) (l0 : 0 ≤ lo) (hm : hi ≤ MC) : 0 ≤ ((NumText.digitsVal w : Nat) : Int) ∧ ((NumText.digitsVal w : Nat) : Int) ≤ MC := by
  refine ⟨by omega, ?_⟩
  have q := h.nm
  unfold numI at q
  split at q
  · cases q
  · split at q
    · cases q
    · split at q
      · cases q
      · split at q
        · cases q
        · split at q
          · rename_i z
            rw [Bool.and_eq_true, decide_eq_true_eq, decide_eq_true_eq] at z
            exact Int.le_trans z.2 hm
          · cases q
theorem rep_add {top : Bool} {a b c k s sg : List Nat} (hs : NumG s 1 999999) (w : top = false → WordOk a b c ∧ NumG k 0 59) (sl : sg.length ≤ 60) : RepOk (.tup [.str "add", dv s, .tup (behD top a b c k), strD sg]) := by
  have l1 := num_le hs (by decide) (by decide)
  have g1 := log_small l1.1 l1.2
  cases top with
  | true =>
    refine Or.inl ⟨rfl, ?_, ?_⟩
    · show (true && (decide ((((NumText.digitsVal s : Nat) : Int)).natAbs.log2 < 1920) && true)) = true
      rw [g1]; rfl
    · show (10 * 3 + 2) + 2 + (1921 + 2 + ((0 + 4) + 2 + ((10 * (ofL sg).length + 2) + 2 + 0))) + 4 ≤ 16000000
      rw [ofL_len]; omega
  | false =>
    obtain ⟨wo, ko⟩ := w rfl
    have l2 := num_le wo.fb (by decide) (by decide)
    have g2 := log_small l2.1 l2.2
    have l3 := num_le wo.fc (by decide) (by decide)
    have g3 := log_small l3.1 l3.2
    have l4 := num_le ko (by decide) (by decide)
    have g4 := log_small l4.1 l4.2
    have la := wo.fa.1.le
    refine Or.inl ⟨rfl, ?_, ?_⟩
    · show (true && (decide ((((NumText.digitsVal s : Nat) : Int)).natAbs.log2 < 1920) && ((true && (decide ((((NumText.digitsVal b : Nat) : Int)).natAbs.log2 < 1920) && (decide ((((NumText.digitsVal c : Nat) : Int)).natAbs.log2 < 1920) && (decide ((((NumText.digitsVal k : Nat) : Int)).natAbs.log2 < 1920) && true)))) && true))) = true
      rw [g1, g2, g3, g4]; rfl
    · show (10 * 3 + 2) + 2 + (1921 + 2 + (((10 * (ofL a).length + 2) + 2 + (1921 + 2 + (1921 + 2 + (1921 + 2 + 0))) + 4) + 2 + ((10 * (ofL sg).length + 2) + 2 + 0))) + 4 ≤ 16000000
      rw [ofL_len, ofL_len]; omega
theorem app_ofL (a b : List Nat) : ofL a ++ ofL b = ofL (a ++ b) := str_ext (by rw [app_list]; rfl)
theorem aD_ok {R : RV → List Slot → Prop} {d : D} {bad : Nat} {top : Bool} {a b c k L s sg : List Nat} {hs : List (List Nat)} (b9 : bad ≤ 9) (hb : BehP bad top a b c k L) (st : StP bad s) (sp : SgP bad sg) (hp : HsP bad hs)
    (fin : ∀ (line : List Nat) (due : D), editD (.str (ofL line)) = due → line.length ≤ 1000 → RepOk due → R (.vl (.tup [.str (ofL line), due])) [.own true d, .no]) :
    aD { nx := fun e => R (.vl .non) (outs 2 e), rt := fun r e => R r (outs 2 e) } [.own true d, .val (.int (bad : Int)), .val (.lst [strD a, strD b, strD c]), .val (strD k), .val (.bl top), .val (strD L), .val (strD s), .val (strD sg), .val (.lst (hs.map strD)), .no] := by
  have fe := hb.eq
  have se := st.fr
  have h2 := hs_two hp
  have sl := sp.le
  have sle := se.1.le
  have lle := hb.le
  have em : hs.map strD ++ [strD s, strD L] = (hs ++ [s, L]).map strD := by rw [List.map_append]; rfl
  have elen : (addT hs s L).length ≤ 300 := by
    have := joinL_len 32 (hs ++ [s, L])
    simp only [List.map_append, List.map_cons, List.map_nil, List.sum_append, List.sum_cons, List.sum_nil, List.length_append, List.length_cons, List.length_nil] at this
    unfold addT
    omega
  have oT := ofL_len (addT hs s L)
  have oG := ofL_len sg
  have lh : (hs.map strD).length = hs.length := List.length_map ..
  have e7 := deq_nat bad 7
  have e9 := deq_nat bad 9
  have eS : deq (strD sg) (.str "") = (sg == []) := deq_ofL sg ""
  have tfree : bad ≠ 6 → 61 ∉ addT hs s L := fun n => by
    rw [hp.add n]; exact addT_eq hADD se.1.eq fe
  have go : ∀ line : List Nat, line.length ≤ 500 → ∀ (bad' : Nat), bad' = bad → (1 ≤ bad → bad ≤ 8 → editD (.str (ofL line)) = .non) →
      (bad = 0 ∨ bad = 9 → line = addT hs s L ++ ([32, 61] ++ sg)) →
      (mSeq (mIfS (mOrT (mAndT (mB (mOp2 aNe (mVar 1) (mC (.int 9)))) (mB (mOp2 aGt (mVar 1) (mC (.int 0))))) (mOrT (mB (mOp2 aEq (mVar 7) (mC (.str "")))) (mB (mOp2 aGt (mFn aLen (maCons (mVar 9) (maNil))) (mC (.int 60)))))) (mRet (mTup (mCons (mVar 9) (mCons (mC .non) (mNil))))) (mSkip)) (mRet (mTup (mCons (mVar 9) (mCons (mTup (mCons (mC (.str "add")) (mCons (mFn aIntOf (maCons (mVar 6) (maNil))) (mCons (mIf (mTru (mVar 4)) (mTup (mNil)) (mTup (mCons (mOp2 aIx (mVar 2) (mC (.int 0))) (mCons (mFn aIntOf (maCons (mOp2 aIx (mVar 2) (mC (.int 1))) (maNil))) (mCons (mFn aIntOf (maCons (mOp2 aIx (mVar 2) (mC (.int 2))) (maNil))) (mCons (mFn aIntOf (maCons (mVar 3) (maNil))) (mNil))))))) (mCons (mVar 7) (mNil)))))) (mNil)))))) { nx := fun e => R (.vl .non) (outs 2 e), rt := fun r e => R r (outs 2 e) }
        [.own true d, .val (.int (bad : Int)), .val (.lst [strD a, strD b, strD c]), .val (strD k), .val (.bl top), .val (strD L), .val (strD s), .val (strD sg), .val (.lst (hs.map strD)), .val (.str (ofL line))] := by
    intro line ll bad' _ hbad hgood
    have ol := ofL_len line
    by_cases q : 1 ≤ bad ∧ bad ≤ 8
    · have due := hbad q.1 q.2
      k_allIn
      refine ite_t (show (!deq (.int (bad : Int)) (.int (9 : Nat))) = true by rw [e9, decide_eq_false (by omega)]; rfl) ?_
      k_allIn
      refine ite_t (show decide ((0 : Int) < (bad : Int)) = true from decide_eq_true (by omega)) ?_
      k_allIn
      exact fin line .non due (by omega) rep_non
    · have hq : bad = 0 ∨ bad = 9 := by omega
      have ln := hgood hq
      have hADD' := hp.add (by omega)
      subst hADD'
      have sn := st.gd (by omega)
      have g := hb.gd (by omega) (by omega) (by omega)
      have last : (mIfS (mOrT (mB (mOp2 aEq (mVar 7) (mC (.str "")))) (mB (mOp2 aGt (mFn aLen (maCons (mVar 9) (maNil))) (mC (.int 60))))) (mRet (mTup (mCons (mVar 9) (mCons (mC .non) (mNil))))) (mRet (mTup (mCons (mVar 9) (mCons (mTup (mCons (mC (.str "add")) (mCons (mFn aIntOf (maCons (mVar 6) (maNil))) (mCons (mIf (mTru (mVar 4)) (mTup (mNil)) (mTup (mCons (mOp2 aIx (mVar 2) (mC (.int 0))) (mCons (mFn aIntOf (maCons (mOp2 aIx (mVar 2) (mC (.int 1))) (maNil))) (mCons (mFn aIntOf (maCons (mOp2 aIx (mVar 2) (mC (.int 2))) (maNil))) (mCons (mFn aIntOf (maCons (mVar 3) (maNil))) (mNil))))))) (mCons (mVar 7) (mNil)))))) (mNil)))))) { nx := fun e => R (.vl .non) (outs 2 e), rt := fun r e => R r (outs 2 e) }
        [.own true d, .val (.int (bad : Int)), .val (.lst [strD a, strD b, strD c]), .val (strD k), .val (.bl top), .val (strD L), .val (strD s), .val (strD sg), .val (.lst ([ADD].map strD)), .val (.str (ofL line))] := by
        k_allIn
        refine ite_i (fun c1 => ?_) (fun c1 => ?_)
        · have c1 : deq (strD sg) (.str "") = true := c1
          rw [eS] at c1
          have sg0 := eq_of_beq c1
          k_allIn
          refine fin line .non ?_ (by omega) rep_non
          rw [ln, sg0]
          exact edit_none (add_bad0 se.1.eq fe)
        · have c1 : ¬ deq (strD sg) (.str "") = true := c1
          rw [eS, beq_iff_eq] at c1
          k_allIn
          refine an_i (le_line (by omega)) ?_
          refine ite_i (fun c2 => ?_) (fun c2 => ?_)
          · have c2 : decide ((60 : Int) < ((ofL line).length : Int)) = true := c2
            have c2 := of_decide_eq_true c2
            k_allIn
            exact fin line .non (text_long (by omega)) (by omega) rep_non
          · have c2 : ¬ decide ((60 : Int) < ((ofL line).length : Int)) = true := c2
            have c2 : ¬ (60 : Int) < ((ofL line).length : Int) := fun z => c2 (decide_eq_true z)
            have due := add_good sn g.1 sp.ok c1 (by rw [← ln]; omega)
            rw [← ln] at due
            have os := ofL_len s
            have rp := rep_add sn g.2 sl
            k_allIn
            refine ex_i sn.it ?_
            refine an_i (by omega) ?_
            cases top with
            | true =>
              k_allIn
              exact fin line _ due (by omega) rp
            | false =>
              obtain ⟨wo, ko⟩ := g.2 rfl
              have ob := ofL_len b
              have oc := ofL_len c
              have ok := ofL_len k
              have lb := wo.fb.cl.le
              have lc := wo.fc.cl.le
              have lk := ko.cl.le
              k_allIn
              refine ex_i wo.fb.it ?_
              refine an_i (by omega) ?_
              k_allIn
              refine ex_i wo.fc.it ?_
              refine an_i (by omega) ?_
              k_allIn
              refine ex_i ko.it ?_
              refine an_i (by omega) ?_
              k_allIn
              exact fin line _ due (by omega) rp
      rcases hq with h0 | h9
      · k_allIn
        refine ite_t (show (!deq (.int (bad : Int)) (.int (9 : Nat))) = true by rw [e9, decide_eq_false (by omega)]; rfl) ?_
        k_allIn
        refine ite_f (show ¬ decide ((0 : Int) < (bad : Int)) = true by rw [decide_eq_false (by omega)]; exact Bool.false_ne_true) ?_
        exact last
      · k_allIn
        refine ite_f (show ¬ (!deq (.int (bad : Int)) (.int (9 : Nat))) = true by rw [e9, decide_eq_true h9]; exact Bool.false_ne_true) ?_
        exact last
  unfold aD
  k_allIn
  rw [em]
  refine ⟨_, asStrs_ws _, join_sum _ rfl (by simp only [List.map_append, List.map_cons, List.map_nil, List.sum_append, List.sum_cons, List.sum_nil, List.length_append, List.length_cons, List.length_nil]; omega), ?_⟩
  rw [show Txt.join " " ((hs ++ [s, L]).map ofL) = ofL (addT hs s L) from join_S 32 _]
  k_allIn
  refine ite_i (fun c7 => ?_) (fun c7 => ?_)
  · have c7 : deq (.int (bad : Int)) (.int (7 : Nat)) = true := c7
    rw [e7, decide_eq_true_eq] at c7
    have hADD' := hp.add (by omega)
    k_allIn
    refine an_i (show (ofL (addT hs s L)).length + 1 ≤ sizeLine from le_line (by omega)) ?_
    k_allIn
    refine an_i (show (ofL (addT hs s L) ++ ofL [61]).length + (ofL sg).length ≤ sizeLine from le_line (by rw [app_ofL, ofL_len, List.length_append]; show _ + 1 + _ ≤ _; omega)) ?_
    have e : ofL (addT hs s L) ++ ofL [61] ++ ofL sg = ofL (addT hs s L ++ ([61] ++ sg)) := by rw [app_ofL, app_ofL, List.append_assoc]
    have ll : (addT hs s L ++ ([61] ++ sg)).length ≤ 500 := by simp only [List.length_append, List.length_cons, List.length_nil]; omega
    have lo := ofL_len (addT hs s L ++ ([61] ++ sg))
    k_allIn
    refine an_i (show (ofL (addT hs s L) ++ ofL [61] ++ ofL sg).length ≤ 100000 by rw [e]; omega) ?_
    refine ite_f (by omega) ?_
    have fin7 := go _ ll bad rfl (fun _ _ => by
      subst hADD'
      have g := (hb.gd (by omega) (by omega) (by omega)).1
      exact edit_none (add_bad7 se.1.eq fe g.ne g.bl)) (fun z => by omega)
    rw [← e] at fin7
    exact fin7
  · have c7 : ¬ deq (.int (bad : Int)) (.int (7 : Nat)) = true := c7
    rw [e7, decide_eq_true_eq] at c7
    k_allIn
    refine an_i (show (ofL (addT hs s L)).length + 2 ≤ sizeLine from le_line (by omega)) ?_
    k_allIn
    refine an_i (show (ofL (addT hs s L) ++ ofL [32, 61]).length + (ofL sg).length ≤ sizeLine from le_line (by rw [app_ofL, ofL_len, List.length_append]; show _ + 2 + _ ≤ _; omega)) ?_
    have e : ofL (addT hs s L) ++ ofL [32, 61] ++ ofL sg = ofL (addT hs s L ++ ([32, 61] ++ sg)) := by rw [app_ofL, app_ofL, List.append_assoc]
    have ll : (addT hs s L ++ ([32, 61] ++ sg)).length ≤ 500 := by simp only [List.length_append, List.length_cons, List.length_nil]; omega
    have lo := ofL_len (addT hs s L ++ ([32, 61] ++ sg))
    k_allIn
    refine an_i (show (ofL (addT hs s L) ++ ofL [32, 61] ++ ofL sg).length ≤ 100000 by rw [e]; omega) ?_
    by_cases c8 : bad = 8
    · refine ite_t (by omega) ?_
      have tf := tfree (by omega)
      have ll2 : (addT hs s L ++ ([32, 32, 61] ++ sg)).length ≤ 500 := by simp only [List.length_append, List.length_cons, List.length_nil]; omega
      have fin8 := go _ ll2 bad rfl (fun _ _ => edit_none (two_non tf)) (fun z => by omega)
      rw [← rep_mark tf, ← e] at fin8
      exact fin8
    · refine ite_f (by omega) ?_
      have fin9 := go _ ll bad rfl (fun z1 z2 => edit_none (add_six z1 (by omega) hb st sp hp)) (fun _ => rfl)
      rw [← e] at fin9
      exact fin9
end
end Law

set_option Elab.async false
set_option linter.all false
set_option maxRecDepth 100000
set_option maxHeartbeats 4000000
set_option autoImplicit false
namespace Law
open PySem L2 DL
section
local macro_rules | `(tactic| k_upd) => `(tactic| (first | exact trivial | exact rfl | ((try dsimp only); first | assumption | exact fits62 (by omega) (by omega) | exact cmul_s (by omega) (by omega) | exact cpow_s (by omega) (by omega) (by omega) | exact And.intro (by omega) (clog_s (by omega)) | omega | (simp only [List.length_append, List.length_cons, List.length_nil, List.length_map]; omega) | exact Nat.le_of_ble_eq_true rfl | decide)))
local macro_rules | `(tactic| k_memK) => `(tactic| first | (refine an_i ?_ ?_; focus k_upd) | refine ex_i rfl ?_ | refine ite_t rfl ?_ | refine ite_f Bool.false_ne_true ?_)
local macro_rules | `(tactic| k_allIn) => `(tactic| repeat k_memK)

set_option pp.deepTerms false
set_option pp.maxSteps 1500

abbrev FinA (R : RV → List Slot → Prop) (m : Int) : Prop := ∀ (line : List Nat) (due : D) (d' : D), editD (.str (ofL line)) = due → line.length ≤ 1000 → RepOk due → Bx m d' → R (.vl (.tup [.str (ofL line), due])) [.own true d', .no]
theorem aC_ok {R : RV → List Slot → Prop} {m : Int} {d : D} {bad : Nat} {top : Bool} {a b c k L s sg : List Nat} (B : Bx m d) (h0 : 0 ≤ m) (h1 : m < 600000) (b9 : bad ≤ 9) (hb : BehP bad top a b c k L) (st : StP bad s) (sp : SgP bad sg)
    (fin : FinA R (m + 1)) :
    aC sd_l_take { nx := fun e => R (.vl .non) (outs 2 e), rt := fun r e => R r (outs 2 e) } [.own true d, .val (.int (bad : Int)), .val (.lst [strD a, strD b, strD c]), .val (strD k), .val (.bl top), .val (strD L), .val (strD s), .val (strD sg), .no, .no] := by
  have e6 := deq_nat bad 6
  unfold aC
  k_allIn
  refine ite_i (fun c6 => ?_) (fun c6 => ?_)
  · have c6 : (!deq (.int (bad : Int)) (.int (6 : Nat))) = true := c6
    rw [e6, Bool.not_eq_true', decide_eq_false_iff_not] at c6
    refine ex_i rfl ?_
    refine an_i (by trivial) ?_
    exact aD_ok (hs := [ADD]) b9 hb st sp (by unfold HsP; rw [if_neg c6]) fun line due h1 h2 h3 => fin line due d h1 h2 h3 (B.mono (by omega))
  · have c6 : ¬ (!deq (.int (bad : Int)) (.int (6 : Nat))) = true := c6
    rw [e6, Bool.not_eq_true', decide_eq_false_iff_not, Decidable.not_not] at c6
    k_allIn
    refine take_i B (by omega) (by omega) (by omega) rfl fun t d1 t0 t1 B1 => ?_
    have : t = 0 ∨ t = 1 ∨ t = 2 ∨ t = 3 := by omega
    rcases this with rfl | rfl | rfl | rfl
    · refine ex_i rfl ?_
      refine an_i (by trivial) ?_
      exact aD_ok (hs := [[65, 100, 100]]) b9 hb st sp (by unfold HsP; rw [if_pos c6]; decide) fun line due h1 h2 h3 => fin line due d1 h1 h2 h3 B1
    · refine ex_i rfl ?_
      refine an_i (by trivial) ?_
      exact aD_ok (hs := [ADD, []]) b9 hb st sp (by unfold HsP; rw [if_pos c6]; decide) fun line due h1 h2 h3 => fin line due d1 h1 h2 h3 B1
    · refine ex_i rfl ?_
      refine an_i (by trivial) ?_
      exact aD_ok (hs := [CUT]) b9 hb st sp (by unfold HsP; rw [if_pos c6]; decide) fun line due h1 h2 h3 => fin line due d1 h1 h2 h3 B1
    · refine ex_i rfl ?_
      refine an_i (by trivial) ?_
      exact aD_ok (hs := [ADD, ADD]) b9 hb st sp (by unfold HsP; rw [if_pos c6]; decide) fun line due h1 h2 h3 => fin line due d1 h1 h2 h3 B1
theorem sg6_ok : ∀ x ∈ SG6, (∀ y ∈ x, sgOk y = true) ∧ x.length ≤ 60 := by decide
theorem rep_z (n : Nat) : repS "z" n = ofL (List.replicate n 122) := by
  refine str_ext ?_
  show (List.replicate n [122]).flatten = _
  induction n with
  | zero => rfl
  | succ n ih => rw [List.replicate_succ, List.flatten_cons, ih]; rfl
theorem aB_ok {R : RV → List Slot → Prop} {m : Int} {d : D} {bad : Nat} {top : Bool} {a b c k L : List Nat} (B : Bx m d) (h0 : 0 ≤ m) (h1 : m < 500000) (b9 : bad ≤ 9) (hb : BehP bad top a b c k L)
    (fin : FinA R (m + 3)) :
    aB sd_l_take sd_l_pick { nx := fun e => R (.vl .non) (outs 2 e), rt := fun r e => R r (outs 2 e) } [.own true d, .val (.int (bad : Int)), .val (.lst [strD a, strD b, strD c]), .val (strD k), .val (.bl top), .val (strD L), .no, .no, .no, .no] := by
  have e1 := deq_nat bad 1
  have e5 := deq_nat bad 5
  have oL := ofL_len L
  have lL := hb.le
  unfold aB
  k_allIn
  refine ⟨m, d, SR, SW, decide (bad = 1), ?_, B, by omega, by omega, by decide, by decide, by decide, by decide, fun s d1 st B1 => ?_⟩
  · show [Slot.own true d, .val (.lst _), .val (.lst _), .val (.bl (deq (.int (bad : Int)) (.int (1 : Nat))))] = _
    rw [e1]; rfl
  have st : StP bad s := st
  have sle := st.fr.1.le
  have os := ofL_len s
  have q1 : ("add " : Str) ++ ofL s = ofL ([97, 100, 100, 32] ++ s) := app_ofL [97, 100, 100, 32] s
  have q2 : ("add " : Str) ++ ofL s ++ " " = ofL ([97, 100, 100, 32] ++ s ++ [32]) := by rw [q1]; exact app_ofL _ [32]
  have q3 : ("add " : Str) ++ ofL s ++ " " ++ ofL L = ofL ([97, 100, 100, 32] ++ s ++ [32] ++ L) := by rw [q2]; exact app_ofL _ _
  have q4 : ("add " : Str) ++ ofL s ++ " " ++ ofL L ++ " =" = ofL ([97, 100, 100, 32] ++ s ++ [32] ++ L ++ [32, 61]) := by rw [q3]; exact app_ofL _ [32, 61]
  have z1 : (("add " : Str) ++ ofL s).length = 4 + s.length := by rw [q1, ofL_len, List.length_append]; rfl
  have z2 : (("add " : Str) ++ ofL s ++ " ").length = 5 + s.length := by rw [q2, ofL_len]; simp only [List.length_append, List.length_cons, List.length_nil]; omega
  have z3 : (("add " : Str) ++ ofL s ++ " " ++ ofL L).length = 5 + s.length + L.length := by rw [q3, ofL_len]; simp only [List.length_append, List.length_cons, List.length_nil]; omega
  have z4 : (("add " : Str) ++ ofL s ++ " " ++ ofL L ++ " =").length = 7 + s.length + L.length := by rw [q4, ofL_len]; simp only [List.length_append, List.length_cons, List.length_nil]; omega
  k_allIn
  refine an_i (show 4 + (ofL s).length ≤ sizeLine from le_line (by omega)) ?_
  k_allIn
  refine an_i (show (("add " : Str) ++ ofL s).length + 1 ≤ sizeLine from le_line (by omega)) ?_
  k_allIn
  refine an_i (show (("add " : Str) ++ ofL s ++ " ").length + (ofL L).length ≤ sizeLine from le_line (by omega)) ?_
  k_allIn
  refine an_i (show (("add " : Str) ++ ofL s ++ " " ++ ofL L).length + 2 ≤ sizeLine from le_line (by omega)) ?_
  k_allIn
  refine an_i (show (("add " : Str) ++ ofL s ++ " " ++ ofL L ++ " =").length ≤ sizeLine from le_line (by omega)) ?_
  rw [z4]
  obtain ⟨n, hn, n60⟩ : ∃ n : Nat, (60 - ((7 + s.length + L.length : Nat) : Int)).toNat = n ∧ n ≤ 60 := ⟨_, rfl, by omega⟩
  k_allIn
  refine an_i (show 1 * (60 - ((7 + s.length + L.length : Nat) : Int)).toNat ≤ 1000000 by omega) ?_
  have hz : repS "z" ((fun x1 x2 : Int => x1 - x2) 60 ((7 + s.length + L.length : Nat) : Int)).toNat = ofL (List.replicate n 122) := by rw [← rep_z, ← hn]
  rw [hz]
  k_allIn
  refine ite_i (fun c5 => ?_) (fun c5 => ?_)
  · have c5 : deq (.int (bad : Int)) (.int (5 : Nat)) = true := c5
    rw [e5, decide_eq_true_eq] at c5
    refine an_i (by trivial) ?_
    exact (aC_ok (sg := []) B1 (by omega) (by omega) b9 hb st ⟨fun _ => rfl, fun x hx => (nomatch hx), Nat.zero_le _⟩ fun line due d' h1 h2 h3 h4 => fin line due d' h1 h2 h3 (h4.mono (by omega)))
  · have c5 : ¬ deq (.int (bad : Int)) (.int (5 : Nat)) = true := c5
    rw [e5, decide_eq_true_eq] at c5
    have go : ∀ (sg : List Nat) (d2 : D), Bx (m + 1 + 1) d2 → (∀ y ∈ sg, sgOk y = true) → sg.length ≤ 60 → aC sd_l_take { nx := fun e => R (.vl .non) (outs 2 e), rt := fun r e => R r (outs 2 e) } [.own true d2, .val (.int (bad : Int)), .val (.lst [strD a, strD b, strD c]), .val (strD k), .val (.bl top), .val (strD L), .val (strD s), .val (strD sg), .no, .no] :=
      fun sg d2 B2 z1 z2 => aC_ok B2 (by omega) (by omega) b9 hb st ⟨fun h => absurd h c5, z1, z2⟩ fun line due d' h1 h2 h3 h4 => fin line due d' h1 h2 h3 (h4.mono (by omega))
    k_allIn
    refine take_i B1 (by omega) (by omega) (by omega) rfl fun t d2 t0 t1 B2 => ?_
    have : t = 0 ∨ t = 1 ∨ t = 2 ∨ t = 3 ∨ t = 4 ∨ t = 5 ∨ t = 6 := by omega
    rcases this with rfl | rfl | rfl | rfl | rfl | rfl | rfl
    · refine ex_i rfl ?_
      refine an_i (by trivial) ?_
      have z := sg6_ok [120] (by decide)
      exact go [120] d2 B2 z.1 z.2
    · refine ex_i rfl ?_
      refine an_i (by trivial) ?_
      have z := sg6_ok [61] (by decide)
      exact go [61] d2 B2 z.1 z.2
    · refine ex_i rfl ?_
      refine an_i (by trivial) ?_
      have z := sg6_ok [97, 32, 98, 32, 32] (by decide)
      exact go [97, 32, 98, 32, 32] d2 B2 z.1 z.2
    · refine ex_i rfl ?_
      refine an_i (by trivial) ?_
      have z := sg6_ok [32] (by decide)
      exact go [32] d2 B2 z.1 z.2
    · refine ex_i rfl ?_
      refine an_i (by trivial) ?_
      have z := sg6_ok [61, 61, 116, 111, 112] (by decide)
      exact go [61, 61, 116, 111, 112] d2 B2 z.1 z.2
    · refine ex_i rfl ?_
      refine an_i (by trivial) ?_
      have z := sg6_ok [97, 100, 100, 32, 49, 32, 116, 111, 112, 32, 61, 120] (by decide)
      exact go [97, 100, 100, 32, 49, 32, 116, 111, 112, 32, 61, 120] d2 B2 z.1 z.2
    · refine ex_i rfl ?_
      refine an_i (by trivial) ?_
      exact go (List.replicate n 122) d2 B2 (fun y hy => by rw [(List.mem_replicate.mp hy).2]; decide) (by rw [List.length_replicate]; exact n60)
end
end Law

set_option Elab.async false
set_option linter.all false
set_option maxRecDepth 100000
set_option maxHeartbeats 4000000
set_option autoImplicit false
namespace Law
open PySem L2 DL
section
local macro_rules | `(tactic| k_upd) => `(tactic| (first | exact trivial | exact rfl | ((try dsimp only); first | assumption | exact fits62 (by omega) (by omega) | exact cmul_s (by omega) (by omega) | exact cpow_s (by omega) (by omega) (by omega) | exact And.intro (by omega) (clog_s (by omega)) | omega | (simp only [List.length_append, List.length_cons, List.length_nil, List.length_map]; omega) | exact Nat.le_of_ble_eq_true rfl | decide)))
local macro_rules | `(tactic| k_memK) => `(tactic| first | (refine an_i ?_ ?_; focus k_upd) | refine ex_i rfl ?_ | refine ite_t rfl ?_ | refine ite_f Bool.false_ne_true ?_)
local macro_rules | `(tactic| k_allIn) => `(tactic| repeat k_memK)

set_option pp.deepTerms false
set_option pp.maxSteps 1500

def sd_l_add : DSpec := fun args R => ∃ (m : Int) (d : D) (bad : Nat), args = [.own true d, .val (.int (bad : Int))] ∧ bad ≤ 9 ∧ Bx m d ∧ 0 ≤ m ∧ m < 400000 ∧ FinA R (m + 12)
theorem len_l_add : ∀ args R, sd_l_add args R → args.length = 2 := by rintro args R ⟨m, d, bad, rfl, _⟩; rfl
theorem nw_loose {b : Bool} {k : List Nat} (h : k ∈ (if b = true then NW else NR)) : Loose k := by
  cases b
  · exact (nr_ok h).cl.loose
  · exact (nw_ok h).1
theorem in23 (bad : Nat) : inD (.int (bad : Int)) [.int 2, .int 3] = (decide (bad = 2) || decide (bad = 3)) := by
  show (((2 : Int) == (bad : Int)) || (((3 : Int) == (bad : Int)) || false)) = _
  rw [Bool.or_false, Bool.eq_iff_iff, Bool.or_eq_true, Bool.or_eq_true, beq_iff_eq, beq_iff_eq, decide_eq_true_eq, decide_eq_true_eq]
  omega
theorem j4_len {a b c k : List Nat} (w : Word a b c) (hk : Loose k) : (TL.joinL [46] [a, b, c, k]).length ≤ 200 := by
  have := joinL_len 46 [a, b, c, k]
  have := w.la.le
  have := w.lb.le
  have := w.lc.le
  have := hk.le
  simp only [List.map_cons, List.map_nil, List.sum_cons, List.sum_nil, List.length_cons, List.length_nil] at *
  omega
theorem j5_len {a b c k e : List Nat} (w : Word a b c) (hk : Loose k) (he : Loose e) : (TL.joinL [46] [a, b, c, k, e]).length ≤ 200 := by
  have := joinL_len 46 [a, b, c, k, e]
  have := w.la.le
  have := w.lb.le
  have := w.lc.le
  have := hk.le
  have := he.le
  simp only [List.map_cons, List.map_nil, List.sum_cons, List.sum_nil, List.length_cons, List.length_nil] at *
  omega
theorem j3_len {a b c : List Nat} (w : Word a b c) : (TL.joinL [46] [a, b, c]).length ≤ 200 := by
  have := joinL_len 46 [a, b, c]
  have := w.la.le
  have := w.lb.le
  have := w.lc.le
  simp only [List.map_cons, List.map_nil, List.sum_cons, List.sum_nil, List.length_cons, List.length_nil] at *
  omega
theorem j2_len {a b c : List Nat} (w : Word a b c) : (TL.joinL [46] [a, b]).length ≤ 200 := by
  have := joinL_len 46 [a, b]
  have := w.la.le
  have := w.lb.le
  simp only [List.map_cons, List.map_nil, List.sum_cons, List.sum_nil, List.length_cons, List.length_nil] at *
  omega
theorem sp_l_add : ∀ args R, sd_l_add args R → m_l_add sd_l_take sd_l_pick sd_l_number sd_l_word { nx := fun e => R (.vl .non) (outs 2 e), rt := fun r e => R r (outs 2 e) } (startE 10 args) := by
  rintro args R ⟨m, d, bad, rfl, b9, B, h0, h1, fin⟩
  have e2 := deq_nat bad 2
  have e3 := deq_nat bad 3
  have e4 := deq_nat bad 4
  k_allIn
  refine ⟨m, d, decide (bad = 2), ?_, B, by omega, by omega, fun a b c d1 hw B1 => ?_⟩
  · show [Slot.own true d, .val (.bl (deq (.int (bad : Int)) (.int (2 : Nat))))] = _
    rw [e2]
  k_allIn
  refine ⟨m + 4, d1, decide (bad = 3), ?_, B1, by omega, by omega, fun k d2 hk B2 => ?_⟩
  · show [Slot.own true d1, .val (.int 0), .val (.bl (deq (.int (bad : Int)) (.int (3 : Nat))))] = _
    rw [e3]
  have lk := nw_loose hk
  have w : Word a b c := by
    split at hw
    · exact hw.w
    · exact hw.w
  have oa := ofL_len a
  have ob := ofL_len b
  have oc := ofL_len c
  have ok := ofL_len k
  have la := w.la.le
  have lb := w.lb.le
  have lc := w.lc.le
  have lkk := lk.le
  have js : True → (ofL a).length + ((ofL b).length + ((ofL c).length + ((ofL k).length + 0))) + 4 * 1 ≤ 16777216 := fun _ => by omega
  have js3 : True → (ofL a).length + ((ofL b).length + ((ofL c).length + 0)) + 3 * 1 ≤ 16777216 := fun _ => by omega
  have js5 : True → (ofL a).length + ((ofL b).length + ((ofL c).length + ((ofL k).length + (1 + 0)))) + 5 * 1 ≤ 16777216 := fun _ => by omega
  have jn : Txt.join "." [ofL a, ofL b, ofL c, ofL k] = ofL (TL.joinL [46] [a, b, c, k]) := join_S 46 [a, b, c, k]
  have jn3 : Txt.join "." [ofL a, ofL b, ofL c] = ofL (TL.joinL [46] [a, b, c]) := join_S 46 [a, b, c]
  have jn5 : Txt.join "." [ofL a, ofL b, ofL c, ofL k, "1"] = ofL (TL.joinL [46] [a, b, c, k, [49]]) := join_S 46 [a, b, c, k, [49]]
  have tail : ∀ (top : Bool) (L : List Nat) (d3 : D), Bx (m + 4 + 1 + 1 + 1) d3 → BehP bad top a b c k L → aB sd_l_take sd_l_pick { nx := fun e => R (.vl .non) (outs 2 e), rt := fun r e => R r (outs 2 e) } [.own true d3, .val (.int (bad : Int)), .val (.lst [strD a, strD b, strD c]), .val (strD k), .val (.bl top), .val (strD L), .no, .no, .no, .no] :=
    fun top L d3 B3 hb => aB_ok B3 (by omega) (by omega) b9 hb fun line due d' h1 h2 h3 h4 => fin line due d' h1 h2 h3 (h4.mono (by omega))
  k_allIn
  by_cases c23 : bad = 2 ∨ bad = 3
  · refine ite_f (show ¬ (true ^^ inD (.int (bad : Int)) [.int 2, .int 3]) = true by
      rw [in23]
      rcases c23 with h | h <;> subst h <;> decide) ?_
    k_allIn
    refine an_i (js trivial) ?_
    rw [jn]
    k_allIn
    refine ite_f (show ¬ deq (.int (bad : Int)) (.int (4 : Nat)) = true by rw [e4, decide_eq_true_eq]; omega) ?_
    refine tail false _ d2 (B2.mono (by omega)) ⟨fun _ => ?_, fun z1 z2 => by omega, j4_len w lk⟩
    rcases c23 with h | h
    · rw [if_pos (decide_eq_true h)] at hw
      exact beh_bad2 hw lk
    · rw [if_pos (decide_eq_true h)] at hk
      exact beh_bad3 w lk (nw_ok hk).2
  · have n2 : bad ≠ 2 := fun h => c23 (Or.inl h)
    have n3 : bad ≠ 3 := fun h => c23 (Or.inr h)
    rw [if_neg (by rw [decide_eq_true_eq]; exact n2)] at hw
    rw [if_neg (by rw [decide_eq_true_eq]; exact n3)] at hk
    have kg := nr_ok hk
    refine ite_t (show (true ^^ inD (.int (bad : Int)) [.int 2, .int 3]) = true by
      rw [in23, decide_eq_false n2, decide_eq_false n3]; rfl) ?_
    k_allIn
    refine take_i B2 (by omega) (by omega) (by omega) rfl fun t d3 t0 t1 B3 => ?_
    have fin2 : ∀ (top : Bool) (L : List Nat), GoodB top a b c k L → L.length ≤ 200 →
        (mSeq (mIfS (mB (mOp2 aEq (mVar 1) (mC (.int 4)))) (mSet 5 (mOp2 aIx (mLst (mCons (mC (.str "Top")) (mCons (mC (.str "top.")) (mCons (mM1 aJoin (mC (.str ".")) (mVar 2)) (mCons (mM1 aJoin (mC (.str ".")) (mOp2 aAdd (mVar 2) (mLst (mCons (mVar 3) (mCons (mC (.str "1")) (mNil)))))) (mCons (mC (.str "tops")) (mNil))))))) (mCall sd_l_take [] (mcCons (mVar 0) (mcCons (mC (.int 5)) (mcNil)))))) (mSkip)) (aB sd_l_take sd_l_pick)) { nx := fun e => R (.vl .non) (outs 2 e), rt := fun r e => R r (outs 2 e) } [.own true d3, .val (.int (bad : Int)), .val (.lst [strD a, strD b, strD c]), .val (strD k), .val (.bl top), .val (strD L), .no, .no, .no, .no] := by
      intro top L g ll
      k_allIn
      refine ite_i (fun c4 => ?_) (fun c4 => ?_)
      · have c4 : deq (.int (bad : Int)) (.int (4 : Nat)) = true := c4
        rw [e4, decide_eq_true_eq] at c4
        k_allIn
        refine an_i (js3 trivial) ?_
        rw [jn3]
        k_allIn
        refine an_i (js5 trivial) ?_
        rw [jn5]
        k_allIn
        refine take_i B3 (by omega) (by omega) (by omega) rfl fun t d4 t0 t1 B4 => ?_
        have : t = 0 ∨ t = 1 ∨ t = 2 ∨ t = 3 ∨ t = 4 := by omega
        rcases this with rfl | rfl | rfl | rfl | rfl
        · refine ex_i rfl ?_
          refine an_i (by trivial) ?_
          exact tail top [84, 111, 112] d4 B4 ⟨fun _ => beh_bad4 (by decide), fun _ _ z => absurd c4 z, by decide⟩
        · refine ex_i rfl ?_
          refine an_i (by trivial) ?_
          exact tail top [116, 111, 112, 46] d4 B4 ⟨fun _ => beh_bad4 (by decide), fun _ _ z => absurd c4 z, by decide⟩
        · refine ex_i rfl ?_
          refine an_i (by trivial) ?_
          exact tail top (TL.joinL [46] [a, b, c]) d4 B4 ⟨fun _ => beh_bad4a w, fun _ _ z => absurd c4 z, j3_len w⟩
        · refine ex_i rfl ?_
          refine an_i (by trivial) ?_
          exact tail top (TL.joinL [46] [a, b, c, k, [49]]) d4 B4 ⟨fun _ => beh_bad4b w lk, fun _ _ z => absurd c4 z, j5_len w lk (loose_of (by decide))⟩
        · refine ex_i rfl ?_
          refine an_i (by trivial) ?_
          exact tail top [116, 111, 112, 115] d4 B4 ⟨fun _ => beh_bad4 (by decide), fun _ _ z => absurd c4 z, by decide⟩
      · have c4 : ¬ deq (.int (bad : Int)) (.int (4 : Nat)) = true := c4
        rw [e4, decide_eq_true_eq] at c4
        exact tail top L d3 (B3.mono (by omega)) ⟨fun z => by omega, fun _ _ _ => ⟨g, fun _ => ⟨hw, kg⟩⟩, ll⟩
    have : t = 0 ∨ t = 1 ∨ t = 2 := by omega
    rcases this with rfl | rfl | rfl
    · refine an_i (by trivial) ?_
      refine an_i (by trivial) ?_
      refine an_i (by trivial) ?_
      refine an_i (by trivial) ?_
      refine an_i (by trivial) ?_
      exact fin2 true TOP good_top (by decide)
    · k_allIn
      refine an_i (js trivial) ?_
      rw [jn]
      refine an_i (by trivial) ?_
      exact fin2 false _ (good_four hw kg) (j4_len w lk)
    · k_allIn
      refine an_i (js trivial) ?_
      rw [jn]
      refine an_i (by trivial) ?_
      exact fin2 false _ (good_four hw kg) (j4_len w lk)
end
end Law

set_option Elab.async false
set_option linter.all false
set_option maxRecDepth 100000
set_option maxHeartbeats 4000000
set_option autoImplicit false
namespace Law
open PySem L2 DL
section
local macro_rules | `(tactic| k_upd) => `(tactic| (first | exact trivial | exact rfl | ((try dsimp only); first | assumption | exact fits62 (by omega) (by omega) | exact cmul_s (by omega) (by omega) | exact cpow_s (by omega) (by omega) (by omega) | exact And.intro (by omega) (clog_s (by omega)) | omega | (simp only [List.length_append, List.length_cons, List.length_nil, List.length_map]; omega) | exact Nat.le_of_ble_eq_true rfl | decide)))
local macro_rules | `(tactic| k_memK) => `(tactic| first | (refine an_i ?_ ?_; focus k_upd) | refine ex_i rfl ?_ | refine ite_t rfl ?_ | refine ite_f Bool.false_ne_true ?_)
local macro_rules | `(tactic| k_allIn) => `(tactic| repeat k_memK)

set_option pp.deepTerms false
set_option pp.maxSteps 1500

def cB (sd_l_take : DSpec) : DStm := mSeq (mSet 6 (mM1 aJoin (mC (.str " ")) (mOp2 aAdd (mOp2 aIx (mLst (mCons (mLst (mCons (mC (.str "cut")) (mNil))) (mCons (mLst (mCons (mC (.str "Cut")) (mNil))) (mCons (mLst (mCons (mC (.str "cut")) (mCons (mC (.str "")) (mNil)))) (mCons (mLst (mCons (mC (.str "add")) (mNil))) (mNil)))))) (mIf (mB (mOp2 aNe (mVar 1) (mC (.int 6)))) (mC (.int 0)) (mOp2 aAdd (mC (.int 1)) (mCall sd_l_take [] (mcCons (mVar 0) (mcCons (mC (.int 3)) (mcNil))))))) (mLst (mCons (mVar 5) (mCons (mVar 3) (mCons (mVar 4) (mNil)))))))) (mSeq (mSet 6 (mOp2 aAdd (mVar 6) (mOp2 aIx (mLst (mCons (mC (.str "")) (mCons (mC (.str " 1")) (mCons (mC (.str " ")) (mCons (mC (.str " =")) (mCons (mC (.str "=x")) (mNil))))))) (mIf (mB (mOp2 aNe (mVar 1) (mC (.int 5)))) (mC (.int 0)) (mOp2 aAdd (mC (.int 1)) (mCall sd_l_take [] (mcCons (mVar 0) (mcCons (mC (.int 4)) (mcNil))))))))) (mSeq (mIfRep 1 6 7 " " "  ") (mSeq (mIfS (mB (mOp2 aEq (mVar 1) (mC (.int 8)))) (mRet (mTup (mCons (mM1 aJoin (mC (.str " ")) (mLst (mCons (mC (.str "cut")) (mCons (mVar 5) (mCons (mC (.str "7")) (mCons (mC (.str "6")) (mNil))))))) (mCons (mC .non) (mNil))))) (mSkip)) (mSeq (mIfS (mOrT (mAndT (mB (mOp2 aNe (mVar 1) (mC (.int 9)))) (mB (mOp2 aGt (mVar 1) (mC (.int 0))))) (mOrT (mB (mOp2 aGt (mFn aLen (maCons (mVar 6) (maNil))) (mC (.int 60)))) (mB (mOp2 aGt (mFn aIntOf (maCons (mVar 3) (maNil))) (mFn aIntOf (maCons (mVar 4) (maNil))))))) (mRet (mTup (mCons (mVar 6) (mCons (mC .non) (mNil))))) (mSkip)) (mRet (mTup (mCons (mVar 6) (mCons (mTup (mCons (mC (.str "cut")) (mCons (mTup (mCons (mOp2 aIx (mVar 2) (mC (.int 0))) (mCons (mFn aIntOf (maCons (mOp2 aIx (mVar 2) (mC (.int 1))) (maNil))) (mCons (mFn aIntOf (maCons (mOp2 aIx (mVar 2) (mC (.int 2))) (maNil))) (mNil))))) (mCons (mFn aIntOf (maCons (mVar 3) (maNil))) (mCons (mFn aIntOf (maCons (mVar 4) (maNil))) (mNil)))))) (mNil)))))))))
def cC (sd_l_take : DSpec) : DStm := mSeq (mSet 6 (mOp2 aAdd (mVar 6) (mOp2 aIx (mLst (mCons (mC (.str "")) (mCons (mC (.str " 1")) (mCons (mC (.str " ")) (mCons (mC (.str " =")) (mCons (mC (.str "=x")) (mNil))))))) (mIf (mB (mOp2 aNe (mVar 1) (mC (.int 5)))) (mC (.int 0)) (mOp2 aAdd (mC (.int 1)) (mCall sd_l_take [] (mcCons (mVar 0) (mcCons (mC (.int 4)) (mcNil))))))))) (mSeq (mIfRep 1 6 7 " " "  ") (mSeq (mIfS (mB (mOp2 aEq (mVar 1) (mC (.int 8)))) (mRet (mTup (mCons (mM1 aJoin (mC (.str " ")) (mLst (mCons (mC (.str "cut")) (mCons (mVar 5) (mCons (mC (.str "7")) (mCons (mC (.str "6")) (mNil))))))) (mCons (mC .non) (mNil))))) (mSkip)) (mSeq (mIfS (mOrT (mAndT (mB (mOp2 aNe (mVar 1) (mC (.int 9)))) (mB (mOp2 aGt (mVar 1) (mC (.int 0))))) (mOrT (mB (mOp2 aGt (mFn aLen (maCons (mVar 6) (maNil))) (mC (.int 60)))) (mB (mOp2 aGt (mFn aIntOf (maCons (mVar 3) (maNil))) (mFn aIntOf (maCons (mVar 4) (maNil))))))) (mRet (mTup (mCons (mVar 6) (mCons (mC .non) (mNil))))) (mSkip)) (mRet (mTup (mCons (mVar 6) (mCons (mTup (mCons (mC (.str "cut")) (mCons (mTup (mCons (mOp2 aIx (mVar 2) (mC (.int 0))) (mCons (mFn aIntOf (maCons (mOp2 aIx (mVar 2) (mC (.int 1))) (maNil))) (mCons (mFn aIntOf (maCons (mOp2 aIx (mVar 2) (mC (.int 2))) (maNil))) (mNil))))) (mCons (mFn aIntOf (maCons (mVar 3) (maNil))) (mCons (mFn aIntOf (maCons (mVar 4) (maNil))) (mNil)))))) (mNil))))))))
def cD : DStm := mSeq (mIfRep 1 6 7 " " "  ") (mSeq (mIfS (mB (mOp2 aEq (mVar 1) (mC (.int 8)))) (mRet (mTup (mCons (mM1 aJoin (mC (.str " ")) (mLst (mCons (mC (.str "cut")) (mCons (mVar 5) (mCons (mC (.str "7")) (mCons (mC (.str "6")) (mNil))))))) (mCons (mC .non) (mNil))))) (mSkip)) (mSeq (mIfS (mOrT (mAndT (mB (mOp2 aNe (mVar 1) (mC (.int 9)))) (mB (mOp2 aGt (mVar 1) (mC (.int 0))))) (mOrT (mB (mOp2 aGt (mFn aLen (maCons (mVar 6) (maNil))) (mC (.int 60)))) (mB (mOp2 aGt (mFn aIntOf (maCons (mVar 3) (maNil))) (mFn aIntOf (maCons (mVar 4) (maNil))))))) (mRet (mTup (mCons (mVar 6) (mCons (mC .non) (mNil))))) (mSkip)) (mRet (mTup (mCons (mVar 6) (mCons (mTup (mCons (mC (.str "cut")) (mCons (mTup (mCons (mOp2 aIx (mVar 2) (mC (.int 0))) (mCons (mFn aIntOf (maCons (mOp2 aIx (mVar 2) (mC (.int 1))) (maNil))) (mCons (mFn aIntOf (maCons (mOp2 aIx (mVar 2) (mC (.int 2))) (maNil))) (mNil))))) (mCons (mFn aIntOf (maCons (mVar 3) (maNil))) (mCons (mFn aIntOf (maCons (mVar 4) (maNil))) (mNil)))))) (mNil)))))))
def cE : DStm := mSeq (mIfS (mB (mOp2 aEq (mVar 1) (mC (.int 8)))) (mRet (mTup (mCons (mM1 aJoin (mC (.str " ")) (mLst (mCons (mC (.str "cut")) (mCons (mVar 5) (mCons (mC (.str "7")) (mCons (mC (.str "6")) (mNil))))))) (mCons (mC .non) (mNil))))) (mSkip)) (mSeq (mIfS (mOrT (mAndT (mB (mOp2 aNe (mVar 1) (mC (.int 9)))) (mB (mOp2 aGt (mVar 1) (mC (.int 0))))) (mOrT (mB (mOp2 aGt (mFn aLen (maCons (mVar 6) (maNil))) (mC (.int 60)))) (mB (mOp2 aGt (mFn aIntOf (maCons (mVar 3) (maNil))) (mFn aIntOf (maCons (mVar 4) (maNil))))))) (mRet (mTup (mCons (mVar 6) (mCons (mC .non) (mNil))))) (mSkip)) (mRet (mTup (mCons (mVar 6) (mCons (mTup (mCons (mC (.str "cut")) (mCons (mTup (mCons (mOp2 aIx (mVar 2) (mC (.int 0))) (mCons (mFn aIntOf (maCons (mOp2 aIx (mVar 2) (mC (.int 1))) (maNil))) (mCons (mFn aIntOf (maCons (mOp2 aIx (mVar 2) (mC (.int 2))) (maNil))) (mNil))))) (mCons (mFn aIntOf (maCons (mVar 3) (maNil))) (mCons (mFn aIntOf (maCons (mVar 4) (maNil))) (mNil)))))) (mNil))))))
def cF : DStm := mSeq (mIfS (mOrT (mAndT (mB (mOp2 aNe (mVar 1) (mC (.int 9)))) (mB (mOp2 aGt (mVar 1) (mC (.int 0))))) (mOrT (mB (mOp2 aGt (mFn aLen (maCons (mVar 6) (maNil))) (mC (.int 60)))) (mB (mOp2 aGt (mFn aIntOf (maCons (mVar 3) (maNil))) (mFn aIntOf (maCons (mVar 4) (maNil))))))) (mRet (mTup (mCons (mVar 6) (mCons (mC .non) (mNil))))) (mSkip)) (mRet (mTup (mCons (mVar 6) (mCons (mTup (mCons (mC (.str "cut")) (mCons (mTup (mCons (mOp2 aIx (mVar 2) (mC (.int 0))) (mCons (mFn aIntOf (maCons (mOp2 aIx (mVar 2) (mC (.int 1))) (maNil))) (mCons (mFn aIntOf (maCons (mOp2 aIx (mVar 2) (mC (.int 2))) (maNil))) (mNil))))) (mCons (mFn aIntOf (maCons (mVar 3) (maNil))) (mCons (mFn aIntOf (maCons (mVar 4) (maNil))) (mNil)))))) (mNil)))))

/-! the facts of a cut line -/
structure CutP (bad : Nat) (a b c f l N : List Nat) : Prop where
  w : if decide (bad = 2) = true then WordBad a b c else WordOk a b c
  f : f ∈ (if decide (bad = 1) = true then NW else NR)
  l : l ∈ (if decide (bad = 3) = true then NW else NR)
  n : if bad = 4 then BadN N else N = nameT a b c
  le : N.length ≤ 200
def CsP (bad : Nat) (hs : List (List Nat)) : Prop := if bad = 6 then hs ∈ CW else hs = [CUT]
def EP (bad : Nat) (E : List Nat) : Prop := if bad = 5 then E ∈ CE else E = []
theorem CutP.word {bad : Nat} {a b c f l N : List Nat} (h : CutP bad a b c f l N) : Word a b c := by
  have := h.w
  split at this
  · exact this.w
  · exact this.w
theorem CutP.eq {bad : Nat} {a b c f l N : List Nat} (h : CutP bad a b c f l N) : 61 ∉ N := by
  have := h.n
  split at this
  · exact this.1
  · rw [this]; exact name_eq h.word
theorem CutP.nm {bad : Nat} {a b c f l N : List Nat} (h : CutP bad a b c f l N) (q : bad ≠ 4) : N = nameT a b c := by
  have := h.n
  rw [if_neg q] at this
  exact this
theorem CutP.wo {bad : Nat} {a b c f l N : List Nat} (h : CutP bad a b c f l N) (q : bad ≠ 2) : WordOk a b c := by
  have := h.w
  rw [if_neg (by rw [decide_eq_true_eq]; exact q)] at this
  exact this
theorem CutP.fo {bad : Nat} {a b c f l N : List Nat} (h : CutP bad a b c f l N) (q : bad ≠ 1) : NumG f 0 59 := by
  have := h.f
  rw [if_neg (by rw [decide_eq_true_eq]; exact q)] at this
  exact nr_ok this
theorem CutP.lo {bad : Nat} {a b c f l N : List Nat} (h : CutP bad a b c f l N) (q : bad ≠ 3) : NumG l 0 59 := by
  have := h.l
  rw [if_neg (by rw [decide_eq_true_eq]; exact q)] at this
  exact nr_ok this
theorem CutP.ok {bad : Nat} {a b c f l N : List Nat} (h : CutP bad a b c f l N) (q : bad = 0 ∨ 5 ≤ bad) : CutOk a b c f l :=
  ⟨h.wo (by omega), h.fo (by omega), h.lo (by omega)⟩
theorem CsP.cut {bad : Nat} {hs : List (List Nat)} (h : CsP bad hs) (q : bad ≠ 6) : hs = [CUT] := by
  unfold CsP at h
  rw [if_neg q] at h
  exact h
theorem EP.nil {bad : Nat} {E : List Nat} (h : EP bad E) (q : bad ≠ 5) : E = [] := by
  unfold EP at h
  rw [if_neg q] at h
  exact h
theorem cs_two {bad : Nat} {hs : List (List Nat)} (h : CsP bad hs) : hs.length ≤ 2 ∧ (hs.map List.length).sum ≤ 6 := by
  by_cases q : bad = 6
  · unfold CsP at h
    rw [if_pos q] at h
    exact (show ∀ hs ∈ CW, hs.length ≤ 2 ∧ (hs.map List.length).sum ≤ 6 by decide) hs h
  · rw [h.cut q]; decide
theorem e_two {bad : Nat} {E : List Nat} (h : EP bad E) : E.length ≤ 2 := by
  by_cases q : bad = 5
  · unfold EP at h
    rw [if_pos q] at h
    exact (show ∀ E ∈ CE, E.length ≤ 2 by decide) E h
  · rw [h.nil q]; decide
theorem cut_six {bad : Nat} {a b c f l N E : List Nat} {hs : List (List Nat)} (b1 : 1 ≤ bad) (b6 : bad ≤ 6) (h : CutP bad a b c f l N) (hp : CsP bad hs) (ep : EP bad E) : editL (cutT hs N f l ++ E) = .non := by
  have lf := nw_loose h.f
  have ll := nw_loose h.l
  by_cases h5 : bad = 5
  · unfold EP at ep
    rw [if_pos h5] at ep
    rw [hp.cut (by omega), h.nm (by omega)]
    exact cut_bad5 (h.ok (by omega)) ep
  · rw [ep.nil h5, List.append_nil]
    by_cases h6 : bad = 6
    · unfold CsP at hp
      rw [if_pos h6] at hp
      rw [h.nm (by omega)]
      exact cut_bad6 (h.ok (by omega)) hp
    · rw [hp.cut h6]
      by_cases h4 : bad = 4
      · have := h.n
        rw [if_pos h4] at this
        exact cut_badN this lf.eq ll.eq
      · rw [h.nm h4]
        by_cases h1 : bad = 1
        · have q := h.f
          rw [if_pos (decide_eq_true h1)] at q
          exact cut_badF h.word lf.eq ll.eq (nw_ok q).2
        · by_cases h2 : bad = 2
          · have q := h.w
            rw [if_pos (decide_eq_true h2)] at q
            exact cut_badW q lf.eq ll.eq
          · have h3 : bad = 3 := by omega
            have q := h.l
            rw [if_pos (decide_eq_true h3)] at q
            exact cut_badL h.word lf.eq ll.eq (nw_ok q).2
theorem rep_cutD {a b c f l : List Nat} (h : CutOk a b c f l) : RepOk (.tup [.str "cut", .tup [strD a, dv b, dv c], dv f, dv l]) := by
  have l2 := num_le h.w.fb (by decide) (by decide)
  have g2 := log_small l2.1 l2.2
  have l3 := num_le h.w.fc (by decide) (by decide)
  have g3 := log_small l3.1 l3.2
  have l4 := num_le h.f (by decide) (by decide)
  have g4 := log_small l4.1 l4.2
  have l5 := num_le h.l (by decide) (by decide)
  have g5 := log_small l5.1 l5.2
  have la := h.w.fa.1.le
  refine Or.inl ⟨rfl, ?_, ?_⟩
  · show (true && ((true && (decide ((((NumText.digitsVal b : Nat) : Int)).natAbs.log2 < 1920) && (decide ((((NumText.digitsVal c : Nat) : Int)).natAbs.log2 < 1920) && true))) && (decide ((((NumText.digitsVal f : Nat) : Int)).natAbs.log2 < 1920) && (decide ((((NumText.digitsVal l : Nat) : Int)).natAbs.log2 < 1920) && true)))) = true
    rw [g2, g3, g4, g5]; rfl
  · show (10 * 3 + 2) + 2 + (((10 * (ofL a).length + 2) + 2 + (1921 + 2 + (1921 + 2 + 0)) + 4) + 2 + (1921 + 2 + (1921 + 2 + 0))) + 4 ≤ 16000000
    rw [ofL_len]; omega
abbrev envC (d : D) (bad : Nat) (a b c f l N line : List Nat) : List Slot := [.own true d, .val (.int (bad : Int)), .val (.lst [strD a, strD b, strD c]), .val (strD f), .val (strD l), .val (strD N), .val (.str (ofL line))]
theorem cutT_len {hs : List (List Nat)} {N f l : List Nat} (h2 : hs.length ≤ 2 ∧ (hs.map List.length).sum ≤ 6) (hn : N.length ≤ 200) (hf : f.length ≤ 31) (hl : l.length ≤ 31) : (cutT hs N f l).length ≤ 300 := by
  have := joinL_len 32 (hs ++ [N, f, l])
  simp only [List.map_append, List.map_cons, List.map_nil, List.sum_append, List.sum_cons, List.sum_nil, List.length_append, List.length_cons, List.length_nil] at this
  unfold cutT
  omega
theorem cF_ok {R : RV → List Slot → Prop} {d : D} {bad : Nat} {a b c f l N line : List Nat} (b9 : bad ≤ 9) (b8 : bad ≠ 8) (h : CutP bad a b c f l N) (ll : line.length ≤ 500)
    (hbad : 1 ≤ bad → bad ≤ 8 → editD (.str (ofL line)) = .non) (hgood : bad = 0 ∨ bad = 9 → line = cutT [CUT] (nameT a b c) f l)
    (fin : ∀ (line : List Nat) (due : D), editD (.str (ofL line)) = due → line.length ≤ 1000 → RepOk due → R (.vl (.tup [.str (ofL line), due])) [.own true d, .no]) :
    cF { nx := fun e => R (.vl .non) (outs 2 e), rt := fun r e => R r (outs 2 e) } (envC d bad a b c f l N line) := by
  have ol := ofL_len line
  have e9 := deq_nat bad 9
  unfold cF envC
  by_cases q : 1 ≤ bad ∧ bad ≤ 8
  · have due := hbad q.1 q.2
    k_allIn
    refine ite_t (show (!deq (.int (bad : Int)) (.int (9 : Nat))) = true by rw [e9, decide_eq_false (by omega)]; rfl) ?_
    k_allIn
    refine ite_t (show decide ((0 : Int) < (bad : Int)) = true from decide_eq_true (by omega)) ?_
    k_allIn
    exact fin line .non due (by omega) rep_non
  · have hq : bad = 0 ∨ bad = 9 := by omega
    have ln := hgood hq
    have co := h.ok (by omega)
    have of' := ofL_len f
    have ol' := ofL_len l
    have ob := ofL_len b
    have oc := ofL_len c
    have lb := co.w.fb.cl.le
    have lc := co.w.fc.cl.le
    have lf := co.f.cl.le
    have ll' := co.l.cl.le
    have last : (mIfS (mOrT (mB (mOp2 aGt (mFn aLen (maCons (mVar 6) (maNil))) (mC (.int 60)))) (mB (mOp2 aGt (mFn aIntOf (maCons (mVar 3) (maNil))) (mFn aIntOf (maCons (mVar 4) (maNil)))))) (mRet (mTup (mCons (mVar 6) (mCons (mC .non) (mNil))))) (mRet (mTup (mCons (mVar 6) (mCons (mTup (mCons (mC (.str "cut")) (mCons (mTup (mCons (mOp2 aIx (mVar 2) (mC (.int 0))) (mCons (mFn aIntOf (maCons (mOp2 aIx (mVar 2) (mC (.int 1))) (maNil))) (mCons (mFn aIntOf (maCons (mOp2 aIx (mVar 2) (mC (.int 2))) (maNil))) (mNil))))) (mCons (mFn aIntOf (maCons (mVar 3) (maNil))) (mCons (mFn aIntOf (maCons (mVar 4) (maNil))) (mNil)))))) (mNil)))))) { nx := fun e => R (.vl .non) (outs 2 e), rt := fun r e => R r (outs 2 e) } (envC d bad a b c f l N line) := by
      unfold envC
      k_allIn
      refine an_i (le_line (by omega)) ?_
      refine ite_i (fun c2 => ?_) (fun c2 => ?_)
      · have c2 : decide ((60 : Int) < ((ofL line).length : Int)) = true := c2
        have c2 := of_decide_eq_true c2
        k_allIn
        exact fin line .non (text_long (by omega)) (by omega) rep_non
      · have c2 : ¬ decide ((60 : Int) < ((ofL line).length : Int)) = true := c2
        have c2 : ¬ (60 : Int) < ((ofL line).length : Int) := fun z => c2 (decide_eq_true z)
        have due := cut_good co (by rw [← ln]; omega)
        rw [← ln] at due
        k_allIn
        refine ex_i co.f.it ?_
        refine an_i (by omega) ?_
        k_allIn
        refine ex_i co.l.it ?_
        refine an_i (by omega) ?_
        refine ite_i (fun c3 => ?_) (fun c3 => ?_)
        · have c3 : decide (((NumText.digitsVal l : Nat) : Int) < ((NumText.digitsVal f : Nat) : Int)) = true := c3
          rw [if_pos (of_decide_eq_true c3)] at due
          k_allIn
          exact fin line .non due (by omega) rep_non
        · have c3 : ¬ decide (((NumText.digitsVal l : Nat) : Int) < ((NumText.digitsVal f : Nat) : Int)) = true := c3
          rw [if_neg (fun z => c3 (decide_eq_true z))] at due
          have rp := rep_cutD co
          k_allIn
          refine ex_i co.w.fb.it ?_
          refine an_i (by omega) ?_
          k_allIn
          refine ex_i co.w.fc.it ?_
          refine an_i (by omega) ?_
          k_allIn
          refine ex_i co.f.it ?_
          refine an_i (by omega) ?_
          k_allIn
          refine ex_i co.l.it ?_
          refine an_i (by omega) ?_
          k_allIn
          exact fin line _ due (by omega) rp
    rcases hq with h0 | h9
    · k_allIn
      refine ite_t (show (!deq (.int (bad : Int)) (.int (9 : Nat))) = true by rw [e9, decide_eq_false (by omega)]; rfl) ?_
      k_allIn
      refine ite_f (show ¬ decide ((0 : Int) < (bad : Int)) = true by rw [decide_eq_false (by omega)]; exact Bool.false_ne_true) ?_
      exact last
    · k_allIn
      refine ite_f (show ¬ (!deq (.int (bad : Int)) (.int (9 : Nat))) = true by rw [e9, decide_eq_true h9]; exact Bool.false_ne_true) ?_
      exact last
theorem cE_ok {R : RV → List Slot → Prop} {d : D} {bad : Nat} {a b c f l N line : List Nat} (b9 : bad ≤ 9) (h : CutP bad a b c f l N) (ll : line.length ≤ 500)
    (hbad : bad ≠ 8 → 1 ≤ bad → bad ≤ 8 → editD (.str (ofL line)) = .non) (hgood : bad = 0 ∨ bad = 9 → line = cutT [CUT] (nameT a b c) f l)
    (fin : ∀ (line : List Nat) (due : D), editD (.str (ofL line)) = due → line.length ≤ 1000 → RepOk due → R (.vl (.tup [.str (ofL line), due])) [.own true d, .no]) :
    cE { nx := fun e => R (.vl .non) (outs 2 e), rt := fun r e => R r (outs 2 e) } (envC d bad a b c f l N line) := by
  have e8 := deq_nat bad 8
  by_cases c8 : bad = 8
  · have w := h.wo (by omega)
    have n := h.nm (by omega)
    have oN := ofL_len N
    have lN := h.le
    have tl := cutT_len (hs := [CUT]) (N := N) (f := [55]) (l := [54]) (by decide) lN (by decide) (by decide)
    unfold cE envC
    k_allIn
    refine ite_t (show deq (.int (bad : Int)) (.int (8 : Nat)) = true by rw [e8, decide_eq_true c8]) ?_
    k_allIn
    refine an_i (show 3 + ((ofL N).length + (1 + (1 + 0))) + 4 * 1 ≤ 16777216 by omega) ?_
    rw [show Txt.join " " ["cut", ofL N, "7", "6"] = ofL (cutT [CUT] N [55] [54]) from join_S 32 [CUT, N, [55], [54]]]
    k_allIn
    refine fin _ .non ?_ (by omega) rep_non
    rw [n]
    exact edit_none (cut_bad8 w)
  · have t := cF_ok b9 c8 h ll (hbad c8) hgood fin
    unfold cE envC
    k_allIn
    refine ite_f (show ¬ deq (.int (bad : Int)) (.int (8 : Nat)) = true by rw [e8, decide_eq_true_eq]; exact c8) ?_
    exact t
theorem cD_ok {R : RV → List Slot → Prop} {d : D} {bad : Nat} {a b c f l N E : List Nat} {hs : List (List Nat)} (b9 : bad ≤ 9) (h : CutP bad a b c f l N) (hp : CsP bad hs) (ep : EP bad E)
    (fin : ∀ (line : List Nat) (due : D), editD (.str (ofL line)) = due → line.length ≤ 1000 → RepOk due → R (.vl (.tup [.str (ofL line), due])) [.own true d, .no]) :
    cD { nx := fun e => R (.vl .non) (outs 2 e), rt := fun r e => R r (outs 2 e) } (envC d bad a b c f l N (cutT hs N f l ++ E)) := by
  have lf := nw_loose h.f
  have ll := nw_loose h.l
  have tl := cutT_len (hs := hs) (N := N) (f := f) (l := l) (cs_two hp) h.le lf.le ll.le
  have te := e_two ep
  have lt : (cutT hs N f l ++ E).length ≤ 302 := by rw [List.length_append]; omega
  have ot := ofL_len (cutT hs N f l ++ E)
  unfold cD envC
  refine ⟨by omega, ?_⟩
  by_cases c7 : bad = 7
  · refine ite_t (by omega) ?_
    have e1 := hp.cut (by omega)
    have e2 := ep.nil (by omega)
    subst e1 e2
    have e3 := h.nm (by omega)
    have t2 : (CUT ++ ([32, 32] ++ TL.joinL [32] [N, f, l])).length ≤ 500 := by
      have := joinL_len 32 [N, f, l]
      have := h.le
      have := lf.le
      have := ll.le
      simp only [List.map_cons, List.map_nil, List.sum_cons, List.sum_nil, List.length_cons, List.length_nil, List.length_append] at *
      omega
    have t := cE_ok (line := CUT ++ ([32, 32] ++ TL.joinL [32] [N, f, l])) b9 h t2 (fun _ _ _ => by
      rw [e3]
      exact edit_none (cut_bad7 (h.ok (by omega)))) (fun z => by omega) fin
    unfold envC at t
    rw [← rep_cut] at t
    rw [List.append_nil]
    exact t
  · refine ite_f (by omega) ?_
    exact cE_ok (line := cutT hs N f l ++ E) b9 h (by omega) (fun z8 z1 z2 => edit_none (cut_six z1 (by omega) h hp ep)) (fun z => by
      rw [ep.nil (by omega), hp.cut (by omega), h.nm (by omega), List.append_nil]) fin
theorem cC_ok {R : RV → List Slot → Prop} {m : Int} {d : D} {bad : Nat} {a b c f l N : List Nat} {hs : List (List Nat)} (B : Bx m d) (h0 : 0 ≤ m) (h1 : m < 600000) (b9 : bad ≤ 9) (h : CutP bad a b c f l N) (hp : CsP bad hs)
    (fin : FinA R (m + 1)) :
    cC sd_l_take { nx := fun e => R (.vl .non) (outs 2 e), rt := fun r e => R r (outs 2 e) } (envC d bad a b c f l N (cutT hs N f l)) := by
  have lf := nw_loose h.f
  have ll := nw_loose h.l
  have tl := cutT_len (hs := hs) (N := N) (f := f) (l := l) (cs_two hp) h.le lf.le ll.le
  have ot := ofL_len (cutT hs N f l)
  have e5 := deq_nat bad 5
  have go : ∀ (E : List Nat) (d1 : D), Bx (m + 1) d1 → EP bad E → cD { nx := fun e => R (.vl .non) (outs 2 e), rt := fun r e => R r (outs 2 e) } (envC d1 bad a b c f l N (cutT hs N f l ++ E)) :=
    fun E d1 B1 ep => cD_ok b9 h hp ep fun line due h1 h2 h3 => fin line due d1 h1 h2 h3 B1
  unfold cC envC
  k_allIn
  refine ite_i (fun c5 => ?_) (fun c5 => ?_)
  · have c5 : (!deq (.int (bad : Int)) (.int (5 : Nat))) = true := c5
    rw [e5, Bool.not_eq_true', decide_eq_false_iff_not] at c5
    have t := go [] d (B.mono (by omega)) (by unfold EP; rw [if_neg c5])
    unfold envC at t
    rw [← app_ofL] at t
    refine ex_i rfl ?_
    refine an_i (show (ofL (cutT hs N f l)).length + 0 ≤ sizeLine from le_line (by omega)) ?_
    refine an_i (by trivial) ?_
    exact t
  · have c5 : ¬ (!deq (.int (bad : Int)) (.int (5 : Nat))) = true := c5
    rw [e5, Bool.not_eq_true', decide_eq_false_iff_not, Decidable.not_not] at c5
    k_allIn
    refine take_i B (by omega) (by omega) (by omega) rfl fun t d1 t0 t1 B1 => ?_
    have : t = 0 ∨ t = 1 ∨ t = 2 ∨ t = 3 := by omega
    rcases this with rfl | rfl | rfl | rfl
    · have t := go [32, 49] d1 B1 (by unfold EP; rw [if_pos c5]; decide)
      unfold envC at t
      rw [← app_ofL] at t
      refine ex_i rfl ?_
      refine an_i (show (ofL (cutT hs N f l)).length + 2 ≤ sizeLine from le_line (by omega)) ?_
      refine an_i (by trivial) ?_
      exact t
    · have t := go [32] d1 B1 (by unfold EP; rw [if_pos c5]; decide)
      unfold envC at t
      rw [← app_ofL] at t
      refine ex_i rfl ?_
      refine an_i (show (ofL (cutT hs N f l)).length + 1 ≤ sizeLine from le_line (by omega)) ?_
      refine an_i (by trivial) ?_
      exact t
    · have t := go [32, 61] d1 B1 (by unfold EP; rw [if_pos c5]; decide)
      unfold envC at t
      rw [← app_ofL] at t
      refine ex_i rfl ?_
      refine an_i (show (ofL (cutT hs N f l)).length + 2 ≤ sizeLine from le_line (by omega)) ?_
      refine an_i (by trivial) ?_
      exact t
    · have t := go [61, 120] d1 B1 (by unfold EP; rw [if_pos c5]; decide)
      unfold envC at t
      rw [← app_ofL] at t
      refine ex_i rfl ?_
      refine an_i (show (ofL (cutT hs N f l)).length + 2 ≤ sizeLine from le_line (by omega)) ?_
      refine an_i (by trivial) ?_
      exact t
theorem cB_ok {R : RV → List Slot → Prop} {m : Int} {d : D} {bad : Nat} {a b c f l N : List Nat} (B : Bx m d) (h0 : 0 ≤ m) (h1 : m < 500000) (b9 : bad ≤ 9) (h : CutP bad a b c f l N)
    (fin : FinA R (m + 2)) :
    cB sd_l_take { nx := fun e => R (.vl .non) (outs 2 e), rt := fun r e => R r (outs 2 e) } [.own true d, .val (.int (bad : Int)), .val (.lst [strD a, strD b, strD c]), .val (strD f), .val (strD l), .val (strD N), .no] := by
  have lf := nw_loose h.f
  have ll := nw_loose h.l
  have lff := lf.le
  have lll := ll.le
  have lN := h.le
  have oN := ofL_len N
  have of' := ofL_len f
  have ol := ofL_len l
  have e6 := deq_nat bad 6
  have go : ∀ (hs : List (List Nat)) (d1 : D), Bx (m + 1) d1 → CsP bad hs → cC sd_l_take { nx := fun e => R (.vl .non) (outs 2 e), rt := fun r e => R r (outs 2 e) } (envC d1 bad a b c f l N (cutT hs N f l)) :=
    fun hs d1 B1 hp => cC_ok B1 (by omega) (by omega) b9 h hp fun line due d' h1 h2 h3 h4 => fin line due d' h1 h2 h3 (h4.mono (by omega))
  unfold cB
  k_allIn
  refine ite_i (fun c6 => ?_) (fun c6 => ?_)
  · have c6 : (!deq (.int (bad : Int)) (.int (6 : Nat))) = true := c6
    rw [e6, Bool.not_eq_true', decide_eq_false_iff_not] at c6
    have t := go [CUT] d (B.mono (by omega)) (by unfold CsP; rw [if_neg c6])
    k_allIn
    refine an_i (show 3 + ((ofL N).length + ((ofL f).length + ((ofL l).length + 0))) + 4 * 1 ≤ 16777216 by omega) ?_
    rw [show Txt.join " " ["cut", ofL N, ofL f, ofL l] = ofL (cutT [CUT] N f l) from join_S 32 [CUT, N, f, l]]
    refine an_i (by trivial) ?_
    exact t
  · have c6 : ¬ (!deq (.int (bad : Int)) (.int (6 : Nat))) = true := c6
    rw [e6, Bool.not_eq_true', decide_eq_false_iff_not, Decidable.not_not] at c6
    k_allIn
    refine take_i B (by omega) (by omega) (by omega) rfl fun t d1 t0 t1 B1 => ?_
    have : t = 0 ∨ t = 1 ∨ t = 2 := by omega
    rcases this with rfl | rfl | rfl
    · have t := go [[67, 117, 116]] d1 B1 (by unfold CsP; rw [if_pos c6]; decide)
      k_allIn
      refine an_i (show 3 + ((ofL N).length + ((ofL f).length + ((ofL l).length + 0))) + 4 * 1 ≤ 16777216 by omega) ?_
      rw [show Txt.join " " ["Cut", ofL N, ofL f, ofL l] = ofL (cutT [[67, 117, 116]] N f l) from (by rw [show ("Cut" : Str) = ofL [67, 117, 116] by decide +kernel]; exact join_S 32 ([67, 117, 116] :: [N, f, l]))]
      refine an_i (by trivial) ?_
      exact t
    · have t := go [CUT, []] d1 B1 (by unfold CsP; rw [if_pos c6]; decide)
      k_allIn
      refine an_i (show 3 + (0 + ((ofL N).length + ((ofL f).length + ((ofL l).length + 0)))) + 5 * 1 ≤ 16777216 by omega) ?_
      rw [show Txt.join " " ["cut", "", ofL N, ofL f, ofL l] = ofL (cutT [CUT, []] N f l) from join_S 32 ([CUT, []] ++ [N, f, l])]
      refine an_i (by trivial) ?_
      exact t
    · have t := go [ADD] d1 B1 (by unfold CsP; rw [if_pos c6]; decide)
      k_allIn
      refine an_i (show 3 + ((ofL N).length + ((ofL f).length + ((ofL l).length + 0))) + 4 * 1 ≤ 16777216 by omega) ?_
      rw [show Txt.join " " ["add", ofL N, ofL f, ofL l] = ofL (cutT [ADD] N f l) from join_S 32 ([ADD] ++ [N, f, l])]
      refine an_i (by trivial) ?_
      exact t
def sd_l_cut : DSpec := fun args R => ∃ (m : Int) (d : D) (bad : Nat), args = [.own true d, .val (.int (bad : Int))] ∧ bad ≤ 9 ∧ Bx m d ∧ 0 ≤ m ∧ m < 400000 ∧ FinA R (m + 12)
theorem len_l_cut : ∀ args R, sd_l_cut args R → args.length = 2 := by rintro args R ⟨m, d, bad, rfl, _⟩; rfl
theorem sp_l_cut : ∀ args R, sd_l_cut args R → m_l_cut sd_l_take sd_l_number sd_l_word { nx := fun e => R (.vl .non) (outs 2 e), rt := fun r e => R r (outs 2 e) } (startE 7 args) := by
  rintro args R ⟨m, d, bad, rfl, b9, B, h0, h1, fin⟩
  have e1 := deq_nat bad 1
  have e2 := deq_nat bad 2
  have e3 := deq_nat bad 3
  have e4 := deq_nat bad 4
  k_allIn
  refine ⟨m, d, decide (bad = 2), ?_, B, by omega, by omega, fun a b c d1 hw B1 => ?_⟩
  · show [Slot.own true d, .val (.bl (deq (.int (bad : Int)) (.int (2 : Nat))))] = _
    rw [e2]
  k_allIn
  refine ⟨m + 4, d1, decide (bad = 1), ?_, B1, by omega, by omega, fun f d2 hf B2 => ?_⟩
  · show [Slot.own true d1, .val (.int 0), .val (.bl (deq (.int (bad : Int)) (.int (1 : Nat))))] = _
    rw [e1]
  k_allIn
  refine ⟨m + 4 + 1, d2, decide (bad = 3), ?_, B2, by omega, by omega, fun l d3 hl B3 => ?_⟩
  · show [Slot.own true d2, .val (.int 0), .val (.bl (deq (.int (bad : Int)) (.int (3 : Nat))))] = _
    rw [e3]
  have w : Word a b c := by
    split at hw
    · exact hw.w
    · exact hw.w
  have oa := ofL_len a
  have ob := ofL_len b
  have oc := ofL_len c
  have la := w.la.le
  have lb := w.lb.le
  have lc := w.lc.le
  have js3 : True → (ofL a).length + ((ofL b).length + ((ofL c).length + 0)) + 3 * 1 ≤ 16777216 := fun _ => by omega
  have js4 : True → (ofL a).length + ((ofL b).length + ((ofL c).length + (1 + 0))) + 4 * 1 ≤ 16777216 := fun _ => by omega
  have js2 : True → (ofL a).length + ((ofL b).length + 0) + 2 * 1 ≤ 16777216 := fun _ => by omega
  have jn3 : Txt.join "." [ofL a, ofL b, ofL c] = ofL (TL.joinL [46] [a, b, c]) := join_S 46 [a, b, c]
  have jn4 : Txt.join "." [ofL a, ofL b, ofL c, "0"] = ofL (TL.joinL [46] [a, b, c, [48]]) := join_S 46 [a, b, c, [48]]
  have jn2 : Txt.join "." [ofL a, ofL b] = ofL (TL.joinL [46] [a, b]) := join_S 46 [a, b]
  have tail : ∀ (N : List Nat) (d4 : D), Bx (m + 4 + 1 + 1 + 1) d4 → (if bad = 4 then BadN N else N = nameT a b c) → N.length ≤ 200 → cB sd_l_take { nx := fun e => R (.vl .non) (outs 2 e), rt := fun r e => R r (outs 2 e) } [.own true d4, .val (.int (bad : Int)), .val (.lst [strD a, strD b, strD c]), .val (strD f), .val (strD l), .val (strD N), .no] :=
    fun N d4 B4 hn ln => cB_ok B4 (by omega) (by omega) b9 ⟨hw, hf, hl, hn, ln⟩ fun line due d' h1 h2 h3 h4 => fin line due d' h1 h2 h3 (h4.mono (by omega))
  k_allIn
  refine an_i (js3 trivial) ?_
  rw [jn3]
  k_allIn
  refine ite_i (fun c4 => ?_) (fun c4 => ?_)
  · have c4 : deq (.int (bad : Int)) (.int (4 : Nat)) = true := c4
    rw [e4, decide_eq_true_eq] at c4
    k_allIn
    refine an_i (js4 trivial) ?_
    rw [jn4]
    k_allIn
    refine an_i (js2 trivial) ?_
    rw [jn2]
    k_allIn
    refine take_i B3 (by omega) (by omega) (by omega) rfl fun t d4 t0 t1 B4 => ?_
    have : t = 0 ∨ t = 1 ∨ t = 2 ∨ t = 3 := by omega
    rcases this with rfl | rfl | rfl | rfl
    · refine ex_i rfl ?_
      refine an_i (by trivial) ?_
      exact tail (TL.joinL [46] [a, b, c, [48]]) d4 B4 (by rw [if_pos c4]; exact badN_0 w) (j4_len w (loose_of (by decide)))
    · refine ex_i rfl ?_
      refine an_i (by trivial) ?_
      exact tail (TL.joinL [46] [a, b]) d4 B4 (by rw [if_pos c4]; exact badN_1 w) (j2_len w)
    · refine ex_i rfl ?_
      refine an_i (by trivial) ?_
      exact tail TOP d4 B4 (by rw [if_pos c4]; exact badN_2) (by decide)
    · refine ex_i rfl ?_
      refine an_i (by trivial) ?_
      exact tail a d4 B4 (by rw [if_pos c4]; exact badN_3 w) (by omega)
  · have c4 : ¬ deq (.int (bad : Int)) (.int (4 : Nat)) = true := c4
    rw [e4, decide_eq_true_eq] at c4
    exact tail (nameT a b c) d3 (B3.mono (by omega)) (by rw [if_neg c4]) (j3_len w)
end
end Law

set_option Elab.async false
set_option linter.all false
set_option maxRecDepth 100000
set_option maxHeartbeats 4000000
set_option autoImplicit false
namespace Law
open PySem L2 DL
section
local macro_rules | `(tactic| k_upd) => `(tactic| (first | exact trivial | exact rfl | ((try dsimp only); first | assumption | exact fits62 (by omega) (by omega) | exact cmul_s (by omega) (by omega) | exact cpow_s (by omega) (by omega) (by omega) | exact And.intro (by omega) (clog_s (by omega)) | omega | (simp only [List.length_append, List.length_cons, List.length_nil, List.length_map]; omega) | exact Nat.le_of_ble_eq_true rfl | decide)))
local macro_rules | `(tactic| k_memK) => `(tactic| first | (refine an_i ?_ ?_; focus k_upd) | refine ex_i rfl ?_ | refine ite_t rfl ?_ | refine ite_f Bool.false_ne_true ?_)
local macro_rules | `(tactic| k_allIn) => `(tactic| repeat k_memK)

set_option pp.deepTerms false
set_option pp.maxSteps 1500
def tT (sd_edit_in : DSpec) (sd_l_take : DSpec) (sd_l_add : DSpec) (sd_l_cut : DSpec) : DStm := mSeq (mUn 2 (gsCons (gN 5) (gsCons (gN 6) (gsNil))) (mIf (mB (mOp2 aEq (mCall sd_l_take [] (mcCons (mVar 2) (mcCons (mC (.int 2)) (mcNil)))) (mC (.int 0)))) (mCall sd_l_add [] (mcCons (mVar 2) (mcCons (mVar 4) (mcNil)))) (mCall sd_l_cut [] (mcCons (mVar 2) (mcCons (mVar 4) (mcNil)))))) (mSeq (mSet 7 (mCall sd_edit_in [] (mcCons (mVar 5) (mcNil)))) (mIfS (mOrT (mB (mOp2 aNe (mFn aReprA (maCons (mVar 7) (maNil))) (mFn aReprA (maCons (mVar 6) (maNil))))) (mB (mOp2 aNe (mFn aReprA (maCons (mCallK sd_edit_in (arrN 0 1 [0]) mcNil (mcCons (mVar 5) (mcNil))) (maNil))) (mFn aReprA (maCons (mVar 6) (maNil)))))) (mRet (mC (.bl false))) (mSkip)))
def tU (sd_edit_in : DSpec) : DStm := mSeq (mSet 7 (mCall sd_edit_in [] (mcCons (mVar 5) (mcNil)))) (mIfS (mOrT (mB (mOp2 aNe (mFn aReprA (maCons (mVar 7) (maNil))) (mFn aReprA (maCons (mVar 6) (maNil))))) (mB (mOp2 aNe (mFn aReprA (maCons (mCallK sd_edit_in (arrN 0 1 [0]) mcNil (mcCons (mVar 5) (mcNil))) (maNil))) (mFn aReprA (maCons (mVar 6) (maNil)))))) (mRet (mC (.bl false))) (mSkip))
def tF (sd_edit_in : DSpec) : DStm := mFor (mIt (mLst (mCons (mC .non) (mCons (mC (.int 7)) (mCons (mC (.bl true)) (mCons (mC (.str "")) (mCons (mC (.str "add")) (mCons (mC (.str "cut")) (mCons (mC (.str "hello")) (mCons (mLst (mCons (mC (.str "add 1 top =x")) (mNil))) (mCons (mDNew) (mCons (mTup (mCons (mC (.str "add")) (mCons (mC (.int 1)) (mCons (mTup (mNil)) (mCons (mC (.str "x")) (mNil)))))) (mCons (mC (.str "add 1 top =\n")) (mNil)))))))))))))) (gN 8) (mIfS (mB (mOp2 aIsN (mCall sd_edit_in [] (mcCons (mVar 8) (mcNil))) (mC .non))) (mRet (mC (.bl false))) (mSkip))

theorem deq_rfl (s : Str) : deq (.str s) (.str s) = true := by rw [deq_str]; exact beq_self_eq_true _
theorem non_of {d : D} (h : d.isNon = true) : d = .non := by cases d <;> first | rfl | cases h
abbrev envL (ns : List Int) (j i : Nat) (d : D) (bad : Nat) (s5 s6 s7 s8 : Slot) : List Slot := [.val (.scr ns), .val (.int (j : Int)), .own false d, .val (.int (i : Int)), .val (.int (bad : Int)), s5, s6, s7, s8]
theorem tU_ok {P : Post} {ns : List Int} {j i : Nat} {d : D} {bad : Nat} {line : List Nat} {s7 s8 : Slot} (ll : line.length ≤ 1000) (rp : RepOk (editD (.str (ofL line)))) (p7 : Pl s7) (p8 : Pl s8)
    (fin : ∀ s7, Pl s7 → P.nx (envL ns j i d bad (.val (.str (ofL line))) (.val (editD (.str (ofL line)))) s7 s8)) :
    (tU sd_edit_in) P (envL ns j i d bad (.val (.str (ofL line))) (.val (editD (.str (ofL line)))) s7 s8) := by
  have lo : ∀ s, D.str (ofL line) = .str s → s.length ≤ 1000 := fun s e => by rw [← D.str.inj e, ofL_len]; exact ll
  have fin := fin (.val (editD (.str (ofL line)))) trivial
  unfold tU envL
  k_allIn
  refine ⟨.str (ofL line), rfl, trivial, lo, ?_⟩
  k_allIn
  refine ite_f (show ¬ (!deq (.str (reprA (editD (.str (ofL line))))) (.str (reprA (editD (.str (ofL line)))))) = true by rw [deq_rfl]; exact Bool.false_ne_true) ?_
  k_allIn
  refine ⟨.str (ofL line), rfl, trivial, lo, ?_⟩
  k_allIn
  refine ite_f (show ¬ (!deq (.str (reprA (editD (.str (ofL line))))) (.str (reprA (editD (.str (ofL line)))))) = true by rw [deq_rfl]; exact Bool.false_ne_true) ?_
  k_allIn
  exact fin
theorem tT_ok {P : Post} {ns : List Int} {j i : Nat} {m : Int} {d : D} {bad : Nat} {s5 s6 s7 s8 : Slot} (B : Bx m d) (h0 : 0 ≤ m) (h1 : m < 300000) (b9 : bad ≤ 9) (p5 : Pl s5) (p6 : Pl s6) (p7 : Pl s7) (p8 : Pl s8)
    (fin : ∀ d' s5 s6 s7, Bx (m + 13) d' → Pl s5 → Pl s6 → Pl s7 → P.nx (envL ns j i d' bad s5 s6 s7 s8)) :
    (tT sd_edit_in sd_l_take sd_l_add sd_l_cut) P (envL ns j i d bad s5 s6 s7 s8) := by
  have go : ∀ (d' : D) (line : List Nat), Bx (m + 13) d' → line.length ≤ 1000 → RepOk (editD (.str (ofL line))) → (tU sd_edit_in) P (envL ns j i d' bad (.val (.str (ofL line))) (.val (editD (.str (ofL line)))) s7 s8) :=
    fun d' line B' ll rp => tU_ok ll rp p7 p8 fun s7 p7 => fin d' _ _ s7 B' trivial trivial p7
  unfold tT envL
  k_allIn
  refine take_i B (by omega) (by omega) (by omega) rfl fun t d1 t0 t1 B1 => ?_
  k_allIn
  refine ite_i (fun c => ?_) (fun c => ?_)
  · refine an_i (by trivial) ?_
    k_allIn
    refine ⟨m + 1, d1, bad, rfl, b9, B1, by omega, by omega, fun line due d2 e ll rp B2 => ?_⟩
    subst e
    refine an_i rfl ?_
    refine an_i (by assumption) ?_
    refine an_i (by assumption) ?_
    exact go d2 line (B2.mono (by omega)) ll rp
  · refine an_i (by trivial) ?_
    k_allIn
    refine ⟨m + 1, d1, bad, rfl, b9, B1, by omega, by omega, fun line due d2 e ll rp B2 => ?_⟩
    subst e
    refine an_i rfl ?_
    refine an_i (by assumption) ?_
    refine an_i (by assumption) ?_
    exact go d2 line (B2.mono (by omega)) ll rp
def THINGS : List D := [.non, .int 7, .bl true, .str "", .str "add", .str "cut", .str "hello", .lst [.str "add 1 top =x"], .dic [], .tup [.str "add", .int 1, .tup [], .str "x"], .str "add 1 top =\n"]
theorem things_ok {x : D} (h : x ∈ THINGS) : plain x ∧ (∀ s, x = .str s → s.length ≤ 1000) ∧ editD x = .non := by
  simp only [THINGS, List.mem_cons, List.not_mem_nil, or_false] at h
  rcases h with rfl | rfl | rfl | rfl | rfl | rfl | rfl | rfl | rfl | rfl | rfl
  · exact ⟨trivial, fun s e => (nomatch e), rfl⟩
  · exact ⟨trivial, fun s e => (nomatch e), rfl⟩
  · exact ⟨trivial, fun s e => (nomatch e), rfl⟩
  · exact ⟨trivial, fun s e => by rw [← D.str.inj e]; decide, non_of (by decide +kernel)⟩
  · exact ⟨trivial, fun s e => by rw [← D.str.inj e]; decide, non_of (by decide +kernel)⟩
  · exact ⟨trivial, fun s e => by rw [← D.str.inj e]; decide, non_of (by decide +kernel)⟩
  · exact ⟨trivial, fun s e => by rw [← D.str.inj e]; decide, non_of (by decide +kernel)⟩
  · exact ⟨trivial, fun s e => (nomatch e), rfl⟩
  · exact ⟨trivial, fun s e => (nomatch e), rfl⟩
  · exact ⟨trivial, fun s e => (nomatch e), rfl⟩
  · exact ⟨trivial, fun s e => by rw [← D.str.inj e]; decide, non_of (by decide +kernel)⟩
theorem last_one : editD (.str "add 1 top =x") = .tup [.str "add", .int 1, .tup [], .str "x"] := by
  have h := add_good (top := true) (a := []) (b := []) (c := []) (k := []) (s := [49]) (sg := [120]) (sr_ok (by decide)) good_top (by decide) (by decide) (by decide)
  exact h
theorem last_two : editD (.str "add 1 top x") = .non := non_of (by decide +kernel)
theorem rep_last : RepOk (.tup [.str "add", .int 1, .tup [], .str "x"]) := Or.inl ⟨rfl, rfl, by decide⟩
theorem tF_ok {P : Post} {ns : List Int} {s1 s2 s3 s4 s5 s6 s7 s8 : Slot} (p1 : Pl s1) (p2 : Pl s2) (p3 : Pl s3) (p4 : Pl s4) (p5 : Pl s5) (p6 : Pl s6) (p7 : Pl s7) (p8 : Pl s8)
    (fin : ∀ s8, Pl s8 → P.nx [.val (.scr ns), s1, s2, s3, s4, s5, s6, s7, s8]) : (tF sd_edit_in) P [.val (.scr ns), s1, s2, s3, s4, s5, s6, s7, s8] := by
  unfold tF
  k_allIn
  refine forI_inv (fun j env => ∃ s8, Pl s8 ∧ env = [.val (.scr ns), s1, s2, s3, s4, s5, s6, s7, s8]) ⟨s8, p8, rfl⟩ (fun _ _ _ => trivial) ?_ ?_
  · rintro j x env hx ⟨s8, p8, rfl⟩ N hN
    obtain ⟨q1, q2, q3⟩ := things_ok (show x ∈ THINGS from List.mem_of_getElem? hx)
    k_allIn
    refine ⟨x, rfl, q1, q2, ?_⟩
    rw [q3]
    k_allIn
    exact hN _ ⟨.val x, trivial, rfl⟩
  · rintro env ⟨s8, p8, rfl⟩
    exact fin s8 p8
def sd_law : DSpec := fun args R => ∃ ns : List Int, args = [.val (.scr ns)] ∧ ns.length ≤ 63 ∧ R (.vl (.bl true)) [.no]
theorem len_law : ∀ args R, sd_law args R → args.length = 1 := by rintro args R ⟨ns, rfl, _⟩; rfl
theorem sp_law : ∀ args R, sd_law args R → m_law sd_edit_in sd_l_cell sd_l_box sd_l_take sd_l_add sd_l_cut { nx := fun e => R (.vl .non) (outs 1 e), rt := fun r e => R r (outs 1 e) } (startE 9 args) := by
  rintro args R ⟨ns, rfl, hns, h⟩
  k_allIn
  refine forI_inv (fun j env => ∃ s1 s2 s3 s4 s5 s6 s7 s8 : Slot, Pl s1 ∧ Pl s2 ∧ Pl s3 ∧ Pl s4 ∧ Pl s5 ∧ Pl s6 ∧ Pl s7 ∧ Pl s8 ∧ env = [.val (.scr ns), s1, s2, s3, s4, s5, s6, s7, s8])
    ⟨.no, .no, .no, .no, .no, .no, .no, .no, trivial, trivial, trivial, trivial, trivial, trivial, trivial, trivial, rfl⟩ (fun _ _ _ => trivial) ?_ ?_
  · rintro j x env hx ⟨s1, s2, s3, s4, s5, s6, s7, s8, p1, p2, p3, p4, p5, p6, p7, p8, rfl⟩ N hN
    obtain ⟨hj, rfl⟩ := rangeD_get hx
    rw [Int.zero_add]
    have hj6 : j < 1000000 := by
      refine Nat.lt_of_lt_of_le hj ?_
      have : (if (if ((ns.length : Nat) : Int) < 8 then ((ns.length : Nat) : Int) else 8) > 2 then (if ((ns.length : Nat) : Int) < 8 then ((ns.length : Nat) : Int) else 8) else (2 : Int)).toNat ≤ 1000000 := by
        split <;> split <;> omega
      exact this
    k_allIn
    refine ⟨ns, j, rfl, hj6, fun c => ?_⟩
    k_allIn
    refine ⟨c, rfl, fun d B0 => ?_⟩
    k_allIn
    refine forI_inv (fun i env => i ≤ 12 ∧ ∃ d s3 s4 s5 s6 s7, Bx (16 * (i : Int)) d ∧ Pl s3 ∧ Pl s4 ∧ Pl s5 ∧ Pl s6 ∧ Pl s7 ∧ env = [.val (.scr ns), .val (.int (j : Int)), .own false d, s3, s4, s5, s6, s7, s8])
      ⟨Nat.zero_le _, d, s3, s4, s5, s6, s7, by simpa using B0, p3, p4, p5, p6, p7, rfl⟩ (fun _ _ _ => trivial) ?_ ?_
    · rintro i x env hx ⟨_, d, s3, s4, s5, s6, s7, B, p3, p4, p5, p6, p7, rfl⟩ N2 hN2
      obtain ⟨hi, rfl⟩ := rangeD_get hx
      have hi12 : i < 12 := hi
      rw [Int.zero_add]
      have tail : ∀ (d2 : D) (bad : Nat), Bx (16 * (i : Int) + 1 + 1) d2 → bad ≤ 9 → (tT sd_edit_in sd_l_take sd_l_add sd_l_cut) { nx := N2, ct := N2, bk := N2, rt := fun r e => R r (outs 1 e) } (envL ns j i d2 bad s5 s6 s7 s8) :=
        fun d2 bad B2 b9 => tT_ok B2 (by omega) (by omega) b9 p5 p6 p7 p8 fun d' s5 s6 s7 B' q5 q6 q7 => hN2 _ ⟨by omega, d', .val (.int (i : Int)), .val (.int (bad : Int)), s5, s6, s7, B'.mono (by omega), trivial, trivial, q5, q6, q7, rfl⟩
      k_allIn
      refine take_i B (by omega) (by omega) (by omega) rfl fun t d1 t0 t1 B1 => ?_
      k_allIn
      refine take_i B1 (by omega) (by omega) (by omega) rfl fun u d2 u0 u1 B2 => ?_
      obtain ⟨tn, rfl⟩ : ∃ tn : Nat, t = (tn : Int) := ⟨t.toNat, by omega⟩
      have : u = 0 ∨ u = 1 := by omega
      rcases this with rfl | rfl
      · refine ex_i rfl ?_
        refine an_i (by assumption) ?_
        exact tail d2 0 B2 (by omega)
      · have t := tail d2 (1 + tn) B2 (by omega)
        unfold envL at t
        rw [show (((1 + tn : Nat)) : Int) = 1 + (tn : Int) by omega] at t
        refine ex_i rfl ?_
        refine an_i (by assumption) ?_
        exact t
    · rintro env ⟨_, d, s3, s4, s5, s6, s7, B, p3, p4, p5, p6, p7, rfl⟩
      exact tF_ok trivial trivial p3 p4 p5 p6 p7 p8 fun s8 p8 => hN _ ⟨.val (.int (j : Int)), .own false d, s3, s4, s5, s6, s7, s8, trivial, trivial, p3, p4, p5, p6, p7, p8, rfl⟩
  · rintro env ⟨s1, s2, s3, s4, s5, s6, s7, s8, p1, p2, p3, p4, p5, p6, p7, p8, rfl⟩
    k_allIn
    refine ⟨.str "add 1 top =x", rfl, trivial, (fun s e => by rw [← D.str.inj e]; decide), ?_⟩
    rw [last_one]
    refine an_i rep_last ?_
    k_allIn
    refine an_i rep_last ?_
    k_allIn
    refine ite_t (show deq (.str (reprA (.tup [.str "add", .int 1, .tup [], .str "x"]))) (.str (reprA (.tup [.str "add", .int 1, .tup [], .str "x"]))) = true from deq_rfl _) ?_
    k_allIn
    refine ⟨.str "add 1 top x", rfl, trivial, (fun s e => by rw [← D.str.inj e]; decide), ?_⟩
    rw [last_two]
    k_allIn
    exact h
theorem law_true : ∀ ns : List Int, ns.length ≤ 63 → sd_law [.val (.scr ns)] fun r _ => r = .vl (.bl true) := fun ns h => ⟨ns, rfl, h, rfl⟩
end
end Law

set_option autoImplicit false

set_option Elab.async false
set_option linter.all false
set_option maxRecDepth 100000
set_option maxHeartbeats 4000000
set_option autoImplicit false
namespace Law
open PySem L2 DL

theorem all_mk {l : PySem.W.OpenLaw} {w : World} {K : PySem.W.Frag} {h : Heap} {mg : Str → Option Value} {fa : Addr} (X : K.In h) (G : h.Ns mainGlobals mg) (hfa : mg "law" = some (.ref fa))
    {f0 : Addr} {od0 an0 : Option Addr} {sl0 : Array (Option Value)} {oc0 kV0 dc0 pm0 cd0 ct0 : Value}
    {f1 : Addr} {od1 an1 : Option Addr} {sl1 : Array (Option Value)} {oc1 kV1 dc1 pm1 cd1 ct1 : Value}
    {f2 D2 : Addr} {od2 an2 : Option Addr} {sl2 : Array (Option Value)} {oc2 dc2 pm2 cd2 ct2 : Value}
    {f3 : Addr} {od3 an3 : Option Addr} {sl3 : Array (Option Value)} {oc3 kV3 dc3 pm3 cd3 ct3 : Value}
    {f4 : Addr} {od4 an4 : Option Addr} {sl4 : Array (Option Value)} {oc4 kV4 dc4 pm4 cd4 ct4 : Value}
    {f5 : Addr} {od5 an5 : Option Addr} {sl5 : Array (Option Value)} {oc5 kV5 dc5 pm5 cd5 ct5 : Value}
    {f6 : Addr} {od6 an6 : Option Addr} {sl6 : Array (Option Value)} {oc6 kV6 dc6 pm6 cd6 ct6 : Value}
    {f7 : Addr} {od7 an7 : Option Addr} {sl7 : Array (Option Value)} {oc7 kV7 dc7 pm7 cd7 ct7 : Value}
    {f8 : Addr} {od8 an8 : Option Addr} {sl8 : Array (Option Value)} {oc8 kV8 dc8 pm8 cd8 ct8 : Value}
    {f9 : Addr} {od9 an9 : Option Addr} {sl9 : Array (Option Value)} {oc9 kV9 dc9 pm9 cd9 ct9 : Value}
    {f10 : Addr} {od10 an10 : Option Addr} {sl10 : Array (Option Value)} {oc10 kV10 dc10 pm10 cd10 ct10 : Value}
    {f11 : Addr} {od11 an11 : Option Addr} {sl11 : Array (Option Value)} {oc11 kV11 dc11 pm11 cd11 ct11 : Value}
    {f12 : Addr} {od12 an12 : Option Addr} {sl12 : Array (Option Value)} {oc12 kV12 dc12 pm12 cd12 ct12 : Value}
    {f13 : Addr} {od13 an13 : Option Addr} {sl13 : Array (Option Value)} {oc13 kV13 dc13 pm13 cd13 ct13 : Value}
    {f14 : Addr} {od14 an14 : Option Addr} {sl14 : Array (Option Value)} {oc14 kV14 dc14 pm14 cd14 ct14 : Value}
    {f15 : Addr} {od15 an15 : Option Addr} {sl15 : Array (Option Value)} {oc15 kV15 dc15 pm15 cd15 ct15 : Value}
    {f16 : Addr} {od16 an16 : Option Addr} {sl16 : Array (Option Value)} {oc16 kV16 dc16 pm16 cd16 ct16 : Value}
    {f17 : Addr} {od17 an17 : Option Addr} {sl17 : Array (Option Value)} {oc17 kV17 dc17 pm17 cd17 ct17 : Value}
    {f18 : Addr} {od18 an18 : Option Addr} {sl18 : Array (Option Value)} {oc18 kV18 dc18 pm18 cd18 ct18 : Value}
    
    (a0 : PySem.W.nsIn K mainGlobals "is_name" = some (some (.ref f0))) (l0 : K.lookup f0 = some ⟨oc0, od0, .func (PySem.W.fnOf "is_name" "is_name" (defArgs s_is_name) (defBody s_is_name) (defScope s_is_name) .none kV0 dc0 pm0 an0 cd0 ct0), sl0⟩) (c0 : PySem.W.codeIn K cd0 "is_name" = true) (k0 : PySem.W.keepIn K (.ref f0) = true)
    (a1 : PySem.W.nsIn K mainGlobals "is_text" = some (some (.ref f1))) (l1 : K.lookup f1 = some ⟨oc1, od1, .func (PySem.W.fnOf "is_text" "is_text" (defArgs s_is_text) (defBody s_is_text) (defScope s_is_text) .none kV1 dc1 pm1 an1 cd1 ct1), sl1⟩) (c1 : PySem.W.codeIn K cd1 "is_text" = true) (k1 : PySem.W.keepIn K (.ref f1) = true)
    (a2 : PySem.W.nsIn K mainGlobals "number_in" = some (some (.ref f2))) (l2 : K.lookup f2 = some ⟨oc2, od2, .func (PySem.W.fnOf "number_in" "number_in" (defArgs s_number_in) (defBody s_number_in) (defScope s_number_in) .none (.ref D2) dc2 pm2 an2 cd2 ct2), sl2⟩) (c2 : PySem.W.codeIn K cd2 "number_in" = true) (k2 : PySem.W.keepIn K (.ref f2) = true) (q2_low : ∃ u, PySem.W.nsIn K D2 "low" = some (some u) ∧ RelV (.int 0) u) (q2_high : ∃ u, PySem.W.nsIn K D2 "high" = some (some u) ∧ RelV (.int 999999) u)
    (a3 : PySem.W.nsIn K mainGlobals "words_in" = some (some (.ref f3))) (l3 : K.lookup f3 = some ⟨oc3, od3, .func (PySem.W.fnOf "words_in" "words_in" (defArgs s_words_in) (defBody s_words_in) (defScope s_words_in) .none kV3 dc3 pm3 an3 cd3 ct3), sl3⟩) (c3 : PySem.W.codeIn K cd3 "words_in" = true) (k3 : PySem.W.keepIn K (.ref f3) = true)
    (a4 : PySem.W.nsIn K mainGlobals "split_text" = some (some (.ref f4))) (l4 : K.lookup f4 = some ⟨oc4, od4, .func (PySem.W.fnOf "split_text" "split_text" (defArgs s_split_text) (defBody s_split_text) (defScope s_split_text) .none kV4 dc4 pm4 an4 cd4 ct4), sl4⟩) (c4 : PySem.W.codeIn K cd4 "split_text" = true) (k4 : PySem.W.keepIn K (.ref f4) = true)
    (a5 : PySem.W.nsIn K mainGlobals "word_id_in" = some (some (.ref f5))) (l5 : K.lookup f5 = some ⟨oc5, od5, .func (PySem.W.fnOf "word_id_in" "word_id_in" (defArgs s_word_id_in) (defBody s_word_id_in) (defScope s_word_id_in) .none kV5 dc5 pm5 an5 cd5 ct5), sl5⟩) (c5 : PySem.W.codeIn K cd5 "word_id_in" = true) (k5 : PySem.W.keepIn K (.ref f5) = true)
    (a6 : PySem.W.nsIn K mainGlobals "sign_id_in" = some (some (.ref f6))) (l6 : K.lookup f6 = some ⟨oc6, od6, .func (PySem.W.fnOf "sign_id_in" "sign_id_in" (defArgs s_sign_id_in) (defBody s_sign_id_in) (defScope s_sign_id_in) .none kV6 dc6 pm6 an6 cd6 ct6), sl6⟩) (c6 : PySem.W.codeIn K cd6 "sign_id_in" = true) (k6 : PySem.W.keepIn K (.ref f6) = true)
    (a7 : PySem.W.nsIn K mainGlobals "add_in" = some (some (.ref f7))) (l7 : K.lookup f7 = some ⟨oc7, od7, .func (PySem.W.fnOf "add_in" "add_in" (defArgs s_add_in) (defBody s_add_in) (defScope s_add_in) .none kV7 dc7 pm7 an7 cd7 ct7), sl7⟩) (c7 : PySem.W.codeIn K cd7 "add_in" = true) (k7 : PySem.W.keepIn K (.ref f7) = true)
    (a8 : PySem.W.nsIn K mainGlobals "cut_in" = some (some (.ref f8))) (l8 : K.lookup f8 = some ⟨oc8, od8, .func (PySem.W.fnOf "cut_in" "cut_in" (defArgs s_cut_in) (defBody s_cut_in) (defScope s_cut_in) .none kV8 dc8 pm8 an8 cd8 ct8), sl8⟩) (c8 : PySem.W.codeIn K cd8 "cut_in" = true) (k8 : PySem.W.keepIn K (.ref f8) = true)
    (a9 : PySem.W.nsIn K mainGlobals "edit_in" = some (some (.ref f9))) (l9 : K.lookup f9 = some ⟨oc9, od9, .func (PySem.W.fnOf "edit_in" "edit_in" (defArgs s_edit_in) (defBody s_edit_in) (defScope s_edit_in) .none kV9 dc9 pm9 an9 cd9 ct9), sl9⟩) (c9 : PySem.W.codeIn K cd9 "edit_in" = true) (k9 : PySem.W.keepIn K (.ref f9) = true)
    (a10 : PySem.W.nsIn K mainGlobals "_law_cell" = some (some (.ref f10))) (l10 : K.lookup f10 = some ⟨oc10, od10, .func (PySem.W.fnOf "_law_cell" "_law_cell" (defArgs s_l_cell) (defBody s_l_cell) (defScope s_l_cell) .none kV10 dc10 pm10 an10 cd10 ct10), sl10⟩) (c10 : PySem.W.codeIn K cd10 "_law_cell" = true) (k10 : PySem.W.keepIn K (.ref f10) = true)
    (a11 : PySem.W.nsIn K mainGlobals "_law_box" = some (some (.ref f11))) (l11 : K.lookup f11 = some ⟨oc11, od11, .func (PySem.W.fnOf "_law_box" "_law_box" (defArgs s_l_box) (defBody s_l_box) (defScope s_l_box) .none kV11 dc11 pm11 an11 cd11 ct11), sl11⟩) (c11 : PySem.W.codeIn K cd11 "_law_box" = true) (k11 : PySem.W.keepIn K (.ref f11) = true)
    (a12 : PySem.W.nsIn K mainGlobals "_law_take" = some (some (.ref f12))) (l12 : K.lookup f12 = some ⟨oc12, od12, .func (PySem.W.fnOf "_law_take" "_law_take" (defArgs s_l_take) (defBody s_l_take) (defScope s_l_take) .none kV12 dc12 pm12 an12 cd12 ct12), sl12⟩) (c12 : PySem.W.codeIn K cd12 "_law_take" = true) (k12 : PySem.W.keepIn K (.ref f12) = true)
    (a13 : PySem.W.nsIn K mainGlobals "_law_pick" = some (some (.ref f13))) (l13 : K.lookup f13 = some ⟨oc13, od13, .func (PySem.W.fnOf "_law_pick" "_law_pick" (defArgs s_l_pick) (defBody s_l_pick) (defScope s_l_pick) .none kV13 dc13 pm13 an13 cd13 ct13), sl13⟩) (c13 : PySem.W.codeIn K cd13 "_law_pick" = true) (k13 : PySem.W.keepIn K (.ref f13) = true)
    (a14 : PySem.W.nsIn K mainGlobals "_law_number" = some (some (.ref f14))) (l14 : K.lookup f14 = some ⟨oc14, od14, .func (PySem.W.fnOf "_law_number" "_law_number" (defArgs s_l_number) (defBody s_l_number) (defScope s_l_number) .none kV14 dc14 pm14 an14 cd14 ct14), sl14⟩) (c14 : PySem.W.codeIn K cd14 "_law_number" = true) (k14 : PySem.W.keepIn K (.ref f14) = true)
    (a15 : PySem.W.nsIn K mainGlobals "_law_word" = some (some (.ref f15))) (l15 : K.lookup f15 = some ⟨oc15, od15, .func (PySem.W.fnOf "_law_word" "_law_word" (defArgs s_l_word) (defBody s_l_word) (defScope s_l_word) .none kV15 dc15 pm15 an15 cd15 ct15), sl15⟩) (c15 : PySem.W.codeIn K cd15 "_law_word" = true) (k15 : PySem.W.keepIn K (.ref f15) = true)
    (a16 : PySem.W.nsIn K mainGlobals "_law_add" = some (some (.ref f16))) (l16 : K.lookup f16 = some ⟨oc16, od16, .func (PySem.W.fnOf "_law_add" "_law_add" (defArgs s_l_add) (defBody s_l_add) (defScope s_l_add) .none kV16 dc16 pm16 an16 cd16 ct16), sl16⟩) (c16 : PySem.W.codeIn K cd16 "_law_add" = true) (k16 : PySem.W.keepIn K (.ref f16) = true)
    (a17 : PySem.W.nsIn K mainGlobals "_law_cut" = some (some (.ref f17))) (l17 : K.lookup f17 = some ⟨oc17, od17, .func (PySem.W.fnOf "_law_cut" "_law_cut" (defArgs s_l_cut) (defBody s_l_cut) (defScope s_l_cut) .none kV17 dc17 pm17 an17 cd17 ct17), sl17⟩) (c17 : PySem.W.codeIn K cd17 "_law_cut" = true) (k17 : PySem.W.keepIn K (.ref f17) = true)
    (a18 : PySem.W.nsIn K mainGlobals "law" = some (some (.ref f18))) (l18 : K.lookup f18 = some ⟨oc18, od18, .func (PySem.W.fnOf "law" "law" (defArgs s_law) (defBody s_law) (defScope s_law) .none kV18 dc18 pm18 an18 cd18 ct18), sl18⟩) (c18 : PySem.W.codeIn K cd18 "law" = true) (k18 : PySem.W.keepIn K (.ref f18) = true)
    (z_all : PySem.W.nsIn K mainGlobals "all" = some none) (z_int : PySem.W.nsIn K mainGlobals "int" = some none) (z_isinstance : PySem.W.nsIn K mainGlobals "isinstance" = some none) (z_len : PySem.W.nsIn K mainGlobals "len" = some none) (z_max : PySem.W.nsIn K mainGlobals "max" = some none) (z_min : PySem.W.nsIn K mainGlobals "min" = some none) (z_ord : PySem.W.nsIn K mainGlobals "ord" = some none) (z_range : PySem.W.nsIn K mainGlobals "range" = some none) (z_repr : PySem.W.nsIn K mainGlobals "repr" = some none) (z_str : PySem.W.nsIn K mainGlobals "str" = some none)
    {u_ADD : Value} (y_ADD : PySem.W.nsIn K mainGlobals "ADD" = some (some u_ADD)) (r_ADD : RelV (.str "add") u_ADD) {u_CUT : Value} (y_CUT : PySem.W.nsIn K mainGlobals "CUT" = some (some u_CUT)) (r_CUT : RelV (.str "cut") u_CUT) {u_EQUAL : Value} (y_EQUAL : PySem.W.nsIn K mainGlobals "EQUAL" = some (some u_EQUAL)) (r_EQUAL : RelV (.str "=") u_EQUAL) {u_FIGURES : Value} (y_FIGURES : PySem.W.nsIn K mainGlobals "FIGURES" = some (some u_FIGURES)) (r_FIGURES : RelV (.str "0123456789") u_FIGURES) {u_LETTERS : Value} (y_LETTERS : PySem.W.nsIn K mainGlobals "LETTERS" = some (some u_LETTERS)) (r_LETTERS : RelV (.str "abcdefghijklmnopqrstuvwxyz") u_LETTERS) {u_MOST_COUNT : Value} (y_MOST_COUNT : PySem.W.nsIn K mainGlobals "MOST_COUNT" = some (some u_MOST_COUNT)) (r_MOST_COUNT : RelV (.int 999999999999999999999999999999) u_MOST_COUNT) {u_MOST_NUMBER : Value} (y_MOST_NUMBER : PySem.W.nsIn K mainGlobals "MOST_NUMBER" = some (some u_MOST_NUMBER)) (r_MOST_NUMBER : RelV (.int 999999) u_MOST_NUMBER) {u_MOST_SIGNS : Value} (y_MOST_SIGNS : PySem.W.nsIn K mainGlobals "MOST_SIGNS" = some (some u_MOST_SIGNS)) (r_MOST_SIGNS : RelV (.int 60) u_MOST_SIGNS) {u_PER_CENT : Value} (y_PER_CENT : PySem.W.nsIn K mainGlobals "PER_CENT" = some (some u_PER_CENT)) (r_PER_CENT : RelV (.int 37) u_PER_CENT) {u_TOP : Value} (y_TOP : PySem.W.nsIn K mainGlobals "TOP" = some (some u_TOP)) (r_TOP : RelV (.str "top") u_TOP)
     :
    ∃ fd : FuncData, (∀ (s : Shared) (v : Value), BindsTo s fd ⟨[v], []⟩ [("script", v)]) ∧ ∀ base : Heap, K.In base → base.Ns mainGlobals mg → FnG l.prog w K mg base CX0 6 fa fd ["script"] (spD K sd_law) := by
  have e := hfa.symm.trans (PySem.W.mg_of X G a18)
  cases e
  have T : Txt K mg (fun _ => .none) := ⟨PySem.W.mg_none_of X G z_all, PySem.W.mg_none_of X G z_int, PySem.W.mg_none_of X G z_isinstance, PySem.W.mg_none_of X G z_len, PySem.W.mg_none_of X G z_max, PySem.W.mg_none_of X G z_min, PySem.W.mg_none_of X G z_ord, PySem.W.mg_none_of X G z_range, PySem.W.mg_none_of X G z_repr, PySem.W.mg_none_of X G z_str, ⟨_, PySem.W.mg_of X G y_ADD, r_ADD⟩, ⟨_, PySem.W.mg_of X G y_CUT, r_CUT⟩, ⟨_, PySem.W.mg_of X G y_EQUAL, r_EQUAL⟩, ⟨_, PySem.W.mg_of X G y_FIGURES, r_FIGURES⟩, ⟨_, PySem.W.mg_of X G y_LETTERS, r_LETTERS⟩, ⟨_, PySem.W.mg_of X G y_MOST_COUNT, r_MOST_COUNT⟩, ⟨_, PySem.W.mg_of X G y_MOST_NUMBER, r_MOST_NUMBER⟩, ⟨_, PySem.W.mg_of X G y_MOST_SIGNS, r_MOST_SIGNS⟩, ⟨_, PySem.W.mg_of X G y_PER_CENT, r_PER_CENT⟩, ⟨_, PySem.W.mg_of X G y_TOP, r_TOP⟩⟩
  refine ⟨PySem.W.fnOf "law" "law" (defArgs s_law) (defBody s_law) (defScope s_law) .none kV18 dc18 pm18 an18 cd18 ct18, fun s v => .of_eq rfl, fun base _ _ => ?_⟩
  have c_is_name : Cal l.prog w K mg base "is_name" s_is_name 1 ["thing"] sd_is_name := k_is_name T  (fun_mk (st := s_is_name) l0 c0 k0) (PySem.W.mg_of X G a0) len_is_name sp_is_name
  have c_is_text : Cal l.prog w K mg base "is_text" s_is_text 1 ["thing"] sd_is_text := k_is_text T  (fun_mk (st := s_is_text) l1 c1 k1) (PySem.W.mg_of X G a1) len_is_text sp_is_text
  have c_number_in : CalD l.prog w K mg base "number_in" s_number_in 1 ["thing", "low", "high"] [("low", V.int 0), ("high", V.int 999999)] sd_number_in := k_number_in T  (fund_mk (st := s_number_in) (dfs := [("low", V.int 0), ("high", V.int 999999)]) l2 c2 k2 (List.forall_mem_cons.mpr ⟨q2_low, List.forall_mem_cons.mpr ⟨q2_high, (fun _ h => nomatch h)⟩⟩)) (PySem.W.mg_of X G a2) len_number_in sp_number_in
  have c_words_in : Cal l.prog w K mg base "words_in" s_words_in 1 ["thing"] sd_words_in := k_words_in T  (fun_mk (st := s_words_in) l3 c3 k3) (PySem.W.mg_of X G a3) len_words_in sp_words_in
  have c_split_text : Cal l.prog w K mg base "split_text" s_split_text 2 ["text"] sd_split_text := k_split_text T c_words_in (fun_mk (st := s_split_text) l4 c4 k4) (PySem.W.mg_of X G a4) len_split_text sp_split_text
  have c_word_id_in : Cal l.prog w K mg base "word_id_in" s_word_id_in 2 ["parts"] sd_word_id_in := k_word_id_in T c_is_name c_number_in (fun_mk (st := s_word_id_in) l5 c5 k5) (PySem.W.mg_of X G a5) len_word_id_in sp_word_id_in
  have c_sign_id_in : Cal l.prog w K mg base "sign_id_in" s_sign_id_in 3 ["text"] sd_sign_id_in := k_sign_id_in T c_number_in c_word_id_in (fun_mk (st := s_sign_id_in) l6 c6 k6) (PySem.W.mg_of X G a6) len_sign_id_in sp_sign_id_in
  have c_add_in : Cal l.prog w K mg base "add_in" s_add_in 4 ["words", "signs"] sd_add_in := k_add_in T c_number_in c_sign_id_in (fun_mk (st := s_add_in) l7 c7 k7) (PySem.W.mg_of X G a7) len_add_in sp_add_in
  have c_cut_in : Cal l.prog w K mg base "cut_in" s_cut_in 3 ["words"] sd_cut_in := k_cut_in T c_number_in c_word_id_in (fun_mk (st := s_cut_in) l8 c8 k8) (PySem.W.mg_of X G a8) len_cut_in sp_cut_in
  have c_edit_in : Cal l.prog w K mg base "edit_in" s_edit_in 5 ["thing"] sd_edit_in := k_edit_in T c_is_text c_split_text c_add_in c_cut_in (fun_mk (st := s_edit_in) l9 c9 k9) (PySem.W.mg_of X G a9) len_edit_in sp_edit_in
  have c_l_cell : Cal l.prog w K mg base "_law_cell" s_l_cell 1 ["script", "k"] sd_l_cell := k_l_cell T  (fun_mk (st := s_l_cell) l10 c10 k10) (PySem.W.mg_of X G a10) len_l_cell sp_l_cell
  have c_l_box : Cal l.prog w K mg base "_law_box" s_l_box 1 ["cell"] sd_l_box := k_l_box T  (fun_mk (st := s_l_box) l11 c11 k11) (PySem.W.mg_of X G a11) len_l_box sp_l_box
  have c_l_take : Cal l.prog w K mg base "_law_take" s_l_take 1 ["box", "many"] sd_l_take := k_l_take T  (fun_mk (st := s_l_take) l12 c12 k12) (PySem.W.mg_of X G a12) len_l_take sp_l_take
  have c_l_pick : Cal l.prog w K mg base "_law_pick" s_l_pick 2 ["box", "right", "wrong", "spoilt"] sd_l_pick := k_l_pick T c_l_take (fun_mk (st := s_l_pick) l13 c13 k13) (PySem.W.mg_of X G a13) len_l_pick sp_l_pick
  have c_l_number : Cal l.prog w K mg base "_law_number" s_l_number 3 ["box", "low", "spoilt"] sd_l_number := k_l_number T c_l_pick (fun_mk (st := s_l_number) l14 c14 k14) (PySem.W.mg_of X G a14) len_l_number sp_l_number
  have c_l_word : Cal l.prog w K mg base "_law_word" s_l_word 3 ["box", "spoilt"] sd_l_word := k_l_word T c_l_take c_l_pick (fun_mk (st := s_l_word) l15 c15 k15) (PySem.W.mg_of X G a15) len_l_word sp_l_word
  have c_l_add : Cal l.prog w K mg base "_law_add" s_l_add 4 ["box", "bad"] sd_l_add := k_l_add T c_l_take c_l_pick c_l_number c_l_word (fun_mk (st := s_l_add) l16 c16 k16) (PySem.W.mg_of X G a16) len_l_add sp_l_add
  have c_l_cut : Cal l.prog w K mg base "_law_cut" s_l_cut 4 ["box", "bad"] sd_l_cut := k_l_cut T c_l_take c_l_number c_l_word (fun_mk (st := s_l_cut) l17 c17 k17) (PySem.W.mg_of X G a17) len_l_cut sp_l_cut
  exact FunG.ok (FunG.of (fun_mk (st := s_law) l18 c18 k18)) sc_law len_law (fun cdv A outer s H E hgd hr => d_law T c_edit_in c_l_cell c_l_box c_l_take c_l_add c_l_cut hgd hr) sp_law

theorem walk {l : PySem.W.OpenLaw} {q : Program} {loose : List Str} {XP : (Str → Option Value) → Heap → Prop} {YP : World → Heap → Prop} {d : DefRec} {K : Params → PySem.W.Frag} (hn : l.most = some 63) (hdf : d.params.defaults = [])
    (hY : ∀ (w : World) (h : Heap), YP w h → (K w.params).In h)
    (F : ∀ (w : World) (mg : Str → Option Value) (fa : Addr) (h : Heap), (K w.params).In h → h.Ns mainGlobals mg → mg d.name = some (.ref fa) →
      ∃ fd : FuncData, (∀ (s : Shared) (u : Value), BindsTo s fd ⟨[u], []⟩ [("script", u)]) ∧ ∀ base : Heap, (K w.params).In base → base.Ns mainGlobals mg → FnG l.prog w (K w.params) mg base CX0 6 fa fd ["script"] (spD (K w.params) sd_law)) :
    PySem.W.WalkO q loose XP YP l.row.toRowW d [] (fun f vs => PySem.call f vs) :=
  walkG (n := 63) hn (by decide) hdf ⟨rfl, by decide, by decide⟩ hY F law_true
end Law
open PySem PySem.W PyProof.Rows
set_option maxRecDepth 100000 in
set_option maxHeartbeats 0 in
theorem PySem.Challenge.cw_peershold_k91_edits_read_holds : PySem.Challenge.rw_peershold_k91_edits_read.Holds := by
  w_on; o_law; k_head; (case hw => w_witness2)
  k_fill
  refine Law.walk (l := PySem.Challenge.rw_peershold_k91_edits_read) rfl rfl (fun w h Y => PySem.W.kIn_of Y) ?F
  case F =>
    intro w mg fa h KX G hmg
    refine' Law.all_mk KX G hmg ?a0 ?l0 ?c0 ?k0 ?a1 ?l1 ?c1 ?k1 ?a2 ?l2 ?c2 ?k2 ?q2_low ?q2_high ?a3 ?l3 ?c3 ?k3 ?a4 ?l4 ?c4 ?k4 ?a5 ?l5 ?c5 ?k5 ?a6 ?l6 ?c6 ?k6 ?a7 ?l7 ?c7 ?k7 ?a8 ?l8 ?c8 ?k8 ?a9 ?l9 ?c9 ?k9 ?a10 ?l10 ?c10 ?k10 ?a11 ?l11 ?c11 ?k11 ?a12 ?l12 ?c12 ?k12 ?a13 ?l13 ?c13 ?k13 ?a14 ?l14 ?c14 ?k14 ?a15 ?l15 ?c15 ?k15 ?a16 ?l16 ?c16 ?k16 ?a17 ?l17 ?c17 ?k17 ?a18 ?l18 ?c18 ?k18 ?z_all ?z_int ?z_isinstance ?z_len ?z_max ?z_min ?z_ord ?z_range ?z_repr ?z_str ?y_ADD ?r_ADD ?y_CUT ?r_CUT ?y_EQUAL ?r_EQUAL ?y_FIGURES ?r_FIGURES ?y_LETTERS ?r_LETTERS ?y_MOST_COUNT ?r_MOST_COUNT ?y_MOST_NUMBER ?r_MOST_NUMBER ?y_MOST_SIGNS ?r_MOST_SIGNS ?y_PER_CENT ?r_PER_CENT ?y_TOP ?r_TOP
    (case a0 => k_is); (case l0 => k_is); (case c0 => k_is); (case k0 => k_is); (case a1 => k_is); (case l1 => k_is); (case c1 => k_is); (case k1 => k_is); (case a2 => k_is); (case l2 => k_is); (case c2 => k_is); (case k2 => k_is); (case q2_low => exact ⟨_, (by k_is), ⟨_, rfl⟩⟩); (case q2_high => exact ⟨_, (by k_is), ⟨_, rfl⟩⟩); (case a3 => k_is); (case l3 => k_is); (case c3 => k_is); (case k3 => k_is); (case a4 => k_is); (case l4 => k_is); (case c4 => k_is); (case k4 => k_is); (case a5 => k_is); (case l5 => k_is); (case c5 => k_is); (case k5 => k_is); (case a6 => k_is); (case l6 => k_is); (case c6 => k_is); (case k6 => k_is); (case a7 => k_is); (case l7 => k_is); (case c7 => k_is); (case k7 => k_is); (case a8 => k_is); (case l8 => k_is); (case c8 => k_is); (case k8 => k_is); (case a9 => k_is); (case l9 => k_is); (case c9 => k_is); (case k9 => k_is); (case a10 => k_is); (case l10 => k_is); (case c10 => k_is); (case k10 => k_is); (case a11 => k_is); (case l11 => k_is); (case c11 => k_is); (case k11 => k_is); (case a12 => k_is); (case l12 => k_is); (case c12 => k_is); (case k12 => k_is); (case a13 => k_is); (case l13 => k_is); (case c13 => k_is); (case k13 => k_is); (case a14 => k_is); (case l14 => k_is); (case c14 => k_is); (case k14 => k_is); (case a15 => k_is); (case l15 => k_is); (case c15 => k_is); (case k15 => k_is); (case a16 => k_is); (case l16 => k_is); (case c16 => k_is); (case k16 => k_is); (case a17 => k_is); (case l17 => k_is); (case c17 => k_is); (case k17 => k_is); (case a18 => k_is); (case l18 => k_is); (case c18 => k_is); (case k18 => k_is); (case z_all => k_is); (case z_int => k_is); (case z_isinstance => k_is); (case z_len => k_is); (case z_max => k_is); (case z_min => k_is); (case z_ord => k_is); (case z_range => k_is); (case z_repr => k_is); (case z_str => k_is); (case y_ADD => k_is); (case r_ADD => exact ⟨_, rfl⟩); (case y_CUT => k_is); (case r_CUT => exact ⟨_, rfl⟩); (case y_EQUAL => k_is); (case r_EQUAL => exact ⟨_, rfl⟩); (case y_FIGURES => k_is); (case r_FIGURES => exact ⟨_, rfl⟩); (case y_LETTERS => k_is); (case r_LETTERS => exact ⟨_, rfl⟩); (case y_MOST_COUNT => k_is); (case r_MOST_COUNT => exact ⟨_, rfl⟩); (case y_MOST_NUMBER => k_is); (case r_MOST_NUMBER => exact ⟨_, rfl⟩); (case y_MOST_SIGNS => k_is); (case r_MOST_SIGNS => exact ⟨_, rfl⟩); (case y_PER_CENT => k_is); (case r_PER_CENT => exact ⟨_, rfl⟩); (case y_TOP => k_is); (case r_TOP => exact ⟨_, rfl⟩)
