import PyProof.Rows.All
import Wide.All
import OpenK.AllK
import Wide.FinOn
import HandS.ForMost
import HandS.Exc
import HandS.IsInst
import HandS.Conv
import HandS.Zip
import HandS.Flow
import HandS.ExcOwn
import HandS.CallSlots
import HandS.TupAny
import HandS.TupMul
import HandS.TupLe
import HandS.SetKeys
import KE.DataEq
import KE.KEqDict
import HandS.Set
import HandS.SetFor
import HandS.Strs
import HandS.Iter
import KE.KDictZip
import KE.KDictList
import HandS.Defaults
import HandS.Words
import KE.KStateDown
import HandS.Base
import HandS.Head0
import HandS.Head1
import HandS.Head2
import HandS.HeadEnd
import HandS.HeadHook1
import HandS.HeadHook2
import PySem.Challenge.RW_barewords_k01_whole_kinds
set_option Elab.async false
section
set_option linter.all false
set_option maxRecDepth 100000
set_option maxHeartbeats 4000000
/-! Bw: a deterministic layer over HandS: data D, a logical heap of cells, readings over them. -/
namespace Bw
open PySem L2

/-- data: tuples are trees; loc n is the n-th cell of the logical heap; glo x is what the module's name x stands for; ty a built-in type -/
inductive D where
  | non | bl (b : Bool) | int (i : Int) | str (x : Str) | tup (ds : List D) | loc (n : Nat) | glo (x : Str) | ty (n : String) | kl (ns : List Int)

inductive Cell where
  | lst (ds : List D)
  | ro (ds : List D)
  | dk (kvs : List (Key × D))
  | dt (kvs : List (List Key × D))
  | ins (C : Str) (fs : List (Str × D))

def Cell.isRo : Cell → Bool
  | .ro _ => true
  | _ => false

abbrev LH := List Cell
abbrev Rho := List (Option D)
structure Exn where
  cls : Str
  fs : List (Str × D)
abbrev Post := D → LH → Prop
abbrev XP := Exn → LH → Prop
abbrev DE := Rho → LH → Post → XP → Prop

section
variable (K : PySem.W.Frag) (mg : Str → Option Value)

mutual
inductive Rep (θ : List Addr) (H : Hp) : D → V → Prop
  | non : Rep θ H .non .non
  | bl (b : Bool) : Rep θ H (.bl b) (.bl b)
  | int (i : Int) : Rep θ H (.int i) (.int i)
  | str (x : Str) : Rep θ H (.str x) (.str x)
  | tup {a : Addr} {vs : List V} {ds : List D} : SqT K H a vs → Reps θ H ds vs → Rep θ H (.tup ds) (.ref a)
  | loc {n : Nat} {a : Addr} : θ[n]? = some a → Rep θ H (.loc n) (.ref a)
  | glo {x : Str} {a : Addr} : mg x = some (.ref a) → Rep θ H (.glo x) (.ref a)
  | ty (n : String) : Rep θ H (.ty n) (.ty n)
  | kl {a : Addr} {ns : List Int} : (∀ H', SqL K H' a (ns.map V.int)) → Rep θ H (.kl ns) (.ref a)
inductive Reps (θ : List Addr) (H : Hp) : List D → List V → Prop
  | nil : Reps θ H [] []
  | cons {d : D} {ds : List D} {v : V} {vs : List V} : Rep θ H d v → Reps θ H ds vs → Reps θ H (d :: ds) (v :: vs)
end

structure Ext (θ : List Addr) (H : Hp) (θ' : List Addr) (H' : Hp) : Prop where
  pre : ∃ τ, θ' = θ ++ τ ∧ ∀ b ∈ τ, H b = none
  frm : ∀ b o, H b = some o → b ∉ θ → H' b = some o
  liv : ∀ b, H b ≠ none → H' b ≠ none
  tup : ∀ a vs, SqT K H a vs → SqT K H' a vs
end

section
variable {K : PySem.W.Frag} {mg : Str → Option Value} {θ θ' θ'' : List Addr} {H H' H'' : Hp}

theorem Ext.refl : Ext K θ H θ H := ⟨⟨[], by simp, fun _ h => nomatch h⟩, fun _ _ h _ => h, fun _ h => h, fun _ _ h => h⟩
theorem Ext.trans (a : Ext K θ H θ' H') (b : Ext K θ' H' θ'' H'') : Ext K θ H θ'' H'' := by
  obtain ⟨⟨τ, rfl, n1⟩, f1, l1, ht⟩ := a
  obtain ⟨⟨υ, rfl, n2⟩, f2, l2, hu⟩ := b
  refine ⟨⟨τ ++ υ, by simp, fun b hb => ?_⟩, fun b o h1 h2 => f2 b o (f1 b o h1 h2) fun hb => ?_, fun b h => l2 b (l1 b h), fun a vs h => hu a vs (ht a vs h)⟩
  · rcases List.mem_append.mp hb with hb | hb
    · exact n1 b hb
    · by_cases e : H b = none
      · exact e
      · exact absurd (n2 b hb) (l1 b e)
  · rcases List.mem_append.mp hb with hb | hb
    · exact h2 hb
    · rw [n1 b hb] at h1; cases h1
theorem Ext.get (e : Ext K θ H θ' H') {n : Nat} {a : Addr} (h : θ[n]? = some a) : θ'[n]? = some a := by
  obtain ⟨⟨τ, rfl, _⟩, _⟩ := e
  rw [List.getElem?_append_left]
  · exact h
  · exact (List.getElem?_eq_some_iff.mp h).1

/-- what a reading of data leans on -/
structure Mon (K : PySem.W.Frag) (θ : List Addr) (H : Hp) (θ' : List Addr) (H' : Hp) : Prop where
  get : ∀ (n : Nat) a, θ[n]? = some a → θ'[n]? = some a
  tup : ∀ a vs, SqT K H a vs → SqT K H' a vs
theorem Ext.mon (e : Ext K θ H θ' H') : Mon K θ H θ' H' := ⟨fun n a h => e.get h, e.tup⟩
mutual
theorem Rep.mon (e : Mon K θ H θ' H') : ∀ {d : D} {v : V}, Rep K mg θ H d v → Rep K mg θ' H' d v
  | _, _, .non => .non
  | _, _, .bl b => .bl b
  | _, _, .int b => .int b
  | _, _, .str b => .str b
  | _, _, .tup h r => .tup (e.tup _ _ h) (Reps.mon e r)
  | _, _, .loc h => .loc (e.get _ _ h)
  | _, _, .glo h => .glo h
  | _, _, .ty n => .ty n
  | _, _, .kl h => .kl h
theorem Reps.mon (e : Mon K θ H θ' H') : ∀ {d : List D} {v : List V}, Reps K mg θ H d v → Reps K mg θ' H' d v
  | _, _, .nil => .nil
  | _, _, .cons r s => .cons (Rep.mon e r) (Reps.mon e s)
end
theorem Rep.mono (e : Ext K θ H θ' H') {d : D} {v : V} (r : Rep K mg θ H d v) : Rep K mg θ' H' d v := Rep.mon e.mon r
theorem Reps.mono (e : Ext K θ H θ' H') {d : List D} {v : List V} (r : Reps K mg θ H d v) : Reps K mg θ' H' d v := Reps.mon e.mon r

theorem Reps.len {ds : List D} {vs : List V} (r : Reps K mg θ H ds vs) : ds.length = vs.length := by
  induction ds generalizing vs with
  | nil => cases r; rfl
  | cons d ds ih => cases r with | cons _ s => simp [ih s]
theorem Reps.get {ds : List D} {vs : List V} (r : Reps K mg θ H ds vs) {i : Nat} {d : D} (h : ds[i]? = some d) : ∃ v, vs[i]? = some v ∧ Rep K mg θ H d v := by
  induction ds generalizing vs i with
  | nil => simp at h
  | cons e ds ih =>
    cases r with
    | cons r s =>
      cases i with
      | zero => simp at h; subst h; exact ⟨_, rfl, r⟩
      | succ i => simpa using ih s (by simpa using h)
theorem Reps.getV {ds : List D} {vs : List V} (r : Reps K mg θ H ds vs) {i : Nat} {v : V} (h : vs[i]? = some v) : ∃ d, ds[i]? = some d ∧ Rep K mg θ H d v := by
  induction ds generalizing vs i with
  | nil => cases r; simp at h
  | cons e ds ih =>
    cases r with
    | cons r s =>
      cases i with
      | zero => simp at h; subst h; exact ⟨_, rfl, r⟩
      | succ i => simpa using ih s (by simpa using h)
theorem Reps.append {ds es : List D} {vs us : List V} (r : Reps K mg θ H ds vs) (s : Reps K mg θ H es us) : Reps K mg θ H (ds ++ es) (vs ++ us) := by
  induction ds generalizing vs with
  | nil => cases r; exact s
  | cons d ds ih => cases r with | cons a b => exact .cons a (ih b)
theorem Reps.take {ds : List D} {vs : List V} (n : Nat) (r : Reps K mg θ H ds vs) : Reps K mg θ H (ds.take n) (vs.take n) := by
  induction n generalizing ds vs with
  | zero => simpa using Reps.nil
  | succ n ih => cases r with
    | nil => simpa using Reps.nil
    | cons a b => exact .cons a (ih b)
theorem Reps.drop {ds : List D} {vs : List V} (n : Nat) (r : Reps K mg θ H ds vs) : Reps K mg θ H (ds.drop n) (vs.drop n) := by
  induction n generalizing ds vs with
  | zero => simpa using r
  | succ n ih => cases r with
    | nil => simpa using Reps.nil
    | cons a b => exact ih b
theorem Reps.set {ds : List D} {vs : List V} (r : Reps K mg θ H ds vs) {d : D} {v : V} (h : Rep K mg θ H d v) (i : Nat) : Reps K mg θ H (ds.set i d) (vs.set i v) := by
  induction ds generalizing vs i with
  | nil => cases r; exact .nil
  | cons e ds ih =>
    cases r with
    | cons r s =>
      cases i with
      | zero => exact .cons h s
      | succ i => exact .cons r (ih s i)
theorem Reps.eraseIdx {ds : List D} {vs : List V} (r : Reps K mg θ H ds vs) (i : Nat) : Reps K mg θ H (ds.eraseIdx i) (vs.eraseIdx i) := by
  induction ds generalizing vs i with
  | nil => cases r; exact .nil
  | cons e ds ih =>
    cases r with
    | cons r s =>
      cases i with
      | zero => exact s
      | succ i => exact .cons r (ih s i)
theorem Reps.reverse {ds : List D} {vs : List V} (r : Reps K mg θ H ds vs) : Reps K mg θ H ds.reverse vs.reverse := by
  induction ds generalizing vs with
  | nil => cases r; exact .nil
  | cons d ds ih => cases r with
    | cons a b => simp only [List.reverse_cons]; exact (ih b).append (.cons a .nil)
theorem Reps.ints (ns : List Int) : Reps K mg θ H (ns.map D.int) (ns.map V.int) := by
  induction ns with
  | nil => exact .nil
  | cons n ns ih => exact .cons (.int n) ih
theorem Reps.of_ints {ns : List Int} {vs : List V} (r : Reps K mg θ H (ns.map D.int) vs) : vs = ns.map V.int := by
  induction ns generalizing vs with
  | nil => cases r; rfl
  | cons n ns ih => cases r with | cons a b => cases a; simp [ih b]
theorem Reps.of_bls {ns : List Bool} {vs : List V} (r : Reps K mg θ H (ns.map D.bl) vs) : vs = ns.map V.bl := by
  induction ns generalizing vs with
  | nil => cases r; rfl
  | cons n ns ih => cases r with | cons a b => cases a; simp [ih b]
theorem Reps.of_strs {ns : List Str} {vs : List V} (r : Reps K mg θ H (ns.map D.str) vs) : vs = ns.map V.str := by
  induction ns generalizing vs with
  | nil => cases r; rfl
  | cons n ns ih => cases r with | cons a b => cases a; simp [ih b]
end

section
variable (K : PySem.W.Frag) (mg : Str → Option Value)
/-- pairs by keys -/
def RepKV {κ : Type} (θ : List Addr) (H : Hp) (kvs : List (κ × D)) (us : List (κ × V)) : Prop := kvs.map (·.1) = us.map (·.1) ∧ Reps K mg θ H (kvs.map (·.2)) (us.map (·.2))
/-- what a cell is -/
def CellOk (θ : List Addr) (H : Hp) : Cell → Addr → Prop
  | .lst ds, a => ∃ vs, H a = some (.lst vs) ∧ Reps K mg θ H ds vs
  | .ro ds, a => ∃ vs o, H a = some (.frz o (.lst vs)) ∧ Reps K mg θ H ds vs
  | .dk kvs, a => ∃ us, H a = some (.dK us) ∧ RepKV K mg θ H kvs us
  | .dt kvs, a => ∃ us, H a = some (.dT us) ∧ RepKV K mg θ H kvs us
  | .ins C fs, a => ∃ Ca dx us, mg C = some (.ref Ca) ∧ H a = some (.ins Ca dx us) ∧ H dx = some (.own a) ∧ RepKV K mg θ H fs us
structure HR (θ : List Addr) (L : LH) (H : Hp) : Prop where
  len : θ.length = L.length
  ok : ∀ (n : Nat) c a, L[n]? = some c → θ[n]? = some a → CellOk K mg θ H c a
  inj : ∀ (i j : Nat) a c c', θ[i]? = some a → θ[j]? = some a → L[i]? = some c → L[j]? = some c' → c.isRo = false → c'.isRo = false → i = j
/-- slots -/
structure SR (θ : List Addr) (ρ : Rho) (σ : St) (H : Hp) : Prop where
  len : ρ.length = σ.length
  ok : ∀ (i : Nat) d, ρ[i]? = some (some d) → ∃ v, σ[i]? = some (some v) ∧ Rep K mg θ H d v
def Up (θ : List Addr) (H : Hp) (Q : Post) (Q' : VK) : Prop := ∀ v H' θ' d L', Ext K θ H θ' H' → HR K mg θ' L' H' → Rep K mg θ' H' d v → Q d L' → Q' v H'
/-- an exception, as it lies -/
def ExR (θ : List Addr) (H : Hp) (e : Exn) (cls : Value) (dx : Option Addr) : Prop :=
  ∃ Ca, mg e.cls = some (.ref Ca) ∧ cls = .ref Ca ∧ ((e.fs = [] ∧ dx = none) ∨ ∃ a us, dx = some a ∧ H a = some (.xd us) ∧ RepKV K mg θ H e.fs us)
def UpX (θ : List Addr) (H : Hp) (E : XP) (W : XK) : Prop := ∀ cls dx H' θ' e L', Ext K θ H θ' H' → HR K mg θ' L' H' → ExR K mg θ' H' e cls dx → E e L' → W cls dx H'
abbrev WXs := Value → Option Addr → St → Hp → Prop
/-- an expression's reading over the logical state, as a reading of HandS -/
def tJ (W : WXs) (T : DE) : TE := fun σ H Q' => ∃ θ ρ L Q E, SR K mg θ ρ σ H ∧ HR K mg θ L H ∧ T ρ L Q E ∧ Up K mg θ H Q Q' ∧ UpX K mg θ H E (fun c d H' => W c d σ H')
end

section
variable {K : PySem.W.Frag} {mg : Str → Option Value} {θ θ' θ'' : List Addr} {H H' H'' : Hp} {L : LH} {ρ : Rho} {σ : St} {Q : Post} {Q' : VK} {E : XP} {W : XK}
theorem SR.mono (h : SR K mg θ ρ σ H) (e : Ext K θ H θ' H') : SR K mg θ' ρ σ H' := ⟨h.len, fun i d q => let ⟨v, a, r⟩ := h.ok i d q; ⟨v, a, r.mono e⟩⟩
theorem Up.mono (h : Up K mg θ H Q Q') (e : Ext K θ H θ' H') : Up K mg θ' H' Q Q' := fun v H2 θ2 d L2 x => h v H2 θ2 d L2 (e.trans x)
theorem UpX.mono (h : UpX K mg θ H E W) (e : Ext K θ H θ' H') : UpX K mg θ' H' E W := fun c d H2 θ2 x L2 y => h c d H2 θ2 x L2 (e.trans y)
theorem RepKV.mono {κ : Type} {kvs : List (κ × D)} {us : List (κ × V)} (h : RepKV K mg θ H kvs us) (e : Ext K θ H θ' H') : RepKV K mg θ' H' kvs us := ⟨h.1, h.2.mono e⟩
/-- a new tuple -/
theorem sqT_upd {p : Addr} {o : HO} (hp : H p = none) {a : Addr} {vs : List V} (h : SqT K H a vs) : SqT K (upd H p o) a vs := by
  rcases h with (h | ⟨ob, h⟩) | h
  · exact .inl (.inl (by rw [upd_ne (ne_of_none h hp)]; exact h))
  · exact .inl (.inr ⟨ob, by rw [upd_ne (ne_of_none h hp)]; exact h⟩)
  · exact .inr h
theorem upd_liv {p : Addr} {o : HO} (b : Addr) (h : H b ≠ none) : upd H p o b ≠ none := by
  unfold L2.upd; split
  · simp
  · exact h
theorem Ext.new {p : Addr} {o : HO} (hp : H p = none) : Ext K θ H θ (upd H p o) :=
  ⟨⟨[], by simp, fun _ h => nomatch h⟩, fun b o h _ => by rw [upd_ne (ne_of_none h hp)]; exact h, upd_liv, fun _ _ h => sqT_upd hp h⟩
theorem Ext.newL {p : Addr} {o : HO} (hp : H p = none) : Ext K θ H (θ ++ [p]) (upd H p o) :=
  ⟨⟨[p], rfl, fun b hb => by rw [List.mem_singleton.mp hb]; exact hp⟩, fun b o h _ => by rw [upd_ne (ne_of_none h hp)]; exact h, upd_liv, fun _ _ h => sqT_upd hp h⟩
def NotTup : HO → Prop
  | .tup _ => False
  | .frz _ _ => False
  | _ => True
theorem Ext.upd {n : Nat} {a : Addr} {o o' : HO} (hn : θ[n]? = some a) (ha : H a = some o) (hnt : NotTup o) : Ext K θ H θ (upd H a o') := by
  refine ⟨⟨[], by simp, fun _ h => nomatch h⟩, fun b o h hb => ?_, upd_liv, fun b vs h => ?_⟩
  · have : b ≠ a := by rintro rfl; exact hb (List.mem_of_getElem? hn)
    rw [upd_ne this]; exact h
  rcases h with (h | ⟨ob, h⟩) | h
  · have : b ≠ a := by rintro rfl; rw [ha] at h; cases h; exact hnt
    exact .inl (.inl (by rw [upd_ne this]; exact h))
  · have : b ≠ a := by rintro rfl; rw [ha] at h; cases h; exact hnt
    exact .inl (.inr ⟨ob, by rw [upd_ne this]; exact h⟩)
  · exact .inr h
/-- a cell stays where its own object (and its own dict) stays -/
theorem CellOk.stay {c : Cell} {a : Addr} (h : CellOk K mg θ H c a) (e : Ext K θ H θ' H') (k : c.isRo = false → H' a = H a) (k2 : ∀ o, H a = some o → NotTup o = False → H' a = some o) (ko : ∀ b, H b = some (.own a) → H' b = some (.own a)) : CellOk K mg θ' H' c a := by
  cases c with
  | lst ds => obtain ⟨vs, h1, h2⟩ := h; exact ⟨vs, (k rfl).trans h1, h2.mono e⟩
  | ro ds =>
    obtain ⟨vs, o, h3, h2⟩ := h
    exact ⟨vs, o, k2 _ h3 (by simp [NotTup]), h2.mono e⟩
  | dk kvs => obtain ⟨vs, h1, h2⟩ := h; exact ⟨vs, (k rfl).trans h1, h2.mono e⟩
  | dt kvs => obtain ⟨vs, h1, h2⟩ := h; exact ⟨vs, (k rfl).trans h1, h2.mono e⟩
  | ins C fs => obtain ⟨Ca, dx, us, h0, h1, h3, h2⟩ := h; exact ⟨Ca, dx, us, h0, (k rfl).trans h1, ko _ h3, h2.mono e⟩
theorem CellOk.some {c : Cell} {a : Addr} (h : CellOk K mg θ H c a) (n : c.isRo = false) : ∃ o, H a = some o ∧ NotTup o ∧ ∀ b, o ≠ .own b := by
  cases c with
  | lst ds => obtain ⟨vs, h1, h2⟩ := h; exact ⟨_, h1, True.intro, by intro b z; cases z⟩
  | ro ds => cases n
  | dk kvs => obtain ⟨vs, h1, h2⟩ := h; exact ⟨_, h1, True.intro, by intro b z; cases z⟩
  | dt kvs => obtain ⟨vs, h1, h2⟩ := h; exact ⟨_, h1, True.intro, by intro b z; cases z⟩
  | ins C fs => obtain ⟨Ca, dx, us, h0, h1, h3, h2⟩ := h; exact ⟨_, h1, True.intro, by intro b z; cases z⟩
/-- a new object that no cell is -/
theorem HR.new {p : Addr} {o : HO} (h : HR K mg θ L H) (hp : H p = none) : HR K mg θ L (upd H p o) := by
  refine ⟨h.len, fun n c a h1 h2 => (h.ok n c a h1 h2).stay (Ext.new hp) (fun hr => ?_) (fun u hu _ => ?_) fun b hb => ?_, h.inj⟩
  · obtain ⟨u, hu, _⟩ := (h.ok n c a h1 h2).some hr
    exact upd_ne (ne_of_none hu hp)
  · rw [upd_ne (ne_of_none hu hp)]; exact hu
  · rw [upd_ne (ne_of_none hb hp)]; exact hb
/-- a new cell -/
theorem HR.newL {p : Addr} {o : HO} {c : Cell} (h : HR K mg θ L H) (hp : H p = none) (hc : CellOk K mg (θ ++ [p]) (upd H p o) c p) : HR K mg (θ ++ [p]) (L ++ [c]) (upd H p o) := by
  have hl := h.len
  refine ⟨by simp [hl], fun n c' a h1 h2 => ?_, fun i j a c1 c2 h1 h2 h3 h4 h5 h6 => ?_⟩
  · by_cases hn : n < θ.length
    · rw [List.getElem?_append_left hn] at h2
      rw [List.getElem?_append_left (by omega)] at h1
      refine (h.ok n c' a h1 h2).stay (Ext.newL hp) (fun hr => ?_) (fun u hu _ => ?_) fun b hb => ?_
      · obtain ⟨u, hu, _⟩ := (h.ok n c' a h1 h2).some hr
        exact upd_ne (ne_of_none hu hp)
      · rw [upd_ne (ne_of_none hu hp)]; exact hu
      · rw [upd_ne (ne_of_none hb hp)]; exact hb
    · rw [List.getElem?_append_right (by omega)] at h2
      rw [List.getElem?_append_right (by omega)] at h1
      have e : n - θ.length = 0 := by
        rcases Nat.eq_zero_or_pos (n - θ.length) with z | z
        · exact z
        · rw [List.getElem?_eq_none (by simp; omega)] at h2; cases h2
      rw [e] at h2; rw [← hl, e] at h1
      simp at h1 h2
      subst h1 h2
      exact hc
  · have key : ∀ (k : Nat) x, (θ ++ [p])[k]? = some a → (L ++ [c])[k]? = some x → x.isRo = false → (k < θ.length ∧ θ[k]? = some a ∧ L[k]? = some x ∧ a ≠ p) ∨ (k = θ.length ∧ a = p) := by
      intro k x g1 g2 g3
      by_cases hk : k < θ.length
      · rw [List.getElem?_append_left hk] at g1
        rw [List.getElem?_append_left (by omega)] at g2
        obtain ⟨u, hu, _⟩ := (h.ok k x a g2 g1).some g3
        exact .inl ⟨hk, g1, g2, ne_of_none hu hp⟩
      · have : k < (θ ++ [p]).length := (List.getElem?_eq_some_iff.mp g1).1
        simp at this
        have e : k = θ.length := by omega
        subst e
        simp at g1
        exact .inr ⟨rfl, g1.symm⟩
    rcases key i c1 h1 h3 h5 with ⟨a1, a2, a3, a4⟩ | ⟨a1, a2⟩
    · rcases key j c2 h2 h4 h6 with ⟨b1, b2, b3, b4⟩ | ⟨b1, b2⟩
      · exact h.inj i j a c1 c2 a2 b2 a3 b3 h5 h6
      · exact absurd b2 a4
    · rcases key j c2 h2 h4 h6 with ⟨b1, b2, b3, b4⟩ | ⟨b1, b2⟩
      · exact absurd a2 b4
      · omega
/-- a cell changed -/
theorem HR.upd {n : Nat} {a : Addr} {c c' : Cell} {o' : HO} (h : HR K mg θ L H) (hn : L[n]? = some c) (ha : θ[n]? = some a) (hc : c.isRo = false) (hc' : c'.isRo = false) (ok : CellOk K mg θ (upd H a o') c' a) : HR K mg θ (L.set n c') (upd H a o') := by
  obtain ⟨o, ho, nt, nown⟩ := (h.ok n c a hn ha).some hc
  have hnl : n < L.length := (List.getElem?_eq_some_iff.mp hn).1
  have back : ∀ (k : Nat) x, (L.set n c')[k]? = some x → k ≠ n → L[k]? = some x := fun k x q z => by rwa [List.getElem?_set_ne (Ne.symm z)] at q
  refine ⟨by simp [h.len], fun k x b h1 h2 => ?_, fun i j b c1 c2 h1 h2 h3 h4 h5 h6 => ?_⟩
  · by_cases hk : k = n
    · subst hk
      rw [ha] at h2; cases h2
      rw [List.getElem?_set_self hnl] at h1; cases h1
      exact ok
    · have h1' := back k x h1 hk
      refine (h.ok k x b h1' h2).stay (Ext.upd ha ho nt) (fun hr => ?_) (fun u hu z => ?_) fun q hq => ?_
      · refine upd_ne ?_
        rintro rfl
        exact hk (h.inj k n b x c h2 ha h1' hn hr hc)
      · have : b ≠ a := by rintro rfl; rw [ho] at hu; cases hu; rw [z] at nt; exact nt
        rw [upd_ne this]; exact hu
      · have : q ≠ a := by rintro rfl; rw [ho] at hq; cases hq; exact nown _ rfl
        rw [upd_ne this]; exact hq
  · have key : ∀ (k : Nat) x, θ[k]? = some b → (L.set n c')[k]? = some x → x.isRo = false → ∃ y, L[k]? = some y ∧ y.isRo = false := fun k x g1 g2 g3 => by
      by_cases hk : k = n
      · subst hk; exact ⟨c, hn, hc⟩
      · exact ⟨x, back k x g2 hk, g3⟩
    obtain ⟨y1, p1, q1⟩ := key i c1 h1 h3 h5
    obtain ⟨y2, p2, q2⟩ := key j c2 h2 h4 h6
    exact h.inj i j b y1 y2 h1 h2 p1 p2 q1 q2
/-- an object that stands by itself becomes a cell -/
theorem Mon.more {τ : List Addr} : Mon K θ H (θ ++ τ) H := ⟨fun n a h => by
  rw [List.getElem?_append_left (List.getElem?_eq_some_iff.mp h).1]; exact h, fun _ _ h => h⟩
theorem CellOk.mon {c : Cell} {a : Addr} (e : ∀ ds vs, Reps K mg θ H ds vs → Reps K mg θ' H ds vs) (h : CellOk K mg θ H c a) : CellOk K mg θ' H c a := by
  cases c with
  | lst ds => obtain ⟨vs, h1, h2⟩ := h; exact ⟨vs, h1, e _ _ h2⟩
  | ro ds => obtain ⟨vs, o, h3, h2⟩ := h; exact ⟨vs, o, h3, e _ _ h2⟩
  | dk kvs => obtain ⟨vs, h1, h2⟩ := h; exact ⟨vs, h1, h2.1, e _ _ h2.2⟩
  | dt kvs => obtain ⟨vs, h1, h2⟩ := h; exact ⟨vs, h1, h2.1, e _ _ h2.2⟩
  | ins C fs => obtain ⟨Ca, dx, us, h0, h1, h3, h2⟩ := h; exact ⟨Ca, dx, us, h0, h1, h3, h2.1, e _ _ h2.2⟩
theorem HR.adopt {p : Addr} {c : Cell} (h : HR K mg θ L H) (hp : p ∉ θ) (hc : CellOk K mg θ H c p) : HR K mg (θ ++ [p]) (L ++ [c]) H := by
  have hl := h.len
  have mo : ∀ ds vs, Reps K mg θ H ds vs → Reps K mg (θ ++ [p]) H ds vs := fun _ _ r => Reps.mon Mon.more r
  have nm : ∀ (k : Nat), θ[k]? ≠ some p := fun k e => hp (List.mem_of_getElem? e)
  refine ⟨by simp [hl], fun n c' a h1 h2 => ?_, fun i j a c1 c2 h1 h2 h3 h4 h5 h6 => ?_⟩
  · by_cases hn : n < θ.length
    · rw [List.getElem?_append_left hn] at h2
      rw [List.getElem?_append_left (by omega)] at h1
      exact (h.ok n c' a h1 h2).mon mo
    · have : n < (θ ++ [p]).length := (List.getElem?_eq_some_iff.mp h2).1
      simp at this
      have e : n = θ.length := by omega
      subst e
      rw [hl] at h1
      simp at h1 h2
      subst h1 h2
      exact hc.mon mo
  · have key : ∀ (k : Nat) x, (θ ++ [p])[k]? = some a → (L ++ [c])[k]? = some x → (k < θ.length ∧ θ[k]? = some a ∧ L[k]? = some x ∧ a ≠ p) ∨ (k = θ.length ∧ a = p) := by
      intro k x g1 g2
      by_cases hk : k < θ.length
      · rw [List.getElem?_append_left hk] at g1
        rw [List.getElem?_append_left (by omega)] at g2
        exact .inl ⟨hk, g1, g2, fun e => nm k (e ▸ g1)⟩
      · have : k < (θ ++ [p]).length := (List.getElem?_eq_some_iff.mp g1).1
        simp at this
        have e : k = θ.length := by omega
        subst e
        simp at g1
        exact .inr ⟨rfl, g1.symm⟩
    rcases key i c1 h1 h3 with ⟨a1, a2, a3, a4⟩ | ⟨a1, a2⟩
    · rcases key j c2 h2 h4 with ⟨b1, b2, b3, b4⟩ | ⟨b1, b2⟩
      · exact h.inj i j a c1 c2 a2 b2 a3 b3 h5 h6
      · exact absurd b2 a4
    · rcases key j c2 h2 h4 with ⟨b1, b2, b3, b4⟩ | ⟨b1, b2⟩
      · exact absurd a2 b4
      · omega
/-- every cell's object is tracked, or never changes -/
theorem Ext.adopt {p : Addr} {H0 : Hp} (e : Ext K θ H0 θ' H) (hp : H0 p = none) : Ext K θ H0 (θ' ++ [p]) H := by
  obtain ⟨⟨τ, rfl, n1⟩, f1, l1, ht⟩ := e
  refine ⟨⟨τ ++ [p], by simp, fun b hb => ?_⟩, f1, l1, ht⟩
  rcases List.mem_append.mp hb with hb | hb
  · exact n1 b hb
  · have : b = p := by simpa using hb
    rw [this]; exact hp
theorem CellOk.live {c : Cell} {a : Addr} (h : CellOk K mg θ H c a) : H a ≠ none := by
  cases c with
  | lst ds => obtain ⟨vs, h1, h2⟩ := h; rw [h1]; simp
  | ro ds => obtain ⟨vs, o, h1, h2⟩ := h; rw [h1]; simp
  | dk kvs => obtain ⟨vs, h1, h2⟩ := h; rw [h1]; simp
  | dt kvs => obtain ⟨vs, h1, h2⟩ := h; rw [h1]; simp
  | ins C fs => obtain ⟨Ca, dx, us, h0, h1, h3, h2⟩ := h; rw [h1]; simp
theorem HR.live {a : Addr} (h : HR K mg θ L H) (ha : a ∈ θ) : H a ≠ none := by
  obtain ⟨n, hn⟩ := List.getElem?_of_mem ha
  have hl : n < L.length := by rw [← h.len]; exact (List.getElem?_eq_some_iff.mp hn).1
  exact (h.ok n _ a (List.getElem?_eq_getElem hl) hn).live
theorem HR.notin {a : Addr} (h : HR K mg θ L H) (ha : H a = none) : a ∉ θ := fun z => h.live z ha
/-- an object changes that no cell is -/
theorem HR.other {a : Addr} {o o' : HO} (h : HR K mg θ L H) (ho : H a = some o) (na : a ∉ θ) (nt : NotTup o) (nown : ∀ b, o ≠ .own b) (mn : Mon K θ H θ (L2.upd H a o')) : HR K mg θ L (L2.upd H a o') := by
  refine ⟨h.len, fun n c b h1 h2 => ?_, h.inj⟩
  have hba : b ≠ a := fun e => na (e ▸ List.mem_of_getElem? h2)
  have hk := h.ok n c b h1 h2
  cases c with
  | lst ds => obtain ⟨vs, g1, g2⟩ := hk; exact ⟨vs, by rw [upd_ne hba]; exact g1, g2.mon mn⟩
  | ro ds => obtain ⟨vs, o, g1, g2⟩ := hk; exact ⟨vs, o, by rw [upd_ne hba]; exact g1, g2.mon mn⟩
  | dk kvs => obtain ⟨vs, g1, g2⟩ := hk; exact ⟨vs, by rw [upd_ne hba]; exact g1, g2.1, g2.2.mon mn⟩
  | dt kvs => obtain ⟨vs, g1, g2⟩ := hk; exact ⟨vs, by rw [upd_ne hba]; exact g1, g2.1, g2.2.mon mn⟩
  | ins C fs =>
    obtain ⟨Ca, dx, us, g0, g1, g3, g2⟩ := hk
    refine ⟨Ca, dx, us, g0, by rw [upd_ne hba]; exact g1, ?_, g2.1, g2.2.mon mn⟩
    rw [upd_ne (by rintro rfl; rw [ho] at g3; cases g3; exact nown _ rfl)]; exact g3
theorem HR.at_ {n : Nat} {c : Cell} (h : HR K mg θ L H) (hn : L[n]? = some c) : ∃ a, θ[n]? = some a ∧ CellOk K mg θ H c a := by
  have : n < θ.length := by rw [h.len]; exact (List.getElem?_eq_some_iff.mp hn).1
  exact ⟨θ[n], List.getElem?_eq_getElem this, h.ok n c _ hn (List.getElem?_eq_getElem this)⟩
end
end Bw
end
section
set_option linter.all false
set_option maxRecDepth 100000
set_option maxHeartbeats 4000000
namespace Bw
open PySem L2

/-! ### readings over the logical state -/
abbrev DAs := Rho → LH → (List D → LH → Prop) → XP → Prop
structure DEnds where
  nx : Rho → LH → Prop
  rt : Post
  bk : Rho → LH → Prop := fun _ _ => False
  ct : Rho → LH → Prop := fun _ _ => False
  xc : Exn → Rho → LH → Prop := fun _ _ _ => False
abbrev DS := DEnds → Rho → LH → Prop

section
variable (K : PySem.W.Frag) (mg : Str → Option Value)
def tJA (W : WXs) (T : DAs) : TA := fun σ H Q' => ∃ θ ρ L Q E, SR K mg θ ρ σ H ∧ HR K mg θ L H ∧ T ρ L Q E ∧
  (∀ vs H' θ' ds L', Ext K θ H θ' H' → HR K mg θ' L' H' → Reps K mg θ' H' ds vs → Q ds L' → Q' vs H') ∧ UpX K mg θ H E (fun c d H' => W c d σ H')
/-- a test -/
def asT (T : DE) : Rho → LH → (Bool → LH → Prop) → XP → Prop := fun ρ L Q E => T ρ L (fun d L' => ∃ b, d = .bl b ∧ Q b L') E
def tJT (W : WXs) (T : DE) : TT := fun σ H Q' => ∃ θ ρ L Q E, SR K mg θ ρ σ H ∧ HR K mg θ L H ∧ asT T ρ L Q E ∧
  (∀ b H' θ' L', Ext K θ H θ' H' → HR K mg θ' L' H' → Q b L' → Q' b H') ∧ UpX K mg θ H E (fun c d H' => W c d σ H')
def lift1 (f : D → LH → Post → Prop) : V → Hp → VK → Prop := fun x H Q' => ∃ θ d L Q, HR K mg θ L H ∧ Rep K mg θ H d x ∧ f d L Q ∧ Up K mg θ H Q Q'
def lift2 (f : D → D → LH → Post → Prop) : R2 := fun x y H Q' => ∃ θ d e L Q, HR K mg θ L H ∧ Rep K mg θ H d x ∧ Rep K mg θ H e y ∧ f d e L Q ∧ Up K mg θ H Q Q'
def liftN (f : List D → LH → Post → Prop) : List V → Hp → VK → Prop := fun vs H Q' => ∃ θ ds L Q, HR K mg θ L H ∧ Reps K mg θ H ds vs ∧ f ds L Q ∧ Up K mg θ H Q Q'
def liftM (f : D → List D → LH → Post → Prop) : V → List V → Hp → VK → Prop := fun x vs H Q' => ∃ θ d ds L Q, HR K mg θ L H ∧ Rep K mg θ H d x ∧ Reps K mg θ H ds vs ∧ f d ds L Q ∧ Up K mg θ H Q Q'
/-- a def's promise -/
abbrev DSp := List D → LH → Post → XP → Prop
def spOf (n : Nat) (S : DSp) : Sp := fun vs H Q' E' => ∃ θ ds L Q E, HR K mg θ L H ∧ Reps K mg θ H ds vs ∧ ds.length = n ∧ S ds L Q E ∧ Up K mg θ H Q Q' ∧ UpX K mg θ H E E'
/-- behind a statement -/
structure UpS (W : WXs) (θ : List Addr) (H : Hp) (D : DEnds) (D' : Ends) : Prop where
  nx : ∀ θ' ρ' L' σ' H', Ext K θ H θ' H' → SR K mg θ' ρ' σ' H' → HR K mg θ' L' H' → D.nx ρ' L' → D'.nx σ' H'
  rt : ∀ v H' θ' d L', Ext K θ H θ' H' → HR K mg θ' L' H' → Rep K mg θ' H' d v → D.rt d L' → D'.rt v H'
  bk : ∀ θ' ρ' L' σ' H', Ext K θ H θ' H' → SR K mg θ' ρ' σ' H' → HR K mg θ' L' H' → D.bk ρ' L' → D'.bk σ' H'
  ct : ∀ θ' ρ' L' σ' H', Ext K θ H θ' H' → SR K mg θ' ρ' σ' H' → HR K mg θ' L' H' → D.ct ρ' L' → D'.ct σ' H'
  xc : ∀ cls dx θ' ρ' L' σ' H' e, Ext K θ H θ' H' → SR K mg θ' ρ' σ' H' → HR K mg θ' L' H' → ExR K mg θ' H' e cls dx → D.xc e ρ' L' → W cls dx σ' H'
def tJS (W : WXs) (T : DS) : TS := fun D' σ H => ∃ θ ρ L D, SR K mg θ ρ σ H ∧ HR K mg θ L H ∧ T D ρ L ∧ UpS K mg W θ H D D'
/-- a target -/
abbrev DG := D → Rho → LH → (Rho → LH → Prop) → Prop
def tJG (G : DG) : TG := fun v σ H Q' => ∃ θ ρ L Q d, SR K mg θ ρ σ H ∧ HR K mg θ L H ∧ Rep K mg θ H d v ∧ G d ρ L Q ∧
  (∀ θ' ρ' L' σ' H', Ext K θ H θ' H' → SR K mg θ' ρ' σ' H' → HR K mg θ' L' H' → Q ρ' L' → Q' σ' H')
/-- an iterator that yields the items, while keep holds -/
structure ItOk (J : It) (θ0 : List Addr) (H0 : Hp) (items : List D) (keep : LH → Prop) : Prop where
  go : ∀ (i : Nat) θ L H, Ext K θ0 H0 θ H → HR K mg θ L H → keep L → i < items.length → J.go i H
  stop : ∀ (i : Nat) θ L H, Ext K θ0 H0 θ H → HR K mg θ L H → keep L → i = items.length → J.stop i H
  yld : ∀ (i : Nat) θ L H x H' d, Ext K θ0 H0 θ H → HR K mg θ L H → keep L → items[i]? = some d → J.yld i H x H' → Ext K θ H θ H' ∧ HR K mg θ L H' ∧ Rep K mg θ H' d x
abbrev DI := Rho → LH → (List D → (LH → Prop) → LH → Prop) → XP → Prop
def tJI (W : WXs) (T : DI) : TI := fun σ H R => ∃ θ ρ L Q E, SR K mg θ ρ σ H ∧ HR K mg θ L H ∧ T ρ L Q E ∧
  (∀ J H' θ' L' items keep, Ext K θ H θ' H' → HR K mg θ' L' H' → ItOk K mg J θ' H' items keep → Q items keep L' → R J H') ∧ UpX K mg θ H E (fun c d H' => W c d σ H')
end

/-! ### weakening -/
section
variable {X : Cx}
theorem PE.imp {e : Expr} {t t' : TE} (h : PE X e t) (i : ∀ σ H Q, t' σ H Q → t σ H Q) : PE X e t' := ⟨fun pins s σ H Q I q => h.run pins s σ H Q I (i σ H Q q)⟩
theorem PT.imp {e : Expr} {t t' : TT} (h : PT X e t) (i : ∀ σ H Q, t' σ H Q → t σ H Q) : PT X e t' := ⟨fun pins s σ H Q I q => h.run pins s σ H Q I (i σ H Q q)⟩
theorem PW.imp {e : Expr} {t t' : TT} (h : PW X e t) (i : ∀ σ H Q, t' σ H Q → t σ H Q) : PW X e t' := ⟨fun wh pins s σ H Q I q => h.run wh pins s σ H Q I (i σ H Q q)⟩
theorem PA.imp {e : List Expr} {t t' : TA} (h : PA X e t) (i : ∀ σ H Q, t' σ H Q → t σ H Q) : PA X e t' := ⟨fun pos pins s σ H Q I q => h.run pos pins s σ H Q I (i σ H Q q)⟩
theorem PS.imp {e : Stmt} {t t' : TS} (h : PS X e t) (i : ∀ D σ H, t' D σ H → t D σ H) : PS X e t' := ⟨fun pins s σ H D I q => h.run pins s σ H D I (i D σ H q)⟩
theorem PSs.imp {e : List Stmt} {t t' : TS} (h : PSs X e t) (i : ∀ D σ H, t' D σ H → t D σ H) : PSs X e t' := ⟨fun pins s σ H D I q => h.run pins s σ H D I (i D σ H q)⟩
theorem PG.imp {e : Expr} {t t' : TG} (h : PG X e t) (i : ∀ v σ H Q, t' v σ H Q → t v σ H Q) : PG X e t' := ⟨fun pins s σ H v u Q I r q => h.run pins s σ H v u Q I r (i v σ H Q q)⟩
theorem PI.imp {tg e : Expr} {t t' : TI} (h : PI X tg e t) (i : ∀ σ H Q, t' σ H Q → t σ H Q) : PI X tg e t' := ⟨fun pins s σ H Q I q => h.run pins s σ H Q I (i σ H Q q)⟩
end

/-! ### sequences -/
section
variable {K : PySem.W.Frag} {mg : Str → Option Value} {W : WXs}
/-- a then what follows, over readings -/
theorem tJ_then {T : DE} {σ : St} {H : Hp} {Q' : VK} {θ : List Addr} {ρ : Rho} {L : LH} {Q : Post} {E : XP}
    (s : SR K mg θ ρ σ H) (h : HR K mg θ L H) (t : T ρ L Q E) (u : Up K mg θ H Q Q') (x : UpX K mg θ H E (fun c d H' => W c d σ H')) : tJ K mg W T σ H Q' := ⟨θ, ρ, L, Q, E, s, h, t, u, x⟩
def w1 (f : D → LH → Post → Prop) (a : DE) : DE := fun ρ L Q E => a ρ L (fun d L1 => f d L1 Q) E
def w2 (f : D → D → LH → Post → Prop) (a b : DE) : DE := fun ρ L Q E => a ρ L (fun d L1 => b ρ L1 (fun e L2 => f d e L2 Q) E) E
def wN (f : List D → LH → Post → Prop) (as : DAs) : DE := fun ρ L Q E => as ρ L (fun ds L1 => f ds L1 Q) E
def wM (f : D → List D → LH → Post → Prop) (a : DE) (as : DAs) : DE := fun ρ L Q E => a ρ L (fun d L1 => as ρ L1 (fun ds L2 => f d ds L2 Q) E) E
theorem tJ_1 {r : V → Hp → VK → Prop} {f : D → LH → Post → Prop} (hr : ∀ x H Q, lift1 K mg f x H Q → r x H Q) {a : DE} (σ : St) (H : Hp) (Q' : VK)
    (h : tJ K mg W (w1 f a) σ H Q') : tJ K mg W a σ H fun x H1 => r x H1 Q' := by
  obtain ⟨θ, ρ, L, Q, E, s, hh, t, u, x⟩ := h
  refine ⟨θ, ρ, L, _, E, s, hh, t, fun v H1 θ1 d L1 e1 h1 r1 q1 => hr _ _ _ ⟨θ1, d, L1, Q, h1, r1, q1, u.mono e1⟩, x⟩
theorem tJ_2 {r : R2} {f : D → D → LH → Post → Prop} (hr : ∀ x y H Q, lift2 K mg f x y H Q → r x y H Q) {a b : DE} (σ : St) (H : Hp) (Q' : VK)
    (h : tJ K mg W (w2 f a b) σ H Q') : tJ K mg W a σ H fun x H1 => tJ K mg W b σ H1 fun y H2 => r x y H2 Q' := by
  obtain ⟨θ, ρ, L, Q, E, s, hh, t, u, x⟩ := h
  refine ⟨θ, ρ, L, _, E, s, hh, t, fun v H1 θ1 d L1 e1 h1 r1 q1 => ⟨θ1, ρ, L1, _, E, s.mono e1, h1, q1, fun v2 H2 θ2 d2 L2 e2 h2 r2 q2 => ?_, x.mono e1⟩, x⟩
  exact hr _ _ _ _ ⟨θ2, d, d2, L2, Q, h2, r1.mono e2, r2, q2, u.mono (e1.trans e2)⟩
theorem tJ_N {r : List V → Hp → VK → Prop} {f : List D → LH → Post → Prop} (hr : ∀ x H Q, liftN K mg f x H Q → r x H Q) {a : DAs} (σ : St) (H : Hp) (Q' : VK)
    (h : tJ K mg W (wN f a) σ H Q') : tJA K mg W a σ H fun x H1 => r x H1 Q' := by
  obtain ⟨θ, ρ, L, Q, E, s, hh, t, u, x⟩ := h
  refine ⟨θ, ρ, L, _, E, s, hh, t, fun v H1 θ1 d L1 e1 h1 r1 q1 => hr _ _ _ ⟨θ1, d, L1, Q, h1, r1, q1, u.mono e1⟩, x⟩
theorem tJ_M {r : V → List V → Hp → VK → Prop} {f : D → List D → LH → Post → Prop} (hr : ∀ x y H Q, liftM K mg f x y H Q → r x y H Q) {a : DE} {b : DAs} (σ : St) (H : Hp) (Q' : VK)
    (h : tJ K mg W (wM f a b) σ H Q') : tJ K mg W a σ H fun x H1 => tJA K mg W b σ H1 fun y H2 => r x y H2 Q' := by
  obtain ⟨θ, ρ, L, Q, E, s, hh, t, u, x⟩ := h
  refine ⟨θ, ρ, L, _, E, s, hh, t, fun v H1 θ1 d L1 e1 h1 r1 q1 => ⟨θ1, ρ, L1, _, E, s.mono e1, h1, q1, fun v2 H2 θ2 d2 L2 e2 h2 r2 q2 => ?_, x.mono e1⟩, x⟩
  exact hr _ _ _ _ ⟨θ2, d, d2, L2, Q, h2, r1.mono e2, r2, q2, u.mono (e1.trans e2)⟩
/-- argument lists -/
def wANil : DAs := fun _ L Q _ => Q [] L
def wACons (a : DE) (as : DAs) : DAs := fun ρ L Q E => a ρ L (fun d L1 => as ρ L1 (fun ds L2 => Q (d :: ds) L2) E) E
theorem tJA_nil (σ : St) (H : Hp) (Q' : List V → Hp → Prop) (h : tJA K mg W wANil σ H Q') : tNil σ H Q' := by
  obtain ⟨θ, ρ, L, Q, E, s, hh, t, u, x⟩ := h
  exact u _ _ _ _ _ .refl hh .nil t
theorem tJA_cons {a : DE} {b : DAs} (σ : St) (H : Hp) (Q' : List V → Hp → Prop) (h : tJA K mg W (wACons a b) σ H Q') : tCons (tJ K mg W a) (tJA K mg W b) σ H Q' := by
  obtain ⟨θ, ρ, L, Q, E, s, hh, t, u, x⟩ := h
  refine ⟨θ, ρ, L, _, E, s, hh, t, fun v H1 θ1 d L1 e1 h1 r1 q1 => ⟨θ1, ρ, L1, _, E, s.mono e1, h1, q1, fun v2 H2 θ2 d2 L2 e2 h2 r2 q2 => ?_, x.mono e1⟩, x⟩
  exact u _ _ _ _ _ (e1.trans e2) h2 (.cons (r1.mono e2) r2) q2
/-- a name, a constant -/
def wVar (i : Nat) : DE := fun ρ L Q _ => ∃ d, ρ[i]? = some (some d) ∧ Q d L
def wC (d : D) : DE := fun _ L Q _ => Q d L
theorem tJ_var {i : Nat} (σ : St) (H : Hp) (Q' : VK) (h : tJ K mg W (wVar i) σ H Q') : tVar i σ H Q' := by
  obtain ⟨θ, ρ, L, Q, E, s, hh, ⟨d, hd, t⟩, u, x⟩ := h
  obtain ⟨v, hv, r⟩ := s.ok i d hd
  exact ⟨v, hv, u _ _ _ _ _ .refl hh r t⟩
theorem tJ_c {d : D} {v : V} (hr : ∀ θ H, Rep K mg θ H d v) (σ : St) (H : Hp) (Q' : VK) (h : tJ K mg W (wC d) σ H Q') : tC v σ H Q' := by
  obtain ⟨θ, ρ, L, Q, E, s, hh, t, u, x⟩ := h
  exact u _ _ _ _ _ .refl hh (hr _ _) t
/-- displays -/
def wTup (as : DAs) : DE := fun ρ L Q E => as ρ L (fun ds L1 => ds.length ≤ sizeLine ∧ Q (.tup ds) L1) E
def wLst (as : DAs) : DE := fun ρ L Q E => as ρ L (fun ds L1 => ds.length ≤ sizeLine ∧ Q (.loc L1.length) (L1 ++ [.lst ds])) E
theorem rep_newtup {θ : List Addr} {L : LH} {H : Hp} {p : Addr} {vs : List V} {ds : List D} (hh : HR K mg θ L H) (hp : H p = none) (r : Reps K mg θ H ds vs) :
    Ext K θ H θ (upd H p (.tup vs)) ∧ HR K mg θ L (upd H p (.tup vs)) ∧ Rep K mg θ (upd H p (.tup vs)) (.tup ds) (.ref p) :=
  ⟨Ext.new hp, hh.new hp, .tup (.inl (.inl upd_same)) (r.mono (Ext.new hp))⟩
theorem rep_newlst {θ : List Addr} {L : LH} {H : Hp} {p : Addr} {vs : List V} {ds : List D} (hh : HR K mg θ L H) (hp : H p = none) (r : Reps K mg θ H ds vs) :
    Ext K θ H (θ ++ [p]) (upd H p (.lst vs)) ∧ HR K mg (θ ++ [p]) (L ++ [.lst ds]) (upd H p (.lst vs)) ∧ Rep K mg (θ ++ [p]) (upd H p (.lst vs)) (.loc L.length) (.ref p) :=
  ⟨Ext.newL hp, hh.newL hp ⟨vs, upd_same, r.mono (Ext.newL hp)⟩, .loc (by rw [← hh.len]; simp)⟩
theorem tJ_tup {a : DAs} (σ : St) (H : Hp) (Q' : VK) (h : tJ K mg W (wTup a) σ H Q') : tTup (tJA K mg W a) σ H Q' := by
  obtain ⟨θ, ρ, L, Q, E, s, hh, t, u, x⟩ := h
  refine ⟨θ, ρ, L, _, E, s, hh, t, fun vs H1 θ1 ds L1 e1 h1 r1 ⟨z, q1⟩ => ⟨by rw [← r1.len]; exact z, fun p hp => ?_⟩, x⟩
  obtain ⟨e2, h2, r2⟩ := rep_newtup h1 hp r1
  exact u _ _ _ _ _ (e1.trans e2) h2 r2 q1
theorem tJ_lst {a : DAs} (σ : St) (H : Hp) (Q' : VK) (h : tJ K mg W (wLst a) σ H Q') : tLst (tJA K mg W a) σ H Q' := by
  obtain ⟨θ, ρ, L, Q, E, s, hh, t, u, x⟩ := h
  refine ⟨θ, ρ, L, _, E, s, hh, t, fun vs H1 θ1 ds L1 e1 h1 r1 ⟨z, q1⟩ => ⟨by rw [← r1.len]; exact z, fun p hp => ?_⟩, x⟩
  obtain ⟨e2, h2, r2⟩ := rep_newlst h1 hp r1
  exact u _ _ _ _ _ (e1.trans e2) h2 r2 q1
/-- and, or, not, if -/
def wAnd (a b : DE) : DE := fun ρ L Q E => a ρ L (fun d L1 => ∃ c, d = .bl c ∧ if c = true then b ρ L1 Q E else Q (.bl false) L1) E
def wOr (a b : DE) : DE := fun ρ L Q E => a ρ L (fun d L1 => ∃ c, d = .bl c ∧ if c = true then Q (.bl true) L1 else b ρ L1 Q E) E
def wNot (a : DE) : DE := fun ρ L Q E => a ρ L (fun d L1 => ∃ c, d = .bl c ∧ Q (.bl (!c)) L1) E
def wIte (c a b : DE) : DE := fun ρ L Q E => asT c ρ L (fun d L1 => if d = true then a ρ L1 Q E else b ρ L1 Q E) E
theorem Rep.bl_inv {θ : List Addr} {H : Hp} {b : Bool} {v : V} (r : Rep K mg θ H (.bl b) v) : v = .bl b := by cases r; rfl
theorem Rep.int_inv {θ : List Addr} {H : Hp} {b : Int} {v : V} (r : Rep K mg θ H (.int b) v) : v = .int b := by cases r; rfl
theorem Rep.str_inv {θ : List Addr} {H : Hp} {b : Str} {v : V} (r : Rep K mg θ H (.str b) v) : v = .str b := by cases r; rfl
theorem Rep.non_inv {θ : List Addr} {H : Hp} {v : V} (r : Rep K mg θ H .non v) : v = .non := by cases r; rfl
theorem Rep.ty_inv {θ : List Addr} {H : Hp} {n : String} {v : V} (r : Rep K mg θ H (.ty n) v) : v = .ty n := by cases r; rfl
theorem Rep.loc_inv {θ : List Addr} {H : Hp} {n : Nat} {v : V} (r : Rep K mg θ H (.loc n) v) : ∃ a, θ[n]? = some a ∧ v = .ref a := by cases r with | loc h => exact ⟨_, h, rfl⟩
theorem Rep.glo_inv {θ : List Addr} {H : Hp} {n : Str} {v : V} (r : Rep K mg θ H (.glo n) v) : ∃ a, mg n = some (.ref a) ∧ v = .ref a := by cases r with | glo h => exact ⟨_, h, rfl⟩
theorem Rep.tup_inv {θ : List Addr} {H : Hp} {ds : List D} {v : V} (r : Rep K mg θ H (.tup ds) v) : ∃ a vs, SqT K H a vs ∧ Reps K mg θ H ds vs ∧ v = .ref a := by cases r with | tup h q => exact ⟨_, _, h, q, rfl⟩
theorem tJ_and {a b : DE} (σ : St) (H : Hp) (Q' : VK) (h : tJ K mg W (wAnd a b) σ H Q') : tAndV (tJ K mg W a) (tJ K mg W b) σ H Q' := by
  obtain ⟨θ, ρ, L, Q, E, s, hh, t, u, x⟩ := h
  refine ⟨θ, ρ, L, _, E, s, hh, t, fun v H1 θ1 d L1 e1 h1 r1 ⟨c, hc, q1⟩ => ⟨c, by subst hc; exact r1.bl_inv, ?_⟩, x⟩
  cases c with
  | true => exact ⟨θ1, ρ, L1, Q, E, s.mono e1, h1, q1, u.mono e1, x.mono e1⟩
  | false => exact u _ _ _ _ _ e1 h1 (.bl false) q1
theorem tJ_or {a b : DE} (σ : St) (H : Hp) (Q' : VK) (h : tJ K mg W (wOr a b) σ H Q') : tOrV (tJ K mg W a) (tJ K mg W b) σ H Q' := by
  obtain ⟨θ, ρ, L, Q, E, s, hh, t, u, x⟩ := h
  refine ⟨θ, ρ, L, _, E, s, hh, t, fun v H1 θ1 d L1 e1 h1 r1 ⟨c, hc, q1⟩ => ⟨c, by subst hc; exact r1.bl_inv, ?_⟩, x⟩
  cases c with
  | false => exact ⟨θ1, ρ, L1, Q, E, s.mono e1, h1, q1, u.mono e1, x.mono e1⟩
  | true => exact u _ _ _ _ _ e1 h1 (.bl true) q1
theorem tJ_not {a : DE} (σ : St) (H : Hp) (Q' : VK) (h : tJ K mg W (wNot a) σ H Q') : tNotV (tJ K mg W a) σ H Q' := by
  obtain ⟨θ, ρ, L, Q, E, s, hh, t, u, x⟩ := h
  refine ⟨θ, ρ, L, _, E, s, hh, t, fun v H1 θ1 d L1 e1 h1 r1 ⟨c, hc, q1⟩ => ⟨c, by subst hc; exact r1.bl_inv, ?_⟩, x⟩
  exact u _ _ _ _ _ e1 h1 (.bl _) q1
theorem tJ_ite {c a b : DE} (σ : St) (H : Hp) (Q' : VK) (h : tJ K mg W (wIte c a b) σ H Q') : tIf (tJT K mg W c) (tJ K mg W a) (tJ K mg W b) σ H Q' := by
  obtain ⟨θ, ρ, L, Q, E, s, hh, t, u, x⟩ := h
  refine ⟨θ, ρ, L, _, E, s, hh, t, fun d H1 θ1 L1 e1 h1 q1 => ?_, x⟩
  cases d with
  | true => exact ⟨θ1, ρ, L1, Q, E, s.mono e1, h1, q1, u.mono e1, x.mono e1⟩
  | false => exact ⟨θ1, ρ, L1, Q, E, s.mono e1, h1, q1, u.mono e1, x.mono e1⟩
/-- tests -/
theorem tJT_val {a : DE} (σ : St) (H : Hp) (Q' : Bool → Hp → Prop) (h : tJT K mg W a σ H Q') : tB (tJ K mg W a) σ H Q' := by
  obtain ⟨θ, ρ, L, Q, E, s, hh, t, u, x⟩ := h
  refine ⟨θ, ρ, L, _, E, s, hh, t, fun v H1 θ1 d L1 e1 h1 r1 ⟨b, hb, q1⟩ => ⟨b, by subst hb; exact r1.bl_inv, u _ _ _ _ e1 h1 q1⟩, x⟩
theorem tJT_and {a b : DE} (σ : St) (H : Hp) (Q' : Bool → Hp → Prop) (h : tJT K mg W (wAnd a b) σ H Q') : L2.tAnd (tJT K mg W a) (tJT K mg W b) σ H Q' := by
  obtain ⟨θ, ρ, L, Q, E, s, hh, t, u, x⟩ := h
  refine ⟨θ, ρ, L, fun c L1 => if c = true then asT b ρ L1 Q E else Q false L1, E, s, hh, ?_, fun c H1 θ1 L1 e1 h1 q1 => ?_, x⟩
  · have t : a ρ L _ E := t
    show a ρ L _ E
    have : (fun (d : D) L1 => ∃ c, d = .bl c ∧ if c = true then b ρ L1 (fun d L' => ∃ b, d = .bl b ∧ Q b L') E else (∃ b, D.bl false = .bl b ∧ Q b L1)) = fun d L1 => ∃ b_1, d = .bl b_1 ∧ if b_1 = true then asT b ρ L1 Q E else Q false L1 := by
      funext d L1; apply propext; constructor
      · rintro ⟨c, rfl, q⟩; refine ⟨c, rfl, ?_⟩
        cases c with
        | true => exact q
        | false => obtain ⟨b, hb, q⟩ := q; cases hb; exact q
      · rintro ⟨c, rfl, q⟩; refine ⟨c, rfl, ?_⟩
        cases c with
        | true => exact q
        | false => exact ⟨_, rfl, q⟩
    rw [← this]; exact t
  · cases c with
    | true => exact ⟨θ1, ρ, L1, Q, E, s.mono e1, h1, q1, fun b H' θ' L' x => u b H' θ' L' (e1.trans x), x.mono e1⟩
    | false => exact u _ _ _ _ e1 h1 q1
theorem tJT_or {a b : DE} (σ : St) (H : Hp) (Q' : Bool → Hp → Prop) (h : tJT K mg W (wOr a b) σ H Q') : L2.tOr (tJT K mg W a) (tJT K mg W b) σ H Q' := by
  obtain ⟨θ, ρ, L, Q, E, s, hh, t, u, x⟩ := h
  refine ⟨θ, ρ, L, fun c L1 => if c = true then Q true L1 else asT b ρ L1 Q E, E, s, hh, ?_, fun c H1 θ1 L1 e1 h1 q1 => ?_, x⟩
  · have t : a ρ L _ E := t
    show a ρ L _ E
    have : (fun (d : D) L1 => ∃ c, d = .bl c ∧ if c = true then (∃ b, D.bl true = .bl b ∧ Q b L1) else b ρ L1 (fun d L' => ∃ b, d = .bl b ∧ Q b L') E) = fun d L1 => ∃ b_1, d = .bl b_1 ∧ if b_1 = true then Q true L1 else asT b ρ L1 Q E := by
      funext d L1; apply propext; constructor
      · rintro ⟨c, rfl, q⟩; refine ⟨c, rfl, ?_⟩
        cases c with
        | false => exact q
        | true => obtain ⟨b, hb, q⟩ := q; cases hb; exact q
      · rintro ⟨c, rfl, q⟩; refine ⟨c, rfl, ?_⟩
        cases c with
        | false => exact q
        | true => exact ⟨_, rfl, q⟩
    rw [← this]; exact t
  · cases c with
    | false => exact ⟨θ1, ρ, L1, Q, E, s.mono e1, h1, q1, fun b H' θ' L' x => u b H' θ' L' (e1.trans x), x.mono e1⟩
    | true => exact u _ _ _ _ e1 h1 q1
theorem tJT_not {a : DE} (σ : St) (H : Hp) (Q' : Bool → Hp → Prop) (h : tJT K mg W (wNot a) σ H Q') : tNot (tJT K mg W a) σ H Q' := by
  obtain ⟨θ, ρ, L, Q, E, s, hh, t, u, x⟩ := h
  refine ⟨θ, ρ, L, fun c L1 => Q (!c) L1, E, s, hh, ?_, fun c H1 θ1 L1 e1 h1 q1 => u _ _ _ _ e1 h1 q1, x⟩
  have t : a ρ L _ E := t
  show a ρ L _ E
  have : (fun (d : D) L1 => ∃ c, d = .bl c ∧ ∃ b, D.bl (!c) = .bl b ∧ Q b L1) = fun d L1 => ∃ b, d = .bl b ∧ Q (!b) L1 := by
    funext d L1; apply propext; constructor
    · rintro ⟨c, rfl, b, hb, q⟩; cases hb; exact ⟨c, rfl, q⟩
    · rintro ⟨c, rfl, q⟩; exact ⟨c, rfl, _, rfl, q⟩
  rw [← this]; exact t
/-- a def called -/
def wCall (n : Nat) (S : DSp) (as : DAs) : DE := fun ρ L Q E => as ρ L (fun ds L1 => ds.length = n ∧ S ds L1 Q E) E
theorem tJ_call {n : Nat} {S : DSp} {a : DAs} (σ : St) (H : Hp) (Q' : VK) (h : tJ K mg W (wCall n S a) σ H Q') : tCallSD (spOf K mg n S) [] (fun σ c d H' => W c d σ H') (tJA K mg W a) σ H Q' := by
  obtain ⟨θ, ρ, L, Q, E, s, hh, t, u, x⟩ := h
  refine ⟨θ, ρ, L, _, E, s, hh, t, fun vs H1 θ1 ds L1 e1 h1 r1 ⟨hn, q1⟩ => ?_, x⟩
  show spOf K mg n S (vs ++ []) H1 Q' _
  rw [List.append_nil]
  exact ⟨θ1, ds, L1, Q, E, h1, r1, hn, q1, u.mono e1, x.mono e1⟩

/-! ### statements -/
def wSeq (a b : DS) : DS := fun D ρ L => a { D with nx := b D } ρ L
def wSkip : DS := fun D ρ L => D.nx ρ L
def wSet (i : Nat) (e : DE) : DS := fun D ρ L => e ρ L (fun d L1 => D.nx (ρ.set i (some d)) L1) (fun x L1 => D.xc x ρ L1)
def wExp (e : DE) : DS := fun D ρ L => e ρ L (fun _ L1 => D.nx ρ L1) (fun x L1 => D.xc x ρ L1)
def wRet (e : DE) : DS := fun D ρ L => e ρ L D.rt (fun x L1 => D.xc x ρ L1)
def wRetN : DS := fun D _ L => D.rt .non L
def wIf (c : DE) (a b : DS) : DS := fun D ρ L => asT c ρ L (fun k L1 => if k = true then a D ρ L1 else b D ρ L1) (fun x L1 => D.xc x ρ L1)
def wBrk : DS := fun D ρ L => D.bk ρ L
def wCnt : DS := fun D ρ L => D.ct ρ L
def wNever : DS := fun _ _ _ => False
def wAsg (e : DE) (g : DG) : DS := fun D ρ L => e ρ L (fun d L1 => g d ρ L1 D.nx) (fun x L1 => D.xc x ρ L1)
def wWhile (c : DE) (b : DS) : DS := fun D ρ L => ∃ Wl : Nat → Rho → LH → Prop, (∃ m, Wl m ρ L) ∧ ∀ m ρ L, Wl m ρ L →
  asT c ρ L (fun k L1 => if k = true then ∃ N : Rho → LH → Prop, (∀ ρ' L', N ρ' L' → ∃ m', m' < m ∧ Wl m' ρ' L') ∧ b { D with nx := N, ct := N, bk := D.nx } ρ L1 else D.nx ρ L1) (fun x L1 => D.xc x ρ L1)
theorem UpS.mono {θ θ' : List Addr} {H H' : Hp} {D : DEnds} {D' : Ends} (u : UpS K mg W θ H D D') (e : Ext K θ H θ' H') : UpS K mg W θ' H' D D' :=
  ⟨fun a b c d f x => u.nx a b c d f (e.trans x), fun a b c d f x => u.rt a b c d f (e.trans x), fun a b c d f x => u.bk a b c d f (e.trans x), fun a b c d f x => u.ct a b c d f (e.trans x), fun a b c d f g h i x => u.xc a b c d f g h i (e.trans x)⟩
theorem UpS.ux {θ : List Addr} {H : Hp} {D : DEnds} {D' : Ends} {ρ : Rho} {σ : St} (u : UpS K mg W θ H D D') (s : SR K mg θ ρ σ H) : UpX K mg θ H (fun x L1 => D.xc x ρ L1) (fun c d H' => W c d σ H') :=
  fun cls dx H' θ' e L' x h r q => u.xc cls dx θ' ρ L' σ H' e x (s.mono x) h r q
theorem SR.put {θ : List Addr} {H : Hp} {ρ : Rho} {σ : St} (s : SR K mg θ ρ σ H) {d : D} {v : V} (r : Rep K mg θ H d v) (i : Nat) : SR K mg θ (ρ.set i (some d)) (σ.set i (some v)) H := by
  refine ⟨by simp [s.len], fun j e h => ?_⟩
  by_cases hj : i = j
  · subst hj
    have hi : i < ρ.length := by
      have := (List.getElem?_eq_some_iff.mp h).1
      simpa using this
    rw [List.getElem?_set_self hi] at h
    cases h
    exact ⟨v, by rw [List.getElem?_set_self (by rw [← s.len]; exact hi)], r⟩
  · rw [List.getElem?_set_ne hj] at h
    obtain ⟨w, h1, h2⟩ := s.ok j e h
    exact ⟨w, by rw [List.getElem?_set_ne hj]; exact h1, h2⟩
theorem tJS_seq {a b : DS} (D' : Ends) (σ : St) (H : Hp) (h : tJS K mg W (wSeq a b) D' σ H) : tSeq (tJS K mg W a) (tJS K mg W b) D' σ H := by
  obtain ⟨θ, ρ, L, D, s, hh, t, u⟩ := h
  exact ⟨θ, ρ, L, _, s, hh, t, ⟨fun θ1 ρ1 L1 σ1 H1 x s1 h1 q => ⟨θ1, ρ1, L1, D, s1, h1, q, u.mono x⟩, u.rt, u.bk, u.ct, u.xc⟩⟩
theorem tJS_skip (D' : Ends) (σ : St) (H : Hp) (h : tJS K mg W wSkip D' σ H) : tNext D' σ H := by
  obtain ⟨θ, ρ, L, D, s, hh, t, u⟩ := h
  exact u.nx _ _ _ _ _ .refl s hh t
theorem tJS_exp {e : DE} (D' : Ends) (σ : St) (H : Hp) (h : tJS K mg W (wExp e) D' σ H) : tDrop (tJ K mg W e) D' σ H := by
  obtain ⟨θ, ρ, L, D, s, hh, t, u⟩ := h
  exact ⟨θ, ρ, L, _, _, s, hh, t, fun v H1 θ1 d L1 x h1 r q => u.nx _ _ _ _ _ x (s.mono x) h1 q, u.ux s⟩
theorem tJS_ret {e : DE} (D' : Ends) (σ : St) (H : Hp) (h : tJS K mg W (wRet e) D' σ H) : tRet (tJ K mg W e) D' σ H := by
  obtain ⟨θ, ρ, L, D, s, hh, t, u⟩ := h
  exact ⟨θ, ρ, L, _, _, s, hh, t, fun v H1 θ1 d L1 x h1 r q => u.rt _ _ _ _ _ x h1 r q, u.ux s⟩
theorem tJS_retN (D' : Ends) (σ : St) (H : Hp) (h : tJS K mg W wRetN D' σ H) : tRetN D' σ H := by
  obtain ⟨θ, ρ, L, D, s, hh, t, u⟩ := h
  exact u.rt _ _ _ _ _ .refl hh .non t
theorem tJS_if {c : DE} {a b : DS} (D' : Ends) (σ : St) (H : Hp) (h : tJS K mg W (wIf c a b) D' σ H) : tIfS (tJT K mg W c) (tJS K mg W a) (tJS K mg W b) D' σ H := by
  obtain ⟨θ, ρ, L, D, s, hh, t, u⟩ := h
  refine ⟨θ, ρ, L, _, _, s, hh, t, fun k H1 θ1 L1 x h1 q => ?_, u.ux s⟩
  cases k with
  | true => exact ⟨θ1, ρ, L1, D, s.mono x, h1, q, u.mono x⟩
  | false => exact ⟨θ1, ρ, L1, D, s.mono x, h1, q, u.mono x⟩
theorem tJS_brk (D' : Ends) (σ : St) (H : Hp) (h : tJS K mg W wBrk D' σ H) : tBreak D' σ H := by
  obtain ⟨θ, ρ, L, D, s, hh, t, u⟩ := h
  exact u.bk _ _ _ _ _ .refl s hh t
theorem tJS_cnt (D' : Ends) (σ : St) (H : Hp) (h : tJS K mg W wCnt D' σ H) : tCont D' σ H := by
  obtain ⟨θ, ρ, L, D, s, hh, t, u⟩ := h
  exact u.ct _ _ _ _ _ .refl s hh t
theorem tJS_never (D' : Ends) (σ : St) (H : Hp) (h : tJS K mg W wNever D' σ H) : tNever D' σ H := by
  obtain ⟨θ, ρ, L, D, s, hh, t, u⟩ := h
  exact t
def gSlot (i : Nat) : DG := fun d ρ L Q => Q (ρ.set i (some d)) L
theorem tJG_slot {i : Nat} (v : V) (σ : St) (H : Hp) (Q' : St → Hp → Prop) (h : tJG K mg (gSlot i) v σ H Q') : gName i v σ H Q' := by
  obtain ⟨θ, ρ, L, Q, d, s, hh, r, g, u⟩ := h
  exact u _ _ _ _ _ .refl (s.put r i) hh g
theorem tJS_asg {e : DE} {g : DG} (D' : Ends) (σ : St) (H : Hp) (h : tJS K mg W (wAsg e g) D' σ H) : tAsg (tJ K mg W e) (tJG K mg g) D' σ H := by
  obtain ⟨θ, ρ, L, D, s, hh, t, u⟩ := h
  exact ⟨θ, ρ, L, _, _, s, hh, t, fun v H1 θ1 d L1 x h1 r q => ⟨θ1, ρ, L1, _, d, s.mono x, h1, r, q, fun a b c d f y => u.nx a b c d f (x.trans y)⟩, u.ux s⟩
theorem tJS_set {i : Nat} {e : DE} (D' : Ends) (σ : St) (H : Hp) (h : tJS K mg W (wSet i e) D' σ H) : tAsg (tJ K mg W e) (gName i) D' σ H := by
  obtain ⟨θ, ρ, L, D, s, hh, t, u⟩ := h
  exact ⟨θ, ρ, L, _, _, s, hh, t, fun v H1 θ1 d L1 x h1 r q => u.nx _ _ _ _ _ x ((s.mono x).put r i) h1 q, u.ux s⟩
theorem tJS_while {c : DE} {b : DS} (D' : Ends) (σ : St) (H : Hp) (h : tJS K mg W (wWhile c b) D' σ H) : tWhile (tJT K mg W c) (tJS K mg W b) D' σ H := by
  obtain ⟨θ, ρ, L, D, s, hh, ⟨Wl, ⟨m0, w0⟩, turn⟩, u⟩ := h
  refine ⟨fun m σ1 H1 => ∃ θ1 ρ1 L1, Ext K θ H θ1 H1 ∧ SR K mg θ1 ρ1 σ1 H1 ∧ HR K mg θ1 L1 H1 ∧ Wl m ρ1 L1, ⟨m0, θ, ρ, L, .refl, s, hh, w0⟩, ?_⟩
  rintro m σ1 H1 ⟨θ1, ρ1, L1, x1, s1, h1, w1⟩
  refine ⟨θ1, ρ1, L1, _, _, s1, h1, turn m ρ1 L1 w1, fun k H2 θ2 L2 x2 h2 q => ?_, (u.mono x1).ux s1⟩
  cases k with
  | false => exact u.nx _ _ _ _ _ (x1.trans x2) (s1.mono x2) h2 q
  | true =>
    obtain ⟨N, hN, q⟩ := q
    refine ⟨fun σ3 H3 => ∃ θ3 ρ3 L3, Ext K θ H θ3 H3 ∧ SR K mg θ3 ρ3 σ3 H3 ∧ HR K mg θ3 L3 H3 ∧ N ρ3 L3, fun σ3 H3 ⟨θ3, ρ3, L3, x3, s3, h3, n3⟩ => ?_, θ2, ρ1, L2, _, s1.mono x2, h2, q, ?_⟩
    · obtain ⟨m', hm, w3⟩ := hN _ _ n3
      exact ⟨m', hm, θ3, ρ3, L3, x3, s3, h3, w3⟩
    · have x12 := x1.trans x2
      exact ⟨fun a b c d f y s h n => ⟨a, b, c, x12.trans y, s, h, n⟩, (u.mono x12).rt, (u.mono x12).nx, fun a b c d f y s h n => ⟨a, b, c, x12.trans y, s, h, n⟩, (u.mono x12).xc⟩
/-- for, by the items -/
def forL (g : DG) (b : DS) (keep : LH → Prop) : List D → DEnds → Rho → LH → Prop
  | [], D, ρ, L => keep L ∧ D.nx ρ L
  | d :: ds, D, ρ, L => keep L ∧ g d ρ L fun ρ1 L1 => b { D with nx := forL g b keep ds D, ct := forL g b keep ds D, bk := D.nx } ρ1 L1
def wFor (i : DI) (g : DG) (b : DS) : DS := fun D ρ L => i ρ L (fun items keep L1 => forL g b keep items D ρ L1) (fun x L1 => D.xc x ρ L1)
theorem drop_cons_of {ds : List D} {i : Nat} (h : i < ds.length) : ds.drop i = ds[i] :: ds.drop (i + 1) := by
  rw [List.drop_eq_getElem_cons h]
theorem tJS_for {i : DI} {g : DG} {b : DS} (D' : Ends) (σ : St) (H : Hp) (h : tJS K mg W (wFor i g b) D' σ H) : tFor (tJI K mg W i) (tJG K mg g) (tJS K mg W b) D' σ H := by
  obtain ⟨θ, ρ, L, D, s, hh, t, u⟩ := h
  refine ⟨θ, ρ, L, _, _, s, hh, t, fun J H1 θ1 L1 items keep x1 h1 ok q => ?_, u.ux s⟩
  refine ⟨fun n m σ2 H2 => m = items.length - n ∧ n ≤ items.length ∧ ∃ θ2 ρ2 L2, Ext K θ1 H1 θ2 H2 ∧ SR K mg θ2 ρ2 σ2 H2 ∧ HR K mg θ2 L2 H2 ∧ forL g b keep (items.drop n) D ρ2 L2, ⟨items.length, rfl, Nat.zero_le _, θ1, ρ, L1, .refl, s.mono x1, h1, q⟩, ?_⟩
  rintro n m σ2 H2 ⟨rfl, hn, θ2, ρ2, L2, x2, s2, h2, f2⟩
  by_cases hlt : n < items.length
  · rw [drop_cons_of hlt] at f2
    obtain ⟨kp, f2⟩ := f2
    refine .inr ⟨ok.go n θ2 L2 H2 x2 h2 kp hlt, fun σ3 H3 => n + 1 ≤ items.length ∧ ∃ θ3 ρ3 L3, Ext K θ1 H1 θ3 H3 ∧ SR K mg θ3 ρ3 σ3 H3 ∧ HR K mg θ3 L3 H3 ∧ forL g b keep (items.drop (n + 1)) D ρ3 L3, fun σ3 H3 ⟨a, c⟩ => ⟨items.length - (n + 1), by omega, rfl, a, c⟩, fun y H3 yy => ?_⟩
    obtain ⟨x3, h3, r3⟩ := ok.yld n θ2 L2 H2 y H3 items[n] x2 h2 kp (List.getElem?_eq_getElem hlt) yy
    refine ⟨θ2, ρ2, L2, _, _, s2.mono x3, h3, r3, f2, fun θ4 ρ4 L4 σ4 H4 x4 s4 h4 q4 => ?_⟩
    have x24 := x2.trans (x3.trans x4)
    have v := u.mono (x1.trans x24)
    refine ⟨θ4, ρ4, L4, _, s4, h4, q4, ⟨fun a b c d f y s h n => ⟨by omega, a, b, c, x24.trans y, s, h, n⟩, v.rt, v.nx, fun a b c d f y s h n => ⟨by omega, a, b, c, x24.trans y, s, h, n⟩, v.xc⟩⟩
  · have e : n = items.length := by omega
    subst e
    rw [List.drop_length] at f2
    exact .inl ⟨ok.stop _ θ2 L2 H2 x2 h2 f2.1 rfl, u.nx _ _ _ _ _ (x1.trans x2) s2 h2 f2.2⟩
end
end Bw
end
section
set_option linter.all false
set_option maxRecDepth 100000
set_option maxHeartbeats 4000000
namespace Bw
open PySem L2

/-! ### primitives, by values -/
/-- the items of a list cell -/
def sqL (L : LH) : D → Option (List D)
  | .loc n => match L[n]? with
    | some (.lst ds) => some ds
    | some (.ro ds) => some ds
    | _ => none
  | .kl ns => some (ns.map D.int)
  | _ => none
def sqT : D → Option (List D)
  | .tup ds => some ds
  | _ => none
def sq (L : LH) (d : D) : Option (List D) := match d with
  | .tup ds => some ds
  | d => sqL L d

section
variable {K : PySem.W.Frag} {mg : Str → Option Value} {θ : List Addr} {L : LH} {H : Hp}
theorem sqL_of {d : D} {v : V} {ds : List D} (h : HR K mg θ L H) (r : Rep K mg θ H d v) (e : sqL L d = some ds) : ∃ a vs, v = .ref a ∧ SqL K H a vs ∧ Reps K mg θ H ds vs := by
  unfold sqL at e
  split at e
  · rename_i n
    obtain ⟨a, ha, rfl⟩ := r.loc_inv
    split at e
    · rename_i ds' hn
      cases e
      obtain ⟨vs, h1, h2⟩ := h.ok n _ a hn ha
      exact ⟨a, vs, rfl, SqL.of h1, h2⟩
    · rename_i ds' hn
      cases e
      obtain ⟨vs, o, h1, h2⟩ := h.ok n _ a hn ha
      exact ⟨a, vs, rfl, .inl (.inr ⟨o, h1⟩), h2⟩
    · cases e
  · cases e
    cases r with
    | kl h1 => exact ⟨_, _, rfl, h1 H, Reps.ints _⟩
  · cases e
theorem sq_of {d : D} {v : V} {ds : List D} (h : HR K mg θ L H) (r : Rep K mg θ H d v) (e : sq L d = some ds) : ∃ a vs, v = .ref a ∧ (SqL K H a vs ∨ SqT K H a vs) ∧ Reps K mg θ H ds vs := by
  unfold sq at e
  split at e
  · cases e
    obtain ⟨a, vs, h1, h2, rfl⟩ := r.tup_inv
    exact ⟨a, vs, rfl, .inr h1, h2⟩
  · obtain ⟨a, vs, e1, h1, h2⟩ := sqL_of h r e
    exact ⟨a, vs, e1, .inl h1, h2⟩
/-- a list cell that may be written -/
theorem lst_of {n : Nat} {v : V} {ds : List D} (h : HR K mg θ L H) (r : Rep K mg θ H (.loc n) v) (e : L[n]? = some (.lst ds)) : ∃ a vs, v = .ref a ∧ θ[n]? = some a ∧ H a = some (.lst vs) ∧ Reps K mg θ H ds vs := by
  obtain ⟨a, ha, rfl⟩ := r.loc_inv
  obtain ⟨vs, h1, h2⟩ := h.ok n _ a e ha
  exact ⟨a, vs, rfl, ha, h1, h2⟩
theorem lst_upd {n : Nat} {a : Addr} {ds es : List D} {vs us : List V} (h : HR K mg θ L H) (e : L[n]? = some (.lst ds)) (ha : θ[n]? = some a) (h1 : H a = some (.lst vs)) (r : Reps K mg θ H es us) :
    Ext K θ H θ (upd H a (.lst us)) ∧ HR K mg θ (L.set n (.lst es)) (upd H a (.lst us)) := by
  have x : Ext K θ H θ (upd H a (.lst us)) := Ext.upd ha h1 True.intro
  exact ⟨x, h.upd e ha rfl rfl ⟨us, upd_same, r.mono x⟩⟩
end

/-! #### operators -/
def pAdd : D → D → LH → Post → Prop
  | .int i, .int j, L, Q => Q (.int (i + j)) L
  | .str x, .str y, L, Q => x.length + y.length ≤ sizeLine ∧ Q (.str (x ++ y)) L
  | .tup xs, .tup ys, L, Q => xs.length + ys.length ≤ sizeLine ∧ Q (.tup (xs ++ ys)) L
  | .loc m, .loc n, L, Q => ∃ xs ys, L[m]? = some (.lst xs) ∧ L[n]? = some (.lst ys) ∧ xs.length + ys.length ≤ sizeLine ∧ Q (.loc L.length) (L ++ [.lst (xs ++ ys)])
  | _, _, _, _ => False
def pI2 (f : Int → Int → Int) (C : Int → Int → Prop) : D → D → LH → Post → Prop
  | .int i, .int j, L, Q => C i j ∧ Q (.int (f i j)) L
  | _, _, _, _ => False
def pB2 (f : Int → Int → Bool) : D → D → LH → Post → Prop
  | .int i, .int j, L, Q => Q (.bl (f i j)) L
  | _, _, _, _ => False
def pMul : D → D → LH → Post → Prop
  | .int i, .int j, L, Q => CMul i j ∧ Q (.int (i * j)) L
  | .tup xs, .int k, L, Q => xs ≠ [] ∧ 2 ≤ k ∧ k ≤ 1000 ∧ xs.length ≤ 1000 ∧ Q (.tup (List.replicate k.toNat xs).flatten) L
  | _, _, _, _ => False
def pIsB : D → D → LH → Post → Prop
  | .bl a, .bl b, L, Q => Q (.bl (decide (a = b))) L
  | _, _, _, _ => False
def isNon : D → Bool
  | .non => true
  | _ => false

section
variable {X : Cx} {K : PySem.W.Frag} {mg : Str → Option Value}
theorem OpR.imp {f : Value → Value → Sem Value} {r r' : R2} (h : OpR X f r) (i : ∀ x y H Q, r' x y H Q → r x y H Q) : OpR X f r' :=
  fun pins s σ H x y v u Q I rx ry q => h pins s σ H x y v u Q I rx ry (i x y H Q q)
theorem lst_new {θ : List Addr} {L : LH} {H : Hp} {p : Addr} {vs : List V} {ds : List D} {Q : Post} {Q' : VK} (hh : HR K mg θ L H) (hp : H p = none) (r : Reps K mg θ H ds vs) (u : Up K mg θ H Q Q') (q : Q (.loc L.length) (L ++ [.lst ds])) : Q' (.ref p) (upd H p (.lst vs)) := by
  obtain ⟨e2, h2, r2⟩ := rep_newlst hh hp r
  exact u _ _ _ _ _ e2 h2 r2 q
theorem tup_new {θ : List Addr} {L : LH} {H : Hp} {p : Addr} {vs : List V} {ds : List D} {Q : Post} {Q' : VK} (hh : HR K mg θ L H) (hp : H p = none) (r : Reps K mg θ H ds vs) (u : Up K mg θ H Q Q') (q : Q (.tup ds) L) : Q' (.ref p) (upd H p (.tup vs)) := by
  obtain ⟨e2, h2, r2⟩ := rep_newtup hh hp r
  exact u _ _ _ _ _ e2 h2 r2 q
theorem up_same {θ : List Addr} {L : LH} {H : Hp} {d : D} {v : V} {Q : Post} {Q' : VK} (hh : HR K mg θ L H) (r : Rep K mg θ H d v) (u : Up K mg θ H Q Q') (q : Q d L) : Q' v H := u _ _ _ _ _ .refl hh r q
theorem o_add : OpR X (binaryOp .Add) (lift2 X.K X.mg pAdd) := by
  refine OpR.imp (op_add.or (op_add_str.or (op_catA.or op_cat))) fun x y H Q' h => ?_
  obtain ⟨θ, d, e, L, Q, hh, rx, ry, q, u⟩ := h
  unfold pAdd at q
  split at q
  · rename_i i j
    cases rx; cases ry
    exact .inl ⟨i, j, rfl, rfl, up_same hh (.int _) u q⟩
  · rename_i i j
    cases rx; cases ry
    exact .inr (.inl ⟨i, j, rfl, rfl, q.1, up_same hh (.str _) u q.2⟩)
  · rename_i xs ys
    obtain ⟨a, vs, h1, h2, rfl⟩ := rx.tup_inv
    obtain ⟨b, us, h3, h4, rfl⟩ := ry.tup_inv
    obtain ⟨z, q⟩ := q
    refine .inr (.inr (.inl ⟨a, b, vs, us, rfl, rfl, h1, h3, by rw [← h2.len, ← h4.len]; exact z, fun e => ?_, fun e1 e2 => ?_, fun _ _ p hp => ?_⟩))
    · subst e; cases h2; exact up_same hh ry u q
    · subst e2; cases h4; rw [List.append_nil] at q; exact up_same hh rx u q
    · exact tup_new hh hp (h2.append h4) u q
  · rename_i m n
    obtain ⟨xs, ys, h1, h2, z, q⟩ := q
    obtain ⟨a, vs, rfl, ha, hA, ra⟩ := lst_of hh rx h1
    obtain ⟨b, us, rfl, hb, hB, rb⟩ := lst_of hh ry h2
    exact .inr (.inr (.inr ⟨a, b, vs, us, rfl, rfl, hA, hB, by rw [← ra.len, ← rb.len]; exact z, fun p hp => lst_new hh hp (ra.append rb) u q⟩))
  · exact q.elim
theorem o_I {f : Value → Value → Sem Value} {g : Int → Int → Int} {C : Int → Int → Prop} (h : OpR X f (rI C fun i j => .int (g i j))) : OpR X f (lift2 X.K X.mg (pI2 g C)) := by
  refine OpR.imp h fun x y H Q' h => ?_
  obtain ⟨θ, d, e, L, Q, hh, rx, ry, q, u⟩ := h
  unfold pI2 at q
  split at q
  · rename_i i j
    cases rx; cases ry
    exact ⟨i, j, rfl, rfl, q.1, up_same hh (.int _) u q.2⟩
  · exact q.elim
theorem o_I0 {f : Value → Value → Sem Value} {g : Int → Int → Int} (h : OpR X f (rI0 fun i j => .int (g i j))) : OpR X f (lift2 X.K X.mg (pI2 g fun _ _ => True)) := by
  refine OpR.imp h fun x y H Q' h => ?_
  obtain ⟨θ, d, e, L, Q, hh, rx, ry, q, u⟩ := h
  unfold pI2 at q
  split at q
  · rename_i i j
    cases rx; cases ry
    exact ⟨i, j, rfl, rfl, up_same hh (.int _) u q.2⟩
  · exact q.elim
theorem o_B {f : Value → Value → Sem Value} {g : Int → Int → Bool} (h : OpR X f (rI0 fun i j => .bl (g i j))) : OpR X f (lift2 X.K X.mg (pB2 g)) := by
  refine OpR.imp h fun x y H Q' h => ?_
  obtain ⟨θ, d, e, L, Q, hh, rx, ry, q, u⟩ := h
  unfold pB2 at q
  split at q
  · rename_i i j
    cases rx; cases ry
    exact ⟨i, j, rfl, rfl, up_same hh (.bl _) u q⟩
  · exact q.elim
theorem o_mul : OpR X (binaryOp .Mult) (lift2 X.K X.mg pMul) := by
  refine OpR.imp (op_mul.or op_repT) fun x y H Q' h => ?_
  obtain ⟨θ, d, e, L, Q, hh, rx, ry, q, u⟩ := h
  unfold pMul at q
  split at q
  · rename_i i j
    cases rx; cases ry
    exact .inl ⟨i, j, rfl, rfl, q.1, up_same hh (.int _) u q.2⟩
  · rename_i xs k
    obtain ⟨a, vs, h1, h2, rfl⟩ := rx.tup_inv
    cases ry
    obtain ⟨q1, q2, q3, q4, q⟩ := q
    have hl := h2.len
    refine .inr ⟨a, k, vs, rfl, rfl, h1, fun e => ?_, q2, q3, by omega, fun p hp => tup_new hh hp ?_ u q⟩
    · subst e; cases h2; exact q1 rfl
    · generalize k.toNat = n
      induction n with
      | zero => exact .nil
      | succ n ih => simp only [List.replicate_succ, List.flatten_cons]; exact h2.append ih
  · exact q.elim
theorem o_isB : OpR X (compareOp .Is) (lift2 X.K X.mg pIsB) := by
  refine OpR.imp op_is_bl fun x y H Q' h => ?_
  obtain ⟨θ, d, e, L, Q, hh, rx, ry, q, u⟩ := h
  unfold pIsB at q
  split at q
  · cases rx; cases ry
    exact ⟨_, _, rfl, rfl, up_same hh (.bl _) u q⟩
  · exact q.elim
/-- is None -/
def pIsN : D → D → LH → Post → Prop
  | d, .non, L, Q => Q (.bl (isNon d)) L
  | .bl a, .bl b, L, Q => Q (.bl (decide (a = b))) L
  | _, _, _, _ => False
def pIsNotN : D → D → LH → Post → Prop
  | d, .non, L, Q => Q (.bl (!isNon d)) L
  | .bl a, .bl b, L, Q => Q (.bl (!decide (a = b))) L
  | _, _, _, _ => False
theorem isNon_rep {θ : List Addr} {H : Hp} {d : D} {v : V} (r : Rep K mg θ H d v) : isNon d = decide (v = .non) := by
  cases r <;> simp [isNon]
theorem o_isN : OpR X (compareOp .Is) (lift2 X.K X.mg pIsN) := by
  refine OpR.imp (op_isN.or op_is_bl) fun x y H Q' h => ?_
  obtain ⟨θ, d, e, L, Q, hh, rx, ry, q, u⟩ := h
  unfold pIsN at q
  split at q
  · cases ry
    rw [isNon_rep rx] at q
    exact .inl ⟨rfl, up_same hh (.bl _) u q⟩
  · cases rx; cases ry
    exact .inr ⟨_, _, rfl, rfl, up_same hh (.bl _) u q⟩
  · exact q.elim
theorem o_isNotN : OpR X (compareOp .IsNot) (lift2 X.K X.mg pIsNotN) := by
  refine OpR.imp (op_notN.or op_isnot_bl) fun x y H Q' h => ?_
  obtain ⟨θ, d, e, L, Q, hh, rx, ry, q, u⟩ := h
  unfold pIsNotN at q
  split at q
  · cases ry
    rw [isNon_rep rx] at q
    exact .inl ⟨rfl, up_same hh (.bl _) u q⟩
  · cases rx; cases ry
    exact .inr ⟨_, _, rfl, rfl, up_same hh (.bl _) u q⟩
  · exact q.elim
/-! #### == -/
mutual
/-- data without cells, as the library's data -/
def D.py : D → Option PyData
  | .non => some .none
  | .bl b => some (.bool b)
  | .int i => some (.int i)
  | .str x => some (.str x)
  | .tup ds => (D.pys ds).map .tuple
  | .loc _ => none
  | .glo _ => none
  | .ty _ => none
  | .kl _ => none
def D.pys : List D → Option (List PyData)
  | [] => some []
  | d :: ds => match D.py d, D.pys ds with
    | some p, some ps => some (p :: ps)
    | _, _ => none
end
/-- .. at the top perhaps a list -/
def pyTop (L : LH) (d : D) : Option PyData := match sqL L d with
  | some ds => (D.pys ds).map .list
  | none => d.py
mutual
theorem py_dp {θ : List Addr} {H : Hp} : ∀ (d : D) (p : PyData) (v : V), d.py = some p → Rep K mg θ H d v → Dp K H v p
  | .non, _, _, e, r => by cases e; cases r; exact .non
  | .bl b, _, _, e, r => by cases e; cases r; exact .bl b
  | .int b, _, _, e, r => by cases e; cases r; exact .int b
  | .str b, _, _, e, r => by cases e; cases r; exact .str b
  | .tup ds, p, _, e, r => by
    obtain ⟨a, vs, h1, h2, rfl⟩ := r.tup_inv
    unfold D.py at e
    cases q : D.pys ds with
    | none => rw [q] at e; cases e
    | some ps =>
      rw [q] at e; cases e
      exact .tup h1 (pys_dp ds ps vs q h2)
  | .loc _, _, _, e, _ => by cases e
  | .glo _, _, _, e, _ => by cases e
  | .ty _, _, _, e, _ => by cases e
  | .kl _, _, _, e, _ => by cases e
theorem pys_dp {θ : List Addr} {H : Hp} : ∀ (ds : List D) (ps : List PyData) (vs : List V), D.pys ds = some ps → Reps K mg θ H ds vs → DpAll K H vs ps
  | [], _, _, e, r => by cases e; cases r; exact .nil
  | d :: ds, ps, vs, e, r => by
    unfold D.pys at e
    cases q1 : D.py d with
    | none => rw [q1] at e; cases e
    | some p =>
      rw [q1] at e
      cases q2 : D.pys ds with
      | none => rw [q2] at e; cases e
      | some qs =>
        rw [q2] at e; cases e
        cases r with
        | cons r1 r2 => exact .cons (py_dp d p _ q1 r1) (pys_dp ds qs _ q2 r2)
end
theorem pyTop_dp {θ : List Addr} {L : LH} {H : Hp} {d : D} {p : PyData} {v : V} (hh : HR K mg θ L H) (e : pyTop L d = some p) (r : Rep K mg θ H d v) : Dp K H v p := by
  unfold pyTop at e
  split at e
  · rename_i ds hq
    obtain ⟨a, vs, rfl, h1, h2⟩ := sqL_of hh r hq
    cases q : D.pys ds with
    | none => rw [q] at e; cases e
    | some ps =>
      rw [q] at e; cases e
      exact .lst h1 (pys_dp ds ps vs q h2)
  · exact py_dp _ _ _ e r
mutual
theorem py_plain : ∀ (d : D) (p : PyData), d.py = some p → p.plain = true
  | .non, _, e => by cases e; rfl
  | .bl _, _, e => by cases e; rfl
  | .int _, _, e => by cases e; rfl
  | .str _, _, e => by cases e; rfl
  | .tup ds, p, e => by
    unfold D.py at e
    cases q : D.pys ds with
    | none => rw [q] at e; cases e
    | some ps => rw [q] at e; cases e; exact pys_plain ds ps q
  | .loc _, _, e => by cases e
  | .glo _, _, e => by cases e
  | .ty _, _, e => by cases e
  | .kl _, _, e => by cases e
theorem pys_plain : ∀ (ds : List D) (ps : List PyData), D.pys ds = some ps → PyData.plainAll ps = true
  | [], _, e => by cases e; rfl
  | d :: ds, ps, e => by
    unfold D.pys at e
    cases q1 : D.py d with
    | none => rw [q1] at e; cases e
    | some p =>
      rw [q1] at e
      cases q2 : D.pys ds with
      | none => rw [q2] at e; cases e
      | some qs => rw [q2] at e; cases e; simp [PyData.plainAll, py_plain d p q1, pys_plain ds qs q2]
end
theorem pyTop_plain {L : LH} {d : D} {p : PyData} (e : pyTop L d = some p) : p.plain = true := by
  unfold pyTop at e
  split at e
  · rename_i ds _
    cases q : D.pys ds with
    | none => rw [q] at e; cases e
    | some ps => rw [q] at e; cases e; exact pys_plain ds ps q
  · exact py_plain d p e
def keyOf : D → Option Key
  | .int i => some (.inl i)
  | .str x => some (.inr x)
  | _ => none
theorem keyOf_rep {θ : List Addr} {H : Hp} {d : D} {v : V} {k : Key} (r : Rep K mg θ H d v) (e : keyOf d = some k) : v = kV k := by
  cases r <;> simp [keyOf] at e <;> subst e <;> rfl
def valD {κ : Type} [DecidableEq κ] (kvs : List (κ × D)) (k : κ) : Option D := (kvs.find? fun kv => decide (kv.1 = k)).map (·.2)
theorem valD_rep {κ : Type} [DecidableEq κ] {θ : List Addr} {H : Hp} {kvs : List (κ × D)} {us : List (κ × V)} (r : RepKV K mg θ H kvs us) (k : κ) : (valD kvs k = none ∧ valV us k = none) ∨ ∃ d v, valD kvs k = some d ∧ valV us k = some v ∧ Rep K mg θ H d v := by
  obtain ⟨r1, r2⟩ := r
  induction kvs generalizing us with
  | nil => cases us with
    | nil => exact .inl ⟨rfl, rfl⟩
    | cons _ _ => simp at r1
  | cons p kvs ih =>
    cases us with
    | nil => simp at r1
    | cons q us =>
      simp only [List.map_cons, List.cons.injEq] at r1
      simp only [List.map_cons] at r2
      cases r2 with
      | cons a b =>
        by_cases e : p.1 = k
        · refine .inr ⟨p.2, q.2, by simp [valD, List.find?_cons, e], ?_, a⟩
          rw [valV_pos (r1.1 ▸ e)]
        · have e2 : ¬ q.1 = k := by rw [← r1.1]; exact e
          have e1 : valD (p :: kvs) k = valD kvs k := by simp [valD, List.find?_cons, e]
          rw [e1, valV_neg e2]
          exact ih r1.2 b
def dkOf (L : LH) : D → Option (List (Key × D))
  | .loc n => match L[n]? with
    | some (.dk kvs) => some kvs
    | _ => none
  | _ => none
theorem dk_of {θ : List Addr} {L : LH} {H : Hp} {d : D} {v : V} {kvs : List (Key × D)} (h : HR K mg θ L H) (r : Rep K mg θ H d v) (e : dkOf L d = some kvs) : ∃ n a us, d = .loc n ∧ L[n]? = some (.dk kvs) ∧ θ[n]? = some a ∧ v = .ref a ∧ H a = some (.dK us) ∧ RepKV K mg θ H kvs us := by
  unfold dkOf at e
  split at e
  · rename_i n
    obtain ⟨a, ha, rfl⟩ := r.loc_inv
    split at e
    · rename_i ds' hn
      cases e
      obtain ⟨vs, h1, h2⟩ := h.ok n _ a hn ha
      exact ⟨n, a, vs, rfl, hn, ha, rfl, h1, h2⟩
    · cases e
  · cases e
/-- d == e of data without cells -/
def eqDP (d e : D) : Option Bool := match d.py, e.py with
  | some p, some q => if min p.depth q.depth ≤ 60 then some (PyData.eqv p q) else none
  | _, _ => none
/-- the first dict's items looked up in the second -/
def eqKV (ls : List (Key × D)) : List (Key × D) → Option Bool
  | [] => some true
  | (k, d) :: r => match valD ls k with
    | none => some false
    | some e => match eqDP d e, eqKV ls r with
      | some a, some b => some (a && b)
      | _, _ => none
theorem eqDP_at {pins : List (Addr × Obj)} {σ : St} {θ : List Addr} {H : Hp} {s : Shared} {A : Around} (I : Inv X pins σ H s) (hu : A.units + 60 < cLine) {d e : D} {b : Bool} {v u : V} {y z : Value} (h : eqDP d e = some b) (r1 : Rep X.K X.mg θ H d v) (r2 : Rep X.K X.mg θ H e u) (rv : RelV v y) (ru : RelV u z) : SeqAt.EqAt A s y z b := by
  unfold eqDP at h
  cases q1 : d.py with
  | none => rw [q1] at h; cases h
  | some p =>
    cases q2 : e.py with
    | none => rw [q1, q2] at h; cases h
    | some q =>
      rw [q1, q2] at h
      simp only at h
      split at h
      · rename_i hd
        cases h
        obtain ⟨as, g1⟩ := Dp.reads I p v y (py_dp _ _ _ q1 r1) rv
        obtain ⟨bs, g2⟩ := Dp.reads I q u z (py_dp _ _ _ q2 r2) ru
        exact SeqAt.eqAt_plain p q A s y z as bs g1 g2 (py_plain _ _ q1) (py_plain _ _ q2) (by omega)
      · cases h
theorem eqKV_hits {pins : List (Addr × Obj)} {σ : St} {θ : List Addr} {H : Hp} {s : Shared} {A : Around} (I : Inv X pins σ H s) (hu : A.units + 60 < cLine) {ls : List (Key × D)} {us : List (Key × V)} {vb : List (Key × Value)} (r2 : RepKV X.K X.mg θ H ls us) (rb : KV us vb) :
    ∀ {ks : List (Key × D)} {ws : List (Key × V)} {va : List (Key × Value)} {b : Bool}, RepKV X.K X.mg θ H ks ws → KV ws va → eqKV ls ks = some b → PySem.W.KeqHits A s vb va b
  | [], ws, va, b, r1, ra, h => by
    cases ws with
    | nil => cases ra; cases h; exact .nil
    | cons _ _ => have := r1.1; simp at this
  | (k, d) :: ks, ws, va, b, r1, ra, h => by
    cases ws with
    | nil => have := r1.1; simp at this
    | cons w ws =>
      obtain ⟨k2, w2⟩ := w
      have e1 := r1.1
      have e2 := r1.2
      simp only [List.map_cons, List.cons.injEq] at e1
      simp only [List.map_cons] at e2
      obtain ⟨rfl, e1⟩ := e1
      cases e2 with
      | cons rd rr =>
        cases ra with
        | @cons _ q _ qs hq ha =>
          obtain ⟨k3, v3⟩ := q
          obtain ⟨h1, h2⟩ := hq
          have h1 : k = k3 := h1
          subst h1
          have rv := rb.val k
          unfold eqKV at h
          rcases valD_rep r2 k with ⟨z1, z2⟩ | ⟨x, v, z1, z2, z3⟩
          · rw [z1] at h; cases h
            rw [z2] at rv
            refine .miss ?_
            cases e : valueAt vb k with
            | none => rfl
            | some _ => rw [e] at rv; exact (show False from rv).elim
          · rw [z1] at h
            rw [z2] at rv
            cases e : valueAt vb k with
            | none => rw [e] at rv; exact (show False from rv).elim
            | some y =>
              rw [e] at rv
              simp only at h
              cases q1 : eqDP d x with
              | none => rw [q1] at h; cases h
              | some b1 =>
                cases q2 : eqKV ls ks with
                | none => rw [q1, q2] at h; cases h
                | some b2 =>
                  rw [q1, q2] at h; cases h
                  exact .hit e (eqDP_at I hu q1 rd z3 h2 rv) (eqKV_hits I hu r2 rb ⟨e1, rr⟩ ha q2)
/-- what == asks: one side is at most 64 deep; or two dicts of such values -/
def pEq (neg : Bool) : D → D → LH → Post → Prop := fun d e L Q =>
  (∃ p q, pyTop L d = some p ∧ pyTop L e = some q ∧ min p.depth q.depth ≤ 64 ∧ Q (.bl (neg ^^ PyData.eqv p q)) L) ∨
  (∃ ks ls b, dkOf L d = some ks ∧ dkOf L e = some ls ∧ eqKV ls ks = some b ∧ Q (.bl (neg ^^ (ks.length == ls.length && b))) L)
theorem dk_two {pins : List (Addr × Obj)} {σ : St} {θ : List Addr} {L : LH} {H : Hp} {s : Shared} {d e : D} {v u : V} {y z : Value} {ks ls : List (Key × D)} {b : Bool} (I : Inv X pins σ H s) (hu : X.A.units + 64 < cLine) (hh : HR X.K X.mg θ L H) (r1 : Rep X.K X.mg θ H d v) (r2 : Rep X.K X.mg θ H e u) (rv : RelV v y) (ru : RelV u z)
    (h1 : dkOf L d = some ks) (h2 : dkOf L e = some ls) (h3 : eqKV ls ks = some b) : ∃ a1 a2 va vb, y = .ref a1 ∧ z = .ref a2 ∧ (a1 == sysModules) = false ∧ (a2 == sysModules) = false ∧ s.heap.DictOf (mixKind X.prog X.w) a1 va ∧ s.heap.DictOf (mixKind X.prog X.w) a2 vb ∧ va.length = ks.length ∧ vb.length = ls.length ∧ PySem.W.KeqHits X.A.in1 s vb va b := by
  obtain ⟨_, a1, w1, rfl, _, _, rfl, g1, g2⟩ := dk_of hh r1 h1
  obtain ⟨_, a2, w2, rfl, _, _, rfl, g3, g4⟩ := dk_of hh r2 h2
  obtain ⟨_, ya, va, ra, da⟩ := (show ObjOk X.prog X.w H s.heap a1 (.dK w1) from I.hok a1 _ g1)
  obtain ⟨_, yb, vb, rb, db⟩ := (show ObjOk X.prog X.w H s.heap a2 (.dK w2) from I.hok a2 _ g3)
  have l1 : ks.length = w1.length := by have := congrArg List.length g2.1; simpa using this
  have l2 : ls.length = w2.length := by have := congrArg List.length g4.1; simpa using this
  exact ⟨a1, a2, va, vb, rv, ru, ya, yb, da, db, by rw [← ra.length, l1], by rw [← rb.length, l2], eqKV_hits I (by show X.A.units + 1 + 60 < cLine; omega) g4 rb g2 ra h3⟩
theorem o_eq (hu : X.A.units + 64 < cLine) : OpR X (compareOp .Eq) (lift2 X.K X.mg (pEq false)) := by
  intro pins s σ H x y v u Q' I rx ry h
  obtain ⟨θ, d, e, L, Q, hh, r1, r2, h, up⟩ := h
  rcases h with ⟨p, q, h1, h2, h5, q0⟩ | ⟨ks, ls, b, h1, h2, h3, q0⟩
  · obtain ⟨as, g1⟩ := Dp.reads I p x v (pyTop_dp hh h1 r1) rx
    obtain ⟨bs, g2⟩ := Dp.reads I q y u (pyTop_dp hh h2 r2) ry
    rw [Bool.false_xor] at q0
    exact SeqAt.eq_plain g1 g2 (pyTop_plain h1) (pyTop_plain h2) (by omega) ⟨.bl _, H, I, rfl, up_same hh (.bl _) up q0⟩
  · obtain ⟨a1, a2, va, vb, rfl, rfl, ya, yb, da, db, l1, l2, hits⟩ := dk_two I hu hh r1 r2 rx ry h1 h2 h3
    rw [Bool.false_xor, ← l1, ← l2] at q0
    exact PySem.W.keq_eq (knd := mixKind X.prog X.w) (r := b) ya yb da db (by omega) (fun _ => hits) ⟨.bl _, H, I, rfl, up_same hh (.bl _) up q0⟩
theorem o_ne (hu : X.A.units + 64 < cLine) : OpR X (compareOp .NotEq) (lift2 X.K X.mg (pEq true)) := by
  intro pins s σ H x y v u Q' I rx ry h
  obtain ⟨θ, d, e, L, Q, hh, r1, r2, h, up⟩ := h
  rcases h with ⟨p, q, h1, h2, h5, q0⟩ | ⟨ks, ls, b, h1, h2, h3, q0⟩
  · obtain ⟨as, g1⟩ := Dp.reads I p x v (pyTop_dp hh h1 r1) rx
    obtain ⟨bs, g2⟩ := Dp.reads I q y u (pyTop_dp hh h2 r2) ry
    rw [Bool.true_xor] at q0
    exact SeqAt.ne_plain g1 g2 (pyTop_plain h1) (pyTop_plain h2) (by omega) ⟨.bl _, H, I, rfl, up_same hh (.bl _) up q0⟩
  · obtain ⟨a1, a2, va, vb, rfl, rfl, ya, yb, da, db, l1, l2, hits⟩ := dk_two I hu hh r1 r2 rx ry h1 h2 h3
    rw [Bool.true_xor, ← l1, ← l2] at q0
    exact PySem.W.keq_ne (knd := mixKind X.prog X.w) (r := b) ya yb da db (by omega) (fun _ => hits) ⟨.bl _, H, I, rfl, up_same hh (.bl _) up q0⟩
/-! #### in -/
def flatD : D → Bool
  | .non => true
  | .bl _ => true
  | .int _ => true
  | .str _ => true
  | _ => false
def eqF : D → D → Bool
  | .non, .non => true
  | .bl a, .bl b => a == b
  | .bl a, .int b => (if a then 1 else 0) == b
  | .int a, .bl b => a == (if b then 1 else 0)
  | .int a, .int b => a == b
  | .str a, .str b => a == b
  | _, _ => false
theorem flat_rep {θ : List Addr} {H : Hp} {d : D} {v : V} (r : Rep K mg θ H d v) (f : flatD d = true) : flatV v = true := by
  cases r <;> first | rfl | cases f
theorem eqF_rep {θ : List Addr} {H : Hp} {d e : D} {v u : V} (r : Rep K mg θ H d v) (s : Rep K mg θ H e u) : eqF d e = eqV v u := by
  cases r <;> cases s <;> rfl
theorem flats_rep {θ : List Addr} {H : Hp} {ds : List D} {vs : List V} (r : Reps K mg θ H ds vs) (f : ds.all flatD = true) : vs.all flatV = true := by
  induction ds generalizing vs with
  | nil => cases r; rfl
  | cons d ds ih =>
    cases r with
    | cons a b =>
      rw [List.all_cons, Bool.and_eq_true] at f
      rw [List.all_cons, flat_rep a f.1, ih b f.2]; rfl
def inD (d : D) (ds : List D) : Bool := ds.any fun e => eqF e d
theorem inD_rep {θ : List Addr} {H : Hp} {d : D} {v : V} (rd : Rep K mg θ H d v) {ds : List D} {vs : List V} (r : Reps K mg θ H ds vs) : inD d ds = inV v vs := by
  unfold inD inV
  induction ds generalizing vs with
  | nil => cases r; rfl
  | cons e ds ih =>
    cases r with
    | cons a b => rw [List.any_cons, List.any_cons, eqF_rep a rd, ih b]
/-- in: items of a list or tuple (flat ones), keys of a dict, one sign of a text -/
def pIn (neg : Bool) : D → D → LH → Post → Prop := fun d e L Q =>
  (∃ ds, sq L e = some ds ∧ flatD d = true ∧ ds.all flatD = true ∧ Q (.bl (neg ^^ inD d ds)) L) ∨
  (∃ kvs k, dkOf L e = some kvs ∧ keyOf d = some k ∧ Q (.bl (neg ^^ (valD kvs k).isSome)) L)
theorem o_inD {neg : Bool} {op : CmpOp} (hs : OpR X (compareOp op) (rIn X.K neg)) (hd : OpR X (compareOp op) (fun y x H Q => ∃ a o, x = .ref a ∧ DGet H a y o ∧ Q (.bl (if neg then !o.isSome else o.isSome)) H)) : OpR X (compareOp op) (lift2 X.K X.mg (pIn neg)) := by
  refine OpR.imp (hs.or hd) fun x y H Q' h => ?_
  obtain ⟨θ, d, e, L, Q, hh, rx, ry, q, u⟩ := h
  rcases q with ⟨ds, h1, h2, h3, q⟩ | ⟨kvs, k, h1, h2, q⟩
  · obtain ⟨a, vs, rfl, g1, g2⟩ := sq_of hh ry h1
    refine .inl ⟨a, vs, rfl, g1, flat_rep rx h2, flats_rep g2 h3, ?_⟩
    rw [inD_rep rx g2] at q
    have : (if neg = true then !inV x vs else inV x vs) = (neg ^^ inV x vs) := by cases neg <;> simp
    rw [this]
    exact up_same hh (.bl _) u q
  · obtain ⟨n, a, us, rfl, g1, g2, rfl, g3, g4⟩ := dk_of hh ry h1
    have ek := keyOf_rep rx h2
    subst ek
    refine .inr ⟨a, _, rfl, DGet.k g3, ?_⟩
    have : (if neg = true then !(valV us k).isSome else (valV us k).isSome) = (neg ^^ (valD kvs k).isSome) := by
      rcases valD_rep g4 k with ⟨z1, z2⟩ | ⟨d, v, z1, z2, _⟩ <;> rw [z1, z2] <;> cases neg <;> rfl
    rw [this]
    exact up_same hh (.bl _) u q
theorem o_in (hu : X.A.units + 1 < cLine) : OpR X (compareOp .In) (lift2 X.K X.mg (pIn false)) := by
  refine o_inD op_in_seq fun pins s σ H x y v u Q I rx ry h => ?_
  obtain ⟨a, o, rfl, g, q⟩ := h
  cases ry
  exact d_in hu I g rx fun s' I' => ⟨.bl _, H, I', rfl, q⟩
theorem o_nin (hu : X.A.units + 1 < cLine) : OpR X (compareOp .NotIn) (lift2 X.K X.mg (pIn true)) := by
  refine o_inD op_notIn_seq fun pins s σ H x y v u Q I rx ry h => ?_
  obtain ⟨a, o, rfl, g, q⟩ := h
  cases ry
  exact d_notIn hu I g rx fun s' I' => ⟨.bl _, H, I', rfl, q⟩
/-! #### subscripts -/
theorem atI_rep {θ : List Addr} {H : Hp} {ds : List D} {vs : List V} (r : Reps K mg θ H ds vs) {i : Int} {d : D} (h : atI ds i = some d) : ∃ v, atI vs i = some v ∧ Rep K mg θ H d v := by
  unfold atI at h ⊢
  rw [← r.len]
  cases e : ixN ds.length i with
  | none => rw [e] at h; cases h
  | some j =>
    rw [e] at h
    exact r.get h
def pIx : D → D → LH → Post → Prop := fun d e L Q =>
  (∃ ds i x, sq L d = some ds ∧ e = .int i ∧ atI ds i = some x ∧ Q x L) ∨
  (∃ z i c, d = .str z ∧ e = .int i ∧ z.length ≤ sizeLine ∧ atI z.cps.toList i = some c ∧ Q (.str ⟨#[c]⟩) L) ∨
  (∃ kvs k x, dkOf L d = some kvs ∧ keyOf e = some k ∧ valD kvs k = some x ∧ Q x L)
theorem IxR.imp {r r' : R2} (h : IxR X r) (i : ∀ x y H Q, r' x y H Q → r x y H Q) : IxR X r' :=
  fun a b pins s σ H x y v u Q I rx ry q hs => h a b pins s σ H x y v u Q I rx ry (i x y H Q q) hs
theorem ix_dict (hu : X.A.units + 1 < cLine) : IxR X (fun x y H Q => ∃ a v, x = .ref a ∧ DGet H a y (some v) ∧ Q v H) := by
  intro value slice pins s σ H x y v u Q I rx ry h hs
  obtain ⟨a, z, rfl, g, q⟩ := h
  cases rx
  exact PyProof.Rows.tail_any (dict_typeIs I g) PySem.F.slot_dict_getitem.lookup (d_getItem hu I g ry fun w' s3 I3 rw' => ⟨z, H, I3, rw', q⟩) hs
theorem o_ix (hu : X.A.units + 1 < cLine) : IxR X (lift2 X.K X.mg pIx) := by
  refine IxR.imp (ix_seq.or (ix_dict hu)) fun x y H Q' h => ?_
  obtain ⟨θ, d, e, L, Q, hh, rx, ry, q, u⟩ := h
  rcases q with ⟨ds, i, z, h1, rfl, h2, q⟩ | ⟨z, i, c, rfl, rfl, h1, h2, q⟩ | ⟨kvs, k, z, h1, h2, h3, q⟩
  · cases ry
    obtain ⟨a, vs, rfl, g1, g2⟩ := sq_of hh rx h1
    obtain ⟨w, g3, g4⟩ := atI_rep g2 h2
    rcases g1 with g1 | g1
    · exact .inl (.inl ⟨a, vs, i, w, rfl, rfl, g1, g3, up_same hh g4 u q⟩)
    · exact .inl (.inr (.inl ⟨a, vs, i, w, rfl, rfl, g1, g3, up_same hh g4 u q⟩))
  · cases rx; cases ry
    exact .inl (.inr (.inr ⟨z, i, c, rfl, rfl, h1, h2, up_same hh (.str _) u q⟩))
  · obtain ⟨n, a, us, rfl, g1, g2, rfl, g3, g4⟩ := dk_of hh rx h1
    have ek := keyOf_rep ry h2
    subst ek
    rcases valD_rep g4 k with ⟨z1, z2⟩ | ⟨d, v, z1, z2, z3⟩
    · rw [z1] at h3; cases h3
    · rw [h3] at z1; cases z1
      exact .inr ⟨a, v, rfl, by rw [← z2]; exact DGet.k g3, up_same hh z3 u q⟩
/-! #### stores -/
def putD {κ : Type} [DecidableEq κ] (kvs : List (κ × D)) (k : κ) (v : D) : List (κ × D) :=
  if (kvs.any fun kv => decide (kv.1 = k)) then kvs.map (fun kv => if kv.1 = k then (kv.1, v) else kv) else kvs ++ [(k, v)]
theorem any_rep {κ : Type} [DecidableEq κ] {θ : List Addr} {H : Hp} {kvs : List (κ × D)} {us : List (κ × V)} (r : RepKV K mg θ H kvs us) (k : κ) : (kvs.any fun kv => decide (kv.1 = k)) = us.any fun kv => decide (kv.1 = k) := by
  have e1 : ∀ l : List (κ × D), (l.any fun kv => decide (kv.1 = k)) = (l.map (·.1)).any fun x => decide (x = k) := fun l => by simp [List.any_map, Function.comp_def]
  have e2 : ∀ l : List (κ × V), (l.any fun kv => decide (kv.1 = k)) = (l.map (·.1)).any fun x => decide (x = k) := fun l => by simp [List.any_map, Function.comp_def]
  rw [e1, e2, r.1]
theorem repl_rep {κ : Type} [DecidableEq κ] {θ : List Addr} {H : Hp} {kvs : List (κ × D)} {us : List (κ × V)} (r : RepKV K mg θ H kvs us) (k : κ) {d : D} {v : V} (rd : Rep K mg θ H d v) :
    RepKV K mg θ H (kvs.map fun kv => if kv.1 = k then (kv.1, d) else kv) (us.map fun kv => if kv.1 = k then (kv.1, v) else kv) := by
  obtain ⟨r1, r2⟩ := r
  induction kvs generalizing us with
  | nil => cases us with
    | nil => exact ⟨rfl, .nil⟩
    | cons _ _ => simp at r1
  | cons p kvs ih =>
    cases us with
    | nil => simp at r1
    | cons q us =>
      simp only [List.map_cons, List.cons.injEq] at r1
      simp only [List.map_cons] at r2
      cases r2 with
      | cons a b =>
        obtain ⟨i1, i2⟩ := ih r1.2 b
        by_cases e : p.1 = k
        · have e2 : q.1 = k := r1.1 ▸ e
          simp only [List.map_cons, e, e2, if_true]
          exact ⟨by rw [List.map_cons, List.map_cons, i1], .cons rd i2⟩
        · have e2 : ¬ q.1 = k := by rw [← r1.1]; exact e
          simp only [List.map_cons, e, e2, if_false]
          exact ⟨by rw [List.map_cons, List.map_cons, i1, r1.1], .cons a i2⟩
theorem putD_rep {κ : Type} [DecidableEq κ] {θ : List Addr} {H : Hp} {kvs : List (κ × D)} {us : List (κ × V)} (r : RepKV K mg θ H kvs us) (k : κ) {d : D} {v : V} (rd : Rep K mg θ H d v) : RepKV K mg θ H (putD kvs k d) (putK us k v) := by
  unfold putD putK
  rw [any_rep r k]
  split
  · exact repl_rep r k rd
  · exact ⟨by simp [r.1], by simp only [List.map_append, List.map_cons, List.map_nil]; exact r.2.append (.cons rd .nil)⟩
theorem dk_upd {θ : List Addr} {L : LH} {H : Hp} {n : Nat} {a : Addr} {ds es : List (Key × D)} {vs us : List (Key × V)} (h : HR K mg θ L H) (e : L[n]? = some (.dk ds)) (ha : θ[n]? = some a) (h1 : H a = some (.dK vs)) (r : RepKV K mg θ H es us) :
    Ext K θ H θ (upd H a (.dK us)) ∧ HR K mg θ (L.set n (.dk es)) (upd H a (.dK us)) := by
  have x : Ext K θ H θ (upd H a (.dK us)) := Ext.upd ha h1 True.intro
  exact ⟨x, h.upd e ha rfl rfl ⟨us, upd_same, r.mono x⟩⟩
/-- o[i] = v -/
def pSet : D → D → D → LH → (LH → Prop) → Prop := fun o i v L Q =>
  (∃ n ds k j, o = .loc n ∧ i = .int k ∧ L[n]? = some (.lst ds) ∧ ixN ds.length k = some j ∧ Q (L.set n (.lst (ds.set j v)))) ∨
  (∃ n kvs k, o = .loc n ∧ keyOf i = some k ∧ L[n]? = some (.dk kvs) ∧ kvs.length < sizeLine ∧ Q (L.set n (.dk (putD kvs k v))))
def liftSet (mg : Str → Option Value) (K : PySem.W.Frag) (f : D → D → D → LH → (LH → Prop) → Prop) : TSet := fun x y z H Q' => ∃ θ d e v L Q, HR K mg θ L H ∧ Rep K mg θ H d x ∧ Rep K mg θ H e y ∧ Rep K mg θ H v z ∧ f d e v L Q ∧ ∀ H' θ' L', Ext K θ H θ' H' → HR K mg θ' L' H' → Q L' → Q' H'
theorem PSet.or {r r' : TSet} (h : PSet X r) (h' : PSet X r') : PSet X (fun x y z H Q => r x y z H Q ∨ r' x y z H Q) := by
  intro pins s σ H o i v ov iv u Q I ro ri rv q
  rcases q with q | q
  · exact h pins s σ H o i v ov iv u Q I ro ri rv q
  · exact h' pins s σ H o i v ov iv u Q I ro ri rv q
theorem PSet.imp {r r' : TSet} (h : PSet X r) (i : ∀ x y z H Q, r' x y z H Q → r x y z H Q) : PSet X r' :=
  fun pins s σ H o i' v ov iv u Q I ro ri rv q => h pins s σ H o i' v ov iv u Q I ro ri rv (i o i' v H Q q)
theorem set_dict (hu : X.A.units + 1 < cLine) : PSet X (fun o i v H Q => ∃ a H', o = .ref a ∧ DPut H a i v H' ∧ Q H') := by
  intro pins s σ H o i v ov iv u Q I ro ri rv h
  obtain ⟨a, H', rfl, g, q⟩ := h
  cases ro
  exact d_setItem hu I g ri rv fun s4 I4 => ⟨H', I4, q⟩
theorem o_set (hu : X.A.units + 1 < cLine) : PSet X (liftSet X.mg X.K pSet) := by
  refine PSet.imp (PSet.or set_list (set_dict hu)) fun x y z H Q' h => ?_
  obtain ⟨θ, d, e, v, L, Q, hh, rx, ry, rz, q, u⟩ := h
  rcases q with ⟨n, ds, k, j, rfl, rfl, h1, h2, q⟩ | ⟨n, kvs, k, rfl, h2, h1, h3, q⟩
  · cases ry
    obtain ⟨a, vs, rfl, ha, hA, r⟩ := lst_of hh rx h1
    obtain ⟨x1, hh1⟩ := lst_upd hh h1 ha hA (r.set rz j)
    exact .inl ⟨a, vs, k, j, rfl, rfl, hA, by rw [← r.len]; exact h2, u _ _ _ x1 hh1 q⟩
  · obtain ⟨a, ha, rfl⟩ := rx.loc_inv
    obtain ⟨us, hA, r⟩ := hh.ok n _ a h1 ha
    have ek := keyOf_rep ry h2
    subst ek
    obtain ⟨x1, hh1⟩ := dk_upd hh h1 ha hA (putD_rep r k rz)
    have hl : us.length = kvs.length := by have := congrArg List.length r.1; simpa using this.symm
    exact .inr ⟨a, _, rfl, DPut.k hA (by omega), u _ _ _ x1 hh1 q⟩
/-! #### slices -/
def cutD (xs : List D) (lo hi : Option Int) : List D := (xs.drop (HT.sIx xs.length 0 lo)).take (HT.sIx xs.length xs.length hi - HT.sIx xs.length 0 lo)
theorem cut_rep {θ : List Addr} {H : Hp} {ds : List D} {vs : List V} (r : Reps K mg θ H ds vs) (lo hi : Option Int) : Reps K mg θ H (cutD ds lo hi) (cutV vs lo hi) := by
  unfold cutD cutV
  rw [← r.len]
  exact (r.drop _).take _
theorem cut_whole (xs : List D) (lo hi : Option Int) (h1 : HT.sIx xs.length 0 lo = 0) (h2 : HT.sIx xs.length xs.length hi = xs.length) : cutD xs lo hi = xs := by
  unfold cutD; rw [h1, h2]; simp
/-- slices of a tuple, of a text -/
def pSlT (d : D) (lo hi : Option Int) (L : LH) (Q : Post) : Prop := match d with
  | .tup ds => Q (.tup (cutD ds lo hi)) L
  | .str z => z.length ≤ sizeLine ∧ Q (.str (cutS z lo hi)) L
  | _ => False
def liftSl (mg : Str → Option Value) (K : PySem.W.Frag) (f : D → Option Int → Option Int → LH → Post → Prop) : V → Option Int → Option Int → Hp → VK → Prop := fun x lo hi H Q' => ∃ θ d L Q, HR K mg θ L H ∧ Rep K mg θ H d x ∧ f d lo hi L Q ∧ Up K mg θ H Q Q'
theorem SlR.imp {r r' : V → Option Int → Option Int → Hp → VK → Prop} (h : SlR X r) (i : ∀ x lo hi H Q, r' x lo hi H Q → r x lo hi H Q) : SlR X r' :=
  fun pins s σ H x v vl vu lo hi sl Q I rx hs pl pu q => h pins s σ H x v vl vu lo hi sl Q I rx hs pl pu (i x lo hi H Q q)
theorem o_slT : SlR X (liftSl X.mg X.K pSlT) := by
  refine SlR.imp (SlR.or sl_tupA sl_str) fun x lo hi H Q' h => ?_
  obtain ⟨θ, d, L, Q, hh, rx, q, u⟩ := h
  unfold pSlT at q
  split at q
  · rename_i ds
    obtain ⟨a, vs, h1, h2, rfl⟩ := rx.tup_inv
    refine .inl ⟨a, vs, rfl, h1, fun ⟨e1, e2⟩ => ?_, fun _ p hp => tup_new hh hp (cut_rep h2 lo hi) u q⟩
    rw [← h2.len] at e1 e2
    rw [cut_whole ds lo hi e1 e2] at q
    exact up_same hh rx u q
  · cases rx
    exact .inr ⟨_, rfl, q.1, up_same hh (.str _) u q.2⟩
  · exact q.elim
end
end Bw
end
section
set_option linter.all false
set_option maxRecDepth 100000
set_option maxHeartbeats 4000000
/-! set(list of ints), sorted -/
namespace Bw
open PySem L2 PySem.Spec PyProof.Rows
section
variable {P : Program} {w : World} {A : Around} {E : Value → Shared → Prop} {s : Shared}
/-- the heap with a new empty set -/
abbrev sHp (w : World) (h : Heap) : Heap := h.push { cls := .type "set", dict := none, data := .set #[] 0 (.fresh 0 0 (!w.params.followText "set-order")) }
theorem int_item {items : Array Value} {ns : List Int} (hit : IntsAre items.toList ns) (i : Nat) (v : Value) (hv : items[i]? = some v) : ∃ k t, ns[i]? = some k ∧ v = .int k t := by
  have hl : items.size = ns.length := by have q := IntsAre.length hit; rwa [Array.length_toList] at q
  have hi : i < ns.length := hl ▸ (Array.getElem?_eq_some_iff.mp hv).1
  obtain ⟨t, e⟩ := PyProof.Rows.IntsAre.int_at hit i v (by rw [Array.getElem?_toList]; exact hv)
  exact ⟨ns[i], t, List.getElem?_eq_getElem hi, by rw [e, List.getD_eq_getElem?_getD, List.getElem?_eq_getElem hi]; rfl⟩
/-- set.__init__ of a new set and a list of ints -/
theorem init_ints {l : Addr} {items : Array Value} (ns : List Int) (hh : A.handled = none) (hl : s.heap.IsList l items) (hit : IntsAre items.toList ns) (hb : ns.length + 1 < scanBound) {Q : Shared → Prop}
    (h : ∀ h' tk c, SetR w h' s.heap.objs.size (fun j => decide (j ∈ ns)) c → c ≤ ns.length → (∀ b o, s.heap.get? b = some o → h'.get? b = some o) → Q { s with heap := h', toks := tk }) :
    wpAny (model P w) A.in1 (Builtin.«set.__init__» ⟨[.ref s.heap.objs.size, .ref l], []⟩)
      (fun fin s' => match fin with | .done f => wants (fun r s₂ => r = .none ∧ Q s₂) E (.ok f) s' | .again c' => c'.quiet = true ∧ codeAny (model P w) A c' (wants (fun r s₂ => r = .none ∧ Q s₂) E) s')
      (fun e s' => wants (fun r s₂ => r = .none ∧ Q s₂) E (.error e) s') { s with heap := sHp w s.heap } := by
  have hn : items.size = ns.length := by have q := IntsAre.length hit; rwa [Array.length_toList] at q
  have top : (sHp w s.heap).get? s.heap.objs.size = some _ := Heap.get?_push_size _ rfl
  have lt : l < s.heap.objs.size := by obtain ⟨o, e, _⟩ := hl; exact Heap.lt_size e
  have sz : (sHp w s.heap).objs.size = s.heap.objs.size + 1 := Heap.size_push ..
  have nI : l ≠ (sHp w s.heap).objs.size := by rw [sz]; exact Nat.ne_of_lt (Nat.lt_succ_of_lt lt)
  have hl1 : (sHp w s.heap).IsList l items := hl.push _
  have hSf : s.heap.objs.size ∉ [(sHp w s.heap).objs.size, l] := by
    rw [sz, List.mem_cons, List.mem_singleton]
    rintro (e | e)
    · exact absurd e (Nat.ne_of_lt (Nat.lt_succ_self _))
    · exact absurd e (Nat.ne_of_gt lt)
  obtain ⟨o1, g1, gc, gn, gd⟩ := id hl1
  obtain ⟨oc, od, ot, os⟩ := o1
  cases gc
  cases gd
  have q1 := F.sub_list_set
  have q2 := F.sub_list_frozenset
  have q3 : (Value.type "list" == Value.type "dict") = false := by decide
  have h3 : A.in1.in1.handled = none := by simp [hh]
  unfold Builtin.«set.__init__» noKeywords Builtin.Frozenset.updateFrom
  generalize hPI : pyIter = PI
  wp_walk
  subst hPI
  refine wpAny_pyIter_list hl1 (wpAny_bind (wpAny_runValue ?_))
  refine set_update_ints ((Walks.list h3 _ l nI items).toS) s.heap.objs.size hSf ns hn hb (int_item hit) items.size 0 _ rfl (Nat.zero_le _)
    ?hst ?hS0 fun s' c m hc R => ?hR
  case hst => exact ⟨⟨_, Heap.get?_push_size _ rfl, rfl, rfl⟩, hl1.push _⟩
  case hS0 => exact ⟨0, Nat.le_refl 0, setR_new_at (Heap.get?_push_of_some _ top)⟩
  obtain ⟨h', g', d', t', o'⟩ := s'
  cases (m.gens : g' = s.gens)
  cases (m.drawn : d' = s.drawn)
  cases (m.os : o' = s.os)
  show wpAny _ _ _ _ _ _
  refine wpAny_pure ?_
  show wpAny _ _ (ret Value.none) _ _ _
  refine wpAny_pure ⟨rfl, h h' t' c R (hn ▸ hc) fun b o e => m.heap b o ?_ (Heap.get?_push_of_some _ (Heap.get?_push_of_some _ e))⟩
  have hb := Heap.lt_size e
  rw [sz, List.mem_cons, List.mem_singleton]
  rintro (e | e)
  · exact absurd e (Nat.ne_of_lt hb)
  · exact absurd e (Nat.ne_of_lt (Nat.lt_succ_of_lt hb))
theorem call_set_ints {l : Addr} {items : Array Value} (ns : List Int) {Q : Value → Shared → Prop} (hh : A.handled = none) (hl : s.heap.IsList l items) (hit : IntsAre items.toList ns) (hb : ns.length + 1 < scanBound)
    (h : ∀ h' tk c, SetR w h' s.heap.objs.size (fun j => decide (j ∈ ns)) c → c ≤ ns.length → (∀ b o, s.heap.get? b = some o → h'.get? b = some o) → Q (.ref s.heap.objs.size) { s with heap := h', toks := tk }) :
    wpAny (model P w) A (call (.type "set") [.ref l]) Q E s := by
  obtain ⟨c, tl, hmro⟩ := F.called_set.mro
  have m1 := F.called_set.made
  have m2 := F.called_set.sub
  have m3 := F.called_set.notType
  have m4 := F.called_set.canCreate
  have m5 := F.typeCall_set_1 (.ref l)
  refine wpAny_call (codeAny_of_tree ?_)
  show wpAny _ _ (callAny (.type "set") _) _ _ _
  refine wpAny_pure ⟨Code.quiet_builtin _ (by decide +kernel), codeAny_builtin F.entry_type_call ?_⟩
  rw [Around.under_plain (weight_type_call_type "set" [.ref l] []) rfl]
  repeat (any_goals (first | assumption | wp_step))
  refine codeAny_mono (code_set_led1 (.ref l) (E := E) (Q₁ := fun obj s₁ => obj = .ref s.heap.objs.size ∧ s₁ = { s with heap := sHp w s.heap }) ⟨rfl, rfl⟩) fun r s₁ hr => ?_
  rcases r with e | f
  · exact hr
  cases f with
  | ret obj =>
    obtain ⟨rfl, rfl⟩ := hr
    have hT : Shared.TypeIs { s with heap := sHp w s.heap } (.ref s.heap.objs.size) "set" := ⟨_, Heap.get?_push_size _ rfl, rfl⟩
    have m6 := F.called_set.init.lookup
    have m7 := F.called_set.init.bind (.ref s.heap.objs.size)
    repeat (any_goals (first | assumption | wp_step))
    refine codeAny_mono (codeAny_call_builtin (R := wants (fun r s₂ => r = .none ∧ Q (.ref s.heap.objs.size) s₂) E) F.called_set.init.plain F.entry_set_init (check_set_init_1 hT ?_)) fun r₂ s₂ hr₂ => ?_
    · exact init_ints ns (by simp [hh]) hl hit hb h
    · rcases r₂ with e | f
      · exact hr₂
      cases f with
      | ret r =>
        obtain ⟨rfl, hq⟩ := hr₂
        repeat (any_goals (first | assumption | wp_step))
      | _ => exact hr₂.elim
  | _ => exact hr.elim
end
end Bw
end
section
set_option linter.all false
set_option maxRecDepth 100000
set_option maxHeartbeats 4000000
/-! list(zip(t, u)) of two tuples -/
namespace Bw
open PySem L2 PySem.Spec PyProof.Rows
section
variable {prog : Program} {w : World} {A : Around} {E : Value → Shared → Prop} {s : Shared} {z TI TO i1 i2 l1 l2 : Addr} {xs ys : Array Value} {i : Nat}
/-- the zip of two tuples at a step, whoever holds what it gave last -/
def ZSt (z TI TO i1 i2 l1 l2 : Addr) (i : Nat) (h : Heap) : Prop :=
  IsPair h TI (.ref i1) (.ref i2) ∧ h.IsTupleIter i1 l1 i ∧ h.IsTupleIter i2 l2 i ∧ (∃ o, h.get? TO = some o) ∧
    ((IsZip h z TI TO .none ∧ ∃ a b, IsPair h TO a b) ∨ ∃ T f oT, IsZipHeld h z TI TO T f ∧ h.get? T = some oT ∧ T ≠ z ∧ T ≠ i1 ∧ T ≠ i2)
theorem zHeld_item {T : Addr} {f : Bool} {oT : Obj} {x y : Value} {Q : Value → Shared → Prop} (D : ZipApart z TI TO i1 i2 l1 l2) (hz : IsZipHeld s.heap z TI TO T f) (hT : s.heap.get? T = some oT) (hTI : IsPair s.heap TI (.ref i1) (.ref i2))
    (h1 : s.heap.IsTupleIter i1 l1 i) (h2 : s.heap.IsTupleIter i2 l2 i) (t1 : s.heap.IsTuple l1 xs) (t2 : s.heap.IsTuple l2 ys) (hx : xs[i]? = some x) (hy : ys[i]? = some y)
    (hQ : ∀ h', IsZipHeld h' z TI TO T true → h'.IsTupleIter i1 l1 (i + 1) → h'.IsTupleIter i2 l2 (i + 1) → IsPair h' s.heap.objs.size x y → h'.objs.size = s.heap.objs.size + 1 →
      (∀ c o, c ≠ z → c ≠ i1 → c ≠ i2 → s.heap.get? c = some o → h'.get? c = some o) → Q (.ref s.heap.objs.size) { s with heap := h' }) :
    wpAny (model prog w) A (Builtin.«zip.__next__» ⟨[.ref z], []⟩) (fun fin s' => ∃ v, fin = .done (.ret v) ∧ Q v s') E s := by
  show wpAny _ _ (field (.ref z) 2 >>= _) _ _ _
  refine wpAny_bind (wpAny_field hz rfl (x := .bool false) rfl ?_)
  show wpAny _ _ (field (.ref z) 3 >>= _) _ _ _
  refine wpAny_bind (wpAny_field hz rfl (x := .ref TI) rfl (wpAny_bind (wpAny_seqItems hTI rfl ?_)))
  show wpAny _ _ (Builtin.SmallTypes.ownedTupleIsFree (.ref z) >>= _) _ _ _
  refine wpAny_bind (wpAny_tupleHeld_zip hz hT fun g1 z1 b1 => ?_)
  simp only [Bool.false_eq_true, if_false]
  refine wpAny_bind ?_
  rw [← Array.forIn_toList]
  simp only [List.forIn_cons, List.forIn_nil]
  refine wpAny_bind (wpAny_bind (wpAny_holding ?_))
  show wpAny _ _ (Builtin.SmallTypes.nextOf (.ref i1) >>= _) _ _ _
  refine wpAny_bind (RZ.nextOf_tuple_item (s := { s with heap := g1 }) (h1.extBut b1.extBut D.i1z) (t1.extBut b1.extBut D.l1z) hx fun g2 k1 b2 => wpAny_pure (wpAny_pure (wpAny_bind (wpAny_bind (wpAny_holding ?_)))))
  show wpAny _ _ (Builtin.SmallTypes.nextOf (.ref i2) >>= _) _ _ _
  refine wpAny_bind (RZ.nextOf_tuple_item (s := { s with heap := g2 }) ((h2.extBut b1.extBut D.i2z).extBut b2.extBut D.i12.symm) ((t2.extBut b1.extBut D.l2z).extBut b2.extBut D.l2i1) hy fun g3 k2 b3 => wpAny_pure (wpAny_pure (wpAny_pure ?_)))
  show wpAny _ _ (newTuple [x, y] >>= _) _ _ _
  refine wpAny_bind (wpAny_newTuple (wpAny_pure ⟨_, rfl, ?_⟩))
  have sz : g3.objs.size = s.heap.objs.size := by rw [b3.1, b2.1, b1.1]
  have hp : IsPair (g3.push { cls := .type "tuple", data := .seq #[x, y] }) g3.objs.size x y := Heap.get?_push_size _ rfl
  have sz4 : (g3.push { cls := .type "tuple", data := .seq #[x, y] }).objs.size = g3.objs.size + 1 := Heap.size_push ..
  show Q (.ref g3.objs.size) _
  rw [sz] at hp sz4 ⊢
  exact hQ _ (Heap.get?_push_of_some _ (b3.extBut _ _ D.i2z.symm (b2.extBut _ _ D.i1z.symm z1))) ((k1.extBut b3.extBut D.i12).at fun o e => Heap.get?_push_of_some _ e) (k2.at fun o e => Heap.get?_push_of_some _ e) hp sz4
    fun c o c1 c2 c3 e => Heap.get?_push_of_some _ (b3.extBut _ _ c3 (b2.extBut _ _ c2 (b1.extBut _ _ c1 e)))
theorem zHeld_end {T : Addr} {f : Bool} {oT : Obj} {Q : Fin → Shared → Prop} (hh : A.handled = none) (D : ZipApart z TI TO i1 i2 l1 l2) (hz : IsZipHeld s.heap z TI TO T f) (hT : s.heap.get? T = some oT) (hTI : IsPair s.heap TI (.ref i1) (.ref i2))
    (h1 : s.heap.IsTupleIter i1 l1 i) (h2 : s.heap.IsTupleIter i2 l2 i) (t1 : s.heap.IsTuple l1 xs) (t2 : s.heap.IsTuple l2 ys) (hend : xs[i]? = none ∨ ys[i]? = none)
    (hE : ∀ h' e, (∀ c o, c ≠ z → c ≠ i1 → c ≠ i2 → s.heap.get? c = some o → h'.get? c = some o) → (∃ o, h'.get? e = some o ∧ o.cls = .type "StopIteration") → E (.ref e) { s with heap := h' }) :
    wpAny (model prog w) A (Builtin.«zip.__next__» ⟨[.ref z], []⟩) Q E s := by
  show wpAny _ _ (field (.ref z) 2 >>= _) _ _ _
  refine wpAny_bind (wpAny_field hz rfl (x := .bool false) rfl ?_)
  show wpAny _ _ (field (.ref z) 3 >>= _) _ _ _
  refine wpAny_bind (wpAny_field hz rfl (x := .ref TI) rfl (wpAny_bind (wpAny_seqItems hTI rfl ?_)))
  show wpAny _ _ (Builtin.SmallTypes.ownedTupleIsFree (.ref z) >>= _) _ _ _
  refine wpAny_bind (wpAny_tupleHeld_zip hz hT fun g1 z1 b1 => ?_)
  simp only [Bool.false_eq_true, if_false]
  refine wpAny_bind ?_
  rw [← Array.forIn_toList]
  simp only [List.forIn_cons, List.forIn_nil]
  refine wpAny_bind (wpAny_bind (wpAny_holding ?_))
  show wpAny _ _ (Builtin.SmallTypes.nextOf (.ref i1) >>= _) _ _ _
  cases hx : xs[i]? with
  | none => exact wpAny_bind (RZ.nextOf_tuple_end (s := { s with heap := g1 }) hh (h1.extBut b1.extBut D.i1z) (t1.extBut b1.extBut D.l1z) hx fun g2 e b2 he => hE g2 e (fun c o c1 c2 _ x => b2 _ _ c2 (b1.extBut _ _ c1 x)) he)
  | some x =>
    have hy : ys[i]? = none := by rcases hend with h | h; rw [hx] at h; cases h; exact h
    refine wpAny_bind (RZ.nextOf_tuple_item (s := { s with heap := g1 }) (h1.extBut b1.extBut D.i1z) (t1.extBut b1.extBut D.l1z) hx fun g2 k1 b2 => wpAny_pure (wpAny_pure (wpAny_bind (wpAny_bind (wpAny_holding ?_)))))
    show wpAny _ _ (Builtin.SmallTypes.nextOf (.ref i2) >>= _) _ _ _
    exact wpAny_bind (RZ.nextOf_tuple_end (s := { s with heap := g2 }) hh ((h2.extBut b1.extBut D.i2z).extBut b2.extBut D.i12.symm) ((t2.extBut b1.extBut D.l2z).extBut b2.extBut D.l2i1) hy fun g3 e b3 he => hE g3 e (fun c o c1 c2 c3 x => b3 _ _ c3 (b2.extBut _ _ c2 (b1.extBut _ _ c1 x))) he)
theorem zstep_item {x y : Value} {Q : Option Value → Shared → Prop} (D : ZipApart z TI TO i1 i2 l1 l2) (st : ZSt z TI TO i1 i2 l1 l2 i s.heap) (t1 : s.heap.IsTuple l1 xs) (t2 : s.heap.IsTuple l2 ys) (hx : xs[i]? = some x) (hy : ys[i]? = some y)
    (hQ : ∀ h', ZSt z TI TO i1 i2 l1 l2 (i + 1) h' → IsPair h' s.heap.objs.size x y → (∀ c o, c ∉ [z, TI, TO, i1, i2] → s.heap.get? c = some o → h'.get? c = some o) → Q (some (.ref s.heap.objs.size)) { s with heap := h' }) :
    wpAny (model prog w) A (pyNext (.ref z)) Q E s := by
  obtain ⟨hTI, h1, h2, ⟨oTO, hto⟩, hs⟩ := st
  obtain ⟨o1, e1, _⟩ := id h1
  obtain ⟨o2, e2, _⟩ := id h2
  have lt : ∀ {c o}, s.heap.get? c = some o → s.heap.objs.size ≠ c := fun e => Nat.ne_of_gt (Heap.lt_size e)
  have out : ∀ {c : Addr}, c ∉ [z, TI, TO, i1, i2] → c ≠ z ∧ c ≠ TI ∧ c ≠ TO ∧ c ≠ i1 ∧ c ≠ i2 := fun h => by simpa using h
  rcases hs with ⟨hz, a, b, hTO⟩ | ⟨T, f, oT, hz, hT, n1, n2, n3⟩
  · refine RZ.pyNext_zipT_item D hz hTI hTO h1 h2 t1 t2 hx hy fun h' b1 b2 b3 b4 b5 b6 hk => hQ h' ⟨hk _ _ D.TIz D.TITO D.TIi1 D.TIi2 hTI, b3, b4, ⟨_, b2⟩, .inr ⟨_, false, _, b1, b5, lt hz, lt e1, lt e2⟩⟩ b5 fun c o hc e => ?_
    obtain ⟨c1, _, c3, c4, c5⟩ := out hc
    exact hk c o c1 c3 c4 c5 e
  · have hTy : s.TypeIs (.ref z) "zip" := ⟨_, hz, rfl⟩
    unfold pyNext
    exact wpAny_bind (wpAny_attempt (wpAny_callSpecial?_slot (name := Str.ofString "__next__") hTy F.slot_zip_next
      (wpAny_call_entry F.slot_zip_next hTy F.entry_zip_next
        (zHeld_item D hz hT hTI h1 h2 t1 t2 hx hy fun h' b1 b3 b4 b5 b6 hk => wpAny_pure (hQ h' ⟨hk _ _ D.TIz D.TIi1 D.TIi2 hTI, b3, b4, ⟨_, hk _ _ D.TOz D.TOi1 D.TOi2 hto⟩, .inr ⟨T, true, oT, b1, hk _ _ n1 n2 n3 hT, n1, n2, n3⟩⟩ b5 fun c o hc e => by
          obtain ⟨c1, _, c3, c4, c5⟩ := out hc
          exact hk c o c1 c4 c5 e)) (F.args_zip_next_1 _))))
theorem zstep_end {Q : Option Value → Shared → Prop} (hh : A.handled = none) (D : ZipApart z TI TO i1 i2 l1 l2) (st : ZSt z TI TO i1 i2 l1 l2 i s.heap) (t1 : s.heap.IsTuple l1 xs) (t2 : s.heap.IsTuple l2 ys) (hend : xs[i]? = none ∨ ys[i]? = none)
    (hQ : ∀ h', (∀ c o, c ∉ [z, TI, TO, i1, i2] → s.heap.get? c = some o → h'.get? c = some o) → Q none { s with heap := h' }) :
    wpAny (model prog w) A (pyNext (.ref z)) Q E s := by
  obtain ⟨hTI, h1, h2, ⟨oTO, hto⟩, hs⟩ := st
  have out : ∀ {c : Addr}, c ∉ [z, TI, TO, i1, i2] → c ≠ z ∧ c ≠ TI ∧ c ≠ TO ∧ c ≠ i1 ∧ c ≠ i2 := fun h => by simpa using h
  rcases hs with ⟨hz, a, b, hTO⟩ | ⟨T, f, oT, hz, hT, n1, n2, n3⟩
  · refine RZ.pyNext_zipT_end hh D hz hTI hTO h1 h2 t1 t2 hend fun h' hk => hQ h' fun c o hc e => ?_
    obtain ⟨c1, _, c3, c4, c5⟩ := out hc
    exact hk c o c1 c3 c4 c5 e
  · have hTy : s.TypeIs (.ref z) "zip" := ⟨_, hz, rfl⟩
    unfold pyNext
    refine wpAny_bind (wpAny_attempt (wpAny_callSpecial?_slot (name := Str.ofString "__next__") hTy F.slot_zip_next
      (wpAny_call_entry F.slot_zip_next hTy F.entry_zip_next (zHeld_end hh D hz hT hTI h1 h2 t1 t2 hend fun h' e hk he => ?_) (F.args_zip_next_1 _))))
    obtain ⟨o, ho, hc⟩ := he
    refine wpAny_bind (wpAny_isInstance (T := "StopIteration") (b := true) ⟨o, ho, hc⟩ isSubtype_stop (wpAny_pure (hQ _ fun c o hc e => ?_)))
    obtain ⟨c1, _, c3, c4, c5⟩ := out hc
    exact hk c o c1 c4 c5 e
end
end Bw
end
section
set_option linter.all false
set_option maxRecDepth 100000
set_option maxHeartbeats 4000000
namespace Bw
open PySem L2 PySem.Spec PyProof.Rows
theorem ZSt.keep {z TI TO i1 i2 l1 l2 S : Addr} {i : Nat} {h h' : Heap} (st : ZSt z TI TO i1 i2 l1 l2 i h) (hS : S ∉ [z, TI, TO, i1, i2]) (k : ∀ c o, c ≠ S → h.get? c = some o → h'.get? c = some o) (ex : ∃ o, h'.get? S = some o) : ZSt z TI TO i1 i2 l1 l2 i h' := by
  obtain ⟨hTI, h1, h2, ⟨oTO, hto⟩, hs⟩ := st
  have q : S ≠ z ∧ S ≠ TI ∧ S ≠ TO ∧ S ≠ i1 ∧ S ≠ i2 := by simpa using hS
  obtain ⟨q1, q2, q3, q4, q5⟩ := q
  refine ⟨k _ _ q2.symm hTI, h1.at fun o e => k _ _ q4.symm e, h2.at fun o e => k _ _ q5.symm e, ⟨_, k _ _ q3.symm hto⟩, ?_⟩
  rcases hs with ⟨hz, a, b, hTO⟩ | ⟨T, f, oT, hz, hT, n⟩
  · exact .inl ⟨k _ _ q1.symm hz, a, b, k _ _ q3.symm hTO⟩
  · by_cases e : T = S
    · obtain ⟨o, ho⟩ := ex
      exact .inr ⟨T, f, o, k _ _ q1.symm hz, e ▸ ho, n⟩
    · exact .inr ⟨T, f, oT, k _ _ q1.symm hz, k _ _ e hT, n⟩
theorem ZSt.obj {z TI TO i1 i2 l1 l2 : Addr} {i : Nat} {h : Heap} (st : ZSt z TI TO i1 i2 l1 l2 i h) {b : Addr} (hb : b ∈ [z, TI, TO, i1, i2]) : ∃ o, h.get? b = some o := by
  obtain ⟨hTI, ⟨o1, e1, _⟩, ⟨o2, e2, _⟩, hto, hs⟩ := st
  have q : b = z ∨ b = TI ∨ b = TO ∨ b = i1 ∨ b = i2 := by simpa using hb
  rcases q with q | q | q | q | q
  · subst q; rcases hs with ⟨hz, _⟩ | ⟨_, _, _, hz, _⟩
    · exact ⟨_, hz⟩
    · exact ⟨_, hz⟩
  · exact q ▸ ⟨_, hTI⟩
  · exact q ▸ hto
  · exact q ▸ ⟨_, e1⟩
  · exact q ▸ ⟨_, e2⟩
theorem sqT_lst {K : PySem.W.Frag} {H : Hp} {S a : Addr} {xs vs : List V} {o : HO} (hS : H S = some (.lst xs)) (h : SqT K H a vs) : SqT K (upd H S o) a vs := by
  rcases h with (h | ⟨ob, h⟩) | h
  · exact .inl (.inl (by rw [upd_ne (ne_of h hS (by simp))]; exact h))
  · exact .inl (.inr ⟨ob, by rw [upd_ne (ne_of h hS (by simp))]; exact h⟩)
  · exact .inr h
section
variable {X : Cx} {pins : List (Addr × Obj)} {σ : L2.St} {z TI TO i1 i2 a b S : Addr} {vs us : List V} {A : Around} {R : Result → Shared → Prop} {res : Value}
/-- the pairs at ps -/
def Prs (H : Hp) (vs us : List V) (ps : List Addr) : Prop := ∀ (j : Nat) p x y, ps[j]? = some p → vs[j]? = some x → us[j]? = some y → H p = some (.tup [x, y])
theorem zdrain (hh : A.handled = none) (D : ZipApart z TI TO i1 i2 a b) (hS : S ∉ [z, TI, TO, i1, i2]) : ∀ (k i : Nat) (s : Shared) (H : Hp) (ps : List Addr), min vs.length us.length - i = k → i ≤ min vs.length us.length →
    Inv X pins σ H s → ZSt z TI TO i1 i2 a b i s.heap → (∀ c ∈ [z, TI, TO, i1, i2], FpOk X pins H c) → SqT X.K H a vs → SqT X.K H b us → H S = some (.lst (ps.map V.ref)) → ps.length = i → Prs H vs us ps →
    (∀ s' H' ps', Inv X pins σ H' s' → (∀ c o, c ≠ S → H c = some o → H' c = some o) → H' S = some (.lst (ps'.map V.ref)) → ps'.length = min vs.length us.length → Prs H' vs us ps' → R (.ok (.ret res)) s') →
    codeAny (model X.prog X.w) A (.builtin "list.extend.loop" ⟨[.ref S, .ref z, res], []⟩) R s := by
  intro k
  induction k with
  | zero =>
    intro i s H ps hk hi I st hf ta tb hl hn hp hR
    obtain ⟨its, rv, p1, z1⟩ := I.tuple ta
    obtain ⟨its2, rv2, p2, z2⟩ := I.tuple tb
    have g1 := rv.length
    have g2 := rv2.length
    refine codeAny_builtin F.entry_extend_loop ?_
    rw [Around.under_plainId F.plain_extend_loop _]
    show wpAny _ A.in1 (pyNext (.ref z) >>= _) _ _ s
    refine wpAny_bind (zstep_end (A := A.in1) hh D st p1 p2 (by simp; omega) fun h' hk => ?_)
    exact wpAny_pure (hR { s with heap := h' } H ps (I.turnedL (t' := s.toks) hk hf) (fun c o _ e => e) hl (by omega) hp)
  | succ k ih =>
    intro i s H ps hk hi I st hf ta tb hl hn hp hR
    obtain ⟨its, rv, p1, z1⟩ := I.tuple ta
    obtain ⟨its2, rv2, p2, z2⟩ := I.tuple tb
    have g1 := rv.length
    have g2 := rv2.length
    have hi1 : i < vs.length := by omega
    have hi2 : i < us.length := by omega
    obtain ⟨u, hu, ru⟩ := rv.get (List.getElem?_eq_getElem hi1)
    obtain ⟨u2, hu2, ru2⟩ := rv2.get (List.getElem?_eq_getElem hi2)
    refine codeAny_builtin F.entry_extend_loop ?_
    rw [Around.under_plainId F.plain_extend_loop _]
    show wpAny _ A.in1 (pyNext (.ref z) >>= _) _ _ s
    refine wpAny_bind (zstep_item (A := A.in1) D st p1 p2 (x := u) (y := u2) (by simpa using hu) (by simpa using hu2) fun h' st' hT hkp => ?_)
    have new : ObjOk X.prog X.w (upd H s.heap.objs.size (.tup [vs[i], us[i]])) h' s.heap.objs.size (.tup [vs[i], us[i]]) := ⟨by show 2 ≤ sizeLine; decide, [u, u2], .cons ru (.cons ru2 .nil), ⟨_, hT, rfl, _, rfl⟩⟩
    have I1 : Inv X pins σ (upd H s.heap.objs.size (.tup [vs[i], us[i]])) { s with heap := h' } := I.turnedNew (t' := s.toks) hkp hf (Nat.le_refl _) new
    have fr : H s.heap.objs.size = none := I.hok.fresh (Nat.le_refl _)
    have hl1 : upd H s.heap.objs.size (.tup [vs[i], us[i]]) S = some (.lst (ps.map V.ref)) := by rw [upd_ne (ne_of_none hl fr)]; exact hl
    obtain ⟨lz, its3, n3, rv3, e3⟩ := (show ObjOk X.prog X.w _ h' S (.lst (ps.map V.ref)) from I1.hok S _ hl1)
    have e3' : h'.get? S = some (seqObj "list" its3.toArray n3) := e3
    have g3 := rv3.length
    rw [List.length_map] at g3
    have lz2 : ps.length < sizeLine := by omega
    show wpAny _ A.in1 (updateSeq S (·.push (.ref s.heap.objs.size)) >>= _) _ _ _
    refine wpAny_bind (wpAny_updateSeq (s := { s with heap := h' }) e3' rfl (wpAny_pure ⟨plainId_quiet F.plain_extend_loop _, ?_⟩) (by simp; omega) (by simp; omega))
    have up := Heap.get?_update_self (Obj.mapSeq (·.push (Value.ref s.heap.objs.size))) e3' rfl
    have oth : ∀ c o, c ≠ S → h'.get? c = some o → (h'.update S (Obj.mapSeq (·.push (Value.ref s.heap.objs.size)))).get? c = some o := fun c o hc e => (Heap.get?_update_other _ _ (Ne.symm hc)).trans e
    have pm : (ps ++ [s.heap.objs.size]).map V.ref = ps.map V.ref ++ [.ref s.heap.objs.size] := by simp
    have I2 : Inv X pins σ (upd (upd H s.heap.objs.size (.tup [vs[i], us[i]])) S (.lst ((ps ++ [s.heap.objs.size]).map V.ref))) { s with heap := h'.update S (Obj.mapSeq (·.push (Value.ref s.heap.objs.size))) } := by
      refine I1.write (x := S) (e := S) (t' := s.toks) (by rw [hl1]; trivial) (.inl rfl) oth ⟨_, up⟩ ⟨by simp; omega, its3 ++ [.ref s.heap.objs.size], n3 + 1, ?_, ?_⟩
      · rw [pm]; exact rv3.append (.cons rfl .nil)
      · rw [up]; simp [Obj.mapSeq, seqObj]
    refine ih (i + 1) _ _ (ps ++ [s.heap.objs.size]) (by omega) (by omega) I2 (st'.keep hS oth ⟨_, up⟩) (fun c hc => ?_) (sqT_lst hl1 (sqT_upd fr ta)) (sqT_lst hl1 (sqT_upd fr tb)) upd_same (by simp; omega) (fun j p x y q1 q2 q3 => ?_) fun s' H' ps' J kp l1 l2 l3 => hR s' H' ps' J (fun c o hc e => kp c o hc ?_) l1 l2 l3
    · have hcS : c ≠ S := fun e => hS (by rw [← e]; exact hc)
      obtain ⟨o, ho⟩ := st.obj hc
      obtain ⟨f1, f2⟩ := hf c hc
      exact ⟨by rw [upd_ne hcS, upd_ne (Nat.ne_of_lt (Heap.lt_size ho))]; exact f1, f2⟩
    · by_cases hj : j < ps.length
      · rw [List.getElem?_append_left hj] at q1
        have q := hp j p x y q1 q2 q3
        rw [upd_ne (ne_of q hl (by simp)), upd_ne (ne_of_none q fr)]
        exact q
      · have : j = i := by
          have := (List.getElem?_eq_some_iff.mp q1).1
          simp at this; omega
        subst this
        rw [List.getElem?_append_right (by omega)] at q1
        simp [hn] at q1
        subst q1
        rw [List.getElem?_eq_getElem hi1] at q2
        rw [List.getElem?_eq_getElem hi2] at q3
        cases q2; cases q3
        rw [upd_ne (ne_of (upd_same (H := H)) hl1 (by simp)), upd_same]
    · rw [upd_ne hc, upd_ne (ne_of_none e fr)]; exact e
theorem zip_no_len : typeLookup (.type "zip") "__len__" = pure none := am_miss_of_fast (by decide +kernel)
theorem zip_no_hint : typeLookup (.type "zip") "__length_hint__" = pure none := am_miss_of_fast (by decide +kernel)
/-- list(z) of a zip of two tuples that has not begun -/
theorem call_list_zip {s : Shared} {H : Hp} {Q : Value → Shared → Prop} {E : Value → Shared → Prop} (hh : A.handled = none) (D : ZipApart z TI TO i1 i2 a b) (I : Inv X pins σ H s) (hz : IsZip s.heap z TI TO .none) (st : ZSt z TI TO i1 i2 a b 0 s.heap)
    (hf : ∀ c ∈ [z, TI, TO, i1, i2], FpOk X pins H c) (ta : SqT X.K H a vs) (tb : SqT X.K H b us)
    (hQ : ∀ S s' H' ps, Inv X pins σ H' s' → H S = none → (∀ c o, H c = some o → H' c = some o) → H' S = some (.lst (ps.map V.ref)) → ps.length = min vs.length us.length → Prs H' vs us ps → Q (.ref S) s') :
    wpAny (model X.prog X.w) A (call (.type "list") [.ref z]) Q E s := by
  refine callType_codes (Q₁ := fun obj s₁ => obj = .ref s.heap.objs.size ∧ s₁ = { s with heap := s.heap.push { cls := .type "list", data := .seq #[] } }) PySem.F.called_list (PySem.F.typeCall_list_1 _) PySem.F.entry_list_init
    (code_list_new _ ⟨rfl, rfl⟩) fun obj s₁ h₁ => ?_
  obtain ⟨rfl, rfl⟩ := h₁
  have old : ∀ c ∈ [z, TI, TO, i1, i2], c < s.heap.objs.size := fun c hc => by
    obtain ⟨o, e⟩ := st.obj hc
    exact Heap.lt_size e
  have hS : s.heap.objs.size ∉ [z, TI, TO, i1, i2] := fun h => Nat.lt_irrefl _ (old _ h)
  have hSz : s.heap.objs.size ≠ z := Nat.ne_of_gt (old z (by simp))
  have g1 : (s.heap.push { cls := .type "list", data := .seq #[] }).get? s.heap.objs.size = some { cls := .type "list", data := .seq #[] } := Heap.get?_push_size _ rfl
  refine ⟨⟨_, g1, rfl⟩, PySem.F.args_list_init_2 _ _, ?_⟩
  show wpAny _ _ (do let o1 ← Builtin.List.listItems (.ref s.heap.objs.size); Builtin.List.listUpdate (.ref s.heap.objs.size) (fun _ => #[]); letGo o1.toList.reverse; Builtin.List.listExtendWith (.ref s.heap.objs.size) (.ref z) .none) _ _ _
  refine wpAny_bind ?_
  unfold Builtin.List.listItems
  refine wpAny_bind (wpAny_seqItems g1 rfl (wpAny_pure ?_))
  show wpAny _ _ (updateSeq s.heap.objs.size (fun _ => #[]) >>= fun _ => letGo (#[] : Array Value).toList.reverse >>= fun _ => Builtin.List.listExtendWith (.ref s.heap.objs.size) (.ref z) .none) _ _ _
  refine wpAny_bind (wpAny_updateSeq g1 rfl (wpAny_bind (wpAny_letGo ?_)))
  have g2 := Heap.get?_update_self (Obj.mapSeq (fun _ => (#[] : Array Value))) g1 rfl
  have up : ∀ (h : Heap) (f : Obj → Obj), (∀ c o, s.heap.get? c = some o → h.get? c = some o) → ∀ c o, s.heap.get? c = some o → (h.update s.heap.objs.size f).get? c = some o := fun h f q c o e =>
    (Heap.get?_update_other _ _ (Ne.symm (Nat.ne_of_lt (Heap.lt_size e)))).trans (q c o e)
  have k2 := up _ (Obj.mapSeq (fun _ => (#[] : Array Value))) (fun c o e => Heap.get?_push_of_some { cls := .type "list", data := .seq #[] } e)
  unfold Builtin.List.listExtendWith
  refine wpAny_bind (wpAny_typeOf (T := "zip") ⟨_, k2 _ _ hz, rfl⟩ ?_)
  have n1 : Builtin.List.listSameRef (.ref s.heap.objs.size) (.ref z) = false := by simp [Builtin.List.listSameRef, hSz]
  have n2 : (Value.type "zip" == Value.type "list") = false := by decide
  have n3 : (Value.type "zip" == Value.type "tuple") = false := by decide
  simp only [n1, n2, n3, Bool.or_false, Bool.false_eq_true, if_false]
  refine wpAny_bind (wpAny_pyIter_zip (k2 _ _ hz) (wpAny_bind (wpAny_holding ?_)))
  unfold Builtin.List.listLengthHint
  refine wpAny_bind (wpAny_specialOf (T := "zip") ⟨_, k2 _ _ hz, rfl⟩ zip_no_len ?_)
  show wpAny _ _ (specialOf (Value.ref z) (Str.ofString "__length_hint__") >>= _) _ _ _
  refine wpAny_bind (wpAny_specialOf (T := "zip") ⟨_, k2 _ _ hz, rfl⟩ zip_no_hint (wpAny_pure ?_))
  show wpAny _ _ (rule "list.extend.makes-room" >>= fun _ => Builtin.List.listTouch (.ref s.heap.objs.size) >>= fun _ => again (.builtin "list.extend.loop" ⟨[.ref s.heap.objs.size, .ref z, .none], []⟩)) _ _ _
  refine wpAny_bind (wpAny_rule (wpAny_bind ?_))
  show wpAny _ _ (updateSeq s.heap.objs.size (·.push .none) >>= fun _ => updateSeq s.heap.objs.size (·.pop)) _ _ _
  refine wpAny_bind (wpAny_updateSeq g2 rfl ?_)
  have g3 := Heap.get?_update_self (Obj.mapSeq (·.push Value.none)) g2 rfl
  refine wpAny_updateSeq (hz := by seq_fits) g3 rfl ?_
  have g4 := Heap.get?_update_self (Obj.mapSeq (·.pop)) g3 rfl
  have k4 := up _ (Obj.mapSeq (·.pop)) (up _ (Obj.mapSeq (·.push Value.none)) k2)
  refine wpAny_pure ⟨plainId_quiet PySem.F.plain_extend_loop _, ?_⟩
  have fr : H s.heap.objs.size = none := I.hok.fresh (Nat.le_refl _)
  refine zdrain (vs := vs) (us := us) (by simp [hh]) D hS _ 0 _ (upd H s.heap.objs.size (.lst [])) [] rfl (Nat.zero_le _) (I.laid (t' := s.toks) k4 (Nat.le_refl _) ⟨Nat.zero_le _, [], _, .nil, g4⟩) ?_ (fun c hc => ?_) (sqT_upd fr ta) (sqT_upd fr tb) upd_same rfl
    (fun j p x y q => by simp at q) fun s' H' ps J kp l1 l2 l3 => ⟨rfl, hQ _ s' H' ps J fr (fun c o e => kp c o (ne_of_none e fr) (by rw [upd_ne (ne_of_none e fr)]; exact e)) l1 l2 l3⟩
  · obtain ⟨hTI, h1, h2, ⟨oTO, hto⟩, hs⟩ := st
    refine ⟨k4 _ _ hTI, h1.at fun o e => k4 _ _ e, h2.at fun o e => k4 _ _ e, ⟨_, k4 _ _ hto⟩, ?_⟩
    rcases hs with ⟨hz, p, q, hTO⟩ | ⟨T, f, oT, hz, hT, n⟩
    · exact .inl ⟨k4 _ _ hz, p, q, k4 _ _ hTO⟩
    · exact .inr ⟨T, f, oT, k4 _ _ hz, k4 _ _ hT, n⟩
  · obtain ⟨f1, f2⟩ := hf c hc
    exact ⟨by rw [upd_ne (Nat.ne_of_lt (old c hc))]; exact f1, f2⟩
end
def tLstZip (K : PySem.W.Frag) (ta : TA) : TE := fun σ H Q => ta σ H fun xs H1 => ∃ a b vs us, xs = [.ref a, .ref b] ∧ SqT K H1 a vs ∧ SqT K H1 b us ∧
  ∀ S ps H', H1 S = none → (∀ c o, H1 c = some o → H' c = some o) → H' S = some (.lst (ps.map V.ref)) → ps.length = min vs.length us.length → Prs H' vs us ps → Q (.ref S) H'
theorem pe_listZip {X : Cx} {e e2 : Expr} {ta : TA} {p p2 pos pos2 : Pos} (hc : X.calm = true) (hg : Gl X "list") (hm : X.mg "list" = none) (hg2 : Gl X "zip") (hm2 : X.mg "zip" = none) (ha : PA X [e, e2] ta)
    (hs : starEach [e, e2] X.env = (false, eval e X.env) :: starEach [e2] X.env) (hpl : (backTo pos2 (starEach [e2] X.env)).any (·.1) = false) :
    PE X (.Call (.Name "list" p) [.Call (.Name "zip" p2) [e, e2] [] pos2] [] pos) (tLstZip X.K ta) := by
  refine ⟨fun pins s σ H Q I h => ?_⟩
  refine Call_ (ld_blt I hg hm boot_list (PyProof.Rows.callWith_type1 (args_cons ?_ rfl) rfl rfl))
  refine Call_ (ld_blt I hg2 hm2 PyProof.Rows.boot_zip (PyProof.Rows.callWith_type1 (thn (ha.run pos2 pins s σ H _ I h) fun us s1 ⟨vs, H1, I1, r1, q1⟩ => ?_) hs hpl))
  obtain ⟨a, b, xs, ys, ex, hqx, hqy, q⟩ := q1
  subst ex
  cases r1 with
  | cons r rr =>
    cases rr with
    | cons r' rr =>
      cases rr
      cases r
      cases r'
      have fresh5 : ∀ c, c ∈ [s1.heap.objs.size + 4, s1.heap.objs.size + 2, s1.heap.objs.size + 3, s1.heap.objs.size, s1.heap.objs.size + 1] → FpOk X pins H1 c := fun c hcm => by
        have hle : s1.heap.objs.size ≤ c := by
          simp only [List.mem_cons, List.not_mem_nil, or_false] at hcm
          rcases hcm with z | z | z | z | z <;> rw [z] <;> first | exact Nat.le_refl _ | exact Nat.le_add_right _ _
        exact I1.fpOk hle (I1.hok.fresh hle)
      obtain ⟨its, rv, p1, _⟩ := I1.tuple hqx
      obtain ⟨its2, rv2, p2, _⟩ := I1.tuple hqy
      obtain ⟨o1, ho1, _⟩ := id p1
      obtain ⟨o2, ho2, _⟩ := id p2
      refine RZ.call_zipT (show s1.heap.IsTuple a its.toArray from p1) (show s1.heap.IsTuple b its2.toArray from p2) fun h' hz hTI hTO h1 h2 hsz hk => args_nil ?_
      have I2 : Inv X pins σ H1 { s1 with heap := h' } := I1.kept (t' := s1.toks) hk
      exact call_list_zip (I2.ok.hd hc) (PySem.W.ktu_apart s1.heap.objs.size a b (Heap.lt_size ho1) (Heap.lt_size ho2)) I2 hz ⟨hTI, h1, h2, ⟨_, hTO⟩, .inl ⟨hz, _, _, hTO⟩⟩ fresh5 hqx hqy
        fun S s' H' ps J n k l1 l2 l3 => ⟨.ref S, H', J, rfl, q S ps H' n k l1 l2 l3⟩
end Bw
end
section
set_option linter.all false
set_option maxRecDepth 100000
set_option maxHeartbeats 4000000
namespace Bw
open PySem L2

/-! ### lists that stand by themselves -/
section
variable (K : PySem.W.Frag) (mg : Str → Option Value)
/-- a reading that gives a new list, not yet a cell -/
def tJL (W : WXs) (T : DAs) : TE := fun σ H Q' => ∃ θ ρ L Q E, SR K mg θ ρ σ H ∧ HR K mg θ L H ∧ T ρ L Q E ∧
  (∀ p vs H' θ' ds L', Ext K θ H θ' H' → HR K mg θ' L' H' → H p = none → H' p = some (.lst vs) → p ∉ θ' → Reps K mg θ' H' ds vs → Q ds L' → Q' (.ref p) H') ∧ UpX K mg θ H E (fun c d H' => W c d σ H')
/-- what takes a list, wherever it stands -/
def liftL (f : List D → LH → Post → Prop) : V → Hp → VK → Prop := fun x H Q' => ∃ θ a vs ds L Q, x = .ref a ∧ SqL K H a vs ∧ HR K mg θ L H ∧ Reps K mg θ H ds vs ∧ f ds L Q ∧ Up K mg θ H Q Q'
end
def wNew (T : DAs) : DE := fun ρ L Q E => T ρ L (fun ds L1 => Q (.loc L1.length) (L1 ++ [.lst ds])) E
def wL (f : List D → LH → Post → Prop) (T : DAs) : DE := fun ρ L Q E => T ρ L (fun ds L1 => f ds L1 Q) E
/-- a list that is a cell, or a tuple, taken by f -/
def wSqL (f : List D → LH → Post → Prop) (a : DE) : DE := fun ρ L Q E => a ρ L (fun d L1 => ∃ ds, sqL L1 d = some ds ∧ f ds L1 Q) E
section
variable {K : PySem.W.Frag} {mg : Str → Option Value} {W : WXs}
theorem tJ_new {T : DAs} (σ : St) (H : Hp) (Q' : VK) (h : tJ K mg W (wNew T) σ H Q') : tJL K mg W T σ H Q' := by
  obtain ⟨θ, ρ, L, Q, E, s, hh, t, u, x⟩ := h
  refine ⟨θ, ρ, L, _, E, s, hh, t, fun p vs H1 θ1 ds L1 e1 h1 hp hv np r q => ?_, x⟩
  refine u _ _ (θ1 ++ [p]) _ _ (e1.adopt hp) (h1.adopt np (c := .lst ds) ⟨vs, hv, r⟩) (.loc ?_) q
  rw [← h1.len]; simp
theorem tJ_L {r : V → Hp → VK → Prop} {f : List D → LH → Post → Prop} (hr : ∀ x H Q, liftL K mg f x H Q → r x H Q) {T : DAs} (σ : St) (H : Hp) (Q' : VK) (h : tJ K mg W (wL f T) σ H Q') :
    tJL K mg W T σ H fun x H1 => r x H1 Q' := by
  obtain ⟨θ, ρ, L, Q, E, s, hh, t, u, x⟩ := h
  exact ⟨θ, ρ, L, _, E, s, hh, t, fun p vs H1 θ1 ds L1 e1 h1 hp hv np q1 q => hr _ _ _ ⟨θ1, p, vs, ds, L1, Q, rfl, SqL.of hv, h1, q1, q, u.mono e1⟩, x⟩
theorem tJ_SqL {r : V → Hp → VK → Prop} {f : List D → LH → Post → Prop} (hr : ∀ x H Q, liftL K mg f x H Q → r x H Q) {a : DE} (σ : St) (H : Hp) (Q' : VK) (h : tJ K mg W (wSqL f a) σ H Q') :
    tJ K mg W a σ H fun x H1 => r x H1 Q' := by
  obtain ⟨θ, ρ, L, Q, E, s, hh, t, u, x⟩ := h
  refine ⟨θ, ρ, L, _, E, s, hh, t, fun v H1 θ1 d L1 e1 h1 r1 ⟨ds, hd, q⟩ => ?_, x⟩
  obtain ⟨a, vs, rfl, g1, g2⟩ := sqL_of h1 r1 hd
  exact hr _ _ _ ⟨θ1, a, vs, ds, L1, Q, rfl, g1, h1, g2, q, u.mono e1⟩
end

/-! #### what takes a list -/
def blsOf : List D → Option (List Bool)
  | [] => some []
  | .bl b :: r => (blsOf r).map (b :: ·)
  | _ => none
def intsOf : List D → Option (List Int)
  | [] => some []
  | .int b :: r => (intsOf r).map (b :: ·)
  | _ => none
theorem blsOf_some : ∀ {ds : List D} {bs : List Bool}, blsOf ds = some bs → ds = bs.map D.bl
  | [], _, e => by cases e; rfl
  | .bl b :: r, bs, e => by
    unfold blsOf at e
    cases q : blsOf r with
    | none => rw [q] at e; cases e
    | some cs => rw [q] at e; cases e; rw [blsOf_some q]; rfl
  | .non :: _, _, e => by cases e
  | .int _ :: _, _, e => by cases e
  | .str _ :: _, _, e => by cases e
  | .tup _ :: _, _, e => by cases e
  | .loc _ :: _, _, e => by cases e
  | .glo _ :: _, _, e => by cases e
  | .ty _ :: _, _, e => by cases e
  | .kl _ :: _, _, e => by cases e
theorem intsOf_some : ∀ {ds : List D} {bs : List Int}, intsOf ds = some bs → ds = bs.map D.int
  | [], _, e => by cases e; rfl
  | .int b :: r, bs, e => by
    unfold intsOf at e
    cases q : intsOf r with
    | none => rw [q] at e; cases e
    | some cs => rw [q] at e; cases e; rw [intsOf_some q]; rfl
  | .non :: _, _, e => by cases e
  | .bl _ :: _, _, e => by cases e
  | .str _ :: _, _, e => by cases e
  | .tup _ :: _, _, e => by cases e
  | .loc _ :: _, _, e => by cases e
  | .glo _ :: _, _, e => by cases e
  | .ty _ :: _, _, e => by cases e
  | .kl _ :: _, _, e => by cases e
theorem blsOf_map (bs : List Bool) : blsOf (bs.map D.bl) = some bs := by
  induction bs with
  | nil => rfl
  | cons b r ih => simp [blsOf, ih]
theorem intsOf_map (bs : List Int) : intsOf (bs.map D.int) = some bs := by
  induction bs with
  | nil => rfl
  | cons b r ih => simp [intsOf, ih]
def lAll : List D → LH → Post → Prop := fun ds L Q => ∃ bs, blsOf ds = some bs ∧ Q (.bl (bs.all id)) L
def lAny : List D → LH → Post → Prop := fun ds L Q => ∃ bs, blsOf ds = some bs ∧ Q (.bl (bs.any id)) L
def lSum : List D → LH → Post → Prop := fun ds L Q => ∃ bs, intsOf ds = some bs ∧ Q (.int bs.sum) L
def lTup : List D → LH → Post → Prop := fun ds L Q => Q (.tup ds) L
def lLen : List D → LH → Post → Prop := fun ds L Q => Q (.int ds.length) L
section
variable {X : Cx} {K : PySem.W.Frag} {mg : Str → Option Value}
theorem CallR.imp {f : Value} {r r' : List V → Hp → VK → Prop} (h : CallR X f r) (i : ∀ xs H Q, r' xs H Q → r xs H Q) : CallR X f r' :=
  fun pins s σ H xs us Q I rs q => h pins s σ H xs us Q I rs (i xs H Q q)
/-- one argument, a list -/
def one1 (r : V → Hp → VK → Prop) : List V → Hp → VK → Prop := fun xs H Q => ∃ x, xs = [x] ∧ r x H Q
theorem l_all (hc : X.calm = true) : CallR X (.builtin "all") (one1 (liftL X.K X.mg lAll)) := by
  refine CallR.imp (cr_all hc) fun xs H Q' h => ?_
  obtain ⟨x, rfl, θ, a, vs, ds, L, Q, rfl, hs, hh, r, ⟨bs, hb, q⟩, u⟩ := h
  have e := blsOf_some hb
  subst e
  have e := r.of_bls
  subst e
  exact ⟨a, bs, rfl, hs, up_same hh (.bl _) u q⟩
theorem l_any (hc : X.calm = true) : CallR X (.builtin "any") (one1 (liftL X.K X.mg lAny)) := by
  refine CallR.imp (cr_any hc) fun xs H Q' h => ?_
  obtain ⟨x, rfl, θ, a, vs, ds, L, Q, rfl, hs, hh, r, ⟨bs, hb, q⟩, u⟩ := h
  have e := blsOf_some hb
  subst e
  have e := r.of_bls
  subst e
  exact ⟨a, bs, rfl, hs, up_same hh (.bl _) u q⟩
theorem l_sum (hc : X.calm = true) : CallR X (.builtin "sum") (one1 (liftL X.K X.mg lSum)) := by
  refine CallR.imp (cr_sum hc) fun xs H Q' h => ?_
  obtain ⟨x, rfl, θ, a, vs, ds, L, Q, rfl, hs, hh, r, ⟨bs, hb, q⟩, u⟩ := h
  have e := intsOf_some hb
  subst e
  have e := r.of_ints
  subst e
  exact ⟨a, bs, rfl, hs, up_same hh (.int _) u q⟩
theorem l_tup : CallR X (.type "tuple") (one1 (liftL X.K X.mg lTup)) := by
  refine CallR.imp call_tuple_of fun xs H Q' h => ?_
  obtain ⟨x, rfl, θ, a, vs, ds, L, Q, rfl, hs, hh, r, q, u⟩ := h
  exact ⟨a, vs, rfl, .inl ⟨hs, fun p hp => tup_new hh hp r u q⟩⟩
theorem l_len : CallR X (.builtin "len") (one1 (liftL X.K X.mg lLen)) := by
  refine CallR.imp call_len_seq fun xs H Q' h => ?_
  obtain ⟨x, rfl, θ, a, vs, ds, L, Q, rfl, hs, hh, r, q, u⟩ := h
  refine ⟨a, vs, rfl, .inl hs, ?_⟩
  rw [← r.len]
  exact up_same hh (.int _) u q
/-! #### calls by values -/
def pLen : D → LH → Post → Prop := fun d L Q =>
  (∃ ds, sq L d = some ds ∧ Q (.int ds.length) L) ∨ (∃ z, d = .str z ∧ z.length ≤ sizeLine ∧ Q (.int z.length) L) ∨ (∃ kvs, dkOf L d = some kvs ∧ Q (.int kvs.length) L)
theorem c_len : CallR X (.builtin "len") (one1 (lift1 X.K X.mg pLen)) := by
  refine CallR.imp (call_len_seq.or (call_len_str.or call_lenD)) fun xs H Q' h => ?_
  obtain ⟨x, rfl, θ, d, L, Q, hh, r, q, u⟩ := h
  rcases q with ⟨ds, hd, q⟩ | ⟨z, rfl, hz, q⟩ | ⟨kvs, hd, q⟩
  · obtain ⟨a, vs, rfl, g1, g2⟩ := sq_of hh r hd
    refine .inl ⟨a, vs, rfl, g1, ?_⟩
    rw [← g2.len]
    exact up_same hh (.int _) u q
  · cases r
    exact .inr (.inl ⟨z, rfl, hz, up_same hh (.int _) u q⟩)
  · obtain ⟨n, a, us, rfl, g1, g2, rfl, g3, g4⟩ := dk_of hh r hd
    have hl : us.length = kvs.length := by have := congrArg List.length g4.1; simpa using this.symm
    refine .inr (.inr ⟨a, us, rfl, g3, ?_⟩)
    rw [hl]
    exact up_same hh (.int _) u q
def pInt : D → LH → Post → Prop
  | .int i, L, Q => Q (.int i) L
  | .bl k, L, Q => Q (.int (if k then 1 else 0)) L
  | _, _, _ => False
theorem c_int : CallR X (.type "int") (one1 (lift1 X.K X.mg pInt)) := by
  refine CallR.imp call_int1 fun xs H Q' h => ?_
  obtain ⟨x, rfl, θ, d, L, Q, hh, r, q, u⟩ := h
  unfold pInt at q
  split at q
  · cases r; exact .inl ⟨_, rfl, up_same hh (.int _) u q⟩
  · cases r; exact .inr ⟨_, rfl, up_same hh (.int _) u q⟩
  · exact q.elim
def pAbs : D → LH → Post → Prop
  | .int i, L, Q => Q (.int (if i < 0 then -i else i)) L
  | _, _, _ => False
theorem c_abs : CallR X (.builtin "abs") (one1 (lift1 X.K X.mg pAbs)) := by
  refine CallR.imp call_abs fun xs H Q' h => ?_
  obtain ⟨x, rfl, θ, d, L, Q, hh, r, q, u⟩ := h
  unfold pAbs at q
  split at q
  · cases r; exact ⟨_, rfl, up_same hh (.int _) u q⟩
  · exact q.elim
def pTuple : D → LH → Post → Prop := fun d L Q => ∃ ds, sq L d = some ds ∧ Q (.tup ds) L
theorem c_tuple : CallR X (.type "tuple") (one1 (lift1 X.K X.mg pTuple)) := by
  refine CallR.imp call_tuple_of fun xs H Q' h => ?_
  obtain ⟨x, rfl, θ, d, L, Q, hh, r, ⟨ds, hd, q⟩, u⟩ := h
  unfold sq at hd
  split at hd
  · cases hd
    obtain ⟨a, vs, h1, h2, rfl⟩ := r.tup_inv
    exact ⟨a, vs, rfl, .inr ⟨h1, up_same hh r u q⟩⟩
  · obtain ⟨a, vs, rfl, g1, g2⟩ := sqL_of hh r hd
    exact ⟨a, vs, rfl, .inl ⟨g1, fun p hp => tup_new hh hp g2 u q⟩⟩
/-! #### types -/
def tyD (L : LH) : D → Option String
  | .non => some "NoneType"
  | .bl _ => some "bool"
  | .int _ => some "int"
  | .str _ => some "str"
  | .tup _ => some "tuple"
  | .loc n => match L[n]? with
    | some (.lst _) => some "list"
    | some (.dk _) => some "dict"
    | some (.dt _) => some "dict"
    | _ => none
  | _ => none
theorem tyD_rep {θ : List Addr} {L : LH} {H : Hp} {d : D} {v : V} {t : String} (hh : HR K mg θ L H) (r : Rep K mg θ H d v) (e : tyD L d = some t) : TyX K H v (.type t) := by
  unfold tyD at e
  split at e
  · cases e; cases r; exact .base .non
  · cases e; cases r; exact .base (.bl _)
  · cases e; cases r; exact .base (.int _)
  · cases e; cases r; exact .base (.str _)
  · cases e
    obtain ⟨a, vs, h1, h2, rfl⟩ := r.tup_inv
    rcases h1 with (h1 | ⟨o, h1⟩) | ⟨o, _, _, h1, h3, _⟩
    · exact .base (.tup h1)
    · exact .fTuple h1
    · exact .kTuple h1 h3
  · obtain ⟨a, ha, rfl⟩ := r.loc_inv
    split at e
    · rename_i hn; cases e
      obtain ⟨vs, h1, _⟩ := hh.ok _ _ a hn ha
      exact .base (.lst h1)
    · rename_i hn; cases e
      obtain ⟨vs, h1, _⟩ := hh.ok _ _ a hn ha
      exact .base (.dK h1)
    · rename_i hn; cases e
      obtain ⟨vs, h1, _⟩ := hh.ok _ _ a hn ha
      exact .base (.dT h1)
    · cases e
  · cases e
/-- isinstance of built-in types, both answers -/
def isTy (t T : String) : Bool := t == T || (t == "bool" && T == "int")
def known6 : List String := ["NoneType", "bool", "int", "str", "tuple", "list", "dict"]
theorem kitB_known : ∀ t ∈ known6, ∀ T ∈ ["bool", "int", "str", "tuple", "list", "dict"], kitB t T = some (isTy t T) := by
  decide +kernel
theorem tyD_known {L : LH} {d : D} {t : String} (e : tyD L d = some t) : t ∈ known6 := by
  unfold tyD at e
  split at e
  all_goals first
    | (cases e; decide)
    | (split at e <;> first | (cases e; decide) | cases e)
    | cases e
def pIsi (T : String) : D → LH → Post → Prop := fun d L Q => T ∈ ["bool", "int", "str", "tuple", "list", "dict"] ∧ ∃ t, tyD L d = some t ∧ Q (.bl (isTy t T)) L
theorem c_isi {T : String} : CallR X (.builtin "isinstance") (fun xs H Q => ∃ x, xs = [x, .ty T] ∧ lift1 X.K X.mg (pIsi T) x H Q) := by
  refine CallR.imp call_isi fun xs H Q' h => ?_
  obtain ⟨x, rfl, θ, d, L, Q, hh, r, ⟨hT, t, ht, q⟩, u⟩ := h
  exact ⟨x, .ty T, .type t, .type T, _, rfl, .ty T, tyD_rep hh r ht, kit_ty (kitB_known t (tyD_known ht) T hT), up_same hh (.bl _) u q⟩
def pIsiT (Ts : List String) : D → LH → Post → Prop := fun d L Q => Ts.length ≤ 8 ∧ (∀ T ∈ Ts, T ∈ ["bool", "int", "str", "tuple", "list", "dict"]) ∧ ∃ t, tyD L d = some t ∧ Q (.bl (Ts.any (isTy t))) L
theorem kitAny_known {K : PySem.W.Frag} {t : String} (ht : t ∈ known6) : ∀ Ts : List String, (∀ T ∈ Ts, T ∈ ["bool", "int", "str", "tuple", "list", "dict"]) → PySem.W.kitAny K (.type t) (Ts.map Value.type) = some (Ts.any (isTy t))
  | [], _ => rfl
  | T :: Ts, h => by
    have h1 := kit_ty (K := K) (kitB_known t ht T (h T (by simp)))
    refine kitAny_cons h1 (fun e => ?_) fun e => by rw [List.any_cons, e]; rfl
    rw [List.any_cons, e, Bool.false_or]
    exact kitAny_known ht Ts fun T hT => h T (by simp [hT])
theorem clsV_tys : ∀ Ts : List String, Paired ClsV (Ts.map V.ty) (Ts.map Value.type)
  | [] => .nil
  | T :: Ts => .cons (.ty T) (clsV_tys Ts)
theorem c_isiT {Ts : List String} : CallR X (.builtin "isinstance") (fun xs H Q => ∃ x p, xs = [x, .ref p] ∧ H p = some (.tup (Ts.map V.ty)) ∧ lift1 X.K X.mg (pIsiT Ts) x H Q) := by
  refine CallR.imp call_isiT fun xs H Q' h => ?_
  obtain ⟨x, p, rfl, hp, θ, d, L, Q, hh, r, ⟨_, hT, t, ht, q⟩, u⟩ := h
  exact ⟨x, p, Ts.map V.ty, .type t, Ts.map Value.type, _, rfl, hp, clsV_tys Ts, tyD_rep hh r ht, kitAny_known (tyD_known ht) Ts hT, up_same hh (.bl _) u q⟩
/-! #### methods -/
theorem MtM.imp {id : String} {r r' : V → List V → Hp → VK → Prop} (h : MtR X id r) (i : ∀ x xs H Q, r' x xs H Q → r x xs H Q) : MtR X id r' :=
  fun pins s σ H x xs v us Q I rx rs q => h pins s σ H x xs v us Q I rx rs (i x xs H Q q)
/-- the receiver is a list cell -/
def isLst (L : LH) : D → Prop := fun d => ∃ n ds, d = .loc n ∧ L[n]? = some (.lst ds)
theorem isLst_ty {θ : List Addr} {L : LH} {H : Hp} {d : D} {v : V} (hh : HR K mg θ L H) (r : Rep K mg θ H d v) (h : isLst L d) : tyV K "list" v H := by
  obtain ⟨n, ds, rfl, hn⟩ := h
  obtain ⟨a, vs, rfl, ha, hA, _⟩ := lst_of hh r hn
  exact .inl ⟨rfl, vs, SqL.of hA⟩
def mAppend : D → List D → LH → Post → Prop := fun d as L Q => ∃ n ds x, d = .loc n ∧ as = [x] ∧ L[n]? = some (.lst ds) ∧ ds.length < sizeLine ∧ Q .non (L.set n (.lst (ds ++ [x])))
theorem m_append : MtR X "list.append" (liftM X.K X.mg mAppend) := by
  refine MtM.imp mt_append fun x xs H Q' h => ?_
  obtain ⟨θ, d, as, L, Q, hh, r, rs, ⟨n, ds, y, rfl, rfl, hn, hz, q⟩, u⟩ := h
  obtain ⟨a, vs, rfl, ha, hA, rv⟩ := lst_of hh r hn
  cases rs with
  | cons r1 r2 =>
    cases r2
    obtain ⟨x1, hh1⟩ := lst_upd hh hn ha hA (rv.append (.cons r1 .nil))
    exact ⟨a, vs, _, rfl, rfl, hA, by rw [← rv.len]; exact hz, u _ _ _ _ _ x1 hh1 .non q⟩
def mPop : D → List D → LH → Post → Prop := fun d as L Q => ∃ n ds y, d = .loc n ∧ L[n]? = some (.lst ds) ∧
  ((as = [] ∧ ds[ds.length - 1]? = some y ∧ Q y (L.set n (.lst ds.dropLast))) ∨ (as = [.int 0] ∧ ds[0]? = some y ∧ Q y (L.set n (.lst (ds.eraseIdx 0)))))
theorem Reps.dropLast {θ : List Addr} {H : Hp} {ds : List D} {vs : List V} (r : Reps K mg θ H ds vs) : Reps K mg θ H ds.dropLast vs.dropLast := by
  rw [List.dropLast_eq_take, List.dropLast_eq_take, ← r.len]
  exact r.take _
theorem seqIndex_zero {n : Nat} (h : 0 < n) : seqIndex? 0 n = some 0 := by
  unfold seqIndex?
  simp; omega
theorem m_pop : MtR X "list.pop" (liftM X.K X.mg mPop) := by
  refine MtM.imp (r := fun x xs H Q => rPop x xs H Q ∨ rPopAt x xs H Q) (fun pins s σ H x xs v us Q I rx rs q => ?_) fun x xs H Q' h => ?_
  · rcases q with q | q
    · exact mt_pop pins s σ H x xs v us Q I rx rs q
    · exact mt_popAt pins s σ H x xs v us Q I rx rs q
  obtain ⟨θ, d, as, L, Q, hh, r, rs, ⟨n, ds, y, rfl, hn, q⟩, u⟩ := h
  obtain ⟨a, vs, rfl, ha, hA, rv⟩ := lst_of hh r hn
  rcases q with ⟨rfl, hy, q⟩ | ⟨rfl, hy, q⟩
  · cases rs
    obtain ⟨w, hw, rw'⟩ := rv.get hy
    obtain ⟨x1, hh1⟩ := lst_upd hh hn ha hA rv.dropLast
    exact .inl ⟨a, vs, w, rfl, rfl, hA, by rw [← rv.len]; exact hw, u _ _ _ _ _ x1 hh1 (rw'.mono x1) q⟩
  · cases rs with
    | cons r1 r2 =>
      cases r2; cases r1
      obtain ⟨w, hw, rw'⟩ := rv.get hy
      obtain ⟨x1, hh1⟩ := lst_upd hh hn ha hA (rv.eraseIdx 0)
      have hpos : 0 < vs.length := (List.getElem?_eq_some_iff.mp hw).1
      exact .inr ⟨a, vs, 0, 0, w, rfl, rfl, hA, by decide, by decide, seqIndex_zero hpos, hw, u _ _ _ _ _ x1 hh1 (rw'.mono x1) q⟩
/-- extend by a tuple, whatever its other parts -/
theorem extend_tup (l : Addr) (items : Array Value) (n : Nat) (b : Addr) (items2 : Array Value) (n2 : Nat) (dd : Option Addr) (ss : Array (Option Value)) (hs0 : ¬(!items.isEmpty && Builtin.List.listTooLong (items.size + items2.size)) = true) (hs1 : items.size ≤ sizeLine) (hs2 : items.size + items2.size ≤ sizeLine + 1) :
    Meets (Builtin.«list.extend» ⟨[.ref l, .ref b], []⟩) (fun _ R s => s.heap.get? l = some { cls := .type "list", dict := none, data := .seq items n, slots := #[] } ∧ s.heap.get? b = some { cls := .type "tuple", dict := dd, data := .seq items2 n2, slots := ss } ∧ R (.ok (.ret Value.none)) { s with heap := s.heap.update l (Obj.mapSeq fun x => x ++ items2), toks := s.toks }) :=
  .of_wp fun prog w A R s h => by
    obtain ⟨hp, g, d, tk, os⟩ := s
    obtain ⟨hl, hb, h⟩ := h
    have f1 := PySem.AutoSeq1.idx_int
    have f2 := PySem.AutoSeq1.sub_tuple_tuple
    have f3 := PySem.AutoSeq1.sub_list_list
    have f4 := PySem.AutoSeq1.sub_tuple_list
    have f5 := PySem.AutoSeq1.sub_list_tuple
    have hz' : (items ++ items2).size ≤ sizeLine + 1 := by rw [Array.size_append]; exact hs2
    wp_walk using (wpAny_updateSeq hl rfl (hz := hs1) (_hz' := hz')), PySem.AutoSeq1.wpAny_loadPart' hl, PySem.AutoSeq1.wpAny_loadPart' hb
    exact ⟨_, rfl, h⟩
/-- extend by a tuple -/
def rExtT (K : PySem.W.Frag) : V → List V → Hp → VK → Prop := fun x vs H Q => ∃ l b xs zs, x = .ref l ∧ vs = [.ref b] ∧ H l = some (.lst xs) ∧ SqT K H b zs ∧ xs.length + zs.length ≤ sizeLine ∧ Q .non (upd H l (.lst (xs ++ zs)))
theorem notLong {n : Nat} (h : n ≤ sizeLine) : Builtin.List.listTooLong n = false := by
  have := line63
  unfold Builtin.List.listTooLong
  rw [sizeLine_eq] at *
  simp; omega
theorem mt_extT : MtR X "list.extend" (rExtT X.K) := by
  intro pins s σ H x vs v us Q I rx rv h
  obtain ⟨l, b, xs, zs, rfl, rfl, hH, hB, hz, q⟩ := h
  cases rx
  obtain ⟨u, rfl, ru⟩ := rv.one
  cases ru
  obtain ⟨z, its, n, r, hl, e⟩ := I.lstM hH
  obtain ⟨its2, r2, ⟨o2, e2, c2, n2, d2⟩, z2⟩ := I.tuple hB
  have hl2 := r2.length
  obtain ⟨ocls, odict, odata, osl⟩ := o2
  simp only at c2 d2
  subst c2 d2
  have hsz : its.toArray.size + its2.toArray.size ≤ sizeLine := by rw [List.size_toArray, List.size_toArray]; omega
  have hlong : ¬ (!its.toArray.isEmpty && Builtin.List.listTooLong (its.toArray.size + its2.toArray.size)) = true := by
    rw [notLong hsz, Bool.and_false]; exact Bool.false_ne_true
  refine PySem.call_meets PySem.F.slot_list_extend ⟨_, e, rfl⟩ PySem.F.entry_list_extend (PySem.F.args_list_extend_2 _ _)
    (extend_tup l its.toArray n b its2.toArray n2 odict osl hlong (by rw [List.size_toArray]; omega) (by omega)) ⟨e, e2, ?_⟩
  refine ⟨.non, _, I.lset (its' := its ++ its2) hH e (by simp) (r.append r2) ?_, rfl, q⟩
  rw [List.length_append]
  omega
def mExtend : D → List D → LH → Post → Prop := fun d as L Q => ∃ n ds x es, d = .loc n ∧ as = [x] ∧ L[n]? = some (.lst ds) ∧
  (x = .tup es ∨ ∃ m, x = .loc m ∧ L[m]? = some (.lst es)) ∧ ds.length + es.length ≤ sizeLine ∧ Q .non (L.set n (.lst (ds ++ es)))
theorem m_extend : MtR X "list.extend" (liftM X.K X.mg mExtend) := by
  refine MtM.imp (r := fun x xs H Q => rExtend x xs H Q ∨ rExtT X.K x xs H Q) (fun pins s σ H x xs v us Q I rx rs q => ?_) fun x xs H Q' h => ?_
  · rcases q with q | q
    · exact mt_extend pins s σ H x xs v us Q I rx rs q
    · exact mt_extT pins s σ H x xs v us Q I rx rs q
  obtain ⟨θ, d, as, L, Q, hh, r, rs, ⟨n, ds, y, es, rfl, rfl, hn, hy, hz, q⟩, u⟩ := h
  obtain ⟨a, vs, rfl, ha, hA, rv⟩ := lst_of hh r hn
  cases rs with
  | cons r1 r2 =>
    cases r2
    rcases hy with rfl | ⟨m, rfl, hm⟩
    · obtain ⟨b, us, g1, g2, rfl⟩ := r1.tup_inv
      obtain ⟨x1, hh1⟩ := lst_upd hh hn ha hA (rv.append g2)
      exact .inr ⟨a, b, vs, us, rfl, rfl, hA, g1, by rw [← rv.len, ← g2.len]; exact hz, u _ _ _ _ _ x1 hh1 .non q⟩
    · obtain ⟨b, us, rfl, hb, hB, g2⟩ := lst_of hh r1 hm
      obtain ⟨x1, hh1⟩ := lst_upd hh hn ha hA (rv.append g2)
      exact .inl ⟨a, b, vs, us, rfl, rfl, hA, hB, by rw [← rv.len, ← g2.len]; exact hz, u _ _ _ _ _ x1 hh1 .non q⟩
/-- extend by a list that stands by itself -/
def liftML (K : PySem.W.Frag) (mg : Str → Option Value) (f : D → List D → LH → Post → Prop) : V → List V → Hp → VK → Prop := fun x xs H Q' => ∃ θ p vs d ds L Q, xs = [.ref p] ∧ H p = some (.lst vs) ∧ HR K mg θ L H ∧ Rep K mg θ H d x ∧ Reps K mg θ H ds vs ∧ f d ds L Q ∧ Up K mg θ H Q Q'
def mlExtend : D → List D → LH → Post → Prop := fun d es L Q => ∃ n ds, d = .loc n ∧ L[n]? = some (.lst ds) ∧ ds.length + es.length ≤ sizeLine ∧ Q .non (L.set n (.lst (ds ++ es)))
theorem ml_extend : MtR X "list.extend" (liftML X.K X.mg mlExtend) := by
  refine MtM.imp mt_extend fun x xs H Q' h => ?_
  obtain ⟨θ, p, vs, d, es, L, Q, rfl, hp, hh, r, rs, ⟨n, ds, rfl, hn, hz, q⟩, u⟩ := h
  obtain ⟨a, us, rfl, ha, hA, rv⟩ := lst_of hh r hn
  obtain ⟨x1, hh1⟩ := lst_upd hh hn ha hA (rv.append rs)
  exact ⟨a, p, us, vs, rfl, rfl, hA, hp, by rw [← rv.len, ← rs.len]; exact hz, u _ _ _ _ _ x1 hh1 .non q⟩
end

/-! ### iterators -/
section
variable {K : PySem.W.Frag} {mg : Str → Option Value} {θ : List Addr} {L : LH} {H : Hp}
theorem at_lt {ds : List D} {i : Nat} (h : i < ds.length) : ds[i]? = some ds[i] := List.getElem?_eq_getElem h
theorem itok_list {d : D} {a : Addr} {ds : List D} (r : Rep K mg θ H d (.ref a)) : ItOk K mg (Itl K a) θ H ds (fun L' => sqL L' d = some ds) := by
  have key : ∀ θ2 L2 H2, Ext K θ H θ2 H2 → HR K mg θ2 L2 H2 → sqL L2 d = some ds → ∃ vs, SqL K H2 a vs ∧ Reps K mg θ2 H2 ds vs := fun θ2 L2 H2 x hh k => by
    obtain ⟨b, vs, e, g1, g2⟩ := sqL_of hh (r.mono x) k
    cases e
    exact ⟨vs, g1, g2⟩
  refine ⟨fun i θ2 L2 H2 x hh k hi => ?_, fun i θ2 L2 H2 x hh k hi => ?_, fun i θ2 L2 H2 y H3 e x hh k hi yy => ?_⟩
  · obtain ⟨vs, g1, g2⟩ := key θ2 L2 H2 x hh k
    obtain ⟨v, hv, _⟩ := g2.get (at_lt hi)
    exact ⟨vs, v, g1, hv⟩
  · obtain ⟨vs, g1, g2⟩ := key θ2 L2 H2 x hh k
    exact ⟨vs, g1, by rw [← g2.len]; omega⟩
  · obtain ⟨vs, g1, g2⟩ := key θ2 L2 H2 x hh k
    obtain ⟨rfl, yy⟩ := yy
    obtain ⟨v, hv, rv⟩ := g2.get hi
    have := yy vs g1
    rw [hv] at this; cases this
    exact ⟨.refl, hh, rv⟩
theorem itok_tup {a : Addr} {ds : List D} (r : Rep K mg θ H (.tup ds) (.ref a)) : ItOk K mg (Itt K a) θ H ds (fun _ => True) := by
  have key : ∀ θ2 H2, Ext K θ H θ2 H2 → ∃ vs, SqT K H2 a vs ∧ Reps K mg θ2 H2 ds vs := fun θ2 H2 x => by
    obtain ⟨b, vs, g1, g2, e⟩ := (r.mono x).tup_inv
    cases e
    exact ⟨vs, g1, g2⟩
  refine ⟨fun i θ2 L2 H2 x hh k hi => ?_, fun i θ2 L2 H2 x hh k hi => ?_, fun i θ2 L2 H2 y H3 e x hh k hi yy => ?_⟩
  · obtain ⟨vs, g1, g2⟩ := key θ2 H2 x
    obtain ⟨v, hv, _⟩ := g2.get (at_lt hi)
    exact ⟨vs, v, g1, hv⟩
  · obtain ⟨vs, g1, g2⟩ := key θ2 H2 x
    exact ⟨vs, g1, by rw [← g2.len]; omega⟩
  · obtain ⟨vs, g1, g2⟩ := key θ2 H2 x
    obtain ⟨rfl, yy⟩ := yy
    obtain ⟨v, hv, rv⟩ := g2.get hi
    have := yy vs g1
    rw [hv] at this; cases this
    exact ⟨.refl, hh, rv⟩
theorem itok_fresh {a : Addr} {ds : List D} {us : List V} (h : H a = some (.lst us)) (na : a ∉ θ) (r : Reps K mg θ H ds us) : ItOk K mg (Itl K a) θ H ds (fun _ => True) := by
  have key : ∀ θ2 H2, Ext K θ H θ2 H2 → ∃ vs, SqL K H2 a vs ∧ Reps K mg θ2 H2 ds vs := fun θ2 H2 x => ⟨us, SqL.of (x.frm a _ h na), r.mono x⟩
  refine ⟨fun i θ2 L2 H2 x hh k hi => ?_, fun i θ2 L2 H2 x hh k hi => ?_, fun i θ2 L2 H2 y H3 e x hh k hi yy => ?_⟩
  · obtain ⟨vs, g1, g2⟩ := key θ2 H2 x
    obtain ⟨v, hv, _⟩ := g2.get (at_lt hi)
    exact ⟨vs, v, g1, hv⟩
  · obtain ⟨vs, g1, g2⟩ := key θ2 H2 x
    exact ⟨vs, g1, by rw [← g2.len]; omega⟩
  · obtain ⟨vs, g1, g2⟩ := key θ2 H2 x
    obtain ⟨rfl, yy⟩ := yy
    obtain ⟨v, hv, rv⟩ := g2.get hi
    have := yy vs g1
    rw [hv] at this; cases this
    exact ⟨.refl, hh, rv⟩
def rangeD (lo : Int) (n : Nat) : List D := (List.range n).map fun i => D.int (lo + (i : Nat))
theorem itok_range {lo : Int} {n : Nat} : ItOk K mg (Itr lo n) θ H (rangeD lo n) (fun _ => True) := by
  have hl : (rangeD lo n).length = n := by simp [rangeD]
  refine ⟨fun i θ2 L2 H2 x hh k hi => ?_, fun i θ2 L2 H2 x hh k hi => ?_, fun i θ2 L2 H2 y H3 e x hh k hi yy => ?_⟩
  · show i < n; omega
  · show n ≤ i; omega
  · obtain ⟨rfl, rfl⟩ := yy
    have hi2 : i < n := by rw [← hl]; exact (List.getElem?_eq_some_iff.mp hi).1
    have : (rangeD lo n)[i]? = some (.int (lo + (i : Nat))) := by simp [rangeD, hi2]
    rw [this] at hi; cases hi
    exact ⟨.refl, hh, .int _⟩
theorem pair_new {θ2 : List Addr} {L2 : LH} {H2 : Hp} {T : Addr} {d e : D} {v u : V} (hh : HR K mg θ2 L2 H2) (hT : H2 T = none) (r1 : Rep K mg θ2 H2 d v) (r2 : Rep K mg θ2 H2 e u) :
    Ext K θ2 H2 θ2 (upd H2 T (.tup [v, u])) ∧ HR K mg θ2 L2 (upd H2 T (.tup [v, u])) ∧ Rep K mg θ2 (upd H2 T (.tup [v, u])) (.tup [d, e]) (.ref T) :=
  rep_newtup hh hT (.cons r1 (.cons r2 .nil))
def enumD : Nat → List D → List D
  | _, [] => []
  | n, d :: ds => .tup [.int (n : Nat), d] :: enumD (n + 1) ds
theorem enumD_len : ∀ (n : Nat) (ds : List D), (enumD n ds).length = ds.length
  | _, [] => rfl
  | n, _ :: ds => by simp [enumD, enumD_len (n + 1) ds]
theorem enumD_get : ∀ (n : Nat) (ds : List D) (i : Nat) (e : D), (enumD n ds)[i]? = some e → ∃ d, ds[i]? = some d ∧ e = .tup [.int ((n + i : Nat) : Int), d]
  | _, [], i, e, h => by simp [enumD] at h
  | n, d :: ds, 0, e, h => by simp [enumD] at h; subst h; exact ⟨d, rfl, rfl⟩
  | n, d :: ds, i + 1, e, h => by
    simp only [enumD, List.getElem?_cons_succ] at h
    obtain ⟨d', h1, h2⟩ := enumD_get (n + 1) ds i e h
    exact ⟨d', by simpa using h1, by rw [h2]; congr 3; omega⟩
theorem itok_enum {d : D} {a : Addr} {ds : List D} (r : Rep K mg θ H d (.ref a)) : ItOk K mg (Ite K a) θ H (enumD 0 ds) (fun L' => sqL L' d = some ds) := by
  have key : ∀ θ2 L2 H2, Ext K θ H θ2 H2 → HR K mg θ2 L2 H2 → sqL L2 d = some ds → ∃ vs, SqL K H2 a vs ∧ Reps K mg θ2 H2 ds vs := fun θ2 L2 H2 x hh k => by
    obtain ⟨b, vs, e, g1, g2⟩ := sqL_of hh (r.mono x) k
    cases e
    exact ⟨vs, g1, g2⟩
  refine ⟨fun i θ2 L2 H2 x hh k hi => ?_, fun i θ2 L2 H2 x hh k hi => ?_, fun i θ2 L2 H2 y H3 e x hh k hi yy => ?_⟩
  · obtain ⟨vs, g1, g2⟩ := key θ2 L2 H2 x hh k
    rw [enumD_len] at hi
    obtain ⟨v, hv, _⟩ := g2.get (at_lt hi)
    exact ⟨vs, v, g1, hv⟩
  · obtain ⟨vs, g1, g2⟩ := key θ2 L2 H2 x hh k
    rw [enumD_len] at hi
    exact ⟨vs, g1, by rw [← g2.len]; omega⟩
  · obtain ⟨vs, g1, g2⟩ := key θ2 L2 H2 x hh k
    obtain ⟨T, z, rfl, hT, rfl, yy⟩ := yy
    obtain ⟨d', h1, rfl⟩ := enumD_get 0 ds i e hi
    obtain ⟨v, hv, rv⟩ := g2.get h1
    have := yy vs g1
    rw [hv] at this; cases this
    rw [Nat.zero_add]
    exact pair_new hh hT (.int _) rv
def zipD : List D → List D → List D
  | d :: ds, e :: es => .tup [d, e] :: zipD ds es
  | _, _ => []
theorem zipD_get : ∀ (ds es : List D) (i : Nat) (x : D), (zipD ds es)[i]? = some x → ∃ d e, ds[i]? = some d ∧ es[i]? = some e ∧ x = .tup [d, e]
  | [], _, i, x, h => by simp [zipD] at h
  | _ :: _, [], i, x, h => by simp [zipD] at h
  | d :: ds, e :: es, 0, x, h => by simp [zipD] at h; subst h; exact ⟨d, e, rfl, rfl, rfl⟩
  | d :: ds, e :: es, i + 1, x, h => by
    simp only [zipD, List.getElem?_cons_succ] at h
    obtain ⟨d', e', h1, h2, h3⟩ := zipD_get ds es i x h
    exact ⟨d', e', by simpa using h1, by simpa using h2, h3⟩
theorem zipD_len : ∀ (ds es : List D), (zipD ds es).length = min ds.length es.length
  | [], _ => by simp [zipD]
  | _ :: _, [] => by simp [zipD]
  | d :: ds, e :: es => by simp only [zipD, List.length_cons, zipD_len ds es]; omega
theorem itok_zipT {a b : Addr} {ds es : List D} (r : Rep K mg θ H (.tup ds) (.ref a)) (s : Rep K mg θ H (.tup es) (.ref b)) : ItOk K mg (RZ.ItzT K a b) θ H (zipD ds es) (fun _ => True) := by
  have key : ∀ θ2 H2 (c : Addr) fs, Ext K θ H θ2 H2 → Rep K mg θ H (.tup fs) (.ref c) → ∃ vs, SqT K H2 c vs ∧ Reps K mg θ2 H2 fs vs := fun θ2 H2 c fs x r => by
    obtain ⟨b, vs, g1, g2, e⟩ := (r.mono x).tup_inv
    cases e
    exact ⟨vs, g1, g2⟩
  refine ⟨fun i θ2 L2 H2 x hh k hi => ?_, fun i θ2 L2 H2 x hh k hi => ?_, fun i θ2 L2 H2 y H3 e x hh k hi yy => ?_⟩
  · obtain ⟨vs, g1, g2⟩ := key θ2 H2 a ds x r
    obtain ⟨us, g3, g4⟩ := key θ2 H2 b es x s
    rw [zipD_len] at hi
    obtain ⟨v, hv, _⟩ := g2.get (at_lt (by omega : i < ds.length))
    obtain ⟨w, hw, _⟩ := g4.get (at_lt (by omega : i < es.length))
    exact ⟨vs, us, v, w, g1, g3, hv, hw⟩
  · obtain ⟨vs, g1, g2⟩ := key θ2 H2 a ds x r
    obtain ⟨us, g3, g4⟩ := key θ2 H2 b es x s
    rw [zipD_len] at hi
    exact ⟨vs, us, g1, g3, by rw [← g2.len, ← g4.len]; omega⟩
  · obtain ⟨vs, g1, g2⟩ := key θ2 H2 a ds x r
    obtain ⟨us, g3, g4⟩ := key θ2 H2 b es x s
    obtain ⟨T, z, z', rfl, hT, rfl, y1, y2⟩ := yy
    obtain ⟨d', e', h1, h2, rfl⟩ := zipD_get ds es i e hi
    obtain ⟨v, hv, rv⟩ := g2.get h1
    obtain ⟨w, hw, rw'⟩ := g4.get h2
    have := y1 vs g1
    rw [hv] at this; cases this
    have := y2 us g3
    rw [hw] at this; cases this
    exact pair_new hh hT rv rw'
theorem itok_zipL {d e : D} {a b : Addr} {ds es : List D} (r : Rep K mg θ H d (.ref a)) (s : Rep K mg θ H e (.ref b)) : ItOk K mg (Itz K a b) θ H (zipD ds es) (fun L' => sqL L' d = some ds ∧ sqL L' e = some es) := by
  have key : ∀ θ2 L2 H2 (c : Addr) f fs, Ext K θ H θ2 H2 → HR K mg θ2 L2 H2 → Rep K mg θ H f (.ref c) → sqL L2 f = some fs → ∃ vs, SqL K H2 c vs ∧ Reps K mg θ2 H2 fs vs := fun θ2 L2 H2 c f fs x hh r k => by
    obtain ⟨b, vs, e, g1, g2⟩ := sqL_of hh (r.mono x) k
    cases e
    exact ⟨vs, g1, g2⟩
  refine ⟨fun i θ2 L2 H2 x hh k hi => ?_, fun i θ2 L2 H2 x hh k hi => ?_, fun i θ2 L2 H2 y H3 q x hh k hi yy => ?_⟩
  · obtain ⟨vs, g1, g2⟩ := key θ2 L2 H2 a d ds x hh r k.1
    obtain ⟨us, g3, g4⟩ := key θ2 L2 H2 b e es x hh s k.2
    rw [zipD_len] at hi
    obtain ⟨v, hv, _⟩ := g2.get (at_lt (by omega : i < ds.length))
    obtain ⟨w, hw, _⟩ := g4.get (at_lt (by omega : i < es.length))
    exact ⟨vs, us, v, w, g1, g3, hv, hw⟩
  · obtain ⟨vs, g1, g2⟩ := key θ2 L2 H2 a d ds x hh r k.1
    obtain ⟨us, g3, g4⟩ := key θ2 L2 H2 b e es x hh s k.2
    rw [zipD_len] at hi
    exact ⟨vs, us, g1, g3, by rw [← g2.len, ← g4.len]; omega⟩
  · obtain ⟨vs, g1, g2⟩ := key θ2 L2 H2 a d ds x hh r k.1
    obtain ⟨us, g3, g4⟩ := key θ2 L2 H2 b e es x hh s k.2
    obtain ⟨T, z, z', rfl, hT, rfl, y1, y2⟩ := yy
    obtain ⟨d', e', h1, h2, rfl⟩ := zipD_get ds es i q hi
    obtain ⟨v, hv, rv⟩ := g2.get h1
    obtain ⟨w, hw, rw'⟩ := g4.get h2
    have := y1 vs g1
    rw [hv] at this; cases this
    have := y2 us g3
    rw [hw] at this; cases this
    exact pair_new hh hT rv rw'
end
/-! #### what is walked -/
def iSq (a : DE) : DI := fun ρ L Q E => a ρ L (fun d L1 => match d with
  | .tup ds => Q ds (fun _ => True) L1
  | d => ∃ ds, sqL L1 d = some ds ∧ Q ds (fun L' => sqL L' d = some ds) L1) E
def iLx (l : DAs) : DI := fun ρ L Q E => l ρ L (fun ds L1 => Q ds (fun _ => True) L1) E
def iRange1 (as : DAs) : DI := fun ρ L Q E => as ρ L (fun ds L1 => ∃ j : Int, ds = [.int j] ∧ -(2 ^ 62) ≤ j ∧ j < 2 ^ 62 ∧ Q (rangeD 0 j.toNat) (fun _ => True) L1) E
def iRange2 (as : DAs) : DI := fun ρ L Q E => as ρ L (fun ds L1 => ∃ i j : Int, ds = [.int i, .int j] ∧ (-(2 ^ 62) ≤ i ∧ i < 2 ^ 62 ∧ -(2 ^ 62) ≤ j ∧ j < 2 ^ 62) ∧ Q (rangeD i (j - i).toNat) (fun _ => True) L1) E
def iEnumL (as : DAs) : DI := fun ρ L Q E => as ρ L (fun ds L1 => ∃ d es, ds = [d] ∧ sqL L1 d = some es ∧ Q (enumD 0 es) (fun L' => sqL L' d = some es) L1) E
def iZip2 (as : DAs) : DI := fun ρ L Q E => as ρ L (fun ds L1 => (∃ xs ys, ds = [.tup xs, .tup ys] ∧ Q (zipD xs ys) (fun _ => True) L1) ∨
  ∃ d e xs ys, ds = [d, e] ∧ sqL L1 d = some xs ∧ sqL L1 e = some ys ∧ Q (zipD xs ys) (fun L' => sqL L' d = some xs ∧ sqL L' e = some ys) L1) E
section
variable {X : Cx} {tg : Expr} {W : WXs}
/-- a list or a tuple is walked -/
def iSeq (K : PySem.W.Frag) (tl : TE) : TI := fun σ H R => tl σ H fun x H1 => ∃ a, x = .ref a ∧ (((∃ xs, SqL K H1 a xs) ∧ R (Itl K a) H1) ∨ ((∃ xs, SqT K H1 a xs) ∧ R (Itt K a) H1))
theorem pi_seq {l : Expr} {tl : TE} (hl : PE X l tl) : PI X tg l (iSeq X.K tl) := by
  refine ⟨fun pins s σ H R I h => ?_⟩
  refine thn (hl.run pins s σ H _ I h) fun v s1 ⟨x, H1, I1, r1, q1⟩ => ?_
  obtain ⟨a, e, q1⟩ := q1
  subst e
  obtain rfl : v = Value.ref a := r1
  have mine : ∀ (hp : Heap) (tk : Nat) b, b ∈ [s1.heap.objs.size] → FpOk X pins H1 b := fun hp tk b hb => by
    rw [List.mem_singleton.mp hb]
    exact I1.fpOk (Nat.le_refl _) (I1.hok.fresh (Nat.le_refl _))
  rcases q1 with ⟨⟨xs, hq⟩, q⟩ | ⟨⟨xs, hq⟩, q⟩
  · obtain ⟨its, rv, p, hz⟩ := I1.list hq
    refine wpAny_pyIter_list p.isList ?_
    exact ⟨s1.heap.objs.size, [s1.heap.objs.size], _, _, H1, rfl, I1.kept (t' := s1.toks) fun b o e => Heap.get?_push_of_some _ e, turn_list a _, ⟨_, Heap.get?_push_size _ rfl, rfl, rfl⟩, mine s1.heap 0, q⟩
  · obtain ⟨its, rv, p, hz⟩ := I1.tuple hq
    refine wpAny_pyIter_tuple (show s1.heap.IsTuple a its.toArray from p) ?_
    exact ⟨s1.heap.objs.size, [s1.heap.objs.size], _, _, H1, rfl, I1.kept (t' := s1.toks) fun b o e => Heap.get?_push_of_some _ e, turn_tuple a _, ⟨_, Heap.get?_push_size _ rfl, rfl, rfl⟩, mine s1.heap 0, q⟩
variable {K : PySem.W.Frag} {mg : Str → Option Value}
theorem tJI_sq {a : DE} (σ : St) (H : Hp) (R : It → Hp → Prop) (h : tJI K mg W (iSq a) σ H R) : iSeq K (tJ K mg W a) σ H R := by
  obtain ⟨θ, ρ, L, Q, E, s, hh, t, u, x⟩ := h
  refine ⟨θ, ρ, L, _, E, s, hh, t, fun v H1 θ1 d L1 e1 h1 r1 q1 => ?_, x⟩
  dsimp only at q1
  split at q1
  · obtain ⟨a, vs, g1, g2, rfl⟩ := id r1.tup_inv
    exact ⟨a, rfl, .inr ⟨⟨vs, g1⟩, u _ _ _ _ _ _ e1 h1 (itok_tup r1) q1⟩⟩
  · obtain ⟨ds, hd, q1⟩ := q1
    obtain ⟨a, vs, rfl, g1, g2⟩ := sqL_of h1 r1 hd
    exact ⟨a, rfl, .inl ⟨⟨vs, g1⟩, u _ _ _ _ _ _ e1 h1 (itok_list r1) q1⟩⟩
theorem tJI_lx {l : DAs} (σ : St) (H : Hp) (R : It → Hp → Prop) (h : tJI K mg W (iLx l) σ H R) : iSeq K (tJL K mg W l) σ H R := by
  obtain ⟨θ, ρ, L, Q, E, s, hh, t, u, x⟩ := h
  exact ⟨θ, ρ, L, _, E, s, hh, t, fun p vs H1 θ1 ds L1 e1 h1 hp hv np r q => ⟨p, rfl, .inl ⟨⟨vs, SqL.of hv⟩, u _ _ _ _ _ _ e1 h1 (itok_fresh hv np r) q⟩⟩, x⟩
theorem tJI_range1 {as : DAs} (σ : St) (H : Hp) (R : It → Hp → Prop) (h : tJI K mg W (iRange1 as) σ H R) : iRng1 (tJA K mg W as) σ H R := by
  obtain ⟨θ, ρ, L, Q, E, s, hh, t, u, x⟩ := h
  refine ⟨θ, ρ, L, _, E, s, hh, t, fun vs H1 θ1 ds L1 e1 h1 r ⟨j, hj, b1, b2, q⟩ => ?_, x⟩
  subst hj
  cases r with
  | cons r1 r2 => cases r2; cases r1; exact ⟨j, rfl, b1, b2, u _ _ _ _ _ _ e1 h1 itok_range q⟩
theorem tJI_range2 {as : DAs} (σ : St) (H : Hp) (R : It → Hp → Prop) (h : tJI K mg W (iRange2 as) σ H R) : iRng2 (tJA K mg W as) σ H R := by
  obtain ⟨θ, ρ, L, Q, E, s, hh, t, u, x⟩ := h
  refine ⟨θ, ρ, L, _, E, s, hh, t, fun vs H1 θ1 ds L1 e1 h1 r ⟨i, j, hj, b1, q⟩ => ?_, x⟩
  subst hj
  cases r with
  | cons r1 r2 => cases r2 with
    | cons r2 r3 => cases r3; cases r1; cases r2; exact ⟨i, j, rfl, b1, u _ _ _ _ _ _ e1 h1 itok_range q⟩
theorem tJI_enum {as : DAs} (σ : St) (H : Hp) (R : It → Hp → Prop) (h : tJI K mg W (iEnumL as) σ H R) : iEnum K (tJA K mg W as) σ H R := by
  obtain ⟨θ, ρ, L, Q, E, s, hh, t, u, x⟩ := h
  refine ⟨θ, ρ, L, _, E, s, hh, t, fun vs H1 θ1 ds L1 e1 h1 r ⟨d, es, hj, b1, q⟩ => ?_, x⟩
  subst hj
  cases r with
  | cons r1 r2 =>
    cases r2
    obtain ⟨a, vs, rfl, g1, g2⟩ := sqL_of h1 r1 b1
    exact ⟨a, vs, rfl, g1, u _ _ _ _ _ _ e1 h1 (itok_enum r1) q⟩
theorem tJI_zip {as : DAs} (σ : St) (H : Hp) (R : It → Hp → Prop) (h : tJI K mg W (iZip2 as) σ H R) : RZ.iZipA K (tJA K mg W as) σ H R := by
  obtain ⟨θ, ρ, L, Q, E, s, hh, t, u, x⟩ := h
  refine ⟨θ, ρ, L, _, E, s, hh, t, fun vs H1 θ1 ds L1 e1 h1 r q => ?_, x⟩
  rcases q with ⟨xs, ys, hj, q⟩ | ⟨d, e, xs, ys, hj, b1, b2, q⟩
  · subst hj
    cases r with
    | cons r1 r2 => cases r2 with
      | cons r2 r3 =>
        cases r3
        obtain ⟨a, vs, g1, g2, rfl⟩ := id r1.tup_inv
        obtain ⟨b, us, g3, g4, rfl⟩ := id r2.tup_inv
        exact ⟨a, b, vs, us, rfl, .inr ⟨g1, g3, u _ _ _ _ _ _ e1 h1 (itok_zipT r1 r2) q⟩⟩
  · subst hj
    cases r with
    | cons r1 r2 => cases r2 with
      | cons r2 r3 =>
        cases r3
        obtain ⟨a, vs, rfl, g1, g2⟩ := sqL_of h1 r1 b1
        obtain ⟨b, us, rfl, g3, g4⟩ := sqL_of h1 r2 b2
        exact ⟨a, b, vs, us, rfl, .inl ⟨g1, g3, u _ _ _ _ _ _ e1 h1 (itok_zipL r1 r2) q⟩⟩
end
end Bw
end
section
set_option linter.all false
set_option maxRecDepth 100000
set_option maxHeartbeats 4000000
namespace Bw
open PySem L2
/-! ### sorted(set(ints)) -/
def insI (k : Int) : List Int → List Int
  | [] => [k]
  | x :: r => if k < x then k :: x :: r else if k = x then x :: r else x :: insI k r
def srt : List Int → List Int
  | [] => []
  | k :: r => insI k (srt r)
theorem mem_insI {k j : Int} : ∀ {l : List Int}, j ∈ insI k l ↔ j = k ∨ j ∈ l
  | [] => by simp [insI]
  | x :: r => by
    unfold insI
    split
    · simp
    · split
      · rename_i h; subst h; simp
      · simp only [List.mem_cons, mem_insI (l := r)]; constructor <;> (rintro (h | h | h) <;> simp [h])
theorem mem_srt {j : Int} : ∀ {l : List Int}, j ∈ srt l ↔ j ∈ l
  | [] => by simp [srt]
  | k :: r => by simp [srt, mem_insI, mem_srt (l := r)]
theorem pw_insI {k : Int} : ∀ {l : List Int}, l.Pairwise (· < ·) → (insI k l).Pairwise (· < ·)
  | [], _ => by simp [insI]
  | x :: r, h => by
    obtain ⟨h1, h2⟩ := List.pairwise_cons.mp h
    unfold insI
    split
    · rename_i c
      refine List.pairwise_cons.mpr ⟨fun y hy => ?_, h⟩
      rcases List.mem_cons.mp hy with rfl | hy
      · exact c
      · exact Int.lt_trans c (h1 y hy)
    · split
      · exact h
      · refine List.pairwise_cons.mpr ⟨fun y hy => ?_, pw_insI h2⟩
        rcases mem_insI.mp hy with rfl | hy
        · omega
        · exact h1 y hy
theorem pw_srt : ∀ {l : List Int}, (srt l).Pairwise (· < ·)
  | [] => by simp [srt]
  | k :: r => pw_insI pw_srt
theorem pw_uniq : ∀ {a b : List Int}, a.Pairwise (· < ·) → b.Pairwise (· < ·) → (∀ k, k ∈ a ↔ k ∈ b) → a = b
  | [], [], _, _, _ => rfl
  | [], y :: b, _, _, h => by have := (h y).2 (List.mem_cons_self ..); simp at this
  | x :: a, [], _, _, h => by have := (h x).1 (List.mem_cons_self ..); simp at this
  | x :: a, y :: b, ha, hb, h => by
    obtain ⟨a1, a2⟩ := List.pairwise_cons.mp ha
    obtain ⟨b1, b2⟩ := List.pairwise_cons.mp hb
    have e : x = y := by
      have h1 := (h x).1 (List.mem_cons_self ..)
      have h2 := (h y).2 (List.mem_cons_self ..)
      rcases List.mem_cons.mp h1 with e | h1
      · exact e
      · rcases List.mem_cons.mp h2 with e | h2
        · exact e.symm
        · have := a1 y h2; have := b1 x h1; omega
    subst e
    rw [pw_uniq a2 b2 fun k => ?_]
    have hk := h k
    simp only [List.mem_cons] at hk
    constructor
    · intro m
      rcases hk.1 (.inr m) with e | m'
      · subst e; have := a1 k m; omega
      · exact m'
    · intro m
      rcases hk.2 (.inr m) with e | m'
      · subst e; have := b1 k m; omega
      · exact m'
theorem nodup_len {α : Type} [DecidableEq α] : ∀ (l D : List α), l.Nodup → (∀ x ∈ l, x ∈ D) → l.length ≤ D.length
  | [], _, _, _ => Nat.zero_le _
  | x :: l, D, hn, hs => by
    obtain ⟨h1, h2⟩ := List.nodup_cons.mp hn
    have hx : x ∈ D := hs x List.mem_cons_self
    have ih := nodup_len l (D.erase x) h2 fun y hy => by
      have hne : y ≠ x := fun e => h1 (e ▸ hy)
      exact (List.mem_erase_of_ne hne).2 (hs y (List.mem_cons_of_mem _ hy))
    have e := List.length_erase_of_mem hx
    have hp : 0 < D.length := List.length_pos_of_mem hx
    rw [List.length_cons]
    omega
theorem setR_few {w : World} {h : Heap} {a : Addr} {S : Int → Bool} {n : Nat} (R : SetR w h a S n) {D : List Int} (hs : ∀ k, S k = true → k ∈ D) : n ≤ D.length := by
  obtain ⟨o, es, ep, t, _, _, _, _, nd, hm, _, _, hn, _⟩ := R
  have := nodup_len _ D nd fun k hk => hs k ((hm k).2 hk)
  simp at this; omega
section
variable {X : Cx}
/-- set(l) of a list of ints -/
def rSetL (K : PySem.W.Frag) (w : World) : List V → Hp → VK → Prop := fun xs H Q => ∃ (a : Addr) (ns : List Int), xs = [V.ref a] ∧ SqL K H a (ns.map V.int) ∧ ns.length + 1 < scanBound ∧
  ∀ p c, c ≤ (srt ns).length → H p = none → Q (.ref p) (upd H p (SetO w p (fun j => decide (j ∈ ns)) c))
theorem cr_setL (hc : X.calm = true) : CallR X (.type "set") (rSetL X.K X.w) := by
  intro pins s σ H xs us Q I r h
  obtain ⟨a, ns, rfl, ha, hb, q⟩ := h
  rw [Vals.ref1 r]
  obtain ⟨its, rv, pl, hz⟩ := I.list ha
  refine call_set_ints ns (I.ok.hd hc) pl.isList (by simpa using Vals.ints rv) hb fun h' tk c R _ kp => ?_
  exact ⟨.ref _, upd H s.heap.objs.size (SetO X.w s.heap.objs.size (fun j => decide (j ∈ ns)) c), I.laid (t' := tk) kp (Nat.le_refl _) (setO_new R), rfl,
    q _ c (setR_few R fun k hk => mem_srt.2 (of_decide_eq_true hk)) (I.hok.fresh (Nat.le_refl _))⟩
/-- sorted(set(l)) -/
theorem pe_srtSet {p p2 pos pos2 : Pos} {e : Expr} {te : TE} (hc : X.calm = true) (hg : Gl X "sorted") (hm : X.mg "sorted" = none) (hg2 : Gl X "set") (hm2 : X.mg "set" = none) (he : PE X e te) (na : starEach [e] X.env = (false, eval e X.env) :: starEach [] X.env) :
    PE X (.Call (.Name "sorted" p) [.Call (.Name "set" p2) [e] [] pos2] [] pos) (fun σ H Q => te σ H fun v H1 => rSetL X.K X.w [v] H1 fun y H2 => rSortedSet X.w [y] H2 Q) := by
  have inner : PE X (.Call (.Name "set" p2) [e] [] pos2) (tCB (rSetL X.K X.w) (tCons te tNil)) := pe_callTy (cr_setL hc) hg2 hm2 (by decide +kernel) (pa_cons he pa_nil na) (by decide) (by decide) na rfl
  exact PE.imp (pe_callB (cr_sortedSet hc) hg hm (by decide +kernel) (pa_cons inner pa_nil rfl) (by decide) (by decide) rfl rfl) fun σ H Q h => h
end
/-- sorted(set(l)) of ints -/
def wSrt (T : DAs) : DAs := fun ρ L Q E => T ρ L (fun ds L1 => ∃ ns, intsOf ds = some ns ∧ ns.length + 1 < scanBound ∧ (srt ns).length < 64 ∧ Q ((srt ns).map D.int) L1) E
/-- list(zip(t, u)) of tuples -/
def wZipL (a b : DE) : DAs := fun ρ L Q E => a ρ L (fun d L1 => b ρ L1 (fun e L2 => ∃ ds es, d = .tup ds ∧ e = .tup es ∧ Q (zipD ds es) L2) E) E
/-- o.setdefault(k, v) -/
def wDsd (o k v : DE) : DE := fun ρ L Q E => o ρ L (fun d L1 => (dkOf L1 d).isSome ∧ k ρ L1 (fun i L2 => v ρ L2 (fun x L3 => ∃ n kvs c, d = .loc n ∧ L3[n]? = some (.dk kvs) ∧ keyOf i = some c ∧ kvs.length < sizeLine ∧
  (∀ y, valD kvs c = some y → Q y L3) ∧ (valD kvs c = none → Q x (L3.set n (.dk (putD kvs c x))))) E) E) E
section
variable {K : PySem.W.Frag} {mg : Str → Option Value} {W : WXs} {w : World}
theorem tJL_srt {T : DAs} (σ : L2.St) (H : Hp) (Q' : VK) (h : tJL K mg W (wSrt T) σ H Q') : tJL K mg W T σ H fun v H1 => rSetL K w [v] H1 fun y H2 => rSortedSet w [y] H2 Q' := by
  obtain ⟨θ, ρ, L, Q, E, s, hh, t, u, x⟩ := h
  refine ⟨θ, ρ, L, _, E, s, hh, t, fun p vs H1 θ1 ds L1 e1 h1 hp hv np r ⟨ns, hn, hb, h64, q⟩ => ?_, x⟩
  have e := intsOf_some hn
  subst e
  have ev := r.of_ints
  subst ev
  refine ⟨p, ns, rfl, SqL.of hv, hb, fun a c hc ha => ⟨a, _, c, rfl, upd_same, by omega, fun ks b pw mem _ hb2 => ?_⟩⟩
  have ek : ks = srt ns := pw_uniq pw pw_srt fun k => by rw [mem, mem_srt, decide_eq_true_eq]
  subst ek
  have x1 := Ext.new (K := K) (θ := θ1) (o := SetO w a (fun j => decide (j ∈ ns)) c) ha
  have x2 := Ext.new (K := K) (θ := θ1) (o := .lst ((srt ns).map V.int)) hb2
  have x02 := e1.trans (x1.trans x2)
  refine u b ((srt ns).map V.int) _ θ1 _ L1 x02 ((h1.new ha).new hb2) ?_ upd_same ((h1.new ha).notin hb2) (Reps.ints _) q
  by_cases z : H b = none
  · exact z
  · exact absurd hb2 ((e1.trans x1).liv b z)
theorem sqT_sup {H H' : Hp} (kp : ∀ c o, H c = some o → H' c = some o) {a : Addr} {vs : List V} (h : SqT K H a vs) : SqT K H' a vs := by
  rcases h with (h | ⟨ob, h⟩) | h
  · exact .inl (.inl (kp _ _ h))
  · exact .inl (.inr ⟨ob, kp _ _ h⟩)
  · exact .inr h
theorem Ext.sup {θ : List Addr} {H H' : Hp} (kp : ∀ c o, H c = some o → H' c = some o) : Ext K θ H θ H' :=
  ⟨⟨[], by simp, fun _ h => nomatch h⟩, fun b o h _ => kp b o h, fun b h => by
    cases e : H b with
    | none => exact absurd e h
    | some o => rw [kp b o e]; simp, fun _ _ h => sqT_sup kp h⟩
theorem HR.sup {θ : List Addr} {L : LH} {H H' : Hp} (h : HR K mg θ L H) (kp : ∀ c o, H c = some o → H' c = some o) : HR K mg θ L H' :=
  ⟨h.len, fun n c a hn ha => (h.ok n c a hn ha).stay (Ext.sup kp) (fun hc => by
    obtain ⟨o, e, _⟩ := (h.ok n c a hn ha).some hc
    rw [e, kp a o e]) (fun o e _ => kp a o e) (fun b e => kp b _ e), h.inj⟩
theorem reps_prs {θ : List Addr} {H H' : Hp} (x : Ext K θ H θ H') : ∀ {ds es : List D} {vs us : List V} {ps : List Addr}, Reps K mg θ H ds vs → Reps K mg θ H es us → ps.length = min vs.length us.length → Prs H' vs us ps → Reps K mg θ H' (zipD ds es) (ps.map V.ref)
  | [], es, vs, us, ps, r1, r2, hl, hp => by
    cases r1
    have : ps = [] := List.eq_nil_of_length_eq_zero (by simpa using hl)
    subst this; exact .nil
  | d :: ds, [], vs, us, ps, r1, r2, hl, hp => by
    cases r2
    have : ps = [] := List.eq_nil_of_length_eq_zero (by simpa using hl)
    subst this; exact .nil
  | d :: ds, e :: es, vs, us, ps, r1, r2, hl, hp => by
    cases r1 with
    | cons a1 b1 => cases r2 with
      | cons a2 b2 =>
        cases ps with
        | nil => simp at hl
        | cons p ps =>
          have h0 := hp 0 p _ _ rfl rfl rfl
          exact .cons (.tup (.inl (.inl h0)) (.cons (a1.mono x) (.cons (a2.mono x) .nil))) (reps_prs x b1 b2 (by simp only [List.length_cons] at hl; omega) fun j q y z e1 e2 e3 => hp (j + 1) q y z (by simpa using e1) (by simpa using e2) (by simpa using e3))
theorem tJL_zip {a b : DE} (σ : L2.St) (H : Hp) (Q' : VK) (h : tJL K mg W (wZipL a b) σ H Q') : tLstZip K (tJA K mg W (wACons a (wACons b wANil))) σ H Q' := by
  obtain ⟨θ, ρ, L, Q, E, s, hh, t, u, x⟩ := h
  have t : a ρ L _ _ := t
  refine ⟨θ, ρ, L, fun ds L2 => ∃ d e ds' es', ds = [d, e] ∧ d = .tup ds' ∧ e = .tup es' ∧ Q (zipD ds' es') L2, E, s, hh, ?_, fun vs H1 θ1 ds L1 e1 h1 r ⟨d, e, ds', es', hd, e2, e3, q⟩ => ?_, x⟩
  · have e : ∀ (Q : D → D → LH → Prop), (fun (d : D) L1 => b ρ L1 (fun e L2 => Q d e L2) E) = fun d L1 => wACons b wANil ρ L1 (fun ds L2 => ∃ d' e, d :: ds = [d', e] ∧ Q d' e L2) E := by
      intro Q; funext d L1
      show b ρ L1 _ _ = b ρ L1 _ _
      congr 1; funext e L2; apply propext
      constructor
      · intro h; exact ⟨d, e, rfl, h⟩
      · rintro ⟨d', e', h, q⟩; cases h; exact q
    rw [e fun d e L2 => ∃ ds es, d = .tup ds ∧ e = .tup es ∧ Q (zipD ds es) L2] at t
    have hq : (fun (ds : List D) L2 => ∃ d e ds' es', ds = [d, e] ∧ d = .tup ds' ∧ e = .tup es' ∧ Q (zipD ds' es') L2) = fun ds L2 => ∃ d' e, ds = [d', e] ∧ ∃ ds es, d' = .tup ds ∧ e = .tup es ∧ Q (zipD ds es) L2 := by
      funext ds L2; apply propext
      constructor
      · rintro ⟨d, e, ds', es', h1, h2, h3, q⟩; exact ⟨d, e, h1, ds', es', h2, h3, q⟩
      · rintro ⟨d, e, h1, ds', es', h2, h3, q⟩; exact ⟨d, e, ds', es', h1, h2, h3, q⟩
    rw [hq]
    exact t
  · subst hd; subst e2; subst e3
    cases r with
    | cons r1 r2 => cases r2 with
      | cons r2 r3 =>
        cases r3
        obtain ⟨p1, v1, g1, g2, rfl⟩ := r1.tup_inv
        obtain ⟨p2, v2, g3, g4, rfl⟩ := r2.tup_inv
        refine ⟨p1, p2, v1, v2, rfl, g1, g3, fun S ps H2 hS kp l1 l2 l3 => ?_⟩
        have x1 : Ext K θ1 H1 θ1 H2 := Ext.sup kp
        refine u S _ _ θ1 _ L1 (e1.trans x1) (h1.sup kp) ?_ l1 (h1.notin hS) (reps_prs x1 g2 g4 l2 l3) q
        by_cases z : H S = none
        · exact z
        · exact absurd hS (e1.liv S z)
theorem tJ_dsd {o k v : DE} (σ : L2.St) (H : Hp) (Q' : VK) (h : tJ K mg W (wDsd o k v) σ H Q') : tDSetd (tJ K mg W o) (tJ K mg W k) (tJ K mg W v) σ H Q' := by
  obtain ⟨θ, ρ, L, Q, E, s, hh, t, u, x⟩ := h
  refine ⟨θ, ρ, L, _, E, s, hh, t, fun z1 H1 θ1 d L1 e1 h1 r1 ⟨hd, q1⟩ => ?_, x⟩
  obtain ⟨kvs0, hk0⟩ := Option.isSome_iff_exists.mp hd
  obtain ⟨n0, a0, us0, rfl, g1, g2, rfl, g3, g4⟩ := dk_of h1 r1 hk0
  refine ⟨a0, rfl, .inl ⟨_, .of g3⟩, θ1, ρ, L1, _, E, s.mono e1, h1, q1, fun z2 H2 θ2 i L2 e2 h2 r2 q2 => ⟨θ2, ρ, L2, _, E, (s.mono e1).mono e2, h2, q2, fun z3 H3 θ3 y L3 e3 h3 r3 ⟨n, kvs, c, hn, hl, hk, hz, q3, q4⟩ => ?_, (x.mono e1).mono e2⟩, x.mono e1⟩
  cases hn
  have e13 := e1.trans (e2.trans e3)
  have ha := (e2.trans e3).get g2
  obtain ⟨us, hA, r⟩ := h3.ok n0 _ a0 hl ha
  have ek := keyOf_rep (r2.mono e3) hk
  subst ek
  have hlen : us.length = kvs.length := by have := congrArg List.length r.1; simpa using this.symm
  refine ⟨us, c, hA, rfl, by omega, fun v hv => ?_, fun hv => ?_⟩
  · rcases valD_rep r c with ⟨z1, z2⟩ | ⟨d', v', z1, z2, z3⟩
    · rw [z2] at hv; cases hv
    · rw [z2] at hv; cases hv
      exact u _ _ _ _ _ e13 h3 z3 (q3 _ z1)
  · rcases valD_rep r c with ⟨z1, z2⟩ | ⟨d', v', z1, z2, z3⟩
    · obtain ⟨x1, hh1⟩ := dk_upd h3 hl ha hA (putD_rep r c r3)
      exact u _ _ _ _ _ (e13.trans x1) hh1 (r3.mono x1) (q4 z1)
    · rw [z2] at hv; cases hv
end
end Bw
end
section
set_option linter.all false
set_option maxRecDepth 100000
set_option maxHeartbeats 4000000
namespace Bw
open PySem L2

/-! ### targets: a name, or a row of names -/
inductive Tgt where
  | one (i : Nat)
  | many (is : List Nat)
def Tgt.slots : Tgt → List Nat
  | .one i => [i]
  | .many is => is
def setAll (ρ : Rho) : List Nat → List D → Rho
  | i :: is, d :: ds => setAll (ρ.set i (some d)) is ds
  | _, _ => ρ
def setS (σ : St) : List Nat → List V → St
  | i :: is, d :: ds => setS (σ.set i (some d)) is ds
  | _, _ => σ
def gT : Tgt → DG
  | .one i => fun d ρ L Q => Q (ρ.set i (some d)) L
  | .many is => fun d ρ L Q => ∃ ds, d = .tup ds ∧ ds.length = is.length ∧ Q (setAll ρ is ds) L
def gNm : List Nat → TGs
  | [] => gNil
  | i :: is => gCons (gName i) (gNm is)
def tgT (K : PySem.W.Frag) : Tgt → TG
  | .one i => gName i
  | .many is => gTup K is.length (gNm is)
theorem gNm_run : ∀ (is : List Nat) (vs : List V) (σ : St) (H : Hp) (Q : St → Hp → Prop), vs.length = is.length → Q (setS σ is vs) H → gNm is vs σ H Q
  | [], vs, σ, H, Q, hl, h => by
    have : vs = [] := List.length_eq_zero_iff.mp hl
    subst this
    exact ⟨rfl, h⟩
  | i :: is, [], σ, H, Q, hl, h => by simp at hl
  | i :: is, v :: vs, σ, H, Q, hl, h => ⟨v, vs, rfl, gNm_run is vs _ H Q (by simpa using hl) h⟩
section
variable {K : PySem.W.Frag} {mg : Str → Option Value} {W : WXs}
theorem SR.putAll {θ : List Addr} {H : Hp} : ∀ (is : List Nat) {ρ : Rho} {σ : St} {ds : List D} {vs : List V}, SR K mg θ ρ σ H → Reps K mg θ H ds vs → SR K mg θ (setAll ρ is ds) (setS σ is vs) H
  | [], _, _, _, _, s, r => s
  | i :: is, _, _, _, _, s, .nil => s
  | i :: is, _, _, _, _, s, .cons a b => SR.putAll is (s.put a i) b
/-- what a target does, at both levels -/
theorem tgt_run {t : Tgt} {θ : List Addr} {H : Hp} {ρ : Rho} {σ : St} {L : LH} {d : D} {v : V} {Q : Rho → LH → Prop} {Q' : St → Hp → Prop} (s : SR K mg θ ρ σ H) (r : Rep K mg θ H d v) (g : gT t d ρ L Q)
    (k : ∀ ρ2 σ2, SR K mg θ ρ2 σ2 H → (∃ us, σ2 = setS σ t.slots us) → Q ρ2 L → Q' σ2 H) : tgT K t v σ H Q' := by
  cases t with
  | one i => exact k _ _ (s.put r i) ⟨[v], rfl⟩ g
  | many is =>
    obtain ⟨ds, rfl, hl, g⟩ := g
    obtain ⟨a, vs, h1, h2, rfl⟩ := r.tup_inv
    refine ⟨a, vs, rfl, h1, by rw [← h2.len]; exact hl, gNm_run is vs σ H Q' (by rw [← h2.len]; exact hl) (k _ _ (s.putAll is h2) ⟨vs, rfl⟩ g)⟩
theorem tJG_tgt {t : Tgt} (v : V) (σ : St) (H : Hp) (Q' : St → Hp → Prop) (h : tJG K mg (gT t) v σ H Q') : tgT K t v σ H Q' := by
  obtain ⟨θ, ρ, L, Q, d, s, hh, r, g, u⟩ := h
  exact tgt_run s r g fun ρ2 σ2 s2 _ q => u _ _ _ _ _ .refl s2 hh q
end

/-! ### comprehensions -/
def wipeR (ρ : Rho) : List Nat → Rho
  | [] => ρ
  | v :: vs => (wipeR ρ vs).set v none
theorem wipe_get (σ : St) (j : Nat) : ∀ vs : List Nat, (wipe σ vs)[j]? = if j ∈ vs ∧ j < σ.length then some none else σ[j]?
  | [] => by simp [wipe]
  | v :: vs => by
    unfold wipe
    by_cases e : v = j
    · subst e
      by_cases hl : v < σ.length
      · rw [List.getElem?_set_self (by rw [wipe_length]; exact hl)]; simp [hl]
      · rw [List.getElem?_eq_none (by simp [wipe_length]; omega)]
        rw [if_neg (by omega)]
        exact (List.getElem?_eq_none (by omega)).symm
    · rw [List.getElem?_set_ne e, wipe_get σ j vs]
      have : j ≠ v := fun h => e h.symm
      simp [this]
theorem wipe_set (σ : St) {k : Nat} {x : Option V} {vs : List Nat} (h : k ∈ vs) : wipe (σ.set k x) vs = wipe σ vs := by
  apply List.ext_getElem?
  intro j
  rw [wipe_get, wipe_get, List.length_set]
  by_cases e : j ∈ vs
  · by_cases hl : j < σ.length
    · simp [e, hl]
    · simp [hl]
  · have : k ≠ j := fun z => e (z ▸ h)
    simp [e, List.getElem?_set_ne this]
theorem wipe_setS : ∀ (is : List Nat) (us : List V) (σ : St) (vs : List Nat), (∀ k ∈ is, k ∈ vs) → wipe (setS σ is us) vs = wipe σ vs
  | [], _, _, _, _ => rfl
  | i :: is, [], _, _, _ => rfl
  | i :: is, u :: us, σ, vs, h => by
    unfold setS
    rw [wipe_setS is us _ vs (fun k hk => h k (by simp [hk])), wipe_set σ (h i (by simp))]
theorem wipe_idem (σ : St) (vs : List Nat) : wipe (wipe σ vs) vs = wipe σ vs := by
  apply List.ext_getElem?
  intro j
  rw [wipe_get, wipe_get, wipe_length]
  split <;> rfl
section
variable {K : PySem.W.Frag} {mg : Str → Option Value} {W : WXs}
theorem SR.wipe {θ : List Addr} {H : Hp} {ρ : Rho} {σ : St} (s : SR K mg θ ρ σ H) : ∀ vs : List Nat, SR K mg θ (wipeR ρ vs) (wipe σ vs) H
  | [] => s
  | v :: vs => by
    have ih := SR.wipe s vs
    refine ⟨by simp [wipeR, L2.wipe, ih.len], fun i d h => ?_⟩
    unfold wipeR at h
    unfold L2.wipe
    by_cases e : v = i
    · subst e
      by_cases hl : v < (wipeR ρ vs).length
      · rw [List.getElem?_set_self hl] at h; cases h
      · rw [List.getElem?_eq_none (by simpa using hl)] at h; cases h
    · rw [List.getElem?_set_ne e] at h
      obtain ⟨w, h1, h2⟩ := ih.ok i d h
      exact ⟨w, by rw [List.getElem?_set_ne e]; exact h1, h2⟩
abbrev NoX : XP := fun _ _ => False
abbrev NoW : WXs := fun _ _ _ _ => False
def compL (g : DG) (c e : DE) (ρ0 : Rho) (keep : LH → Prop) : List D → List D → LH → (List D → LH → Prop) → Prop
  | [], acc, L, Q => keep L ∧ Q acc L
  | d :: ds, acc, L, Q => keep L ∧ g d ρ0 L fun ρ2 L2 => asT c ρ2 L2 (fun b L3 => if b = true then e ρ2 L3 (fun y L4 => acc.length < sizeLine ∧ compL g c e ρ0 keep ds (acc ++ [y]) L4 Q) NoX else compL g c e ρ0 keep ds acc L3 Q) NoX
def wComp (i : DI) (t : Tgt) (c e : DE) (vs : List Nat) : DAs := fun ρ L Q E => i ρ L (fun items keep L1 => compL (gT t) c e (wipeR ρ vs) keep items [] L1 Q) E
theorem UpX.no {θ : List Addr} {H : Hp} {Wk : XK} : UpX K mg θ H NoX Wk := fun _ _ _ _ _ _ _ _ _ z => z.elim
theorem tJ_comp {i : DI} {t : Tgt} {c e : DE} {vs : List Nat} {wi : TI} {tt : TT} {te : TE} (hi : ∀ σ H R, tJI K mg W i σ H R → wi σ H R) (hc : ∀ σ H Q, tJT K mg NoW c σ H Q → tt σ H Q) (he : ∀ σ H Q, tJ K mg NoW e σ H Q → te σ H Q)
    (hvs : ∀ k ∈ t.slots, k ∈ vs) (σ : St) (H : Hp) (Q' : VK) (h : tJL K mg W (wComp i t c e vs) σ H Q') : tLc wi (tgT K t) tt te vs σ H Q' := by
  obtain ⟨θ, ρ, L, Q, E, s, hh, tr, u, x⟩ := h
  refine hi _ _ _ ⟨θ, ρ, L, _, E, s, hh, tr, fun J H1 θ1 L1 items keep e1 h1 ok q D hD => ?_, x⟩
  refine ⟨fun n m H2 => m = items.length - n ∧ n ≤ items.length ∧ ∃ θ2 L2 acc us, Ext K θ1 H1 θ2 H2 ∧ HR K mg θ2 L2 H2 ∧ H2 D = some (.lst us) ∧ D ∉ θ2 ∧ Reps K mg θ2 H2 acc us ∧ compL (gT t) c e (wipeR ρ vs) keep (items.drop n) acc L2 Q,
    ⟨items.length, rfl, Nat.zero_le _, θ1, L1, [], [], Ext.new hD, h1.new hD, upd_same, h1.notin hD, .nil, q⟩, ?_⟩
  rintro n m H2 ⟨rfl, hn, θ2, L2, acc, us, x2, h2, hD2, nD, ra, f2⟩
  by_cases hlt : n < items.length
  · rw [drop_cons_of hlt] at f2
    obtain ⟨kp, f2⟩ := f2
    refine .inr ⟨ok.go n θ2 L2 H2 x2 h2 kp hlt, fun H3 => n + 1 ≤ items.length ∧ ∃ θ3 L3 acc us, Ext K θ1 H1 θ3 H3 ∧ HR K mg θ3 L3 H3 ∧ H3 D = some (.lst us) ∧ D ∉ θ3 ∧ Reps K mg θ3 H3 acc us ∧ compL (gT t) c e (wipeR ρ vs) keep (items.drop (n + 1)) acc L3 Q,
      fun H3 ⟨a, b⟩ => ⟨items.length - (n + 1), by omega, rfl, a, b⟩, fun y H3 yy => ?_⟩
    obtain ⟨x3, h3, r3⟩ := ok.yld n θ2 L2 H2 y H3 items[n] x2 h2 kp (List.getElem?_eq_getElem hlt) yy
    have keepD : ∀ {θ4 : List Addr} {H4 : Hp}, Ext K θ2 H2 θ4 H4 → H4 D = some (.lst us) ∧ D ∉ θ4 := fun {θ4 H4} x4 => by
      refine ⟨x4.frm D _ hD2 nD, fun hm => ?_⟩
      obtain ⟨τ, rfl, nt⟩ := x4.pre
      rcases List.mem_append.mp hm with z | z
      · exact nD z
      · rw [nt D z] at hD2; cases hD2
    refine tgt_run ((s.mono (e1.trans (x2.trans x3))).wipe vs) r3 f2 fun ρ4 σ4 s4 ⟨ws, hs4⟩ q4 => ⟨?_, ?_⟩
    · rw [hs4, wipe_setS _ _ _ _ hvs, wipe_idem]
    · refine hc _ _ _ ⟨θ2, ρ4, L2, _, NoX, s4, h3, q4, fun b H5 θ5 L5 x5 h5 q5 => ?_, UpX.no⟩
      have x25 := x3.trans x5
      cases b with
      | false =>
        obtain ⟨k1, k2⟩ := keepD x25
        exact ⟨by omega, θ5, L5, acc, us, x2.trans x25, h5, k1, k2, ra.mono x25, q5⟩
      | true =>
        refine he _ _ _ ⟨θ5, ρ4, L5, _, NoX, s4.mono x5, h5, q5, fun y6 H6 θ6 d6 L6 x6 h6 r6 q6 => ?_, UpX.no⟩
        have x26 := x25.trans x6
        obtain ⟨k1, k2⟩ := keepD x26
        have hacc := ra.len
        refine ⟨us, k1, by rw [← hacc]; exact q6.1, by omega, θ6, L6, acc ++ [d6], us ++ [y6], ?_⟩
        have ex : Ext K θ1 H1 θ6 (upd H6 D (.lst (us ++ [y6]))) := by
          have y1 := x2.trans x26
          refine ⟨y1.pre, fun b o hb hnb => ?_, fun b hb => upd_liv b (y1.liv b hb), fun a vs' hq => ?_⟩
          · have : b ≠ D := ne_of_none hb hD
            rw [upd_ne this]; exact y1.frm b o hb hnb
          · have := y1.tup a vs' hq
            rcases this with (g | ⟨ob, g⟩) | g
            · exact .inl (.inl (by rw [upd_ne (by rintro rfl; rw [k1] at g; cases g)]; exact g))
            · exact .inl (.inr ⟨ob, by rw [upd_ne (by rintro rfl; rw [k1] at g; cases g)]; exact g⟩)
            · exact .inr g
        have mn : Mon K θ6 H6 θ6 (upd H6 D (.lst (us ++ [y6]))) := ⟨fun _ _ g => g, fun a vs' g => by
          rcases g with (g | ⟨ob, g⟩) | g
          · exact .inl (.inl (by rw [upd_ne (by rintro rfl; rw [k1] at g; cases g)]; exact g))
          · exact .inl (.inr ⟨ob, by rw [upd_ne (by rintro rfl; rw [k1] at g; cases g)]; exact g⟩)
          · exact .inr g⟩
        refine ⟨ex, h6.other k1 k2 True.intro (fun _ z => nomatch z) mn, upd_same, k2, ((ra.mono x26).append (.cons r6 .nil)).mon mn, q6.2⟩
  · have e : n = items.length := by omega
    subst e
    rw [List.drop_length] at f2
    refine .inl ⟨ok.stop _ θ2 L2 H2 x2 h2 f2.1 rfl, u _ _ _ _ _ _ (e1.trans x2) h2 ?_ hD2 nD ra f2.2⟩
    by_cases z : H D = none
    · exact z
    · exact absurd hD (e1.liv D z)
end
end Bw
end
section
set_option linter.all false
set_option maxRecDepth 100000
set_option maxHeartbeats 4000000
namespace Bw
open PySem L2

/-! ### a small syntax, its readings -/
inductive F1 where | len | int | abs | tuple
def F1.nm : F1 → Str | .len => "len" | .int => "int" | .abs => "abs" | .tuple => "tuple"
def F1.sem : F1 → D → LH → Post → Prop | .len => pLen | .int => pInt | .abs => pAbs | .tuple => pTuple
inductive FL where | all | any | sum | tuple | len
def FL.nm : FL → Str | .all => "all" | .any => "any" | .sum => "sum" | .tuple => "tuple" | .len => "len"
def FL.sem : FL → List D → LH → Post → Prop | .all => lAll | .any => lAny | .sum => lSum | .tuple => lTup | .len => lLen
inductive OM where | append | pop | extend
def OM.nm : OM → Str | .append => "append" | .pop => "pop" | .extend => "extend"
def OM.sem : OM → D → List D → LH → Post → Prop | .append => mAppend | .pop => mPop | .extend => mExtend
inductive BO where | add | sub | mul | fdiv | mod | pow
def BO.op : BO → Operator | .add => .Add | .sub => .Sub | .mul => .Mult | .fdiv => .FloorDiv | .mod => .Mod | .pow => .Pow
def BO.sem : BO → D → D → LH → Post → Prop
  | .add => pAdd
  | .sub => pI2 (fun i j => i - j) (fun _ _ => True)
  | .mul => pMul
  | .fdiv => pI2 (fun i j => i / j) CDiv
  | .mod => pI2 (fun i j => i % j) (fun _ j => 0 < j)
  | .pow => pI2 (fun i j => i ^ j.toNat) CPow
inductive CO where | lt | le | gt | ge | eq | ne | inn | nin | is | isn
def CO.op : CO → CmpOp | .lt => .Lt | .le => .LtE | .gt => .Gt | .ge => .GtE | .eq => .Eq | .ne => .NotEq | .inn => .In | .nin => .NotIn | .is => .Is | .isn => .IsNot
def CO.sem : CO → D → D → LH → Post → Prop
  | .lt => pB2 fun i j => decide (i < j)
  | .le => pB2 fun i j => decide (i ≤ j)
  | .gt => pB2 fun i j => decide (j < i)
  | .ge => pB2 fun i j => decide (j ≤ i)
  | .eq => pEq false
  | .ne => pEq true
  | .inn => pIn false
  | .nin => pIn true
  | .is => pIsN
  | .isn => pIsNotN
mutual
inductive EX where
  | var (i : Nat)
  | cst (d : D)
  | glb (x : Str) (d : D)
  | bin (o : BO) (a b : EX)
  | neg (a : EX)
  | cmp (o : CO) (a b : EX)
  | chn (o o' : CO) (a b c : EX)
  | ix (a b : EX)
  | slc (a : EX) (lo hi : EXo)
  | bop (k : Bool) (as : EXs)
  | not (a : EX)
  | ite (c a b : EX)
  | tup (as : EXs)
  | lst (as : EXs)
  | call (f n : Nat) (as : EXs)
  | fn (o : F1) (a : EX)
  | fl (o : FL) (l : LX)
  | flv (o : FL) (a : EX)
  | isi (T : String) (a : EX)
  | isiT (Ts : List String) (a : EX)
  | mth (o : OM) (a : EX) (as : EXs)
  | mthl (a : EX) (l : LX)
  | new (l : LX)
  | dnew
  | dsd (o k v : EX)
inductive EXs where
  | nil
  | cons (a : EX) (as : EXs)
inductive EXo where
  | no
  | so (a : EX)
inductive LX where
  | comp (t : Tgt) (elt : EX) (it : IX) (cond : EXo) (own : List (Str × Nat))
  | slc (a : EX) (lo hi : EXo)
  | listOf (a : EX)
  | srt (l : LX)
  | zipl (a b : EX)
inductive IX where
  | sq (a : EX)
  | lx (l : LX)
  | rng1 (a : EX)
  | rng2 (a b : EX)
  | enum (a : EX)
  | zip (a b : EX)
end

/-- slice ends -/
abbrev DO := Rho → LH → (Option Int → LH → Prop) → XP → Prop
def wNo : DO := fun _ L Q _ => Q none L
def wSo (a : DE) : DO := fun ρ L Q E => a ρ L (fun d L1 => ∃ i, d = .int i ∧ Q (some i) L1) E
def wSlc (a : DE) (lo hi : DO) : DE := fun ρ L Q E => a ρ L (fun d L1 => lo ρ L1 (fun l L2 => hi ρ L2 (fun h L3 => pSlT d l h L3 Q) E) E) E
def wSlcL (a : DE) (lo hi : DO) : DAs := fun ρ L Q E => a ρ L (fun d L1 => lo ρ L1 (fun l L2 => hi ρ L2 (fun h L3 => ∃ ds, sqL L3 d = some ds ∧ Q (cutD ds l h) L3) E) E) E
def wListOf (a : DE) : DAs := fun ρ L Q E => a ρ L (fun d L1 => ∃ ds, sq L1 d = some ds ∧ Q ds L1) E
def wChn (f g : D → D → LH → Post → Prop) (a b c : DE) : DE := fun ρ L Q E => a ρ L (fun x L1 => b ρ L1 (fun y L2 => f x y L2 fun z L3 => ∃ k, z = .bl k ∧ if k = true then c ρ L3 (fun w L4 => g y w L4 Q) E else Q (.bl false) L3) E) E
def pNeg : D → LH → Post → Prop
  | .int i, L, Q => Q (.int (-i)) L
  | _, _, _ => False
def wDNew : DE := fun _ L Q _ => Q (.loc L.length) (L ++ [.dk []])
def wMthl (a : DE) (l : DAs) : DE := fun ρ L Q E => a ρ L (fun d L1 => isLst L1 d ∧ l ρ L1 (fun ds L2 => mlExtend d ds L2 Q) E) E
def wMth (f : D → List D → LH → Post → Prop) (a : DE) (as : DAs) : DE := fun ρ L Q E => a ρ L (fun d L1 => isLst L1 d ∧ as ρ L1 (fun ds L2 => f d ds L2 Q) E) E
def wBopN (k : Bool) : DE := fun _ L Q _ => Q (.bl k) L

mutual
def wE (Γ : Nat → DSp) : EX → DE
  | .var i => wVar i
  | .cst d => wC d
  | .glb _ d => wC d
  | .bin o a b => w2 o.sem (wE Γ a) (wE Γ b)
  | .neg a => w1 pNeg (wE Γ a)
  | .cmp o a b => w2 o.sem (wE Γ a) (wE Γ b)
  | .chn o o' a b c => wChn o.sem o'.sem (wE Γ a) (wE Γ b) (wE Γ c)
  | .ix a b => w2 pIx (wE Γ a) (wE Γ b)
  | .slc a lo hi => wSlc (wE Γ a) (wO Γ lo) (wO Γ hi)
  | .bop k as => wB Γ k as
  | .not a => wNot (wE Γ a)
  | .ite c a b => wIte (wE Γ c) (wE Γ a) (wE Γ b)
  | .tup as => wTup (wA Γ as)
  | .lst as => wLst (wA Γ as)
  | .call f n as => wCall n (Γ f) (wA Γ as)
  | .fn o a => w1 o.sem (wE Γ a)
  | .fl o l => wL o.sem (wLX Γ l)
  | .flv o a => wSqL o.sem (wE Γ a)
  | .isi T a => w1 (pIsi T) (wE Γ a)
  | .isiT Ts a => w1 (pIsiT Ts) (wE Γ a)
  | .mth o a as => wMth o.sem (wE Γ a) (wA Γ as)
  | .mthl a l => wMthl (wE Γ a) (wLX Γ l)
  | .new l => wNew (wLX Γ l)
  | .dnew => wDNew
  | .dsd o k v => wDsd (wE Γ o) (wE Γ k) (wE Γ v)
def wA (Γ : Nat → DSp) : EXs → DAs
  | .nil => wANil
  | .cons a as => wACons (wE Γ a) (wA Γ as)
/-- and (true), or (false): the last one as it is -/
def wB (Γ : Nat → DSp) (k : Bool) : EXs → DE
  | .nil => wBopN k
  | .cons a .nil => wE Γ a
  | .cons a (.cons b as) => if k = true then wAnd (wE Γ a) (wB Γ k (.cons b as)) else wOr (wE Γ a) (wB Γ k (.cons b as))
def wO (Γ : Nat → DSp) : EXo → DO
  | .no => wNo
  | .so a => wSo (wE Γ a)
/-- a clause's test -/
def wCd (Γ : Nat → DSp) : EXo → DE
  | .no => wC (.bl true)
  | .so a => wE Γ a
def wLX (Γ : Nat → DSp) : LX → DAs
  | .comp t elt it cond own => wComp (wIX Γ it) t (wCd Γ cond) (wE Γ elt) (own.map (·.2))
  | .slc a lo hi => wSlcL (wE Γ a) (wO Γ lo) (wO Γ hi)
  | .listOf a => wListOf (wE Γ a)
  | .srt l => wSrt (wLX Γ l)
  | .zipl a b => wZipL (wE Γ a) (wE Γ b)
def wIX (Γ : Nat → DSp) : IX → DI
  | .sq a => iSq (wE Γ a)
  | .lx l => iLx (wLX Γ l)
  | .rng1 a => iRange1 (wACons (wE Γ a) wANil)
  | .rng2 a b => iRange2 (wACons (wE Γ a) (wACons (wE Γ b) wANil))
  | .enum a => iEnumL (wACons (wE Γ a) wANil)
  | .zip a b => iZip2 (wACons (wE Γ a) (wACons (wE Γ b) wANil))
end

/-! ### the text held against it -/
structure SC where
  N : List Str
  sc : Scope
  fns : List (Str × Nat)
  bl : List Str
  gl : List (Str × D)
  stc : Str → Bool
def beqS (x y : Str) : Bool := decide (x = y)
def SC.vis (c : SC) (x : Str) : Bool := match c.sc.names.lookup x with
  | some .local => true
  | some .cell => true
  | some .free => true
  | _ => false
def SC.loc (c : SC) (x : Str) : Bool := match c.sc.names.lookup x with
  | some .local => true
  | some .cell => c.stc x
  | _ => false
def SC.glob (c : SC) (x : Str) : Bool := match c.sc.names.lookup x with
  | some .globalImplicit => true
  | _ => false
def okName (x : Str) : Bool := !beqS x "__debug__" && !beqS x "__classdict__" && !beqS x "__name__"
/-- a built-in's name -/
def SC.blt (c : SC) (x y : Str) : Bool := beqS x y && c.glob x && c.bl.any (beqS x) && okName x
def SC.slot (c : SC) (i : Nat) (x : Str) : Bool := (match c.N[i]? with | some y => beqS y x | none => false) && okName x
def chkC : D → Const → Bool
  | .non, .none => true
  | .bl b, .bool b' => b == b'
  | .int i, .int j => i == j
  | .str x, .str y => beqS x y
  | _, _ => false
mutual
def D.eqb : D → D → Bool
  | .non, .non => true
  | .bl a, .bl b => a == b
  | .int a, .int b => a == b
  | .str a, .str b => beqS a b
  | .tup a, .tup b => D.eqbs a b
  | .loc a, .loc b => a == b
  | .glo a, .glo b => beqS a b
  | .ty a, .ty b => a == b
  | _, _ => false
def D.eqbs : List D → List D → Bool
  | [], [] => true
  | a :: as, b :: bs => D.eqb a b && D.eqbs as bs
  | _, _ => false
end
mutual
theorem D.eqb_eq : ∀ (a b : D), D.eqb a b = true → a = b
  | .non, .non, _ => rfl
  | .bl a, .bl b, h => by simp [D.eqb] at h; rw [h]
  | .int a, .int b, h => by simp [D.eqb] at h; rw [h]
  | .str a, .str b, h => by simp [D.eqb, beqS] at h; rw [h]
  | .tup a, .tup b, h => by rw [D.eqbs_eq a b h]
  | .loc a, .loc b, h => by simp [D.eqb] at h; rw [h]
  | .glo a, .glo b, h => by simp [D.eqb, beqS] at h; rw [h]
  | .ty a, .ty b, h => by simp [D.eqb] at h; rw [h]
  | .non, .bl _, h | .non, .int _, h | .non, .str _, h | .non, .tup _, h | .non, .loc _, h | .non, .glo _, h | .non, .ty _, h | .non, .kl _, h => by cases h
  | .bl _, .non, h | .bl _, .int _, h | .bl _, .str _, h | .bl _, .tup _, h | .bl _, .loc _, h | .bl _, .glo _, h | .bl _, .ty _, h | .bl _, .kl _, h => by cases h
  | .int _, .non, h | .int _, .bl _, h | .int _, .str _, h | .int _, .tup _, h | .int _, .loc _, h | .int _, .glo _, h | .int _, .ty _, h | .int _, .kl _, h => by cases h
  | .str _, .non, h | .str _, .bl _, h | .str _, .int _, h | .str _, .tup _, h | .str _, .loc _, h | .str _, .glo _, h | .str _, .ty _, h | .str _, .kl _, h => by cases h
  | .tup _, .non, h | .tup _, .bl _, h | .tup _, .int _, h | .tup _, .str _, h | .tup _, .loc _, h | .tup _, .glo _, h | .tup _, .ty _, h | .tup _, .kl _, h => by cases h
  | .loc _, .non, h | .loc _, .bl _, h | .loc _, .int _, h | .loc _, .str _, h | .loc _, .tup _, h | .loc _, .glo _, h | .loc _, .ty _, h | .loc _, .kl _, h => by cases h
  | .glo _, .non, h | .glo _, .bl _, h | .glo _, .int _, h | .glo _, .str _, h | .glo _, .tup _, h | .glo _, .loc _, h | .glo _, .ty _, h | .glo _, .kl _, h => by cases h
  | .ty _, .non, h | .ty _, .bl _, h | .ty _, .int _, h | .ty _, .str _, h | .ty _, .tup _, h | .ty _, .loc _, h | .ty _, .glo _, h | .ty _, .kl _, h => by cases h
  | .kl _, .non, h | .kl _, .bl _, h | .kl _, .int _, h | .kl _, .str _, h | .kl _, .tup _, h | .kl _, .loc _, h | .kl _, .glo _, h | .kl _, .ty _, h | .kl _, .kl _, h => by cases h
theorem D.eqbs_eq : ∀ (a b : List D), D.eqbs a b = true → a = b
  | [], [], _ => rfl
  | a :: as, b :: bs, h => by
    unfold D.eqbs at h
    rw [Bool.and_eq_true] at h
    rw [D.eqb_eq a b h.1, D.eqbs_eq as bs h.2]
  | [], _ :: _, h => by cases h
  | _ :: _, [], h => by cases h
end
def eqNat (a b : Nat) : Bool := decide (a = b)
def chkTg (c : SC) : Tgt → Expr → Bool
  | .one i, .Name x _ => c.slot i x && c.loc x
  | .many is, .Tuple es _ _ => goTg is es
  | _, _ => false
where goTg : List Nat → List Expr → Bool
  | [], [] => true
  | i :: is, .Name x _ :: es => c.slot i x && c.loc x && goTg is es
  | _, _ => false
def isTyName (c : SC) (T : String) : Expr → Bool
  | .Name x _ => c.blt x (Str.ofString T) && (["bool", "int", "str", "tuple", "list", "dict"] : List String).contains T
  | _ => false
def tyNames (c : SC) : List String → List Expr → Bool
  | [], [] => true
  | T :: Ts, e :: es => isTyName c T e && tyNames c Ts es
  | _, _ => false
def plainBase : Expr → Bool
  | .Call (.Name _ _) [] [] _ => false
  | _ => true
def SC.blk (c : SC) (scope : Scope) : SC := { c with sc := relS scope c.sc, stc := fun x => scope.names.lookup x == some .cell }
def notSl : Expr → Bool
  | .Slice _ _ _ _ => false
  | _ => true
def nSet : Expr → Bool
  | .Set _ _ _ => false
  | _ => true
/-- no form that a test takes in its own way -/
def plainT : Expr → Bool
  | .UnaryOp .Not _ _ => false
  | .BoolOp _ _ _ => false
  | .IfExp _ _ _ _ => false
  | .Compare _ _ _ _ => false
  | _ => true
mutual
def tOk : EX → Expr → Bool
  | .not a, e => match e with
    | .UnaryOp .Not x _ => tOk a x
    | _ => false
  | .bop _ as, e => match e with
    | .BoolOp _ es _ => tOkA as es
    | _ => false
  | .ite _ _ _, _ => false
  | .cmp _ _ _, _ => true
  | .chn _ _ _ _ _, _ => true
  | _, e => plainT e
def tOkA : EXs → List Expr → Bool
  | .nil, _ => true
  | .cons a as, es => match es with
    | e :: r => tOk a e && tOkA as r
    | _ => false
end
mutual
def chkE (c : SC) : EX → Expr → Bool
  | .var i, e => match e with
    | .Name x _ => c.slot i x && c.vis x
    | _ => false
  | .cst d, e => match e with
    | .Constant k _ _ => chkC d k
    | _ => false
  | .glb y d, e => match e with
    | .Name x _ => beqS x y && c.glob x && okName x && c.gl.any fun p => beqS p.1 y && D.eqb p.2 d
    | _ => false
  | .bin o a b, e => match e with
    | .BinOp l op r _ => decide (op = o.op) && chkE c a l && chkE c b r
    | _ => false
  | .neg a, e => match e with
    | .UnaryOp .USub x _ => chkE c a x
    | _ => false
  | .cmp o a b, e => match e with
    | .Compare l [op] [r] _ => decide (op = o.op) && chkE c a l && chkE c b r && !behindInMarks op r
    | _ => false
  | .chn o o' a b d, e => match e with
    | .Compare l [op, op'] [m, r] _ => decide (op = o.op) && decide (op' = o'.op) && chkE c a l && chkE c b m && chkE c d r && !lastMarks [op, op'] [m, r]
    | _ => false
  | .ix a b, e => match e with
    | .Subscript v s _ => chkE c a v && chkE c b s && notSl s
    | _ => false
  | .slc a lo hi, e => match e with
    | .Subscript v (.Slice l h none _) _ => chkE c a v && chkO c lo l && chkO c hi h
    | _ => false
  | .bop k as, e => match e with
    | .BoolOp op es _ => decide (op = if k then .And else .Or) && chkA c as es && decide (1 ≤ es.length)
    | _ => false
  | .not a, e => match e with
    | .UnaryOp .Not x _ => chkE c a x
    | _ => false
  | .ite t a b, e => match e with
    | .IfExp t' a' b' _ => chkE c t t' && tOk t t' && chkE c a a' && chkE c b b'
    | _ => false
  | .tup as, e => match e with
    | .Tuple es _ _ => chkA c as es
    | _ => false
  | .lst as, e => match e with
    | .List es _ => chkA c as es
    | _ => false
  | .call f n as, e => match e with
    | .Call (.Name x _) es [] _ => (match c.fns[f]? with | some p => beqS p.1 x && eqNat p.2 n | none => false) && c.glob x && okName x && chkA c as es
    | _ => false
  | .fn o a, e => match e with
    | .Call (.Name x _) [y] [] _ => c.blt x o.nm && chkE c a y
    | _ => false
  | .fl o l, e => match e with
    | .Call (.Name x _) [y] [] _ => c.blt x o.nm && chkL c l y
    | _ => false
  | .flv o a, e => match e with
    | .Call (.Name x _) [y] [] _ => c.blt x o.nm && chkE c a y
    | _ => false
  | .isi T a, e => match e with
    | .Call (.Name x _) [y, t] [] _ => c.blt x "isinstance" && chkE c a y && isTyName c T t
    | _ => false
  | .isiT Ts a, e => match e with
    | .Call (.Name x _) [y, .Tuple ts _ _] [] _ => c.blt x "isinstance" && chkE c a y && tyNames c Ts ts
    | _ => false
  | .mth o a as, e => match e with
    | .Call (.Attribute v x apos) es [] cpos => beqS x o.nm && chkE c a v && chkA c as es && plainBase v && (apos.endLine == cpos.line) && decide (es.length < 20)
    | _ => false
  | .mthl a l, e => match e with
    | .Call (.Attribute v x apos) [y] [] cpos => beqS x "extend" && chkE c a v && chkL c l y && plainBase v && (apos.endLine == cpos.line)
    | _ => false
  | .new l, e => chkL c l e
  | .dnew, e => match e with
    | .Dict [] [] _ => true
    | _ => false
  | .dsd o k v, e => match e with
    | .Call (.Attribute t x apos) [a, b] [] cpos => beqS x "setdefault" && chkE c o t && chkE c k a && chkE c v b && plainBase t && (apos.endLine == cpos.line)
    | _ => false
def chkA (c : SC) : EXs → List Expr → Bool
  | .nil, es => match es with
    | [] => true
    | _ => false
  | .cons a as, es => match es with
    | e :: r => chkE c a e && chkA c as r
    | _ => false
def chkO (c : SC) : EXo → Option Expr → Bool
  | .no, o => match o with
    | none => true
    | _ => false
  | .so a, o => match o with
    | some e => chkE c a e
    | _ => false
def chkIf (c : SC) : EXo → List Expr → Bool
  | .no, o => match o with
    | [] => true
    | _ => false
  | .so a, o => match o with
    | [e] => chkE c a e && tOk a e
    | _ => false
def chkL (c : SC) : LX → Expr → Bool
  | .comp t elt it cond own, e => match e with
    | .ListComp x gs scope _ => match gs with
      | [g] => g.is_async == 0 && chkI c it g.target g.iter && chkTg (c.blk scope) t g.target && chkE (c.blk scope) elt x && chkIf (c.blk scope) cond g.ifs && blkC c.N c.sc scope own && t.slots.all fun k => (own.map (·.2)).contains k
      | _ => false
    | _ => false
  | .slc a lo hi, e => match e with
    | .Subscript v (.Slice l h none _) _ => chkE c a v && chkO c lo l && chkO c hi h
    | _ => false
  | .listOf a, e => match e with
    | .Call (.Name x _) [y] [] _ => c.blt x "list" && chkE c a y
    | _ => false
  | .srt l, e => match e with
    | .Call (.Name x _) [.Call (.Name y _) [z] [] _] [] _ => c.blt x "sorted" && c.blt y "set" && chkL c l z
    | _ => false
  | .zipl a b, e => match e with
    | .Call (.Name x _) [.Call (.Name y _) [u, v] [] _] [] _ => c.blt x "list" && c.blt y "zip" && chkE c a u && chkE c b v
    | _ => false
def chkI (c : SC) : IX → Expr → Expr → Bool
  | .sq a, _, e => chkE c a e && nSet e
  | .lx l, _, e => chkL c l e
  | .rng1 a, _, e => match e with
    | .Call (.Name x _) [y] [] _ => c.blt x "range" && chkE c a y
    | _ => false
  | .rng2 a b, _, e => match e with
    | .Call (.Name x _) [y, z] [] _ => c.blt x "range" && chkE c a y && chkE c b z
    | _ => false
  | .enum a, tg, e => match tg, e with
    | .Tuple _ _ _, .Call (.Name x _) [y] [] _ => c.blt x "enumerate" && chkE c a y
    | _, _ => false
  | .zip a b, tg, e => match tg, e with
    | .Tuple _ _ _, .Call (.Name x _) [y, z] [] _ => c.blt x "zip" && chkE c a y && chkE c b z
    | _, _ => false
end
end Bw
end
section
set_option linter.all false
set_option maxRecDepth 100000
set_option maxHeartbeats 4000000
namespace Bw
open PySem L2

/-- what a body knows: its names, what its calls keep -/
def CxGood (P : Program) (w : World) (CX : CXT) : Prop := ∀ (Y : Cx) (W : WXs), Y.prog = P → Y.w = w → Takes Y W → ∀ σ, PassesAt CX Y σ (fun c d H => W c d σ H)
structure FnAt (X : Cx) (x : Str) (n : Nat) (S : DSp) : Prop where
  ex : ∃ (CX : CXT) (k : Nat) (f : Addr) (fd : FuncData) (ps : List Str), FnOk X.prog X.w X.K X.mg X.base CX k f fd ps (spOf X.K X.mg n S) ∧ Room k X.A ∧ X.mg x = some (.ref f) ∧ PySem.W.keepIn X.K (.ref f) = true ∧ Binds X.K fd ps [] ∧ CxGood X.prog X.w CX
structure Lk (X : Cx) (W : WXs) (c : SC) (Γ : Nat → DSp) : Prop where
  N : X.N = c.N
  sc : X.env.scope = c.sc
  nd : c.N.Nodup
  calm : X.calm = true
  hu : X.A.units + 64 < cLine
  fnl : ∀ x, c.stc x = true → X.fn x = true
  tk : Takes X W
  tab : ∀ i x n, c.fns[i]? = some (x, n) → FnAt X x n (Γ i)
  bl : ∀ x, c.bl.any (beqS x) = true → X.mg x = none
  gl : ∀ x d, (x, d) ∈ c.gl → ∃ v u, X.mg x = some u ∧ RelV v u ∧ ∀ θ H, Rep X.K X.mg θ H d v

theorem beqS_eq {x y : Str} (h : beqS x y = true) : x = y := of_decide_eq_true h
section
variable {X : Cx} {W : WXs} {c : SC} {Γ : Nat → DSp}
theorem okName_dbg {x : Str} (h : okName x = true) : (x == ("__debug__" : Str)) = false ∧ (x == ("__classdict__" : Str)) = false ∧ x ≠ "__name__" := by
  unfold okName beqS at h
  simp only [Bool.and_eq_true, Bool.not_eq_true', decide_eq_false_iff_not] at h
  exact ⟨beq_eq_false_iff_ne.mpr h.1.1, beq_eq_false_iff_ne.mpr h.1.2, h.2⟩
theorem slot_of (k : Lk X W c Γ) {i : Nat} {x : Str} (h : c.slot i x = true) : X.N[i]? = some x ∧ okName x = true := by
  unfold SC.slot at h
  rw [Bool.and_eq_true] at h
  rw [k.N]
  obtain ⟨h1, h2⟩ := h
  split at h1
  · rename_i y hy
    rw [hy, beqS_eq h1]; exact ⟨rfl, h2⟩
  · cases h1
theorem vis_of (k : Lk X W c Γ) {x : Str} (h : c.vis x = true) : Vis X.env.scope x := by
  unfold SC.vis at h
  rw [k.sc]
  split at h
  · exact .inl (by assumption)
  · exact .inr (.inl (by assumption))
  · exact .inr (.inr (by assumption))
  · cases h
theorem loc_of (k : Lk X W c Γ) {x : Str} (h : c.loc x = true) : Loc X.env.scope x ∧ (X.fn x = true ∨ X.env.scope.names.lookup x = some .local) := by
  unfold SC.loc at h
  rw [k.sc]
  split at h
  · exact ⟨.inl (by assumption), .inr (by assumption)⟩
  · exact ⟨.inr (by assumption), .inl (k.fnl x h)⟩
  · cases h
theorem glob_of (k : Lk X W c Γ) {x : Str} (h : c.glob x = true) : Gl X x := by
  unfold SC.glob at h
  split at h
  · show X.env.scope.names.lookup x = some .globalImplicit
    rw [k.sc]; assumption
  · cases h
theorem blt_of (k : Lk X W c Γ) {x y : Str} (h : c.blt x y = true) : x = y ∧ Gl X x ∧ X.mg x = none ∧ (x == ("__debug__" : Str)) = false ∧ x ≠ "__name__" := by
  unfold SC.blt at h
  simp only [Bool.and_eq_true] at h
  obtain ⟨⟨⟨h1, h2⟩, h3⟩, h4⟩ := h
  exact ⟨beqS_eq h1, glob_of k h2, k.bl x h3, (okName_dbg h4).1, (okName_dbg h4).2.2⟩

/-! #### side conditions of the rules -/
def notStar : Expr → Bool
  | .Starred _ _ => false
  | _ => true
theorem star_cons {e : Expr} {es : List Expr} {env : Env} (h : notStar e = true) : starEach (e :: es) env = (false, eval e env) :: starEach es env := by
  cases e <;> first | rfl | cases h
theorem star_any {es : List Expr} {env : Env} {pos : Pos} (h : es.all notStar = true) : (backTo pos (starEach es env)).any (·.1) = false := by
  induction es with
  | nil => rfl
  | cons e es ih =>
    rw [List.all_cons, Bool.and_eq_true] at h
    rw [star_cons h.1]
    show (false || (backTo pos (starEach es env)).any (·.1)) = false
    rw [ih h.2]; rfl
theorem star_all {es : List Expr} {env : Env} {pos : Pos} (h : es.all notStar = true) : (backTo pos (starEach es env)).all (fun x => !x.1) = true := by
  induction es with
  | nil => rfl
  | cons e es ih =>
    rw [List.all_cons, Bool.and_eq_true] at h
    rw [star_cons h.1]
    show (true && (backTo pos (starEach es env)).all (fun x => !x.1)) = true
    rw [ih h.2]; rfl
theorem plainIx_of {s : Expr} (h : notSl s = true) : PlainIx s := by
  intro o i
  cases s <;> first | rfl | cases h
theorem base_of {o : Expr} {attr : Str} {env : Env} {w : Sem Value} (h : plainBase o = true) : attributeBase o attr env w = w := by
  unfold attributeBase
  split
  · cases h
  · rfl
theorem plainT_of {e : Expr} (h : plainT e = true) {env : Env} (whole : Sem Value) : isTrue e env whole = (do let v ← whole; standAt e.pos; holding [v] (truthy v)) := by
  cases e with
  | UnaryOp op x p => cases op <;> first | rfl | cases h
  | BoolOp _ _ _ => cases h
  | IfExp _ _ _ _ => cases h
  | Compare _ _ _ _ => cases h
  | _ => rfl
abbrev notSet : Expr → Bool := nSet
theorem folded_of {e : Expr} (h : notSet e = true) {env : Env} (x : Value) : foldedSetIterable e env x = pure x := by
  cases e <;> first | rfl | cases h
def noComp : Expr → Bool
  | .ListComp _ _ _ _ => false
  | .SetComp _ _ _ _ => false
  | .DictComp _ _ _ _ _ => false
  | _ => true
theorem swaps_of {e : Expr} (h : noComp e = true) {t : Option Expr} {l : Nat} {env : Env} : swapsWith e t l env = pure false := by
  cases e <;> first | rfl | cases h

/-! #### values -/
theorem chkC_ok {d : D} {q : Const} {j : Nat} {pos : Pos} (h : chkC d q = true) : PE X (.Constant q j pos) (tJ X.K X.mg W (wC d)) := by
  unfold chkC at h
  split at h
  · exact PE.imp pe_non fun σ H Q q => tJ_c (fun _ _ => .non) σ H Q q
  · rename_i b b'
    have : b = b' := beq_iff_eq.mp h
    subst this
    exact PE.imp pe_bl fun σ H Q q => tJ_c (fun _ _ => .bl b) σ H Q q
  · rename_i b b'
    have : b = b' := beq_iff_eq.mp h
    subst this
    exact PE.imp pe_int fun σ H Q q => tJ_c (fun _ _ => .int b) σ H Q q
  · rename_i b b'
    have := beqS_eq h
    subst this
    exact PE.imp pe_str fun σ H Q q => tJ_c (fun _ _ => .str b) σ H Q q
  · cases h
theorem bo_ok (o : BO) : OpR X (binaryOp o.op) (lift2 X.K X.mg o.sem) := by
  cases o with
  | add => exact o_add
  | sub => exact o_I0 op_sub
  | mul => exact o_mul
  | fdiv => exact o_I op_fdiv
  | mod => exact o_I op_mod
  | pow => exact o_I op_pow
theorem co_ok (hu : X.A.units + 64 < cLine) (o : CO) : OpR X (compareOp o.op) (lift2 X.K X.mg o.sem) := by
  cases o with
  | lt => exact o_B op_lt
  | le => exact o_B op_le
  | gt => exact o_B op_gt
  | ge => exact o_B op_ge
  | eq => exact o_eq hu
  | ne => exact o_ne hu
  | inn => exact o_in (by omega)
  | nin => exact o_nin (by omega)
  | is => exact o_isN
  | isn => exact o_isNotN
theorem un_neg_ok : UnR X (unaryOp .USub) (lift1 X.K X.mg pNeg) := by
  intro pins s σ H x v Q' I rx h
  refine un_neg pins s σ H x v Q' I rx ?_
  obtain ⟨θ, d, L, Q, hh, r, q, u⟩ := h
  unfold pNeg at q
  split at q
  · cases r; exact ⟨_, rfl, up_same hh (.int _) u q⟩
  · exact q.elim
theorem one1_eq {te : TE} {r : V → Hp → VK → Prop} {σ : St} {H : Hp} {Q : VK} (h : te σ H fun v H1 => r v H1 Q) : tCB (one1 r) (tCons te tNil) σ H Q := by
  show te σ H fun v H1 => one1 r [v] H1 Q
  have : (fun v H1 => one1 r [v] H1 Q) = fun v H1 => r v H1 Q := by
    funext v H1; apply propext; constructor
    · rintro ⟨x, e, h⟩; cases e; exact h
    · intro h; exact ⟨v, rfl, h⟩
  rw [this]; exact h
theorem pe_b1 {id : String} {x : Str} {p pos : Pos} {e : Expr} {te : TE} {r : V → Hp → VK → Prop} (hc : CallR X (.builtin id) (one1 r)) (hg : Gl X x) (hm : X.mg x = none)
    (hv : bootBuiltins x = some (.builtin id)) (he : PE X e te) (ns : notStar e = true) (hn : x ≠ "__name__") (hdb : (x == ("__debug__" : Str)) = false) : PE X (.Call (.Name x p) [e] [] pos) (fun σ H Q => te σ H fun v H1 => r v H1 Q) :=
  PE.imp (pe_callB hc hg hm hv (pa_cons he pa_nil (star_cons ns)) hn hdb (star_cons ns) rfl) fun σ H Q h => one1_eq h
theorem pe_t1 {id : String} {x : Str} {p pos : Pos} {e : Expr} {te : TE} {r : V → Hp → VK → Prop} (hc : CallR X (.type id) (one1 r)) (hg : Gl X x) (hm : X.mg x = none)
    (hv : bootBuiltins x = some (.type id)) (he : PE X e te) (ns : notStar e = true) (hn : x ≠ "__name__") (hdb : (x == ("__debug__" : Str)) = false) : PE X (.Call (.Name x p) [e] [] pos) (fun σ H Q => te σ H fun v H1 => r v H1 Q) :=
  PE.imp (pe_callTy hc hg hm hv (pa_cons he pa_nil (star_cons ns)) hn hdb (star_cons ns) rfl) fun σ H Q h => one1_eq h
theorem boot_int' : bootBuiltins "int" = some (.type "int") := by decide +kernel
theorem boot_tuple' : bootBuiltins "tuple" = some (.type "tuple") := by decide +kernel
theorem boot_abs' : bootBuiltins "abs" = some (.builtin "abs") := by decide +kernel
theorem boot_len' : bootBuiltins "len" = some (.builtin "len") := by decide +kernel
theorem boot_all' : bootBuiltins "all" = some (.builtin "all") := by decide +kernel
theorem boot_any' : bootBuiltins "any" = some (.builtin "any") := by decide +kernel
theorem boot_sum' : bootBuiltins "sum" = some (.builtin "sum") := by decide +kernel
theorem boot_list' : bootBuiltins "list" = some (.type "list") := by decide +kernel
theorem boot_isi' : bootBuiltins "isinstance" = some (.builtin "isinstance") := by decide +kernel
theorem f1_ok (o : F1) {p pos : Pos} {e : Expr} {te : TE} (hg : Gl X o.nm) (hm : X.mg o.nm = none) (he : PE X e te) (ns : notStar e = true) (hn : o.nm ≠ "__name__") (hdb : (o.nm == ("__debug__" : Str)) = false) :
    PE X (.Call (.Name o.nm p) [e] [] pos) (fun σ H Q => te σ H fun v H1 => lift1 X.K X.mg o.sem v H1 Q) := by
  cases o with
  | len => exact pe_b1 c_len hg hm boot_len' he ns hn hdb
  | int => exact pe_t1 c_int hg hm boot_int' he ns hn hdb
  | abs => exact pe_b1 c_abs hg hm boot_abs' he ns hn hdb
  | tuple => exact pe_t1 c_tuple hg hm boot_tuple' he ns hn hdb
theorem fl_ok (o : FL) {p pos : Pos} {e : Expr} {te : TE} (hc : X.calm = true) (hg : Gl X o.nm) (hm : X.mg o.nm = none) (he : PE X e te) (ns : notStar e = true) (hn : o.nm ≠ "__name__") (hdb : (o.nm == ("__debug__" : Str)) = false) :
    PE X (.Call (.Name o.nm p) [e] [] pos) (fun σ H Q => te σ H fun v H1 => liftL X.K X.mg o.sem v H1 Q) := by
  cases o with
  | all => exact pe_b1 (l_all hc) hg hm boot_all' he ns hn hdb
  | any => exact pe_b1 (l_any hc) hg hm boot_any' he ns hn hdb
  | sum => exact pe_b1 (l_sum hc) hg hm boot_sum' he ns hn hdb
  | tuple => exact pe_t1 l_tup hg hm boot_tuple' he ns hn hdb
  | len => exact pe_b1 l_len hg hm boot_len' he ns hn hdb
/-- isinstance -/
theorem tys_boot {T : String} (h : (["bool", "int", "str", "tuple", "list", "dict"] : List String).contains T = true) : bootBuiltins (Str.ofString T) = some (.type T) := by
  have h : T ∈ (["bool", "int", "str", "tuple", "list", "dict"] : List String) := by simpa using h
  simp only [List.mem_cons, List.not_mem_nil, or_false] at h
  rcases h with rfl | rfl | rfl | rfl | rfl | rfl <;> decide +kernel
theorem pe_ty (k : Lk X W c Γ) {T : String} {e : Expr} (h : isTyName c T e = true) : PE X e (tC (.ty T)) ∧ notStar e = true := by
  unfold isTyName at h
  split at h
  · rw [Bool.and_eq_true] at h
    obtain ⟨rfl, h2, h3, h4, h5⟩ := blt_of k h.1
    exact ⟨pe_bltn h2 h3 (tys_boot h.2) rfl h5 h4, rfl⟩
  · cases h
theorem pa_tys (k : Lk X W c Γ) : ∀ {Ts : List String} {es : List Expr}, tyNames c Ts es = true → PA X es (fun _ H Q => Q (Ts.map V.ty) H)
  | [], [], _ => pa_nil
  | [], _ :: _, h => by cases h
  | _ :: _, [], h => by cases h
  | T :: Ts, e :: es, h => by
    unfold tyNames at h
    rw [Bool.and_eq_true] at h
    obtain ⟨h1, h2⟩ := pe_ty k h.1
    exact PA.imp (pa_cons h1 (pa_tys k h.2) (star_cons h2)) fun σ H Q q => q
end

/-! #### calls of the text's own -/
section
variable {X : Cx} {W : WXs} {c : SC} {Γ : Nat → DSp}
theorem wCall0_ok {x : Str} {n : Nat} {S : DSp} (F : FnAt X x n S) (tk : Takes X W) (hg : Gl X x) (hdb : (x == ("__debug__" : Str)) = false) {p pos : Pos} :
    PE X (.Call (.Name x p) [] [] pos) (tJ X.K X.mg W (wCall n S wANil)) := by
  obtain ⟨CX, k, f, fd, ps, F, hr, hm, hk, hb, hx⟩ := F.ex
  have hx' := hx X W rfl rfl tk
  refine ⟨fun pins s σ H Q I h => ?_⟩
  have h1 : tJA X.K X.mg W wANil σ H fun vs H1 => spOf X.K X.mg n S (vs ++ []) H1 Q (fun c d H' => W c d σ H') := tJ_call σ H Q h
  have h2 : spOf X.K X.mg n S ([] ++ []) H Q (fun c d H' => W c d σ H') := tJA_nil σ H _ h1
  refine wpAny_Call_Name_kw (ld_glob I hg hm ?_ hdb)
  exact PySem.W.callWith_K0 I.kIn hk (run_fnSD (E := fun σ c d H' => W c d σ H') (us := []) (vs := []) F hr hb .nil (hx' σ) I .nil h2)
theorem wCall_ok {x : Str} {n : Nat} {S : DSp} (F : FnAt X x n S) (tk : Takes X W) (hg : Gl X x) (hdb : (x == ("__debug__" : Str)) = false) {p pos : Pos} {e : Expr} {es : List Expr} {as : DAs} (hs : notStar e = true) (hs2 : es.all notStar = true) (ha : PA X (e :: es) (tJA X.K X.mg W as)) :
    PE X (.Call (.Name x p) (e :: es) [] pos) (tJ X.K X.mg W (wCall n S as)) := by
  obtain ⟨CX, k, f, fd, ps, F, hr, hm, hk, hb, hx⟩ := F.ex
  have hx' := hx X W rfl rfl tk
  exact PE.imp (pe_callSD F hr hg hm hk hb .nil hx' ha hdb (star_cons hs) (star_any hs2)) fun σ H Q h => tJ_call σ H Q h
/-- isinstance(x, T), isinstance(x, (T1, ..)) -/
theorem isi_ok (k : Lk X W c Γ) {x : Str} {p pos : Pos} {e t : Expr} {T : String} {a : DE} (hx : c.blt x "isinstance" = true) (ha : PE X e (tJ X.K X.mg W a)) (ns : notStar e = true) (ht : isTyName c T t = true) :
    PE X (.Call (.Name x p) [e, t] [] pos) (tJ X.K X.mg W (w1 (pIsi T) a)) := by
  obtain ⟨rfl, hg, hm, hdb, hn⟩ := blt_of k hx
  obtain ⟨h1, h2⟩ := pe_ty k ht
  refine PE.imp (pe_callB (c_isi (T := T)) hg hm boot_isi' (pa_cons ha (pa_cons h1 pa_nil (star_cons h2)) (star_cons ns)) hn hdb (star_cons ns) (star_any (by simp [h2]))) fun σ H Q h => ?_
  exact tJ_1 (r := fun v H1 Q => ∃ x, [v, V.ty T] = [x, .ty T] ∧ lift1 X.K X.mg (pIsi T) x H1 Q) (fun x H Q q => ⟨x, rfl, q⟩) σ H Q h
theorem isiT_ok (k : Lk X W c Γ) {x : Str} {p pos tp : Pos} {e : Expr} {ts : List Expr} {j : Nat} {Ts : List String} {a : DE} (hx : c.blt x "isinstance" = true) (ha : PE X e (tJ X.K X.mg W a)) (ns : notStar e = true) (ht : tyNames c Ts ts = true) :
    PE X (.Call (.Name x p) [e, .Tuple ts j tp] [] pos) (tJ X.K X.mg W (w1 (pIsiT Ts) a)) := by
  obtain ⟨rfl, hg, hm, hdb, hn⟩ := blt_of k hx
  refine PE.imp (pe_callB (c_isiT (Ts := Ts)) hg hm boot_isi' (pa_cons ha (pa_cons (pe_tup (pa_tys k ht)) pa_nil (star_cons rfl)) (star_cons ns)) hn hdb (star_cons ns) (star_any rfl)) fun σ H Q h => ?_
  refine tJ_1 (r := fun v H1 Q => (Ts.map V.ty).length ≤ sizeLine ∧ ∀ q, H1 q = none → ∃ x p, [v, V.ref q] = [x, .ref p] ∧ (upd H1 q (.tup (Ts.map V.ty))) p = some (.tup (Ts.map V.ty)) ∧ lift1 X.K X.mg (pIsiT Ts) x (upd H1 q (.tup (Ts.map V.ty))) Q) (fun x H Q q => ?_) σ H Q h
  obtain ⟨θ, d, L, Q0, hh, r, ⟨h8, hT, t, ht, q⟩, u⟩ := q
  refine ⟨?_, fun q0 hq0 => ⟨x, q0, rfl, upd_same, θ, d, L, Q0, hh.new hq0, r.mono (Ext.new hq0), ⟨h8, hT, t, ht, q⟩, u.mono (Ext.new hq0)⟩⟩
  rw [List.length_map]
  exact Nat.le_trans h8 (by decide)
end
end Bw
end
section
set_option linter.all false
set_option maxRecDepth 100000
set_option maxHeartbeats 4000000
namespace Bw
open PySem L2

section
variable (K : PySem.W.Frag) (mg : Str → Option Value)
def tJO (W : WXs) (T : DO) : TO := fun σ H Q' => ∃ θ ρ L Q E, SR K mg θ ρ σ H ∧ HR K mg θ L H ∧ T ρ L Q E ∧
  (∀ o H' θ' L', Ext K θ H θ' H' → HR K mg θ' L' H' → Q o L' → Q' o H') ∧ UpX K mg θ H E (fun c d H' => W c d σ H')
end
section
variable {K : PySem.W.Frag} {mg : Str → Option Value} {W : WXs}
theorem tJO_no (σ : St) (H : Hp) (Q' : Option Int → Hp → Prop) (h : tJO K mg W wNo σ H Q') : tNoPart σ H Q' := by
  obtain ⟨θ, ρ, L, Q, E, s, hh, t, u, x⟩ := h
  exact u _ _ _ _ .refl hh t
theorem tJO_so {a : DE} (σ : St) (H : Hp) (Q' : Option Int → Hp → Prop) (h : tJO K mg W (wSo a) σ H Q') : tPart (tJ K mg W a) σ H Q' := by
  obtain ⟨θ, ρ, L, Q, E, s, hh, t, u, x⟩ := h
  refine ⟨θ, ρ, L, _, E, s, hh, t, fun v H1 θ1 d L1 e1 h1 r ⟨i, hi, q⟩ => ?_, x⟩
  subst hi
  exact ⟨i, r.int_inv, u _ _ _ _ e1 h1 q⟩
theorem tJ_slc {a : DE} {lo hi : DO} {r : V → Option Int → Option Int → Hp → VK → Prop} (hr : ∀ x l h H Q, liftSl mg K pSlT x l h H Q → r x l h H Q) (σ : St) (H : Hp) (Q' : VK) (h : tJ K mg W (wSlc a lo hi) σ H Q') :
    tSl r (tJ K mg W a) (tJO K mg W lo) (tJO K mg W hi) σ H Q' := by
  obtain ⟨θ, ρ, L, Q, E, s, hh, t, u, x⟩ := h
  refine ⟨θ, ρ, L, _, E, s, hh, t, fun v H1 θ1 d L1 e1 h1 r1 q1 => ⟨θ1, ρ, L1, _, E, s.mono e1, h1, q1, fun l H2 θ2 L2 e2 h2 q2 => ⟨θ2, ρ, L2, _, E, (s.mono e1).mono e2, h2, q2, fun hi H3 θ3 L3 e3 h3 q3 => ?_, (x.mono e1).mono e2⟩, x.mono e1⟩, x⟩
  exact hr _ _ _ _ _ ⟨θ3, d, L3, Q, h3, (r1.mono e2).mono e3, q3, u.mono (e1.trans (e2.trans e3))⟩
/-- a list's slice: a list that stands by itself -/
theorem tJL_slc {a : DE} {lo hi : DO} (σ : St) (H : Hp) (Q' : VK) (h : tJL K mg W (wSlcL a lo hi) σ H Q') : tSl (rSlL K) (tJ K mg W a) (tJO K mg W lo) (tJO K mg W hi) σ H Q' := by
  obtain ⟨θ, ρ, L, Q, E, s, hh, t, u, x⟩ := h
  refine ⟨θ, ρ, L, _, E, s, hh, t, fun v H1 θ1 d L1 e1 h1 r1 q1 => ⟨θ1, ρ, L1, _, E, s.mono e1, h1, q1, fun l H2 θ2 L2 e2 h2 q2 => ⟨θ2, ρ, L2, _, E, (s.mono e1).mono e2, h2, q2, fun hi H3 θ3 L3 e3 h3 ⟨ds, hd, q3⟩ => ?_, (x.mono e1).mono e2⟩, x.mono e1⟩, x⟩
  obtain ⟨b, vs, rfl, g1, g2⟩ := sqL_of h3 ((r1.mono e2).mono e3) hd
  refine ⟨b, vs, rfl, g1, fun p hp => ?_⟩
  have e03 := e1.trans (e2.trans e3)
  refine u _ _ _ _ _ _ (e03.trans (Ext.new hp)) (h3.new hp) ?_ upd_same (h3.notin hp) ((cut_rep g2 l hi).mono (Ext.new hp)) q3
  by_cases z : H p = none
  · exact z
  · exact absurd hp (e03.liv p z)
theorem tJL_listOf {a : DE} (σ : St) (H : Hp) (Q' : VK) (h : tJL K mg W (wListOf a) σ H Q') :
    tJ K mg W a σ H fun v H1 => ∃ p ys, v = .ref p ∧ (SqL K H1 p ys ∨ SqT K H1 p ys) ∧ ∀ l, H1 l = none → Q' (.ref l) (upd H1 l (.lst ys)) := by
  obtain ⟨θ, ρ, L, Q, E, s, hh, t, u, x⟩ := h
  refine ⟨θ, ρ, L, _, E, s, hh, t, fun v H1 θ1 d L1 e1 h1 r1 ⟨ds, hd, q1⟩ => ?_, x⟩
  obtain ⟨b, vs, rfl, g1, g2⟩ := sq_of h1 r1 hd
  refine ⟨b, vs, rfl, g1, fun p hp => ?_⟩
  refine u _ _ _ _ _ _ (e1.trans (Ext.new hp)) (h1.new hp) ?_ upd_same (h1.notin hp) (g2.mono (Ext.new hp)) q1
  by_cases z : H p = none
  · exact z
  · exact absurd hp (e1.liv p z)
theorem tJ_chn {f g : D → D → LH → Post → Prop} {a b c : DE} {r r' : R2} (hf : ∀ x y H Q, lift2 K mg f x y H Q → r x y H Q) (hg : ∀ x y H Q, lift2 K mg g x y H Q → r' x y H Q) (σ : St) (H : Hp) (Q' : VK) (h : tJ K mg W (wChn f g a b c) σ H Q') :
    tChain r r' (tJ K mg W a) (tJ K mg W b) (tJ K mg W c) σ H Q' := by
  obtain ⟨θ, ρ, L, Q, E, s, hh, t, u, x⟩ := h
  refine ⟨θ, ρ, L, _, E, s, hh, t, fun v H1 θ1 d L1 e1 h1 r1 q1 => ⟨θ1, ρ, L1, _, E, s.mono e1, h1, q1, fun v2 H2 θ2 d2 L2 e2 h2 r2 q2 => ?_, x.mono e1⟩, x⟩
  refine hf _ _ _ _ ⟨θ2, d, d2, L2, _, h2, r1.mono e2, r2, q2, fun v3 H3 θ3 d3 L3 e3 h3 r3 ⟨k, hk, q3⟩ => ?_⟩
  subst hk
  refine ⟨k, r3.bl_inv, ?_⟩
  have e13 := e1.trans (e2.trans e3)
  cases k with
  | false => exact u _ _ _ _ _ e13 h3 (.bl false) q3
  | true =>
    refine ⟨θ3, ρ, L3, _, E, s.mono e13, h3, q3, fun v4 H4 θ4 d4 L4 e4 h4 r4 q4 => ?_, x.mono e13⟩
    exact hg _ _ _ _ ⟨θ4, d2, d4, L4, Q, h4, (r2.mono e3).mono e4, r4, q4, u.mono (e13.trans e4)⟩
theorem tJ_mth {f : D → List D → LH → Post → Prop} {a : DE} {as : DAs} (σ : St) (H : Hp) (Q' : VK) (h : tJ K mg W (wMth f a as) σ H Q') : tBM K "list" (liftM K mg f) (tJ K mg W a) (tJA K mg W as) σ H Q' := by
  obtain ⟨θ, ρ, L, Q, E, s, hh, t, u, x⟩ := h
  refine ⟨θ, ρ, L, _, E, s, hh, t, fun v H1 θ1 d L1 e1 h1 r1 ⟨hl, q1⟩ => ⟨isLst_ty h1 r1 hl, θ1, ρ, L1, _, E, s.mono e1, h1, q1, fun vs H2 θ2 ds L2 e2 h2 r2 q2 => ?_, x.mono e1⟩, x⟩
  exact ⟨θ2, d, ds, L2, Q, h2, r1.mono e2, r2, q2, u.mono (e1.trans e2)⟩
theorem tJ_mth0 {f : D → List D → LH → Post → Prop} {a : DE} (σ : St) (H : Hp) (Q' : VK) (h : tJ K mg W (wMth f a wANil) σ H Q') : tBM0 K "list" (liftM K mg f) (tJ K mg W a) σ H Q' := by
  obtain ⟨θ, ρ, L, Q, E, s, hh, t, u, x⟩ := h
  exact ⟨θ, ρ, L, _, E, s, hh, t, fun v H1 θ1 d L1 e1 h1 r1 ⟨hl, q1⟩ => ⟨isLst_ty h1 r1 hl, θ1, d, [], L1, Q, h1, r1, .nil, q1, u.mono e1⟩, x⟩
theorem tJ_mthl {a : DE} {l : DAs} (σ : St) (H : Hp) (Q' : VK) (h : tJ K mg W (wMthl a l) σ H Q') : tBM K "list" (liftML K mg mlExtend) (tJ K mg W a) (tCons (tJL K mg W l) tNil) σ H Q' := by
  obtain ⟨θ, ρ, L, Q, E, s, hh, t, u, x⟩ := h
  refine ⟨θ, ρ, L, _, E, s, hh, t, fun v H1 θ1 d L1 e1 h1 r1 ⟨hl, q1⟩ => ⟨isLst_ty h1 r1 hl, θ1, ρ, L1, _, E, s.mono e1, h1, q1, fun p vs H2 θ2 ds L2 e2 h2 hp hv np r2 q2 => ?_, x.mono e1⟩, x⟩
  exact ⟨θ2, p, vs, d, ds, L2, Q, rfl, hv, h2, r1.mono e2, r2, q2, u.mono (e1.trans e2)⟩
theorem tJ_dnew (σ : St) (H : Hp) (Q' : VK) (h : tJ K mg W wDNew σ H Q') : tDNewK σ H Q' := by
  obtain ⟨θ, ρ, L, Q, E, s, hh, t, u, x⟩ := h
  intro p hp
  refine u _ _ (θ ++ [p]) _ _ (Ext.newL hp) (hh.newL (c := .dk []) hp ⟨[], upd_same, rfl, .nil⟩) (.loc ?_) t
  rw [← hh.len]; simp
end

/-! ### the small syntax is sound -/
theorem Lk.blk {X : Cx} {W : WXs} {c : SC} {Γ : Nat → DSp} (k : Lk X W c Γ) (s : Shared) (H : Hp) (scope : Scope) (C : Addr) (cl : List (Str × Addr)) (fp : List Addr) : Lk (X.blk s H scope (compEnvC scope cl C X.env) fp) NoW (c.blk scope) Γ where
  N := k.N
  sc := by
    show relabel scope X.env = relS scope c.sc
    rw [← k.sc]; rfl
  nd := k.nd
  calm := k.calm
  hu := k.hu
  fnl := fun x h => h
  tk := fun u s' ⟨_, _, _, _, _, _, _, _, _, _, _, _, _, _, _, _, w⟩ => w.elim
  tab := fun i x n h => ⟨(k.tab i x n h).ex⟩
  bl := k.bl
  gl := k.gl
section
variable {Γ : Nat → DSp}
theorem goTg_ok {X : Cx} {W : WXs} {c : SC} (k : Lk X W c Γ) : ∀ {is : List Nat} {es : List Expr}, chkTg.goTg c is es = true → PGs X es (gNm is) ∧ (assignEach es X.env).length = is.length ∧ (assignEach es X.env).findIdx? (·.1) = none
  | [], [], _ => ⟨pgs_nil, rfl, rfl⟩
  | [], _ :: _, h => by cases h
  | _ :: _, [], h => by cases h
  | i :: is, e :: es, h => by
    cases e with
    | Name x p =>
      unfold chkTg.goTg at h
      simp only [Bool.and_eq_true] at h
      obtain ⟨⟨h1, h2⟩, h3⟩ := h
      obtain ⟨l1, l2⟩ := loc_of k h2
      obtain ⟨g1, g2, g3⟩ := goTg_ok k h3
      refine ⟨pgs_cons (pg_name (by rw [k.N]; exact k.nd) (slot_of k h1).1 l1 l2) g1 rfl, ?_, ?_⟩
      · show (assignEach es X.env).length + 1 = is.length + 1
        rw [g2]
      · show List.findIdx? (·.1) ((false, assign (.Name x p) X.env) :: assignEach es X.env) = none
        rw [List.findIdx?_cons]
        simp [g3]
    | _ => cases h
theorem tgt_ok {X : Cx} {W : WXs} {c : SC} (k : Lk X W c Γ) {t : Tgt} {e : Expr} (h : chkTg c t e = true) : PG X e (tgT X.K t) := by
  unfold chkTg at h
  split at h
  · simp only [Bool.and_eq_true] at h
    obtain ⟨l1, l2⟩ := loc_of k h.2
    exact pg_name (by rw [k.N]; exact k.nd) (slot_of k h.1).1 l1 l2
  · obtain ⟨g1, g2, g3⟩ := goTg_ok k h
    exact pg_tup k.calm g1 g2 g3
  · cases h
abbrev OkE (Γ : Nat → DSp) (m : EX) : Prop := ∀ ⦃X : Cx⦄ ⦃W : WXs⦄ ⦃c : SC⦄, Lk X W c Γ → ∀ ⦃e : Expr⦄, chkE c m e = true → PE X e (tJ X.K X.mg W (wE Γ m)) ∧ notStar e = true
abbrev OkT (Γ : Nat → DSp) (m : EX) : Prop := ∀ ⦃X : Cx⦄ ⦃W : WXs⦄ ⦃c : SC⦄, Lk X W c Γ → ∀ ⦃e : Expr⦄, chkE c m e = true → tOk m e = true → PT X e (tJT X.K X.mg W (wE Γ m))
abbrev OkA (Γ : Nat → DSp) (m : EXs) : Prop := ∀ ⦃X : Cx⦄ ⦃W : WXs⦄ ⦃c : SC⦄, Lk X W c Γ → ∀ ⦃es : List Expr⦄, chkA c m es = true → PA X es (tJA X.K X.mg W (wA Γ m)) ∧ es.all notStar = true
abbrev OkB (Γ : Nat → DSp) (m : EXs) : Prop := ∀ ⦃X : Cx⦄ ⦃W : WXs⦄ ⦃c : SC⦄, Lk X W c Γ → ∀ ⦃es : List Expr⦄ ⦃b : Bool⦄ ⦃pos : Pos⦄, chkA c m es = true → 1 ≤ es.length → PE X (.BoolOp (if b then .And else .Or) es pos) (tJ X.K X.mg W (wB Γ b m))
abbrev OkTB (Γ : Nat → DSp) (m : EXs) : Prop := ∀ ⦃X : Cx⦄ ⦃W : WXs⦄ ⦃c : SC⦄, Lk X W c Γ → ∀ ⦃es : List Expr⦄ ⦃b : Bool⦄ ⦃pos : Pos⦄, chkA c m es = true → tOkA m es = true → 1 ≤ es.length → PW X (.BoolOp (if b then .And else .Or) es pos) (tJT X.K X.mg W (wB Γ b m))
abbrev OkO (Γ : Nat → DSp) (m : EXo) : Prop := ∀ ⦃X : Cx⦄ ⦃W : WXs⦄ ⦃c : SC⦄, Lk X W c Γ → ∀ ⦃o : Option Expr⦄, chkO c m o = true → PO X o (tJO X.K X.mg W (wO Γ m))
abbrev OkCd (Γ : Nat → DSp) (m : EXo) : Prop := ∀ ⦃X : Cx⦄ ⦃c : SC⦄, Lk X NoW c Γ → ∀ ⦃es : List Expr⦄, chkIf c m es = true → PTs X es (tJT X.K X.mg NoW (wCd Γ m))
abbrev OkL (Γ : Nat → DSp) (m : LX) : Prop := ∀ ⦃X : Cx⦄ ⦃W : WXs⦄ ⦃c : SC⦄, Lk X W c Γ → ∀ ⦃e : Expr⦄, chkL c m e = true → PE X e (tJL X.K X.mg W (wLX Γ m)) ∧ notStar e = true ∧ notSet e = true
abbrev OkI (Γ : Nat → DSp) (m : IX) : Prop := ∀ ⦃X : Cx⦄ ⦃W : WXs⦄ ⦃c : SC⦄, Lk X W c Γ → ∀ ⦃tg e : Expr⦄, chkI c m tg e = true → PI X tg e (tJI X.K X.mg W (wIX Γ m)) ∧ notSet e = true
theorem plain_both {m : EX} (hm : ∀ e, tOk m e = true → plainT e = true) (h : OkE Γ m) : OkE Γ m ∧ OkT Γ m :=
  ⟨h, fun X W c k e hc ht => PT.imp (pt_val (h k hc).1 (plainT_of (hm e ht))) fun σ H Q q => tJT_val σ H Q q⟩
theorem PTs.imp {X : Cx} {es : List Expr} {t t' : TT} (h : PTs X es t) (i : ∀ σ H Q, t' σ H Q → t σ H Q) : PTs X es t' := ⟨fun pins s σ H Q I q => h.run pins s σ H Q I (i σ H Q q)⟩
theorem chkE_notSet {X : Cx} {W : WXs} {c : SC} {m : EX} {e : Expr} (h : chkE c m e = true) (n : ∀ l, m ≠ .new l) : notSet e = true := by
  cases e with
  | Set _ _ _ => cases m <;> first | (exact absurd rfl (n _)) | (simp [chkE] at h)
  | _ => rfl
theorem pa1 {X : Cx} {W : WXs} {a : DE} {e : Expr} (g : PE X e (tJ X.K X.mg W a)) (n : notStar e = true) : PA X [e] (tJA X.K X.mg W (wACons a wANil)) :=
  PA.imp (pa_cons g (PA.imp pa_nil fun σ H Q q => tJA_nil σ H Q q) (star_cons n)) fun σ H Q q => tJA_cons σ H Q q
theorem pa2 {X : Cx} {W : WXs} {a b : DE} {e f : Expr} (g : PE X e (tJ X.K X.mg W a)) (n : notStar e = true) (g' : PE X f (tJ X.K X.mg W b)) (n' : notStar f = true) : PA X [e, f] (tJA X.K X.mg W (wACons a (wACons b wANil))) :=
  PA.imp (pa_cons g (pa1 g' n') (star_cons n)) fun σ H Q q => tJA_cons σ H Q q
mutual
theorem sndE : ∀ m : EX, OkE Γ m ∧ OkT Γ m
  | .var i => plain_both (fun e h => h) fun X W c k e h => by
    unfold chkE at h
    split at h
    · simp only [Bool.and_eq_true] at h
      obtain ⟨h1, h2⟩ := slot_of k h.1
      obtain ⟨h3, h4, _⟩ := okName_dbg h2
      exact ⟨PE.imp (pe_var h1 (vis_of k h.2) h3 h4) fun σ H Q q => tJ_var σ H Q q, rfl⟩
    · cases h
  | .cst d => plain_both (fun e h => h) fun X W c k e h => by
    unfold chkE at h
    split at h
    · exact ⟨chkC_ok h, rfl⟩
    · cases h
  | .glb y d => plain_both (fun e h => h) fun X W c k e h => by
    unfold chkE at h
    split at h
    · simp only [Bool.and_eq_true] at h
      obtain ⟨⟨⟨h1, h2⟩, h3⟩, h4⟩ := h
      have e1 := beqS_eq h1
      subst e1
      obtain ⟨p, hp, h5⟩ := List.any_eq_true.mp h4
      rw [Bool.and_eq_true] at h5
      obtain ⟨p1, p2⟩ := p
      have e2 := beqS_eq h5.1
      have e3 := D.eqb_eq _ _ h5.2
      dsimp only at e2 e3
      subst e2 e3
      obtain ⟨v, u, g1, g2, g3⟩ := k.gl _ _ hp
      exact ⟨PE.imp (pe_glob (glob_of k h2) g1 g2 (okName_dbg h3).1) fun σ H Q q => tJ_c g3 σ H Q q, rfl⟩
    · cases h
  | .bin o a b => plain_both (fun e h => h) fun X W c k e h => by
    unfold chkE at h
    split at h
    · simp only [Bool.and_eq_true, decide_eq_true_eq] at h
      obtain ⟨⟨rfl, h1⟩, h2⟩ := h
      exact ⟨PE.imp (pe_op (bo_ok o) ((sndE a).1 k h1).1 ((sndE b).1 k h2).1) fun σ H Q q => tJ_2 (fun x y H Q q => q) σ H Q q, rfl⟩
    · cases h
  | .neg a => plain_both (fun e h => h) fun X W c k e h => by
    unfold chkE at h
    split at h
    · exact ⟨PE.imp (pe_un un_neg_ok ((sndE a).1 k h).1) fun σ H Q q => tJ_1 (fun x H Q q => q) σ H Q q, rfl⟩
    · cases h
  | .cmp o a b => by
    have key : ∀ {X W c}, Lk X W c Γ → ∀ {e}, chkE c (.cmp o a b) e = true → ∃ l r p, e = .Compare l [o.op] [r] p ∧ chkE c a l = true ∧ chkE c b r = true ∧ behindInMarks o.op r = false := fun {X W c} k {e} h => by
      unfold chkE at h
      split at h
      · simp only [Bool.and_eq_true, decide_eq_true_eq, Bool.not_eq_true'] at h
        obtain ⟨⟨⟨rfl, h1⟩, h2⟩, h3⟩ := h
        exact ⟨_, _, _, rfl, h1, h2, h3⟩
      · cases h
    refine ⟨fun X W c k e h => ?_, fun X W c k e h _ => ?_⟩
    · obtain ⟨l, r, p, rfl, h1, h2, h3⟩ := key k h
      exact ⟨PE.imp (pe_cmpR (co_ok k.hu o) ((sndE a).1 k h1).1 ((sndE b).1 k h2).1 h3) fun σ H Q q => tJ_2 (fun x y H Q q => q) σ H Q q, rfl⟩
    · obtain ⟨l, r, p, rfl, h1, h2, h3⟩ := key k h
      refine PT.imp (pt_cmpR (co_ok k.hu o) ((sndE a).1 k h1).1 ((sndE b).1 k h2).1 h3) fun σ H Q q => ?_
      exact tJ_2 (f := o.sem) (r := lift2 X.K X.mg o.sem) (fun x y H Q q => q) σ H _ (tJT_val σ H Q q)
  | .chn o o' a b d => by
    have key : ∀ {X W c}, Lk X W c Γ → ∀ {e}, chkE c (.chn o o' a b d) e = true → ∃ l m r p, e = .Compare l [o.op, o'.op] [m, r] p ∧ chkE c a l = true ∧ chkE c b m = true ∧ chkE c d r = true ∧ lastMarks [o.op, o'.op] [m, r] = false := fun {X W c} k {e} h => by
      unfold chkE at h
      split at h
      · simp only [Bool.and_eq_true, decide_eq_true_eq, Bool.not_eq_true'] at h
        obtain ⟨⟨⟨⟨⟨rfl, rfl⟩, h1⟩, h2⟩, h3⟩, h4⟩ := h
        exact ⟨_, _, _, _, rfl, h1, h2, h3, h4⟩
      · cases h
    refine ⟨fun X W c k e h => ?_, fun X W c k e h _ => ?_⟩
    · obtain ⟨l, m, r, p, rfl, h1, h2, h3, h4⟩ := key k h
      exact ⟨PE.imp (pe_chain (co_ok k.hu o) (co_ok k.hu o') ((sndE a).1 k h1).1 ((sndE b).1 k h2).1 ((sndE d).1 k h3).1 h4) fun σ H Q q => tJ_chn (fun x y H Q q => q) (fun x y H Q q => q) σ H Q q, rfl⟩
    · obtain ⟨l, m, r, p, rfl, h1, h2, h3, h4⟩ := key k h
      refine PT.imp (pt_chain (co_ok k.hu o) (co_ok k.hu o') ((sndE a).1 k h1).1 ((sndE b).1 k h2).1 ((sndE d).1 k h3).1 h4) fun σ H Q q => ?_
      exact tJ_chn (f := o.sem) (g := o'.sem) (fun x y H Q q => q) (fun x y H Q q => q) σ H _ (tJT_val σ H Q q)
  | .ix a b => plain_both (fun e h => h) fun X W c k e h => by
    unfold chkE at h
    split at h
    · simp only [Bool.and_eq_true] at h
      obtain ⟨⟨h1, h2⟩, h3⟩ := h
      exact ⟨PE.imp (pe_ix (o_ix (by have := k.hu; omega)) ((sndE a).1 k h1).1 ((sndE b).1 k h2).1 (plainIx_of h3)) fun σ H Q q => tJ_2 (fun x y H Q q => q) σ H Q q, rfl⟩
    · cases h
  | .slc a lo hi => plain_both (fun e h => h) fun X W c k e h => by
    unfold chkE at h
    split at h
    · simp only [Bool.and_eq_true] at h
      obtain ⟨⟨h1, h2⟩, h3⟩ := h
      exact ⟨PE.imp (pe_slice o_slT ((sndE a).1 k h1).1 ((sndO lo).1 k h2) ((sndO hi).1 k h3)) fun σ H Q q => tJ_slc (fun x l h H Q q => q) σ H Q q, rfl⟩
    · cases h
  | .bop b as => by
    refine ⟨fun X W c k e h => ?_, fun X W c k e h ht => ?_⟩
    · unfold chkE at h
      split at h
      · simp only [Bool.and_eq_true, decide_eq_true_eq] at h
        obtain ⟨⟨rfl, h1⟩, h2⟩ := h
        exact ⟨(sndA as).2.1 k h1 h2, rfl⟩
      · cases h
    · unfold chkE at h
      split at h
      · simp only [Bool.and_eq_true, decide_eq_true_eq] at h
        obtain ⟨⟨rfl, h1⟩, h2⟩ := h
        exact ((sndA as).2.2 k h1 ht h2).pt
      · cases h
  | .not a => by
    refine ⟨fun X W c k e h => ?_, fun X W c k e h ht => ?_⟩
    · unfold chkE at h
      split at h
      · exact ⟨PE.imp (pe_not ((sndE a).1 k h).1) fun σ H Q q => tJ_not σ H Q q, rfl⟩
      · cases h
    · unfold chkE at h
      split at h
      · exact PT.imp (pt_not ((sndE a).2 k h ht)) fun σ H Q q => tJT_not σ H Q q
      · cases h
  | .ite t a b => by
    refine ⟨fun X W c k e h => ?_, fun X W c k e h ht => nomatch ht⟩
    unfold chkE at h
    split at h
    · simp only [Bool.and_eq_true] at h
      obtain ⟨⟨⟨h1, h2⟩, h3⟩, h4⟩ := h
      exact ⟨PE.imp (pe_ifExp ((sndE t).2 k h1 h2) ((sndE a).1 k h3).1 ((sndE b).1 k h4).1) fun σ H Q q => tJ_ite σ H Q q, rfl⟩
    · cases h
  | .tup as => plain_both (fun e h => h) fun X W c k e h => by
    unfold chkE at h
    split at h
    · exact ⟨PE.imp (pe_tup ((sndA as).1 k h).1) fun σ H Q q => tJ_tup σ H Q q, rfl⟩
    · cases h
  | .lst as => plain_both (fun e h => h) fun X W c k e h => by
    unfold chkE at h
    split at h
    · exact ⟨PE.imp (pe_lst ((sndA as).1 k h).1) fun σ H Q q => tJ_lst σ H Q q, rfl⟩
    · cases h
  | .call f n .nil => plain_both (fun e h => h) fun X W c k e h => by
    unfold chkE at h
    split at h
    · rename_i x p es pos
      simp only [Bool.and_eq_true] at h
      obtain ⟨⟨⟨h1, h2⟩, h3⟩, h4⟩ := h
      cases es with
      | cons _ _ => simp [chkA] at h4
      | nil =>
        split at h1
        · rename_i q hq
          rw [Bool.and_eq_true] at h1
          have e1 := beqS_eq h1.1
          have e2 : q.2 = n := of_decide_eq_true h1.2
          have F := k.tab f q.1 q.2 hq
          rw [e1, e2] at F
          exact ⟨wCall0_ok F k.tk (glob_of k h2) (okName_dbg h3).1, rfl⟩
        · cases h1
    · cases h
  | .call f n (.cons a as) => plain_both (fun e h => h) fun X W c k e h => by
    unfold chkE at h
    split at h
    · rename_i x p es pos
      simp only [Bool.and_eq_true] at h
      obtain ⟨⟨⟨h1, h2⟩, h3⟩, h4⟩ := h
      cases es with
      | nil => simp [chkA] at h4
      | cons e es =>
        split at h1
        · rename_i q hq
          rw [Bool.and_eq_true] at h1
          have e1 := beqS_eq h1.1
          have e2 : q.2 = n := of_decide_eq_true h1.2
          have F := k.tab f q.1 q.2 hq
          rw [e1, e2] at F
          obtain ⟨g1, g2⟩ := (sndA (.cons a as)).1 k h4
          rw [List.all_cons, Bool.and_eq_true] at g2
          exact ⟨wCall_ok F k.tk (glob_of k h2) (okName_dbg h3).1 g2.1 g2.2 g1, rfl⟩
        · cases h1
    · cases h
  | .fn o a => plain_both (fun e h => h) fun X W c k e h => by
    unfold chkE at h
    split at h
    · rw [Bool.and_eq_true] at h
      obtain ⟨rfl, h2, h3, h4, h5⟩ := blt_of k h.1
      obtain ⟨g1, g2⟩ := (sndE a).1 k h.2
      exact ⟨PE.imp (f1_ok o h2 h3 g1 g2 h5 h4) fun σ H Q q => tJ_1 (fun x H Q q => q) σ H Q q, rfl⟩
    · cases h
  | .fl o l => plain_both (fun e h => h) fun X W c k e h => by
    unfold chkE at h
    split at h
    · rw [Bool.and_eq_true] at h
      obtain ⟨rfl, h2, h3, h4, h5⟩ := blt_of k h.1
      obtain ⟨g1, g2, _⟩ := sndL l k h.2
      exact ⟨PE.imp (fl_ok o k.calm h2 h3 g1 g2 h5 h4) fun σ H Q q => tJ_L (fun x H Q q => q) σ H Q q, rfl⟩
    · cases h
  | .flv o a => plain_both (fun e h => h) fun X W c k e h => by
    unfold chkE at h
    split at h
    · rw [Bool.and_eq_true] at h
      obtain ⟨rfl, h2, h3, h4, h5⟩ := blt_of k h.1
      obtain ⟨g1, g2⟩ := (sndE a).1 k h.2
      exact ⟨PE.imp (fl_ok o k.calm h2 h3 g1 g2 h5 h4) fun σ H Q q => tJ_SqL (fun x H Q q => q) σ H Q q, rfl⟩
    · cases h
  | .isi T a => plain_both (fun e h => h) fun X W c k e h => by
    unfold chkE at h
    split at h
    · simp only [Bool.and_eq_true] at h
      obtain ⟨⟨h1, h2⟩, h3⟩ := h
      obtain ⟨g1, g2⟩ := (sndE a).1 k h2
      exact ⟨isi_ok k h1 g1 g2 h3, rfl⟩
    · cases h
  | .isiT Ts a => plain_both (fun e h => h) fun X W c k e h => by
    unfold chkE at h
    split at h
    · simp only [Bool.and_eq_true] at h
      obtain ⟨⟨h1, h2⟩, h3⟩ := h
      obtain ⟨g1, g2⟩ := (sndE a).1 k h2
      exact ⟨isiT_ok k h1 g1 g2 h3, rfl⟩
    · cases h
  | .mth o a .nil => plain_both (fun e h => h) fun X W c k e h => by
    unfold chkE at h
    split at h
    · rename_i v x apos es cpos
      simp only [Bool.and_eq_true, decide_eq_true_eq] at h
      obtain ⟨⟨⟨⟨⟨h1, h2⟩, h3⟩, h4⟩, h5⟩, h6⟩ := h
      have e1 := beqS_eq h1
      subst e1
      cases es with
      | cons _ _ => simp [chkA] at h3
      | nil =>
        refine ⟨PE.imp (t := tBM0 X.K "list" (liftM X.K X.mg o.sem) (tJ X.K X.mg W (wE Γ a))) ?_ fun σ H Q q => tJ_mth0 σ H Q q, rfl⟩
        obtain ⟨g1, g2⟩ := (sndE a).1 k h2
        cases o with
        | append => exact pe_bm0 PySem.F.plainAttrs_list PySem.F.slot_list_append PySem.F.type_list_append m_append g1 (base_of h4) h5
        | pop => exact pe_bm0 PySem.F.plainAttrs_list PySem.F.slot_list_pop PySem.F.type_list_pop m_pop g1 (base_of h4) h5
        | extend => exact pe_bm0 PySem.F.plainAttrs_list PySem.F.slot_list_extend PySem.F.type_list_extend m_extend g1 (base_of h4) h5
    · cases h
  | .mth o a (.cons b bs) => plain_both (fun e h => h) fun X W c k e h => by
    unfold chkE at h
    split at h
    · rename_i v x apos es cpos
      simp only [Bool.and_eq_true, decide_eq_true_eq] at h
      obtain ⟨⟨⟨⟨⟨h1, h2⟩, h3⟩, h4⟩, h5⟩, h6⟩ := h
      have e1 := beqS_eq h1
      subst e1
      cases es with
      | nil => simp [chkA] at h3
      | cons e es =>
        refine ⟨PE.imp (t := tBM X.K "list" (liftM X.K X.mg o.sem) (tJ X.K X.mg W (wE Γ a)) (tJA X.K X.mg W (wA Γ (.cons b bs)))) ?_ fun σ H Q q => tJ_mth σ H Q q, rfl⟩
        obtain ⟨g1, g2⟩ := (sndE a).1 k h2
        obtain ⟨g3, g4⟩ := (sndA (.cons b bs)).1 k h3
        have few : ((backTo cpos (starEach (e :: es) X.env)).all (fun x => !x.1) && (backToKw cpos (keywordEach [] X.env)).all (fun x => x.1.isSome) && decide ((e :: es).length + ([] : List Keyword).length + (if ([] : List Keyword).isEmpty then 0 else 1) < 30)) = true := by
          rw [star_all g4]
          simp only [List.length_cons] at h6
          simp [backToKw, keywordEach]; omega
        rw [List.all_cons, Bool.and_eq_true] at g4
        cases o with
        | append => exact pe_bm PySem.F.plainAttrs_list PySem.F.slot_list_append PySem.F.type_list_append m_append g1 g3 (base_of h4) few h5 (star_cons g4.1) (star_any g4.2)
        | pop => exact pe_bm PySem.F.plainAttrs_list PySem.F.slot_list_pop PySem.F.type_list_pop m_pop g1 g3 (base_of h4) few h5 (star_cons g4.1) (star_any g4.2)
        | extend => exact pe_bm PySem.F.plainAttrs_list PySem.F.slot_list_extend PySem.F.type_list_extend m_extend g1 g3 (base_of h4) few h5 (star_cons g4.1) (star_any g4.2)
    · cases h
  | .mthl a l => plain_both (fun e h => h) fun X W c k e h => by
    unfold chkE at h
    split at h
    · simp only [Bool.and_eq_true] at h
      obtain ⟨⟨⟨⟨h1, h2⟩, h3⟩, h4⟩, h5⟩ := h
      have e1 := beqS_eq h1
      subst e1
      obtain ⟨g1, g2⟩ := (sndE a).1 k h2
      obtain ⟨g3, g4, _⟩ := sndL l k h3
      refine ⟨PE.imp (pe_bm PySem.F.plainAttrs_list PySem.F.slot_list_extend PySem.F.type_list_extend ml_extend g1 (pa_cons g3 pa_nil (star_cons g4)) (base_of h4) ?_ h5 (star_cons g4) rfl) fun σ H Q q => tJ_mthl σ H Q q, rfl⟩
      rw [star_all (by simp [g4])]
      simp [backToKw, keywordEach]
    · cases h
  | .new l => plain_both (fun e h => h) fun X W c k e h => by
    obtain ⟨g1, g2, _⟩ := sndL l k h
    exact ⟨PE.imp g1 fun σ H Q q => tJ_new σ H Q q, g2⟩
  | .dnew => plain_both (fun e h => h) fun X W c k e h => by
    unfold chkE at h
    split at h
    · exact ⟨PE.imp pe_dnewK fun σ H Q q => tJ_dnew σ H Q q, rfl⟩
    · cases h
  | .dsd o kk v => plain_both (fun e h => h) fun X W c k e h => by
    unfold chkE at h
    split at h
    · simp only [Bool.and_eq_true] at h
      obtain ⟨⟨⟨⟨⟨h1, h2⟩, h3⟩, h4⟩, h5⟩, h6⟩ := h
      have e1 := beqS_eq h1
      subst e1
      obtain ⟨g1, g2⟩ := (sndE o).1 k h2
      obtain ⟨g3, g4⟩ := (sndE kk).1 k h3
      obtain ⟨g5, g6⟩ := (sndE v).1 k h4
      refine ⟨PE.imp (pe_dsetd g1 g3 g5 ⟨base_of h5, ?_, h6, ?_⟩) fun σ H Q q => tJ_dsd σ H Q q, rfl⟩
      · rw [star_all (by simp [g4, g6])]
        simp [backToKw, keywordEach]
      · rw [star_cons g4, star_cons g6]; rfl
    · cases h
theorem sndA : ∀ m : EXs, OkA Γ m ∧ OkB Γ m ∧ OkTB Γ m
  | .nil => by
    refine ⟨fun X W c k es h => ?_, fun X W c k es b pos h hl => ?_, fun X W c k es b pos h ht hl => ?_⟩
    all_goals
      unfold chkA at h
      split at h
    · exact ⟨PA.imp pa_nil fun σ H Q q => tJA_nil σ H Q q, rfl⟩
    · cases h
    · simp at hl
    · cases h
    · simp at hl
    · cases h
  | .cons a .nil => by
    refine ⟨fun X W c k es h => ?_, fun X W c k es b pos h hl => ?_, fun X W c k es b pos h ht hl => ?_⟩
    all_goals
      unfold chkA at h
      split at h
    · rw [Bool.and_eq_true] at h
      obtain ⟨g1, g2⟩ := (sndE a).1 k h.1
      obtain ⟨g3, g4⟩ := (sndA .nil).1 k h.2
      exact ⟨PA.imp (pa_cons g1 g3 (star_cons g2)) fun σ H Q q => tJA_cons σ H Q q, by rw [List.all_cons, g2, g4]; rfl⟩
    · cases h
    · rw [Bool.and_eq_true] at h
      rename_i e r
      obtain ⟨g1, g2⟩ := (sndE a).1 k h.1
      cases r with
      | cons _ _ => exact absurd h.2 (by simp [chkA])
      | nil => exact pe_one g1
    · cases h
    · rename_i e r
      rw [Bool.and_eq_true] at h
      unfold tOkA at ht
      dsimp only at ht
      rw [Bool.and_eq_true] at ht
      have g1 := (sndE a).2 k h.1 ht.1
      cases r with
      | cons _ _ => exact absurd h.2 (by simp [chkA])
      | nil =>
        cases b with
        | true => exact pw_and1 g1
        | false => exact pw_or1 g1
    · cases h
  | .cons a (.cons b as) => by
    have ih := sndA (.cons b as)
    refine ⟨fun X W c k es h => ?_, fun X W c k es t pos h hl => ?_, fun X W c k es t pos h ht hl => ?_⟩
    all_goals
      unfold chkA at h
      split at h
    · rw [Bool.and_eq_true] at h
      obtain ⟨g1, g2⟩ := (sndE a).1 k h.1
      obtain ⟨g3, g4⟩ := ih.1 k h.2
      exact ⟨PA.imp (pa_cons g1 g3 (star_cons g2)) fun σ H Q q => tJA_cons σ H Q q, by rw [List.all_cons, g2, g4]; rfl⟩
    · cases h
    · rw [Bool.and_eq_true] at h
      rename_i e r
      obtain ⟨g1, g2⟩ := (sndE a).1 k h.1
      cases r with
      | nil => exact absurd h.2 (by simp [chkA])
      | cons e2 r =>
        have g3 : PE X (.BoolOp (if t then .And else .Or) (e2 :: r) pos) _ := ih.2.1 k h.2 (by simp)
        cases t with
        | true => exact PE.imp (pe_and g1 g3) fun σ H Q q => tJ_and σ H Q q
        | false => exact PE.imp (pe_or g1 g3) fun σ H Q q => tJ_or σ H Q q
    · cases h
    · rename_i e r
      rw [Bool.and_eq_true] at h
      unfold tOkA at ht
      dsimp only at ht
      rw [Bool.and_eq_true] at ht
      have g1 := (sndE a).2 k h.1 ht.1
      cases r with
      | nil => exact absurd h.2 (by simp [chkA])
      | cons e2 r =>
        have g3 : PW X (.BoolOp (if t then .And else .Or) (e2 :: r) pos) _ := ih.2.2 k h.2 ht.2 (by simp)
        cases t with
        | true => exact PW.imp (pw_and g1 g3) fun σ H Q q => tJT_and σ H Q q
        | false => exact PW.imp (pw_or g1 g3) fun σ H Q q => tJT_or σ H Q q
    · cases h
theorem sndO : ∀ m : EXo, OkO Γ m ∧ OkCd Γ m
  | .no => by
    refine ⟨fun X W c k o h => ?_, fun X c k es h => ?_⟩
    · unfold chkO at h
      split at h
      · exact ⟨fun pins s σ H Q I q => po_none.run pins s σ H Q I (tJO_no σ H Q q)⟩
      · cases h
    · unfold chkIf at h
      split at h
      · refine PTs.imp pts_nil fun σ H Q q => ?_
        obtain ⟨θ, ρ, L, Q0, E, s, hh, ⟨b, hb, t⟩, u, x⟩ := q
        cases hb
        exact u _ _ _ _ .refl hh t
      · cases h
  | .so a => by
    refine ⟨fun X W c k o h => ?_, fun X c k es h => ?_⟩
    · unfold chkO at h
      split at h
      · have g := po_some ((sndE a).1 k h).1
        exact ⟨fun pins s σ H Q I q => g.run pins s σ H Q I (tJO_so σ H Q q)⟩
      · cases h
    · unfold chkIf at h
      split at h
      · rw [Bool.and_eq_true] at h
        exact pts_one ((sndE a).2 k h.1 h.2)
      · cases h
theorem sndL : ∀ m : LX, OkL Γ m
  | .comp t elt it cond own => fun X W c k e h => by
    unfold chkL at h
    split at h
    · rename_i x gs scope pos
      split at h
      · rename_i g
        simp only [Bool.and_eq_true] at h
        obtain ⟨⟨⟨⟨⟨⟨h0, h1⟩, h2⟩, h3⟩, h4⟩, h5⟩, h6⟩ := h
        obtain ⟨tg, iter, ifs, asy⟩ := g
        have e0 : asy = 0 := beq_iff_eq.mp h0
        subst e0
        obtain ⟨g1, g2⟩ := sndI it k h1
        have bk : BlkOk X.N X.env.scope scope own := by rw [k.N, k.sc]; exact blkOk_by h5
        refine ⟨PE.imp (pe_lc (g := tgT X.K t) (tt := tJT X.K X.mg NoW (wCd Γ cond)) (te := tJ X.K X.mg NoW (wE Γ elt)) k.calm (by rw [k.N]; exact k.nd) g1 bk (fun s H C cl fp => tgt_ok (k.blk s H scope C cl fp) h2) (fun s H C cl fp => (sndO cond).2 (k.blk s H scope C cl fp) h4) (fun s H C cl fp => ((sndE elt).1 (k.blk s H scope C cl fp) h3).1) fun z => folded_of g2 z) fun σ H Q q => ?_, rfl, rfl⟩
        refine tJ_comp (fun σ H R q => q) (fun σ H Q q => q) (fun σ H Q q => q) (fun j hj => ?_) σ H Q q
        have := List.all_eq_true.mp h6 j hj
        simpa using this
      · cases h
    · cases h
  | .slc a lo hi => fun X W c k e h => by
    unfold chkL at h
    split at h
    · simp only [Bool.and_eq_true] at h
      obtain ⟨⟨h1, h2⟩, h3⟩ := h
      exact ⟨PE.imp (pe_slice sl_list ((sndE a).1 k h1).1 ((sndO lo).1 k h2) ((sndO hi).1 k h3)) fun σ H Q q => tJL_slc σ H Q q, rfl, rfl⟩
    · cases h
  | .listOf a => fun X W c k e h => by
    unfold chkL at h
    split at h
    · rw [Bool.and_eq_true] at h
      obtain ⟨rfl, h2, h3, h4, h5⟩ := blt_of k h.1
      obtain ⟨g1, g2⟩ := (sndE a).1 k h.2
      refine ⟨PE.imp (pe_t1 (r := fun v H1 Q' => ∃ p ys, v = .ref p ∧ (SqL X.K H1 p ys ∨ SqT X.K H1 p ys) ∧ ∀ l, H1 l = none → Q' (.ref l) (upd H1 l (.lst ys))) (CallR.imp call_list_of fun xs H Q q => ?_) h2 h3 boot_list' g1 g2 h5 h4) fun σ H Q q => tJL_listOf σ H Q q, rfl, rfl⟩
      obtain ⟨v, rfl, p, ys, rfl, q⟩ := q
      exact ⟨p, ys, rfl, q⟩
    · cases h
  | .srt l => fun X W c k e h => by
    unfold chkL at h
    split at h
    · simp only [Bool.and_eq_true] at h
      obtain ⟨⟨h1, h2⟩, h3⟩ := h
      obtain ⟨rfl, a2, a3, a4, a5⟩ := blt_of k h1
      obtain ⟨rfl, b2, b3, b4, b5⟩ := blt_of k h2
      obtain ⟨g1, g2, _⟩ := sndL l k h3
      exact ⟨PE.imp (pe_srtSet k.calm a2 a3 b2 b3 g1 (star_cons g2)) fun σ H Q q => tJL_srt σ H Q q, rfl, rfl⟩
    · cases h
  | .zipl a b => fun X W c k e h => by
    unfold chkL at h
    split at h
    · simp only [Bool.and_eq_true] at h
      obtain ⟨⟨⟨h1, h2⟩, h3⟩, h4⟩ := h
      obtain ⟨rfl, a2, a3, a4, a5⟩ := blt_of k h1
      obtain ⟨rfl, b2, b3, b4, b5⟩ := blt_of k h2
      obtain ⟨g1, g2⟩ := (sndE a).1 k h3
      obtain ⟨g3, g4⟩ := (sndE b).1 k h4
      exact ⟨PE.imp (pe_listZip k.calm a2 a3 b2 b3 (pa2 g1 g2 g3 g4) (star_cons g2) (by rw [star_cons g4]; rfl)) fun σ H Q q => tJL_zip σ H Q q, rfl, rfl⟩
    · cases h
theorem sndI : ∀ m : IX, OkI Γ m
  | .sq a => fun X W c k tg e h => by
    unfold chkI at h
    rw [Bool.and_eq_true] at h
    obtain ⟨g1, g2⟩ := (sndE a).1 k h.1
    exact ⟨PI.imp (pi_seq g1) fun σ H R q => tJI_sq σ H R q, h.2⟩
  | .lx l => fun X W c k tg e h => by
    unfold chkI at h
    obtain ⟨g1, _, g2⟩ := sndL l k h
    exact ⟨PI.imp (pi_seq g1) fun σ H R q => tJI_lx σ H R q, g2⟩
  | .rng1 a => fun X W c k tg e h => by
    unfold chkI at h
    split at h
    · rw [Bool.and_eq_true] at h
      obtain ⟨rfl, h2, h3, h4, h5⟩ := blt_of k h.1
      obtain ⟨g1, g2⟩ := (sndE a).1 k h.2
      exact ⟨PI.imp (pi_range1 h2 h3 (pa1 g1 g2) (star_cons g2)) fun σ H R q => tJI_range1 σ H R q, rfl⟩
    · cases h
  | .rng2 a b => fun X W c k tg e h => by
    unfold chkI at h
    split at h
    · simp only [Bool.and_eq_true] at h
      obtain ⟨⟨h1, ha⟩, hb⟩ := h
      obtain ⟨rfl, h2, h3, h4, h5⟩ := blt_of k h1
      obtain ⟨g1, g2⟩ := (sndE a).1 k ha
      obtain ⟨g3, g4⟩ := (sndE b).1 k hb
      refine ⟨PI.imp (pi_range2 h2 h3 (pa2 g1 g2 g3 g4) ?_ (star_cons g4)) fun σ H R q => tJI_range2 σ H R q, rfl⟩
      rw [star_cons g2, star_cons g4]; rfl
    · cases h
  | .enum a => fun X W c k tg e h => by
    unfold chkI at h
    split at h
    · rw [Bool.and_eq_true] at h
      obtain ⟨rfl, h2, h3, h4, h5⟩ := blt_of k h.1
      obtain ⟨g1, g2⟩ := (sndE a).1 k h.2
      exact ⟨PI.imp (pi_enum h2 h3 (pa1 g1 g2) (star_cons g2)) fun σ H R q => tJI_enum σ H R q, rfl⟩
    · cases h
  | .zip a b => fun X W c k tg e h => by
    unfold chkI at h
    split at h
    · simp only [Bool.and_eq_true] at h
      obtain ⟨⟨h1, ha⟩, hb⟩ := h
      obtain ⟨rfl, h2, h3, h4, h5⟩ := blt_of k h1
      obtain ⟨g1, g2⟩ := (sndE a).1 k ha
      obtain ⟨g3, g4⟩ := (sndE b).1 k hb
      exact ⟨PI.imp (RZ.pi_zipA h2 h3 (pa2 g1 g2 g3 g4) (star_cons g2) (star_any (by simp [g4]))) fun σ H R q => tJI_zip σ H R q, rfl⟩
    · cases h
end
end
end Bw
end
section
set_option linter.all false
set_option maxRecDepth 100000
set_option maxHeartbeats 4000000
namespace Bw
open PySem L2

/-! ### statements -/
mutual
inductive SX where
  | set (i : Nat) (e : EX)
  | setc (i : Nat) (l : LX)
  | unp (is : List Nat) (e : EX)
  | par (i j : Nat) (a b : EX)
  | sub (o k e : EX)
  | exp (e : EX)
  | ret (e : EX)
  | retN
  | ife (c : EX) (a b : SXs)
  | whl (c : EX) (b : SXs)
  | for (t : Tgt) (it : IX) (b : SXs)
  | brk
  | cnt
  | pas
  | nev
inductive SXs where
  | nil
  | cons (s : SX) (r : SXs)
end
def wPar (i j : Nat) (a b : DE) : DS := fun D ρ L => a ρ L (fun d L1 => b ρ L1 (fun e L2 => D.nx ((ρ.set i (some d)).set j (some e)) L2) (fun x L2 => D.xc x ρ L2)) (fun x L1 => D.xc x ρ L1)
def wSub (o k e : DE) : DS := fun D ρ L => e ρ L (fun v L1 => o ρ L1 (fun d L2 => k ρ L2 (fun i L3 => pSet d i v L3 fun L4 => D.nx ρ L4) (fun x L3 => D.xc x ρ L3)) (fun x L2 => D.xc x ρ L2)) (fun x L1 => D.xc x ρ L1)
mutual
def wS (Γ : Nat → DSp) : SX → DS
  | .set i e => wSet i (wE Γ e)
  | .setc i l => wSet i (wNew (wLX Γ l))
  | .unp is e => wAsg (wE Γ e) (gT (.many is))
  | .par i j a b => wPar i j (wE Γ a) (wE Γ b)
  | .sub o k e => wSub (wE Γ o) (wE Γ k) (wE Γ e)
  | .exp e => wExp (wE Γ e)
  | .ret e => wRet (wE Γ e)
  | .retN => wRetN
  | .ife c a b => wIf (wE Γ c) (wSs Γ a) (wSs Γ b)
  | .whl c b => wWhile (wE Γ c) (wSs Γ b)
  | .for t it b => wFor (wIX Γ it) (gT t) (wSs Γ b)
  | .brk => wBrk
  | .cnt => wCnt
  | .pas => wSkip
  | .nev => wNever
def wSs (Γ : Nat → DSp) : SXs → DS
  | .nil => wSkip
  | .cons s r => wSeq (wS Γ s) (wSs Γ r)
end
def notTup : Expr → Bool
  | .Tuple _ _ _ => false
  | _ => true
mutual
def chkS (c : SC) : SX → Stmt → Bool
  | .set i e, s => match s with
    | .Assign [.Name x _] v _ => c.slot i x && c.loc x && chkE c e v && noComp v
    | _ => false
  | .setc i l, s => match s with
    | .Assign [.Name x p] v q => c.slot i x && (match c.sc.names.lookup x with | some .local => true | _ => false) && (match l, v with
      | .comp t elt it cond own, .ListComp el gs scope pos => (match gs with
        | [g] => g.is_async == 0 && chkI c it g.target g.iter && chkTg (c.blk scope) t g.target && chkE (c.blk scope) elt el && chkIf (c.blk scope) cond g.ifs && blkC c.N c.sc scope own && (t.slots.all fun k => (own.map (·.2)).contains k) &&
            (p.line == pos.line) && !(scope.names.any fun (n, k) => n == x && (k == .local || k == .cell))
        | _ => false)
      | _, _ => false)
    | _ => false
  | .unp is e, s => match s with
    | .Assign [.Tuple es _ _] v _ => chkTg.goTg c is es && chkE c e v && notTup v && noComp v
    | _ => false
  | .par i j a b, s => match s with
    | .Assign [.Tuple [.Name x px, .Name y py] _ _] (.Tuple [l, r] _ _) _ => c.slot i x && c.slot j y && !eqNat i j && (match c.sc.names.lookup x with | some .local => true | _ => false) && (match c.sc.names.lookup y with | some .local => true | _ => false) &&
        chkE c a l && chkE c b r && (px.line == py.line) && !(foldedForSure 8 l && foldedForSure 8 r) && !(constantsAlone 8 l && constantsAlone 8 r)
    | _ => false
  | .sub o k e, s => match s with
    | .Assign [.Subscript a i _] v _ => chkE c o a && chkE c k i && chkE c e v && notSl i && noComp v
    | _ => false
  | .exp e, s => match s with
    | .Expr v _ => chkE c e v && noComp v
    | _ => false
  | .ret e, s => match s with
    | .Return (some v) _ => chkE c e v
    | _ => false
  | .retN, s => match s with
    | .Return none _ => true
    | _ => false
  | .ife t a b, s => match s with
    | .If x p q _ => chkE c t x && tOk t x && chkSs c a p && chkSs c b q
    | _ => false
  | .whl t b, s => match s with
    | .While x p [] _ => chkE c t x && tOk t x && chkSs c b p
    | _ => false
  | .for t it b, s => match s with
    | .For tg x p [] _ => chkI c it tg x && chkTg c t tg && chkSs c b p
    | _ => false
  | .brk, s => match s with
    | .Break _ => true
    | _ => false
  | .cnt, s => match s with
    | .Continue _ => true
    | _ => false
  | .pas, s => match s with
    | .Pass _ => true
    | _ => false
  | .nev, _ => true
def chkSs (c : SC) : SXs → List Stmt → Bool
  | .nil, r => match r with
    | [] => true
    | _ => false
  | .cons s r, ss => match ss with
    | t :: ts => chkS c s t && chkSs c r ts
    | _ => false
end
structure Lks (X : Cx) (W : WXs) (c : SC) (Γ : Nat → DSp) : Prop extends Lk X W c Γ where
  kind : X.env.scope.kind = .function
  po : PassesOwn (model X.prog X.w) X.A X.env X.xe
section
variable {K : PySem.W.Frag} {mg : Str → Option Value} {W : WXs}
theorem tJS_par {i j : Nat} {a b : DE} (D' : Ends) (σ : St) (H : Hp) (h : tJS K mg W (wPar i j a b) D' σ H) : tPar i j (tJA K mg W (wACons a (wACons b wANil))) D' σ H := by
  obtain ⟨θ, ρ, L, D, s, hh, t, u⟩ := h
  refine ⟨θ, ρ, L, fun ds L2 => ∃ d e, ds = [d, e] ∧ D.nx ((ρ.set i (some d)).set j (some e)) L2, _, s, hh, ?_, fun vs H1 θ1 ds L1 x h1 r ⟨d, e, hd, q⟩ => ?_, u.ux s⟩
  · have e : ∀ (Q : Bw.D → Bw.D → LH → Prop), (fun (d : Bw.D) L1 => b ρ L1 (fun e L2 => Q d e L2) (fun x L2 => D.xc x ρ L2)) = fun d L1 => wACons b wANil ρ L1 (fun ds L2 => ∃ d' e, d :: ds = [d', e] ∧ Q d' e L2) (fun x L2 => D.xc x ρ L2) := by
      intro Q; funext d L1
      show b ρ L1 _ _ = b ρ L1 _ _
      congr 1; funext e L2; apply propext
      constructor
      · intro h; exact ⟨d, e, rfl, h⟩
      · rintro ⟨d', e', h, q⟩; cases h; exact q
    have t : a ρ L _ _ := t
    rw [e fun d e L2 => D.nx ((ρ.set i (some d)).set j (some e)) L2] at t
    exact t
  · subst hd
    cases r with
    | cons r1 r2 => cases r2 with
      | cons r2 r3 =>
        cases r3
        exact ⟨_, _, rfl, u.nx _ _ _ _ _ x (((s.mono x).put r1 i).put r2 j) h1 q⟩
theorem tJS_sub {o k e : DE} {r : TSet} (hr : ∀ x y z H Q, liftSet mg K pSet x y z H Q → r x y z H Q) (D' : Ends) (σ : St) (H : Hp) (h : tJS K mg W (wSub o k e) D' σ H) : tAsg (tJ K mg W e) (gSub (tJ K mg W o) (tJ K mg W k) r) D' σ H := by
  obtain ⟨θ, ρ, L, D, s, hh, t, u⟩ := h
  refine ⟨θ, ρ, L, _, _, s, hh, t, fun v H1 θ1 d L1 e1 h1 r1 q1 => ⟨θ1, ρ, L1, _, _, s.mono e1, h1, q1, fun v2 H2 θ2 d2 L2 e2 h2 r2 q2 => ⟨θ2, ρ, L2, _, _, (s.mono e1).mono e2, h2, q2, fun v3 H3 θ3 d3 L3 e3 h3 r3 q3 => ?_, ((u.mono e1).mono e2).ux ((s.mono e1).mono e2)⟩, (u.mono e1).ux (s.mono e1)⟩, u.ux s⟩
  have e13 := e1.trans (e2.trans e3)
  exact hr _ _ _ _ _ ⟨θ3, d2, d3, d, L3, _, h3, r2.mono e3, r3, (r1.mono e2).mono e3, q3, fun H4 θ4 L4 e4 h4 q4 => u.nx _ _ _ _ _ (e13.trans e4) (s.mono (e13.trans e4)) h4 q4⟩
end
section
variable {Γ : Nat → DSp}
abbrev OkS (Γ : Nat → DSp) (m : SX) : Prop := ∀ ⦃X : Cx⦄ ⦃W : WXs⦄ ⦃c : SC⦄, Lks X W c Γ → ∀ ⦃s : Stmt⦄, chkS c m s = true → PS X s (tJS X.K X.mg W (wS Γ m))
abbrev OkSs (Γ : Nat → DSp) (m : SXs) : Prop := ∀ ⦃X : Cx⦄ ⦃W : WXs⦄ ⦃c : SC⦄, Lks X W c Γ → ∀ ⦃s : List Stmt⦄, chkSs c m s = true → PSs X s (tJS X.K X.mg W (wSs Γ m))
theorem isLoc {c : SC} {x : Str} (h : (match c.sc.names.lookup x with | some .local => true | _ => false) = true) : c.sc.names.lookup x = some .local := by
  split at h
  · assumption
  · cases h
theorem sole_map {tg : Expr} {env : Env} (h : notStar tg = true) : (assignEach [tg] env).map (·.2) = [assign tg env] := by
  cases tg <;> first | rfl | cases h
theorem swapped_none {es : List Expr} {j : Nat} {p : Pos} {v : Expr} {env : Env} (h : notTup v = true) : swappedStores [.Tuple es j p] v env = pure none := by
  unfold swappedStores
  cases v <;> first | rfl | cases h
theorem swapped_sub {o i v : Expr} {p : Pos} {env : Env} : swappedStores [.Subscript o i p] v env = pure none := by
  unfold swappedStores
  cases v <;> rfl
theorem swapped_par {x y : Str} {px py pt : Pos} {kt k2 : Nat} {l r : Expr} {pt2 : Pos} {env : Env} (hk : env.scope.kind = .function) (hx : env.scope.names.lookup x = some .local) (hy : env.scope.names.lookup y = some .local) (hne : x ≠ y) (hl : (px.line == py.line) = true)
    (n1 : notStar l = true) (n2 : notStar r = true) (h1 : (foldedForSure 8 l && foldedForSure 8 r) = false) (h2 : (constantsAlone 8 l && constantsAlone 8 r) = false) :
    swappedStores [.Tuple [.Name x px, .Name y py] kt pt] (.Tuple [l, r] k2 pt2) env = pure (some [x, y]) := by
  have kx : env.kindOf x = some .local := hx
  have ky : env.kindOf y = some .local := hy
  have hb : env.blockKind = .function := by unfold Env.blockKind; rw [hk]; rfl
  have hl' : px.line = py.line := by simpa using hl
  have s1 : ∀ e : Expr, notStar e = true → (match e with | .Starred .. => true | _ => false) = false := fun e h => by cases e <;> first | rfl | cases h
  have hne' : (y == x) = false := beq_eq_false_iff_ne.mpr (Ne.symm hne)
  unfold swappedStores
  simp only [List.length_cons, List.length_nil, hb, List.any_cons, List.any_nil, List.all_cons, List.all_nil, Bool.and_true, h1, h2]
  refine (if_neg (by decide)).trans ?_
  refine (if_neg (fun z => ?_)).trans ?_
  · rw [Bool.or_eq_true, Bool.or_false] at z
    rcases z with z | z
    · split at z
      · cases n1
      · cases z
    · split at z
      · cases n2
      · cases z
  have ed : ([x, y] : List Str).eraseDups = [x, y] := by
    rw [List.eraseDups_cons, List.filter_cons]
    simp [hne', List.eraseDups_cons]
  have e1 : (env.kindOf x == some NameKind.local) = true := by rw [kx]; rfl
  have e2 : (env.kindOf y == some NameKind.local) = true := by rw [ky]; rfl
  simp [List.filterMap_cons, kx, ky, Expr.pos, hl', ed]
theorem slots_ne {N : List Str} (nd : N.Nodup) {i j : Nat} {x y : Str} (h : i ≠ j) (hi : N[i]? = some x) (hj : N[j]? = some y) : x ≠ y := fun e => h (nodup_ix nd hi (by rw [e]; exact hj))
theorem sole_of {v t : Expr} (h : noComp v = true) {l : Nat} {env : Env} : swapsWithSole [t] v l env = pure false := by
  show swapsWith v (some t) l env = pure false
  exact swaps_of h
theorem sub_assign {o i : Expr} {pos : Pos} {env : Env} (h : notSl i = true) (v : Value) : assign (.Subscript o i pos) env v = (do
      let ov ← holding [v] (eval o env)
      let iv ← holding [v, ov] (eval i env)
      standAt pos
      holding [v, ov, iv] (setItem ov iv v)
      release [v, ov, iv] []) := by
  cases i with
  | Slice _ _ _ _ => cases h
  | _ => rfl
mutual
theorem sndS : ∀ m : SX, OkS Γ m
  | .set i e => fun X W c k s h => by
    unfold chkS at h
    split at h
    · simp only [Bool.and_eq_true] at h
      obtain ⟨⟨⟨h1, h2⟩, h3⟩, h4⟩ := h
      obtain ⟨l1, l2⟩ := loc_of k.toLk h2
      exact PS.imp (ps_set (by rw [k.N]; exact k.nd) (slot_of k.toLk h1).1 l1 ((sndE e).1 k.toLk h3).1 (swaps_of h4) l2) fun D σ H q => tJS_set D σ H q
    · cases h
  | .setc i (.slc _ _ _) => fun X W c k s h => by
    unfold chkS at h
    split at h
    · simp at h
    · cases h
  | .setc i (.listOf _) => fun X W c k s h => by
    unfold chkS at h
    split at h
    · simp at h
    · cases h
  | .setc i (.srt _) => fun X W c k s h => by
    unfold chkS at h
    split at h
    · simp at h
    · cases h
  | .setc i (.zipl _ _) => fun X W c k s h => by
    unfold chkS at h
    split at h
    · simp at h
    · cases h
  | .setc i (.comp t elt it cond own) => fun X W c k s h => by
    unfold chkS at h
    split at h
    · rename_i x p v q
      simp only [Bool.and_eq_true] at h
      obtain ⟨⟨h1, h2⟩, h⟩ := h
      have l1 := isLoc h2
      rw [← k.sc] at l1
      split at h
      · rename_i m1 m2 t' elt' it' cond' own' el gs scope pos heq1
        cases heq1
        split at h
        · rename_i g
          simp only [Bool.and_eq_true, Bool.not_eq_true'] at h
          obtain ⟨⟨⟨⟨⟨⟨⟨⟨h0, h3⟩, h4⟩, h5⟩, h6⟩, h7⟩, h8⟩, h9⟩, h10⟩ := h
          obtain ⟨tg, iter, ifs, asy⟩ := g
          have e0 : asy = 0 := beq_iff_eq.mp h0
          subst e0
          obtain ⟨g1, g2⟩ := sndI it k.toLk h3
          have bk : BlkOk X.N X.env.scope scope own := by rw [k.N, k.sc]; exact blkOk_by h7
          refine PS.imp (ps_setLc (g := tgT X.K t) (tt := tJT X.K X.mg NoW (wCd Γ cond)) (te := tJ X.K X.mg NoW (wE Γ elt)) k.calm (by rw [k.N]; exact k.nd) (slot_of k.toLk h1).1 l1 (sw_true k.kind l1 h9 h10) g1 bk (fun s H C cl fp => tgt_ok (k.toLk.blk s H scope C cl fp) h4) (fun s H C cl fp => (sndO cond).2 (k.toLk.blk s H scope C cl fp) h6) (fun s H C cl fp => ((sndE elt).1 (k.toLk.blk s H scope C cl fp) h5).1) fun z => folded_of g2 z) fun D σ H q => ?_
          refine tJ_comp (W := W) (fun σ H R q => q) (fun σ H Q q => q) (fun σ H Q q => q) (fun j hj => ?_) σ H _ (tJ_new σ H _ (tJS_set D σ H q))
          have := List.all_eq_true.mp h8 j hj
          simpa using this
        · cases h
      · cases h
    · cases h
  | .unp is e => fun X W c k s h => by
    unfold chkS at h
    split at h
    · simp only [Bool.and_eq_true] at h
      obtain ⟨⟨⟨h1, h2⟩, h3⟩, h4⟩ := h
      obtain ⟨g1, g2, g3⟩ := goTg_ok k.toLk h1
      exact PS.imp (ps_asg ((sndE e).1 k.toLk h2).1 (pg_tup k.calm g1 g2 g3) (sole_of h4) (swapped_none h3) rfl) fun D σ H q => by
        obtain ⟨θ, ρ, L, Q, E, s, hh, t, u, x⟩ := tJS_asg D σ H q
        exact ⟨θ, ρ, L, Q, E, s, hh, t, fun v H1 θ1 d L1 x1 h1 r q => tJG_tgt (t := .many is) v σ H1 _ (u v H1 θ1 d L1 x1 h1 r q), x⟩
    · cases h
  | .par i j a b => fun X W c k s h => by
    unfold chkS at h
    split at h
    · simp only [Bool.and_eq_true, Bool.not_eq_true'] at h
      obtain ⟨⟨⟨⟨⟨⟨⟨⟨⟨h1, h2⟩, h3⟩, h4⟩, h5⟩, h6⟩, h7⟩, h8⟩, h9⟩, h10⟩ := h
      have l1 := isLoc h4
      have l2 := isLoc h5
      rw [← k.sc] at l1 l2
      obtain ⟨g1, g2⟩ := (sndE a).1 k.toLk h6
      obtain ⟨g3, g4⟩ := (sndE b).1 k.toLk h7
      have hij : i ≠ j := fun e => by rw [e] at h3; simp [eqNat] at h3
      have hi := (slot_of k.toLk h1).1
      have hj := (slot_of k.toLk h2).1
      have nd : X.N.Nodup := by rw [k.N]; exact k.nd
      have hne := slots_ne nd hij hi hj
      exact PS.imp (ps_par k.calm nd hi hj hij l1 l2 (pa2 g1 g2 g3 g4) (swapped_par k.kind l1 l2 hne h8 g2 g4 h9 h10) rfl) fun D σ H q => tJS_par D σ H q
    · cases h
  | .sub o i e => fun X W c k s h => by
    unfold chkS at h
    split at h
    · simp only [Bool.and_eq_true] at h
      obtain ⟨⟨⟨⟨h1, h2⟩, h3⟩, h4⟩, h5⟩ := h
      refine PS.imp (ps_asg ((sndE e).1 k.toLk h3).1 (pg_sub ((sndE o).1 k.toLk h1).1 ((sndE i).1 k.toLk h2).1 (o_set (by have := k.hu; omega)) (sub_assign h4)) (sole_of h5) swapped_sub rfl) fun D σ H q => tJS_sub (fun x y z H Q q => q) D σ H q
    · cases h
  | .exp e => fun X W c k s h => by
    unfold chkS at h
    split at h
    · rw [Bool.and_eq_true] at h
      exact PS.imp (ps_expr ((sndE e).1 k.toLk h.1).1 (swaps_of h.2)) fun D σ H q => tJS_exp D σ H q
    · cases h
  | .ret e => fun X W c k s h => by
    unfold chkS at h
    split at h
    · exact PS.imp (ps_ret ((sndE e).1 k.toLk h).1) fun D σ H q => tJS_ret D σ H q
    · cases h
  | .retN => fun X W c k s h => by
    unfold chkS at h
    split at h
    · exact PS.imp ps_retN fun D σ H q => tJS_retN D σ H q
    · cases h
  | .ife t a b => fun X W c k s h => by
    unfold chkS at h
    split at h
    · simp only [Bool.and_eq_true] at h
      obtain ⟨⟨⟨h1, h2⟩, h3⟩, h4⟩ := h
      exact PS.imp (ps_if ((sndE t).2 k.toLk h1 h2) (sndSs a k h3) (sndSs b k h4)) fun D σ H q => tJS_if D σ H q
    · cases h
  | .whl t b => fun X W c k s h => by
    unfold chkS at h
    split at h
    · simp only [Bool.and_eq_true] at h
      obtain ⟨⟨h1, h2⟩, h3⟩ := h
      exact PS.imp (ps_while k.po ((sndE t).2 k.toLk h1 h2) (sndSs b k h3)) fun D σ H q => tJS_while D σ H q
    · cases h
  | .for t it b => fun X W c k s h => by
    unfold chkS at h
    split at h
    · simp only [Bool.and_eq_true] at h
      obtain ⟨⟨h1, h2⟩, h3⟩ := h
      obtain ⟨g1, g2⟩ := sndI it k.toLk h1
      refine PS.imp (ps_for k.po k.calm g1 (PG.imp (tgt_ok k.toLk h2) fun v σ H Q q => tJG_tgt v σ H Q q) (sndSs b k h3) fun z => folded_of g2 z) fun D σ H q => tJS_for D σ H q
    · cases h
  | .brk => fun X W c k s h => by
    unfold chkS at h
    split at h
    · exact PS.imp ps_break fun D σ H q => tJS_brk D σ H q
    · cases h
  | .cnt => fun X W c k s h => by
    unfold chkS at h
    split at h
    · exact PS.imp ps_continue fun D σ H q => tJS_cnt D σ H q
    · cases h
  | .pas => fun X W c k s h => by
    unfold chkS at h
    split at h
    · exact PS.imp ps_pass fun D σ H q => tJS_skip D σ H q
    · cases h
  | .nev => fun X W c k s h => PS.imp ps_never fun D σ H q => tJS_never D σ H q
theorem sndSs : ∀ m : SXs, OkSs Γ m
  | .nil => fun X W c k s h => by
    unfold chkSs at h
    split at h
    · exact PSs.imp pss_nil fun D σ H q => tJS_skip D σ H q
    · cases h
  | .cons a r => fun X W c k s h => by
    unfold chkSs at h
    split at h
    · rw [Bool.and_eq_true] at h
      exact PSs.imp (pss_cons (sndS a k h.1) (sndSs r k h.2)) fun D σ H q => tJS_seq D σ H q
    · cases h
end
end
end Bw
end
section
set_option linter.all false
set_option maxRecDepth 100000
set_option maxHeartbeats 4000000
namespace Bw
open PySem L2
/-! ### cells that no one needs any more -/
mutual
def clD (n : Nat) : D → Prop
  | .loc k => k < n
  | .tup ds => clDs n ds
  | _ => True
def clDs (n : Nat) : List D → Prop
  | [] => True
  | d :: ds => clD n d ∧ clDs n ds
end
def clC (n : Nat) : Cell → Prop
  | .lst ds => clDs n ds
  | .ro ds => clDs n ds
  | .dk kvs => clDs n (kvs.map (·.2))
  | .dt kvs => clDs n (kvs.map (·.2))
  | .ins _ fs => clDs n (fs.map (·.2))
def clL (n : Nat) (L : LH) : Prop := ∀ c ∈ L, clC n c
theorem clDs_iff {n : Nat} : ∀ {ds : List D}, clDs n ds ↔ ∀ d ∈ ds, clD n d
  | [] => by simp [clDs]
  | d :: ds => by simp [clDs, clDs_iff (ds := ds)]
mutual
theorem clD_mono {n m : Nat} (h : n ≤ m) : ∀ {d : D}, clD n d → clD m d
  | .loc k, c => by unfold clD at *; omega
  | .tup ds, c => by unfold clD at *; exact clDs_mono h c
  | .non, _ | .bl _, _ | .int _, _ | .str _, _ | .glo _, _ | .ty _, _ | .kl _, _ => by unfold clD; trivial
theorem clDs_mono {n m : Nat} (h : n ≤ m) : ∀ {ds : List D}, clDs n ds → clDs m ds
  | [], _ => trivial
  | d :: ds, c => ⟨clD_mono h c.1, clDs_mono h c.2⟩
end
theorem clC_mono {n m : Nat} (h : n ≤ m) {c : Cell} (x : clC n c) : clC m c := by
  cases c <;> exact clDs_mono h x
section
variable {K : PySem.W.Frag} {mg : Str → Option Value} {θ τ : List Addr} {H : Hp}
mutual
theorem rep_cl : ∀ {d : D} {v : V}, Rep K mg θ H d v → clD θ.length d
  | .loc n, _, r => by obtain ⟨a, h, _⟩ := r.loc_inv; exact (List.getElem?_eq_some_iff.mp h).1
  | .tup ds, _, r => by obtain ⟨a, vs, _, h, _⟩ := r.tup_inv; exact reps_cl h
  | .non, _, _ | .bl _, _, _ | .int _, _, _ | .str _, _, _ | .glo _, _, _ | .ty _, _, _ | .kl _, _, _ => by unfold clD; trivial
theorem reps_cl : ∀ {ds : List D} {vs : List V}, Reps K mg θ H ds vs → clDs θ.length ds
  | [], _, _ => trivial
  | d :: ds, _, r => by cases r with | cons a b => exact ⟨rep_cl a, reps_cl b⟩
end
mutual
theorem rep_take : ∀ {d : D} {v : V}, Rep K mg (θ ++ τ) H d v → clD θ.length d → Rep K mg θ H d v
  | .loc n, _, r, c => by
    obtain ⟨a, h, rfl⟩ := r.loc_inv
    rw [List.getElem?_append_left c] at h
    exact .loc h
  | .tup ds, _, r, c => by
    obtain ⟨a, vs, h1, h2, rfl⟩ := r.tup_inv
    exact .tup h1 (reps_take h2 c)
  | .non, _, r, _ => by cases r; exact .non
  | .bl _, _, r, _ => by cases r; exact .bl _
  | .int _, _, r, _ => by cases r; exact .int _
  | .str _, _, r, _ => by cases r; exact .str _
  | .glo _, _, r, _ => by cases r with | glo h => exact .glo h
  | .ty _, _, r, _ => by cases r; exact .ty _
  | .kl _, _, r, _ => by cases r with | kl h => exact .kl h
theorem reps_take : ∀ {ds : List D} {vs : List V}, Reps K mg (θ ++ τ) H ds vs → clDs θ.length ds → Reps K mg θ H ds vs
  | [], _, r, _ => by cases r; exact .nil
  | d :: ds, _, r, c => by cases r with | cons a b => exact .cons (rep_take a c.1) (reps_take b c.2)
end
theorem cell_cl {c : Cell} {a : Addr} (h : CellOk K mg θ H c a) : clC θ.length c := by
  cases c with
  | lst ds => obtain ⟨vs, _, h⟩ := h; exact reps_cl h
  | ro ds => obtain ⟨vs, o, _, h⟩ := h; exact reps_cl h
  | dk kvs => obtain ⟨us, _, h⟩ := h; exact reps_cl h.2
  | dt kvs => obtain ⟨us, _, h⟩ := h; exact reps_cl h.2
  | ins C fs => obtain ⟨Ca, dx, us, _, _, _, h⟩ := h; exact reps_cl h.2
theorem cell_take {c : Cell} {a : Addr} (h : CellOk K mg (θ ++ τ) H c a) (cl : clC θ.length c) : CellOk K mg θ H c a := by
  cases c with
  | lst ds => obtain ⟨vs, e, h⟩ := h; exact ⟨vs, e, reps_take h cl⟩
  | ro ds => obtain ⟨vs, o, e, h⟩ := h; exact ⟨vs, o, e, reps_take h cl⟩
  | dk kvs => obtain ⟨us, e, h⟩ := h; exact ⟨us, e, h.1, reps_take h.2 cl⟩
  | dt kvs => obtain ⟨us, e, h⟩ := h; exact ⟨us, e, h.1, reps_take h.2 cl⟩
  | ins C fs => obtain ⟨Ca, dx, us, e1, e2, e3, h⟩ := h; exact ⟨Ca, dx, us, e1, e2, e3, h.1, reps_take h.2 cl⟩
theorem HR.cl {L : LH} (h : HR K mg θ L H) : clL L.length L := fun c hc => by
  obtain ⟨n, hn, e⟩ := List.mem_iff_getElem.mp hc
  have hl : n < θ.length := by rw [h.len]; exact hn
  rw [← h.len]
  exact cell_cl (h.ok n c θ[n] (by rw [List.getElem?_eq_getElem hn, e]) (List.getElem?_eq_getElem hl))
theorem HR.drop {L G : LH} {θ' : List Addr} (h : HR K mg θ' (L ++ G) H) (cl : clL L.length L) : ∃ θ τ, θ' = θ ++ τ ∧ θ.length = L.length ∧ HR K mg θ L H := by
  have hlen := h.len
  rw [List.length_append] at hlen
  refine ⟨θ'.take L.length, θ'.drop L.length, (List.take_append_drop _ _).symm, by simp; omega, ?_⟩
  have e : θ' = θ'.take L.length ++ θ'.drop L.length := (List.take_append_drop _ _).symm
  have tl : (θ'.take L.length).length = L.length := by simp; omega
  refine ⟨tl, fun n c a hn ha => ?_, fun i j a c c' hi hj h1 h2 k1 k2 => ?_⟩
  · have hln : n < L.length := (List.getElem?_eq_some_iff.mp hn).1
    have ha' : θ'[n]? = some a := by rw [List.getElem?_take_of_lt hln] at ha; exact ha
    have := h.ok n c a (by rw [List.getElem?_append_left hln]; exact hn) ha'
    rw [e] at this
    exact cell_take this (by rw [tl]; exact cl c (List.mem_of_getElem? hn))
  · have l1 : i < L.length := (List.getElem?_eq_some_iff.mp h1).1
    have l2 : j < L.length := (List.getElem?_eq_some_iff.mp h2).1
    rw [List.getElem?_take_of_lt l1] at hi
    rw [List.getElem?_take_of_lt l2] at hj
    exact h.inj i j a c c' hi hj (by rw [List.getElem?_append_left l1]; exact h1) (by rw [List.getElem?_append_left l2]; exact h2) k1 k2
end
/-- the end of a body: what it leaves behind, and cells that no one sees -/
def drp (Q : Post) : Post := fun d L' => ∃ L0 G, L' = L0 ++ G ∧ clL L0.length L0 ∧ clD L0.length d ∧ Q d L0
theorem up_drp {K : PySem.W.Frag} {mg : Str → Option Value} {θ : List Addr} {L : LH} {H : Hp} {Q : Post} {Q' : VK} (u : Up K mg θ H Q Q') : ∀ v H' θ' d L', Ext K θ H θ' H' → HR K mg θ' L' H' → Rep K mg θ' H' d v → (∃ L0 G, L' = L0 ++ G ∧ L.length ≤ L0.length ∧ clL L0.length L0 ∧ clD L0.length d ∧ Q d L0) → L.length = θ.length → Q' v H' := by
  rintro v H' θ' d L' x hh r ⟨L0, G, rfl, hl, c1, c2, q⟩ hl2
  obtain ⟨θ0, τ, rfl, e, hh0⟩ := hh.drop c1
  obtain ⟨⟨υ, hυ, fr⟩, f1, f2, f3⟩ := x
  have hpre : ∃ υ', θ0 = θ ++ υ' ∧ ∀ b ∈ υ', H b = none := by
    have h1 : θ.length ≤ θ0.length := by omega
    have h2 : θ0 = θ ++ υ.take (θ0.length - θ.length) := by
      have := congrArg (List.take θ0.length) hυ
      rw [List.take_left', List.take_append] at this
      · rw [List.take_of_length_le h1] at this; exact this
      · rfl
    exact ⟨_, h2, fun b hb => fr b (List.mem_of_mem_take hb)⟩
  exact u v H' θ0 d L0 ⟨hpre, f1, f2, f3⟩ hh0 (rep_take r (by rw [e]; exact c2)) q
/-! ### a def -/
section
variable {P : Program} {w : World} {K : PySem.W.Frag} {mg : Str → Option Value} {base : Heap}
/-- what a caller is told of a def that stands behind the name x -/
structure FnT (P : Program) (w : World) (K : PySem.W.Frag) (mg : Str → Option Value) (base : Heap) (k : Nat) (x : Str) (n : Nat) (S : DSp) : Prop where
  ex : ∃ (CX : CXT) (j : Nat) (f : Addr) (fd : FuncData) (ps : List Str), j ≤ k ∧ FnOk P w K mg base CX j f fd ps (spOf K mg n S) ∧ mg x = some (.ref f) ∧ PySem.W.keepIn K (.ref f) = true ∧ Binds K fd ps [] ∧ CxGood P w CX
theorem FnT.at {k : Nat} {x : Str} {n : Nat} {S : DSp} (F : FnT P w K mg base k x n S) {X : Cx} (h1 : X.prog = P) (h2 : X.w = w) (h3 : X.K = K) (h4 : X.mg = mg) (h5 : X.base = base) (hr : Room k X.A) : FnAt X x n S := by
  subst h1 h2 h3 h4 h5
  obtain ⟨CX, j, f, fd, ps, hj, F, m, kp, b, g⟩ := F.ex
  exact ⟨CX, j, f, fd, ps, F, hr.mono hj, m, kp, b, g⟩
theorem FnT.up {k k' : Nat} {x : Str} {n : Nat} {S : DSp} (F : FnT P w K mg base k x n S) (h : k ≤ k') : FnT P w K mg base k' x n S := by
  obtain ⟨CX, j, f, fd, ps, hj, q⟩ := F.ex
  exact ⟨CX, j, f, fd, ps, Nat.le_trans hj h, q⟩
/-- nobody is called so -/
theorem FnT.imp {k : Nat} {x : Str} {n : Nat} {S S' : DSp} (F : FnT P w K mg base k x n S) (h : ∀ ds L Q E, S' ds L Q E → S ds L Q E) : FnT P w K mg base k x n S' := by
  obtain ⟨CX, j, f, fd, ps, hj, G, q⟩ := F.ex
  exact ⟨CX, j, f, fd, ps, hj, G.imp fun vs H Q E ⟨θ, ds, L, Q0, E0, a, b, c, d, e⟩ => ⟨θ, ds, L, Q0, E0, a, b, c, h _ _ _ _ d, e⟩, q⟩
theorem good0 : CxGood P w CX0 := fun _ _ _ _ _ _ _ _ _ _ _ _ h => False.elim h
/-- the state at the entry -/
def start0 (N : List Str) (ds : List D) : Rho := ds.map some ++ List.replicate (N.length - ds.length) none
def endsOf (n : Nat) (Q : Post) : DEnds where
  nx := fun _ L' => ∃ L0 G, L' = L0 ++ G ∧ n ≤ L0.length ∧ clL L0.length L0 ∧ Q .non L0
  rt := fun d L' => ∃ L0 G, L' = L0 ++ G ∧ n ≤ L0.length ∧ clL L0.length L0 ∧ clD L0.length d ∧ Q d L0
/-- THE RULE for a def whose text is m -/
theorem fn_ok {k : Nat} {x : Str} {params : Arguments} {body : List Stmt} {scope : Scope} {f : Addr} {fd : FuncData} {N ps : List Str} {c : SC} {m : SXs} {Γ : Nat → DSp} {S : DSp}
    (F : FunD K x x params body scope [] [] f fd) (FS : FnScope N ps scope) (hN : c.N = N) (hsc : c.sc = scope) (hchk : chkSs c m body = true)
    (hbl : ∀ y, c.bl.any (beqS y) = true → mg y = none) (hgl : ∀ y d, (y, d) ∈ c.gl → ∃ v u, mg y = some u ∧ RelV v u ∧ ∀ θ H, Rep K mg θ H d v)
    (tab : ∀ i y n, c.fns[i]? = some (y, n) → FnT P w K mg base k y n (Γ i))
    (math : ∀ ds L Q E, ds.length = ps.length → clL L.length L → clDs L.length ds → S ds L Q E → wSs Γ m (endsOf L.length Q) (start0 N ds) L) :
    FnOk P w K mg base CX0 (k + 1) f fd ps (spOf K mg ps.length S) := by
  subst hN hsc
  refine F.ok FS (fun vs H Q E h => ?_) (fun cdv A outer s H vs Q E hr h => ?_)
  · obtain ⟨θ, ds, L, Q0, E0, _, r, hl, _⟩ := h
    rw [← r.len, hl]
  · refine ⟨_, PSs.nox (sndSs (Γ := Γ) (W := NoW) m ?_ hchk), ?_⟩
    · exact
        { N := rfl, sc := rfl, nd := FS.nd, calm := rfl, hu := by have := hr.un; show (A.deeper _).units + 64 < cLine; omega, fnl := fun _ _ => rfl, tk := fun u s' ⟨_, _, _, _, _, _, _, _, _, _, _, _, _, _, _, _, w⟩ => w.elim,
          tab := fun i y n e => (tab i y n e).at rfl rfl rfl rfl rfl hr, bl := hbl, gl := hgl, kind := FS.kind, po := PassesOwn.never }
    · obtain ⟨θ, ds, L, Q0, E0, hh, r, hl, hS, u, ux⟩ := h
      have hlen := hh.len
      refine ⟨θ, start0 c.N ds, L, endsOf L.length Q0, ?_, hh, math ds L Q0 E0 hl hh.cl (by rw [← hlen]; exact reps_cl r) hS, ?_⟩
      · refine ⟨by simp [start0, L2.start, r.len], fun i d e => ?_⟩
        unfold start0 at e
        by_cases hi : i < ds.length
        · rw [List.getElem?_append_left (by simpa using hi)] at e
          rw [List.getElem?_map] at e
          cases q : ds[i]? with
          | none => rw [q] at e; cases e
          | some d' =>
            rw [q] at e
            cases e
            obtain ⟨v, hv, rv⟩ := r.get q
            refine ⟨v, ?_, rv⟩
            unfold L2.start
            rw [List.getElem?_append_left (by rw [List.length_map, ← r.len]; exact hi), List.getElem?_map, hv]; rfl
        · rw [List.getElem?_append_right (by simpa using hi)] at e
          rw [List.getElem?_replicate] at e
          split at e <;> cases e
      · refine ⟨fun θ' ρ' L' σ' H' x _ h1 ⟨L0, G, e, hl, c1, q⟩ => ?_, fun v H' θ' d L' x h1 rd q => up_drp (L := L) u v H' θ' d L' x h1 rd q hlen.symm, fun _ _ _ _ _ _ _ _ h => h.elim, fun _ _ _ _ _ _ _ _ h => h.elim, fun _ _ _ _ _ _ _ _ _ _ _ _ h => h.elim⟩
        exact up_drp (L := L) u .non H' θ' .non L' x h1 .non ⟨L0, G, e, hl, c1, by unfold clD; trivial, q⟩ hlen.symm
/-- .. told to callers -/
theorem fn_tell {k : Nat} {x : Str} {params : Arguments} {body : List Stmt} {scope : Scope} {f : Addr} {fd : FuncData} {ps : List Str} {S : DSp} (F : FunD K x x params body scope [] [] f fd)
    (G : FnOk P w K mg base CX0 k f fd ps (spOf K mg ps.length S)) (hm : mg x = some (.ref f))
    (hb : ∀ (kV doc pm : Value) (an : Option Addr) (cdv ct : Value) (us : List Value), us.length = ps.length → bindArgs (PySem.W.fnOf x x params body scope .none kV doc pm an cdv ct) ⟨us, []⟩ = pure (ps.zip us)) : FnT P w K mg base k x ps.length S :=
  ⟨CX0, k, f, fd, ps, Nat.le_refl _, G, hm, F.kp, F.bindsN hb, good0⟩
end
end Bw
end
section
set_option linter.all false
set_option maxRecDepth 100000
set_option maxHeartbeats 4000000
/-! rewriting rules for the readings of the small syntax -/
namespace Bw
open PySem L2
theorem atI_nat {α : Type} (xs : List α) (n : Nat) : atI xs (n : Int) = xs[n]? := by
  unfold atI ixN
  rw [if_pos (by omega)]
  by_cases h : n < xs.length
  · rw [if_pos (by omega)]; simp
  · rw [if_neg (by omega)]; simp; omega
theorem at_0 {α : Type} (xs : List α) : atI xs 0 = xs[0]? := atI_nat xs 0
theorem at_1 {α : Type} (xs : List α) : atI xs 1 = xs[1]? := atI_nat xs 1
theorem at_2 {α : Type} (xs : List α) : atI xs 2 = xs[2]? := atI_nat xs 2
theorem at_3 {α : Type} (xs : List α) : atI xs 3 = xs[3]? := atI_nat xs 3
theorem at_4 {α : Type} (xs : List α) : atI xs 4 = xs[4]? := atI_nat xs 4
theorem at_5 {α : Type} (xs : List α) : atI xs 5 = xs[5]? := atI_nat xs 5
theorem at_m1 {α : Type} (xs : List α) : atI xs (-1) = xs.getLast? := by
  unfold atI ixN
  rw [if_neg (by omega)]
  cases xs with
  | nil => simp
  | cons a r =>
    rw [if_pos (by simp; omega), List.getLast?_eq_getElem?]
    have : (-1 + ((a :: r).length : Int)).toNat = (a :: r).length - 1 := by simp only [List.length_cons]; omega
    rw [this]; rfl
theorem x_ix {ds : List D} {i : Int} {L : LH} {Q : Post} : pIx (.tup ds) (.int i) L Q ↔ ∃ x, atI ds i = some x ∧ Q x L := by
  unfold pIx
  constructor
  · rintro (⟨ds', i', x, h1, h2, h3, h4⟩ | ⟨z, i', c, h1, _⟩ | ⟨kvs, k, x, h1, _⟩)
    · cases h1; cases h2; exact ⟨x, h3, h4⟩
    · cases h1
    · cases h1
  · rintro ⟨x, h, q⟩; exact .inl ⟨ds, i, x, rfl, rfl, h, q⟩
theorem x_ixL {n : Nat} {ds : List D} {i : Int} {L : LH} {Q : Post} (hL : L[n]? = some (.lst ds)) : pIx (.loc n) (.int i) L Q ↔ ∃ x, atI ds i = some x ∧ Q x L := by
  unfold pIx sq sqL dkOf
  constructor
  · rintro (⟨ds', i', x, h1, h2, h3, h4⟩ | ⟨z, i', c, h1, _⟩ | ⟨kvs, k, x, h1, _⟩)
    · simp only [hL] at h1; cases h1; cases h2; exact ⟨x, h3, h4⟩
    · cases h1
    · simp only [hL] at h1; cases h1
  · rintro ⟨x, h, q⟩; exact .inl ⟨ds, i, x, by simp only [hL], rfl, h, q⟩
theorem x_len {ds : List D} {L : LH} {Q : Post} : pLen (.tup ds) L Q ↔ Q (.int ds.length) L := by
  unfold pLen
  constructor
  · rintro (⟨ds', h1, q⟩ | ⟨z, h1, _⟩ | ⟨kvs, h1, _⟩)
    · cases h1; exact q
    · cases h1
    · cases h1
  · intro q; exact .inl ⟨ds, rfl, q⟩
theorem x_lenL {n : Nat} {ds : List D} {L : LH} {Q : Post} (hL : L[n]? = some (.lst ds)) : pLen (.loc n) L Q ↔ Q (.int ds.length) L := by
  unfold pLen sq sqL dkOf
  constructor
  · rintro (⟨ds', h1, q⟩ | ⟨z, h1, _⟩ | ⟨kvs, h1, _⟩)
    · simp only [hL] at h1; cases h1; exact q
    · cases h1
    · simp only [hL] at h1; cases h1
  · intro q; exact .inl ⟨ds, by simp only [hL], q⟩
theorem pyTop_py {L : LH} {d : D} {p : PyData} (h : d.py = some p) : pyTop L d = some p := by
  unfold pyTop
  cases d <;> first | exact h | (simp [sqL]; exact h) | cases h
theorem x_eqP {neg : Bool} {d e : D} {p q : PyData} {L : LH} {Q : Post} (h1 : d.py = some p) (h2 : e.py = some q) (h3 : min p.depth q.depth ≤ 64) (h : Q (.bl (neg ^^ PyData.eqv p q)) L) : pEq neg d e L Q := .inl ⟨p, q, pyTop_py h1, pyTop_py h2, h3, h⟩
theorem dk_py {L : LH} {d : D} {p : PyData} (h : d.py = some p) : dkOf L d = none := by
  cases d <;> first | rfl | cases h
theorem x_eqI {neg : Bool} {d e : D} {p q : PyData} {L : LH} {Q : Post} (h1 : d.py = some p) (h2 : e.py = some q) (h3 : min p.depth q.depth ≤ 64) : pEq neg d e L Q ↔ Q (.bl (neg ^^ PyData.eqv p q)) L := by
  constructor
  · rintro (⟨p', q', e1, e2, _, h⟩ | ⟨ks, ls, b, e1, _⟩)
    · rw [pyTop_py h1] at e1; rw [pyTop_py h2] at e2; cases e1; cases e2; exact h
    · rw [dk_py h1] at e1; cases e1
  · exact x_eqP h1 h2 h3
theorem x_eqStr {neg : Bool} {a b : Str} {L : LH} {Q : Post} : pEq neg (.str a) (.str b) L Q ↔ Q (.bl (neg ^^ (a == b))) L := by
  rw [x_eqI (p := .str a) (q := .str b) rfl rfl (by simp [PyData.depth])]
  simp [PyData.eqv]
theorem x_eqInt {neg : Bool} {a b : Int} {L : LH} {Q : Post} : pEq neg (.int a) (.int b) L Q ↔ Q (.bl (neg ^^ (a == b))) L := by
  rw [x_eqI (p := .int a) (q := .int b) rfl rfl (by simp [PyData.depth])]
  simp [PyData.eqv]
theorem x_eqBl {neg : Bool} {a b : Bool} {L : LH} {Q : Post} : pEq neg (.bl a) (.bl b) L Q ↔ Q (.bl (neg ^^ (a == b))) L := by
  rw [x_eqI (p := .bool a) (q := .bool b) rfl rfl (by simp [PyData.depth])]
  simp [PyData.eqv]
theorem x_in {neg : Bool} {d : D} {ds : List D} {L : LH} {Q : Post} : pIn neg d (.tup ds) L Q ↔ flatD d = true ∧ ds.all flatD = true ∧ Q (.bl (neg ^^ inD d ds)) L := by
  unfold pIn
  constructor
  · rintro (⟨ds', h1, h2, h3, h4⟩ | ⟨kvs, k, h1, _⟩)
    · cases h1; exact ⟨h2, h3, h4⟩
    · cases h1
  · rintro ⟨a, b, c⟩; exact .inl ⟨ds, rfl, a, b, c⟩
theorem x_isi {T : String} {d : D} {t : String} {L : LH} {Q : Post} (hT : T ∈ ["bool", "int", "str", "tuple", "list", "dict"]) (ht : tyD L d = some t) : pIsi T d L Q ↔ Q (.bl (isTy t T)) L := by
  unfold pIsi
  rw [ht]
  constructor
  · rintro ⟨_, t', e, q⟩; cases e; exact q
  · intro q; exact ⟨hT, t, rfl, q⟩
theorem x_and {b : DE} {c : Bool} {ρ : Rho} {L : LH} {Q : Post} {E : XP} : (∃ c', D.bl c = .bl c' ∧ if c' = true then b ρ L Q E else Q (.bl false) L) ↔ if c = true then b ρ L Q E else Q (.bl false) L := by
  constructor
  · rintro ⟨_, e, q⟩; cases e; exact q
  · intro q; exact ⟨c, rfl, q⟩
theorem x_bl {c : Bool} {P : Bool → Prop} : (∃ c', D.bl c = .bl c' ∧ P c') ↔ P c := by
  constructor
  · rintro ⟨_, e, q⟩; cases e; exact q
  · intro q; exact ⟨c, rfl, q⟩
theorem x_some {d : D} {P : D → Prop} : (∃ d', (some (some d) : Option (Option D)) = some (some d') ∧ P d') ↔ P d := by
  constructor
  · rintro ⟨_, e, q⟩; cases e; exact q
  · intro q; exact ⟨d, rfl, q⟩
theorem x_some1 {d : D} {P : D → Prop} : (∃ d', (some d : Option D) = some d' ∧ P d') ↔ P d := by
  constructor
  · rintro ⟨_, e, q⟩; cases e; exact q
  · intro q; exact ⟨d, rfl, q⟩
theorem x_b2 {f : Int → Int → Bool} {i j : Int} {L : LH} {Q : Post} : pB2 f (.int i) (.int j) L Q ↔ Q (.bl (f i j)) L := Iff.rfl
theorem x_i2 {f : Int → Int → Int} {C : Int → Int → Prop} {i j : Int} {L : LH} {Q : Post} : pI2 f C (.int i) (.int j) L Q ↔ C i j ∧ Q (.int (f i j)) L := Iff.rfl
theorem x_mul {i j : Int} {L : LH} {Q : Post} : pMul (.int i) (.int j) L Q ↔ CMul i j ∧ Q (.int (i * j)) L := Iff.rfl
theorem x_addI {i j : Int} {L : LH} {Q : Post} : pAdd (.int i) (.int j) L Q ↔ Q (.int (i + j)) L := Iff.rfl
theorem x_addT {xs ys : List D} {L : LH} {Q : Post} : pAdd (.tup xs) (.tup ys) L Q ↔ xs.length + ys.length ≤ sizeLine ∧ Q (.tup (xs ++ ys)) L := Iff.rfl
theorem x_isN {a b : Bool} {L : LH} {Q : Post} : pIsN (.bl a) (.bl b) L Q ↔ Q (.bl (decide (a = b))) L := Iff.rfl
theorem x_int {i : Int} {L : LH} {Q : Post} : pInt (.int i) L Q ↔ Q (.int i) L := Iff.rfl
theorem x_abs {i : Int} {L : LH} {Q : Post} : pAbs (.int i) L Q ↔ Q (.int (if i < 0 then -i else i)) L := Iff.rfl
theorem x_neg {i : Int} {L : LH} {Q : Post} : pNeg (.int i) L Q ↔ Q (.int (-i)) L := Iff.rfl
end Bw
end
section
set_option linter.all false
set_option maxRecDepth 100000
set_option maxHeartbeats 4000000
namespace Bw
open PySem L2
/-- one turn of a comprehension -/
def stepC (g : DG) (c e : DE) (ρ0 : Rho) (d : D) (acc : List D) (L : LH) (K : List D → LH → Prop) : Prop :=
  g d ρ0 L fun ρ2 L2 => asT c ρ2 L2 (fun b L3 => if b = true then e ρ2 L3 (fun y L4 => acc.length < sizeLine ∧ K (acc ++ [y]) L4) NoX else K acc L3) NoX
theorem comp_inv {g : DG} {c e : DE} {ρ0 : Rho} {keep : LH → Prop} {Q : List D → LH → Prop} (I : Nat → List D → LH → Prop) (ds0 : List D) (hk : ∀ i acc L, I i acc L → keep L)
    (hs : ∀ i d acc L K, ds0[i]? = some d → I i acc L → (∀ acc' L', I (i + 1) acc' L' → K acc' L') → stepC g c e ρ0 d acc L K) (hq : ∀ acc L, I ds0.length acc L → Q acc L) :
    ∀ (ds : List D) (i : Nat) (acc : List D) (L : LH), ds0.drop i = ds → i ≤ ds0.length → I i acc L → compL g c e ρ0 keep ds acc L Q
  | [], i, acc, L, h, hi, iv => by
    have : i = ds0.length := by have := List.drop_eq_nil_iff.mp h; omega
    subst this
    exact ⟨hk _ _ _ iv, hq _ _ iv⟩
  | d :: ds, i, acc, L, h, hi, iv => by
    have hlt : i < ds0.length := by
      rcases Nat.lt_or_ge i ds0.length with z | z
      · exact z
      · rw [List.drop_eq_nil_iff.mpr z] at h; cases h
    rw [List.drop_eq_getElem_cons hlt] at h
    injection h with h1 h2
    subst h1
    refine ⟨hk _ _ _ iv, ?_⟩
    have := hs i ds0[i] acc L (fun acc' L' => compL g c e ρ0 keep ds acc' L' Q) (List.getElem?_eq_getElem hlt) iv fun acc' L' iv' => comp_inv I ds0 hk hs hq ds (i + 1) acc' L' h2 hlt iv'
    exact this
theorem comp_run {g : DG} {c e : DE} {ρ0 : Rho} {keep : LH → Prop} {Q : List D → LH → Prop} {L : LH} {ds : List D} (I : Nat → List D → LH → Prop) (h0 : I 0 [] L) (hk : ∀ i acc L, I i acc L → keep L)
    (hs : ∀ i d acc L K, ds[i]? = some d → I i acc L → (∀ acc' L', I (i + 1) acc' L' → K acc' L') → stepC g c e ρ0 d acc L K) (hq : ∀ acc L, I ds.length acc L → Q acc L) : compL g c e ρ0 keep ds [] L Q :=
  comp_inv I ds hk hs hq ds 0 [] L rfl (Nat.zero_le _) h0
/-- a comprehension that changes nothing -/
theorem comp_pure {g : DG} {c e : DE} {ρ0 : Rho} {keep : LH → Prop} {Q : List D → LH → Prop} {L : LH} {ds : List D} (t : D → Bool) (f : D → D) (hk : keep L) (hz : ds.length ≤ sizeLine)
    (hs : ∀ d ∈ ds, ∀ acc K, acc.length < sizeLine → (if t d = true then K (acc ++ [f d]) L else K acc L) → stepC g c e ρ0 d acc L K) (hq : Q ((ds.filter t).map f) L) : compL g c e ρ0 keep ds [] L Q := by
  refine comp_run (fun i acc L' => L' = L ∧ acc = ((ds.take i).filter t).map f) ⟨rfl, rfl⟩ (fun i acc L' h => h.1 ▸ hk) (fun i d acc L' K hd h hK => ?_) fun acc L' h => ?_
  · obtain ⟨rfl, rfl⟩ := h
    have hi : i < ds.length := (List.getElem?_eq_some_iff.mp hd).1
    refine hs d (List.mem_of_getElem? hd) _ K ?_ ?_
    · rw [List.length_map]
      have h1 := List.length_filter_le t (ds.take i)
      rw [List.length_take] at h1
      omega
    · have e : (ds.take (i + 1)) = ds.take i ++ [d] := by rw [List.take_add_one, hd]; rfl
      split
      · rename_i ht
        exact hK _ _ ⟨rfl, by rw [e, List.filter_append, List.map_append]; simp [List.filter_cons, ht]⟩
      · rename_i ht
        exact hK _ _ ⟨rfl, by rw [e, List.filter_append, List.map_append]; simp [List.filter_cons, ht]⟩
  · obtain ⟨rfl, rfl⟩ := h
    rw [List.take_length]; exact hq
theorem for_inv {g : DG} {b : DS} {keep : LH → Prop} {D : DEnds} (I : Nat → Rho → LH → Prop) (ds0 : List Bw.D) (hk : ∀ i ρ L, I i ρ L → keep L)
    (hs : ∀ i d ρ L K, ds0[i]? = some d → I i ρ L → (∀ ρ' L', I (i + 1) ρ' L' → K ρ' L') → g d ρ L fun ρ1 L1 => b { D with nx := K, ct := K, bk := D.nx } ρ1 L1) (hq : ∀ ρ L, I ds0.length ρ L → D.nx ρ L) :
    ∀ (ds : List Bw.D) (i : Nat) (ρ : Rho) (L : LH), ds0.drop i = ds → i ≤ ds0.length → I i ρ L → forL g b keep ds D ρ L
  | [], i, ρ, L, h, hi, iv => by
    have : i = ds0.length := by have := List.drop_eq_nil_iff.mp h; omega
    subst this
    exact ⟨hk _ _ _ iv, hq _ _ iv⟩
  | d :: ds, i, ρ, L, h, hi, iv => by
    have hlt : i < ds0.length := by
      rcases Nat.lt_or_ge i ds0.length with z | z
      · exact z
      · rw [List.drop_eq_nil_iff.mpr z] at h; cases h
    rw [List.drop_eq_getElem_cons hlt] at h
    injection h with h1 h2
    subst h1
    refine ⟨hk _ _ _ iv, ?_⟩
    exact hs i ds0[i] ρ L (forL g b keep ds D) (List.getElem?_eq_getElem hlt) iv fun ρ' L' iv' => for_inv I ds0 hk hs hq ds (i + 1) ρ' L' h2 hlt iv'
theorem for_run {g : DG} {b : DS} {keep : LH → Prop} {D : DEnds} {ρ : Rho} {L : LH} {ds : List Bw.D} (I : Nat → Rho → LH → Prop) (h0 : I 0 ρ L) (hk : ∀ i ρ L, I i ρ L → keep L)
    (hs : ∀ i d ρ L K, ds[i]? = some d → I i ρ L → (∀ ρ' L', I (i + 1) ρ' L' → K ρ' L') → g d ρ L fun ρ1 L1 => b { D with nx := K, ct := K, bk := D.nx } ρ1 L1) (hq : ∀ ρ L, I ds.length ρ L → D.nx ρ L) : forL g b keep ds D ρ L :=
  for_inv I ds hk hs hq ds 0 ρ L rfl (Nat.zero_le _) h0
/-- the cell at the end -/
theorem cell_last {L : LH} {c : Cell} : (L ++ [c])[L.length]? = some c := by simp
theorem set_last {L : LH} {c c' : Cell} : (L ++ [c]).set L.length c' = L ++ [c'] := by simp
theorem set_last2 {L : LH} {a c c' : Cell} : (L ++ [a, c]).set (L.length + 1) c' = L ++ [a, c'] := by simp
theorem set_last1 {L : LH} {a c c' : Cell} : (L ++ [a, c]).set L.length c' = L ++ [c', c] := by simp
theorem cell_last2 {L : LH} {a c : Cell} : (L ++ [a, c])[L.length + 1]? = some c := by simp
theorem cell_last1 {L : LH} {a c : Cell} : (L ++ [a, c])[L.length]? = some a := by simp
theorem x_pop {n : Nat} {ds : List D} {y : D} {L : LH} {Q : Post} (hL : L[n]? = some (.lst (ds ++ [y]))) (q : Q y (L.set n (.lst ds))) : mPop (.loc n) [] L Q :=
  ⟨n, ds ++ [y], y, rfl, hL, .inl ⟨rfl, by simp, by simpa using q⟩⟩
theorem x_ext {n : Nat} {ds es : List D} {L : LH} {Q : Post} (hL : L[n]? = some (.lst ds)) (hz : ds.length + es.length ≤ sizeLine) (q : Q .non (L.set n (.lst (ds ++ es)))) : mExtend (.loc n) [.tup es] L Q :=
  ⟨n, ds, .tup es, es, rfl, rfl, hL, .inl rfl, hz, q⟩
theorem x_extl {n : Nat} {ds es : List D} {L : LH} {Q : Post} (hL : L[n]? = some (.lst ds)) (hz : ds.length + es.length ≤ sizeLine) (q : Q .non (L.set n (.lst (ds ++ es)))) : mlExtend (.loc n) es L Q :=
  ⟨n, ds, rfl, hL, hz, q⟩
theorem x_app {n : Nat} {ds : List D} {x : D} {L : LH} {Q : Post} (hL : L[n]? = some (.lst ds)) (hz : ds.length < sizeLine) (q : Q .non (L.set n (.lst (ds ++ [x])))) : mAppend (.loc n) [x] L Q :=
  ⟨n, ds, x, rfl, rfl, hL, hz, q⟩
end Bw
end
section
set_option linter.all false
set_option maxRecDepth 100000
set_option maxHeartbeats 4000000
namespace K01
open PySem PySem.Spec L2 Bw
abbrev top (i : Nat) : Stmt := PySem.Challenge.pw_barewords_k01_whole_kinds.main.body.getD i (.Pass ⟨0, 0, 0, 0⟩)
/-! #### is_integer -/
abbrev s_is_integer : Stmt := top 5
def n_is_integer : List Str := ["thing"]
def p_is_integer : List Str := ["thing"]
def m_is_integer : SXs := (.cons (.ret (.bop true (.cons (.isi "int" (.var 0)) (.cons (.not (.isi "bool" (.var 0))) .nil))))
  .nil)
def c_is_integer : SC := { N := n_is_integer, sc := defScope s_is_integer, fns := [], bl := ["isinstance", "bool", "int"], gl := [], stc := fun _ => true }
theorem k_is_integer : chkSs c_is_integer m_is_integer (defBody s_is_integer) = true := by decide +kernel
theorem f_is_integer : FnScope n_is_integer p_is_integer (defScope s_is_integer) := ⟨rfl, rfl, rfl, by decide +kernel, rfl, by decide +kernel, by decide +kernel⟩
/-! #### is_sized -/
abbrev s_is_sized : Stmt := top 6
def n_is_sized : List Str := ["thing", "least", "most"]
def p_is_sized : List Str := ["thing", "least", "most"]
def m_is_sized : SXs := (.cons (.ret (.bop true (.cons (.isi "tuple" (.var 0)) (.cons (.chn .le .le (.var 1) (.fn .len (.var 0)) (.var 2)) .nil))))
  .nil)
def c_is_sized : SC := { N := n_is_sized, sc := defScope s_is_sized, fns := [], bl := ["len", "isinstance", "tuple"], gl := [], stc := fun _ => true }
theorem k_is_sized : chkSs c_is_sized m_is_sized (defBody s_is_sized) = true := by decide +kernel
theorem f_is_sized : FnScope n_is_sized p_is_sized (defScope s_is_sized) := ⟨rfl, rfl, rfl, by decide +kernel, rfl, by decide +kernel, by decide +kernel⟩
/-! #### inner_of -/
abbrev s_inner_of : Stmt := top 8
def n_inner_of : List Str := ["kind", "head"]
def p_inner_of : List Str := ["kind"]
def m_inner_of : SXs := (.cons (.set 1 (.ix (.var 0) (.cst (.int 0))))
  (.cons (.ife (.cmp .eq (.var 1) (.cst (.str "row")))
  (.cons (.ret (.ix (.var 0) (.cst (.int 1))))
  .nil)
  .nil)
  (.cons (.ife (.cmp .eq (.var 1) (.cst (.str "data")))
  (.cons (.ret (.ix (.var 0) (.cst (.int 2))))
  .nil)
  .nil)
  (.cons (.ife (.cmp .eq (.var 1) (.cst (.str "fun")))
  (.cons (.ret (.bin .add (.ix (.var 0) (.cst (.int 1))) (.tup (.cons (.ix (.var 0) (.cst (.int 2))) .nil))))
  .nil)
  .nil)
  (.cons (.ret (.ite (.cmp .eq (.var 1) (.cst (.str "box"))) (.tup (.cons (.ix (.var 0) (.cst (.int 1))) .nil)) (.tup .nil)))
  .nil)))))
def c_inner_of : SC := { N := n_inner_of, sc := defScope s_inner_of, fns := [], bl := [], gl := [], stc := fun _ => true }
theorem k_inner_of : chkSs c_inner_of m_inner_of (defBody s_inner_of) = true := by decide +kernel
theorem f_inner_of : FnScope n_inner_of p_inner_of (defScope s_inner_of) := ⟨rfl, rfl, rfl, by decide +kernel, rfl, by decide +kernel, by decide +kernel⟩
/-! #### with_inner -/
abbrev s_with_inner : Stmt := top 9
def n_with_inner : List Str := ["kind", "inner", "head"]
def p_with_inner : List Str := ["kind", "inner"]
def m_with_inner : SXs := (.cons (.set 2 (.ix (.var 0) (.cst (.int 0))))
  (.cons (.ife (.cmp .eq (.var 2) (.cst (.str "row")))
  (.cons (.ret (.tup (.cons (.cst (.str "row")) (.cons (.var 1) .nil))))
  .nil)
  .nil)
  (.cons (.ife (.cmp .eq (.var 2) (.cst (.str "data")))
  (.cons (.ret (.tup (.cons (.cst (.str "data")) (.cons (.ix (.var 0) (.cst (.int 1))) (.cons (.var 1) .nil)))))
  .nil)
  .nil)
  (.cons (.ife (.cmp .eq (.var 2) (.cst (.str "fun")))
  (.cons (.ret (.tup (.cons (.cst (.str "fun")) (.cons (.slc (.var 1) .no (.so (.neg (.cst (.int 1))))) (.cons (.ix (.var 1) (.neg (.cst (.int 1)))) .nil)))))
  .nil)
  .nil)
  (.cons (.ret (.ite (.cmp .eq (.var 2) (.cst (.str "box"))) (.tup (.cons (.cst (.str "box")) (.cons (.ix (.var 1) (.cst (.int 0))) .nil))) (.var 0)))
  .nil)))))
def c_with_inner : SC := { N := n_with_inner, sc := defScope s_with_inner, fns := [], bl := [], gl := [], stc := fun _ => true }
theorem k_with_inner : chkSs c_with_inner m_with_inner (defBody s_with_inner) = true := by decide +kernel
theorem f_with_inner : FnScope n_with_inner p_with_inner (defScope s_with_inner) := ⟨rfl, rfl, rfl, by decide +kernel, rfl, by decide +kernel, by decide +kernel⟩
/-! #### has_form -/
abbrev s_has_form : Stmt := top 10
def n_has_form : List Str := ["thing", "head"]
def p_has_form : List Str := ["thing"]
def m_has_form : SXs := (.cons (.ife (.bop false (.cons (.not (.isi "tuple" (.var 0))) (.cons (.cmp .eq (.fn .len (.var 0)) (.cst (.int 0))) (.cons (.not (.isi "str" (.ix (.var 0) (.cst (.int 0))))) .nil))))
  (.cons (.ret (.cst (.bl false)))
  .nil)
  .nil)
  (.cons (.set 1 (.ix (.var 0) (.cst (.int 0))))
  (.cons (.ife (.cmp .inn (.var 1) (.tup (.cons (.cst (.str "num")) (.cons (.cst (.str "nil")) .nil))))
  (.cons (.ret (.cmp .eq (.fn .len (.var 0)) (.cst (.int 1))))
  .nil)
  .nil)
  (.cons (.ife (.cmp .eq (.var 1) (.cst (.str "row")))
  (.cons (.ret (.bop true (.cons (.cmp .eq (.fn .len (.var 0)) (.cst (.int 2))) (.cons (.call 1 3 (.cons (.ix (.var 0) (.cst (.int 1))) (.cons (.cst (.int 1)) (.cons (.cst (.int 4)) .nil)))) .nil))))
  .nil)
  .nil)
  (.cons (.ife (.cmp .eq (.var 1) (.cst (.str "data")))
  (.cons (.ret (.bop true (.cons (.cmp .eq (.fn .len (.var 0)) (.cst (.int 3))) (.cons (.call 0 1 (.cons (.ix (.var 0) (.cst (.int 1))) .nil)) (.cons (.cmp .ge (.ix (.var 0) (.cst (.int 1))) (.cst (.int 0))) (.cons (.isi "tuple" (.ix (.var 0) (.cst (.int 2)))) .nil))))))
  .nil)
  .nil)
  (.cons (.ife (.cmp .eq (.var 1) (.cst (.str "fun")))
  (.cons (.ret (.bop true (.cons (.cmp .eq (.fn .len (.var 0)) (.cst (.int 3))) (.cons (.call 1 3 (.cons (.ix (.var 0) (.cst (.int 1))) (.cons (.cst (.int 1)) (.cons (.cst (.int 3)) .nil)))) .nil))))
  .nil)
  .nil)
  (.cons (.ife (.cmp .eq (.var 1) (.cst (.str "letter")))
  (.cons (.ret (.bop true (.cons (.cmp .eq (.fn .len (.var 0)) (.cst (.int 2))) (.cons (.call 0 1 (.cons (.ix (.var 0) (.cst (.int 1))) .nil)) (.cons (.cmp .ge (.ix (.var 0) (.cst (.int 1))) (.cst (.int 0))) .nil)))))
  .nil)
  .nil)
  (.cons (.ret (.bop true (.cons (.cmp .eq (.var 1) (.cst (.str "box"))) (.cons (.cmp .eq (.fn .len (.var 0)) (.cst (.int 2))) .nil))))
  .nil))))))))
def c_has_form : SC := { N := n_has_form, sc := defScope s_has_form, fns := [("is_integer", 1), ("is_sized", 3)], bl := ["len", "isinstance", "tuple", "str"], gl := [], stc := fun _ => true }
theorem k_has_form : chkSs c_has_form m_has_form (defBody s_has_form) = true := by decide +kernel
theorem f_has_form : FnScope n_has_form p_has_form (defScope s_has_form) := ⟨rfl, rfl, rfl, by decide +kernel, rfl, by decide +kernel, by decide +kernel⟩
/-! #### is_kind -/
abbrev s_is_kind : Stmt := top 11
def n_is_kind : List Str := ["thing", "waiting", "here"]
def p_is_kind : List Str := ["thing"]
def m_is_kind : SXs := (.cons (.set 1 (.lst (.cons (.var 0) .nil)))
  (.cons (.whl (.cmp .gt (.fn .len (.var 1)) (.cst (.int 0)))
  (.cons (.set 2 (.mth .pop (.var 1) .nil))
  (.cons (.ife (.not (.call 1 1 (.cons (.var 2) .nil)))
  (.cons (.ret (.cst (.bl false)))
  .nil)
  .nil)
  (.cons (.exp (.mth .extend (.var 1) (.cons (.call 0 1 (.cons (.var 2) .nil)) .nil)))
  .nil))))
  (.cons (.ret (.cst (.bl true)))
  .nil)))
def c_is_kind : SC := { N := n_is_kind, sc := defScope s_is_kind, fns := [("inner_of", 1), ("has_form", 1)], bl := ["len"], gl := [], stc := fun _ => true }
theorem k_is_kind : chkSs c_is_kind m_is_kind (defBody s_is_kind) = true := by decide +kernel
theorem f_is_kind : FnScope n_is_kind p_is_kind (defScope s_is_kind) := ⟨rfl, rfl, rfl, by decide +kernel, rfl, by decide +kernel, by decide +kernel⟩
/-! #### check_kind -/
abbrev s_check_kind : Stmt := top 12
def n_check_kind : List Str := ["thing"]
def p_check_kind : List Str := ["thing"]
def m_check_kind : SXs := (.cons (.ife (.not (.call 0 1 (.cons (.var 0) .nil)))
  (.cons .nev
  .nil)
  .nil)
  .nil)
def c_check_kind : SC := { N := n_check_kind, sc := defScope s_check_kind, fns := [("is_kind", 1)], bl := [], gl := [], stc := fun _ => true }
theorem k_check_kind : chkSs c_check_kind m_check_kind (defBody s_check_kind) = true := by decide +kernel
theorem f_check_kind : FnScope n_check_kind p_check_kind (defScope s_check_kind) := ⟨rfl, rfl, rfl, by decide +kernel, rfl, by decide +kernel, by decide +kernel⟩
/-! #### all_in -/
abbrev s_all_in : Stmt := top 13
def n_all_in : List Str := ["kind", "found", "waiting", "here"]
def p_all_in : List Str := ["kind"]
def m_all_in : SXs := (.cons (.set 1 (.lst .nil))
  (.cons (.set 2 (.lst (.cons (.var 0) .nil)))
  (.cons (.whl (.cmp .gt (.fn .len (.var 2)) (.cst (.int 0)))
  (.cons (.set 3 (.mth .pop (.var 2) .nil))
  (.cons (.exp (.mth .append (.var 1) (.cons (.var 3) .nil)))
  (.cons (.exp (.mth .extend (.var 2) (.cons (.call 0 1 (.cons (.var 3) .nil)) .nil)))
  .nil))))
  (.cons (.ret (.var 1))
  .nil))))
def c_all_in : SC := { N := n_all_in, sc := defScope s_all_in, fns := [("inner_of", 1)], bl := ["len"], gl := [], stc := fun _ => true }
theorem k_all_in : chkSs c_all_in m_all_in (defBody s_all_in) = true := by decide +kernel
theorem f_all_in : FnScope n_all_in p_all_in (defScope s_all_in) := ⟨rfl, rfl, rfl, by decide +kernel, rfl, by decide +kernel, by decide +kernel⟩
/-! #### letters_of -/
abbrev s_letters_of : Stmt := top 14
def n_letters_of : List Str := ["kind", "here"]
def p_letters_of : List Str := ["kind"]
def m_letters_of : SXs := (.cons (.ret (.fl .tuple (.srt (.comp (.one 1) (.ix (.var 1) (.cst (.int 1))) (.sq (.call 0 1 (.cons (.var 0) .nil))) (.so (.cmp .eq (.ix (.var 1) (.cst (.int 0))) (.cst (.str "letter")))) [("here", 1)]))))
  .nil)
def c_letters_of : SC := { N := n_letters_of, sc := defScope s_letters_of, fns := [("all_in", 1)], bl := ["sorted", "set", "tuple"], gl := [], stc := fun _ => true }
theorem k_letters_of : chkSs c_letters_of m_letters_of (defBody s_letters_of) = true := by decide +kernel
theorem f_letters_of : FnScope n_letters_of p_letters_of (defScope s_letters_of) := ⟨rfl, rfl, rfl, by decide +kernel, rfl, by decide +kernel, by decide +kernel⟩
/-! #### letters_in -/
abbrev s_letters_in : Stmt := top 15
def n_letters_in : List Str := ["kind"]
def p_letters_in : List Str := ["kind"]
def m_letters_in : SXs := (.cons (.exp (.call 1 1 (.cons (.var 0) .nil)))
  (.cons (.ret (.call 0 1 (.cons (.var 0) .nil)))
  .nil))
def c_letters_in : SC := { N := n_letters_in, sc := defScope s_letters_in, fns := [("letters_of", 1), ("check_kind", 1)], bl := [], gl := [], stc := fun _ => true }
theorem k_letters_in : chkSs c_letters_in m_letters_in (defBody s_letters_in) = true := by decide +kernel
theorem f_letters_in : FnScope n_letters_in p_letters_in (defScope s_letters_in) := ⟨rfl, rfl, rfl, by decide +kernel, rfl, by decide +kernel, by decide +kernel⟩
/-! #### is_closed -/
abbrev s_is_closed : Stmt := top 16
def n_is_closed : List Str := ["kind"]
def p_is_closed : List Str := ["kind"]
def m_is_closed : SXs := (.cons (.ret (.cmp .eq (.fn .len (.call 0 1 (.cons (.var 0) .nil))) (.cst (.int 0))))
  .nil)
def c_is_closed : SC := { N := n_is_closed, sc := defScope s_is_closed, fns := [("letters_of", 1)], bl := ["len"], gl := [], stc := fun _ => true }
theorem k_is_closed : chkSs c_is_closed m_is_closed (defBody s_is_closed) = true := by decide +kernel
theorem f_is_closed : FnScope n_is_closed p_is_closed (defScope s_is_closed) := ⟨rfl, rfl, rfl, by decide +kernel, rfl, by decide +kernel, by decide +kernel⟩
/-! #### raw_filled -/
abbrev s_raw_filled : Stmt := top 17
def n_raw_filled : List Str := ["kind", "kinds", "here"]
def p_raw_filled : List Str := ["kind", "kinds"]
def m_raw_filled : SXs := (.cons (.ife (.cmp .eq (.ix (.var 0) (.cst (.int 0))) (.cst (.str "letter")))
  (.cons (.ret (.ix (.var 1) (.ix (.var 0) (.cst (.int 1)))))
  .nil)
  .nil)
  (.cons (.ret (.call 0 2 (.cons (.var 0) (.cons (.fl .tuple (.comp (.one 2) (.call 1 2 (.cons (.var 2) (.cons (.var 1) .nil))) (.sq (.call 2 1 (.cons (.var 0) .nil))) .no [("here", 2)])) .nil))))
  .nil))
def c_raw_filled : SC := { N := n_raw_filled, sc := defScope s_raw_filled, fns := [("with_inner", 2), ("raw_filled", 2), ("inner_of", 1)], bl := ["tuple"], gl := [], stc := fun _ => true }
theorem k_raw_filled : chkSs c_raw_filled m_raw_filled (defBody s_raw_filled) = true := by decide +kernel
theorem f_raw_filled : FnScope n_raw_filled p_raw_filled (defScope s_raw_filled) := ⟨rfl, rfl, rfl, by decide +kernel, rfl, by decide +kernel, by decide +kernel⟩
/-! #### filled -/
abbrev s_filled : Stmt := top 18
def n_filled : List Str := ["kind", "kinds", "letter", "item"]
def p_filled : List Str := ["kind", "kinds"]
def m_filled : SXs := (.cons (.exp (.call 3 1 (.cons (.var 0) .nil)))
  (.cons (.ife (.bop false (.cons (.not (.isi "tuple" (.var 1))) (.cons (.not (.fl .all (.comp (.one 3) (.call 2 1 (.cons (.var 3) .nil)) (.sq (.var 1)) .no [("item", 3)]))) .nil)))
  (.cons .nev
  .nil)
  .nil)
  (.cons (.ife (.fl .any (.comp (.one 2) (.cmp .ge (.var 2) (.fn .len (.var 1))) (.sq (.call 1 1 (.cons (.var 0) .nil))) .no [("letter", 2)]))
  (.cons .nev
  .nil)
  .nil)
  (.cons (.ret (.call 0 2 (.cons (.var 0) (.cons (.var 1) .nil))))
  .nil))))
def c_filled : SC := { N := n_filled, sc := defScope s_filled, fns := [("raw_filled", 2), ("letters_of", 1), ("is_kind", 1), ("check_kind", 1)], bl := ["len", "any", "all", "isinstance", "tuple"], gl := [], stc := fun _ => true }
theorem k_filled : chkSs c_filled m_filled (defBody s_filled) = true := by decide +kernel
theorem f_filled : FnScope n_filled p_filled (defScope s_filled) := ⟨rfl, rfl, rfl, by decide +kernel, rfl, by decide +kernel, by decide +kernel⟩
/-! #### is_like -/
abbrev s_is_like : Stmt := top 19
def n_is_like : List Str := ["kind", "other"]
def p_is_like : List Str := ["kind", "other"]
def m_is_like : SXs := (.cons (.ife (.bop false (.cons (.cmp .ne (.ix (.var 0) (.cst (.int 0))) (.ix (.var 1) (.cst (.int 0)))) (.cons (.cmp .ne (.fn .len (.call 0 1 (.cons (.var 0) .nil))) (.fn .len (.call 0 1 (.cons (.var 1) .nil)))) .nil)))
  (.cons (.ret (.cst (.bl false)))
  .nil)
  .nil)
  (.cons (.ret (.bop false (.cons (.cmp .ne (.ix (.var 0) (.cst (.int 0))) (.cst (.str "data"))) (.cons (.cmp .eq (.ix (.var 0) (.cst (.int 1))) (.ix (.var 1) (.cst (.int 1)))) .nil))))
  .nil))
def c_is_like : SC := { N := n_is_like, sc := defScope s_is_like, fns := [("inner_of", 1)], bl := ["len"], gl := [], stc := fun _ => true }
theorem k_is_like : chkSs c_is_like m_is_like (defBody s_is_like) = true := by decide +kernel
theorem f_is_like : FnScope n_is_like p_is_like (defScope s_is_like) := ⟨rfl, rfl, rfl, by decide +kernel, rfl, by decide +kernel, by decide +kernel⟩
/-! #### matched -/
abbrev s_matched : Stmt := top 20
def n_matched : List Str := ["kind", "closed", "found", "waiting", "here", "there"]
def p_matched : List Str := ["kind", "closed"]
def m_matched : SXs := (.cons (.exp (.call 4 1 (.cons (.var 0) .nil)))
  (.cons (.ife (.bop false (.cons (.not (.call 3 1 (.cons (.var 1) .nil))) (.cons (.not (.call 2 1 (.cons (.var 1) .nil))) .nil)))
  (.cons .nev
  .nil)
  .nil)
  (.cons (.set 2 .dnew)
  (.cons (.set 3 (.lst (.cons (.tup (.cons (.var 0) (.cons (.var 1) .nil))) .nil)))
  (.cons (.whl (.cmp .gt (.fn .len (.var 3)) (.cst (.int 0)))
  (.cons (.unp [4, 5] (.mth .pop (.var 3) .nil))
  (.cons (.ife (.cmp .eq (.ix (.var 4) (.cst (.int 0))) (.cst (.str "letter")))
  (.cons (.ife (.cmp .ne (.dsd (.var 2) (.ix (.var 4) (.cst (.int 1))) (.var 5)) (.var 5))
  (.cons (.ret (.cst .non))
  .nil)
  .nil)
  .nil)
  (.cons (.ife (.not (.call 0 2 (.cons (.var 4) (.cons (.var 5) .nil))))
  (.cons (.ret (.cst .non))
  .nil)
  (.cons (.exp (.mthl (.var 3) (.zipl (.call 1 1 (.cons (.var 4) .nil)) (.call 1 1 (.cons (.var 5) .nil)))))
  .nil))
  .nil))
  .nil)))
  (.cons (.ret (.var 2))
  .nil))))))
def c_matched : SC := { N := n_matched, sc := defScope s_matched, fns := [("is_like", 2), ("inner_of", 1), ("is_closed", 1), ("is_kind", 1), ("check_kind", 1)], bl := ["len", "list", "zip"], gl := [], stc := fun _ => true }
theorem k_matched : chkSs c_matched m_matched (defBody s_matched) = true := by decide +kernel
theorem f_matched : FnScope n_matched p_matched (defScope s_matched) := ⟨rfl, rfl, rfl, by decide +kernel, rfl, by decide +kernel, by decide +kernel⟩
/-! #### _law_bag -/
abbrev s__law_bag : Stmt := top 22
def n__law_bag : List Str := ["_law_script", "_law_seed", "_law_cell", "_law_great", "_law_always"]
def p__law_bag : List Str := ["_law_script"]
def m__law_bag : SXs := (.cons (.set 1 (.bin .add (.cst (.int 29)) (.fn .len (.var 0))))
  (.cons (.for (.one 2) (.lx (.slc (.var 0) .no (.so (.cst (.int 63)))))
  (.cons (.set 1 (.bin .mod (.fn .int (.bin .add (.bin .add (.bin .mul (.var 1) (.cst (.int 69621))) (.bin .mod (.fn .int (.var 2)) (.cst (.int 1000003)))) (.cst (.int 7)))) (.cst (.int 2147483647))))
  .nil))
  (.cons (.setc 3 (.comp (.one 2) (.fn .abs (.fn .int (.var 2))) (.lx (.slc (.var 0) .no (.so (.cst (.int 63))))) (.so (.cmp .ge (.fn .abs (.fn .int (.var 2))) (.bin .pow (.cst (.int 10)) (.cst (.int 18))))) [("_law_cell", 2)]))
  (.cons (.set 4 (.cst .non))
  (.cons (.ife (.bop true (.cons (.cmp .lt (.fn .len (.var 0)) (.cst (.int 2))) (.cons (.cmp .eq (.fn .len (.var 3)) (.cst (.int 0))) .nil)))
  (.cons (.set 4 (.fn .abs (.fl .sum (.comp (.one 2) (.fn .int (.var 2)) (.sq (.var 0)) .no [("_law_cell", 2)]))))
  .nil)
  .nil)
  (.cons (.ret (.lst (.cons (.var 1) (.cons (.cst (.int 1)) (.cons (.var 3) (.cons (.var 4) .nil))))))
  .nil))))))
def c__law_bag : SC := { N := n__law_bag, sc := defScope s__law_bag, fns := [], bl := ["len", "abs", "int", "sum"], gl := [], stc := fun _ => true }
theorem k__law_bag : chkSs c__law_bag m__law_bag (defBody s__law_bag) = true := by decide +kernel
theorem f__law_bag : FnScope n__law_bag p__law_bag (defScope s__law_bag) := ⟨rfl, rfl, rfl, by decide +kernel, rfl, by decide +kernel, by decide +kernel⟩
/-! #### _law_pick -/
abbrev s__law_pick : Stmt := top 23
def n__law_pick : List Str := ["_law_bag_here", "_law_many", "_law_great", "_law_number", "_law_digit"]
def p__law_pick : List Str := ["_law_bag_here", "_law_many"]
def m__law_pick : SXs := (.cons (.ife (.cmp .isn (.ix (.var 0) (.cst (.int 3))) (.cst .non))
  (.cons (.ret (.bin .mod (.fn .int (.ix (.var 0) (.cst (.int 3)))) (.var 1)))
  .nil)
  .nil)
  (.cons (.sub (.var 0) (.cst (.int 1)) (.bin .add (.ix (.var 0) (.cst (.int 1))) (.cst (.int 1))))
  (.cons (.set 2 (.ix (.var 0) (.cst (.int 2))))
  (.cons (.ife (.cmp .gt (.fn .len (.var 2)) (.cst (.int 0)))
  (.cons (.set 4 (.bin .mod (.fn .int (.ix (.var 2) (.cst (.int 0)))) (.var 1)))
  (.cons (.sub (.var 2) (.cst (.int 0)) (.bin .fdiv (.fn .int (.ix (.var 2) (.cst (.int 0)))) (.var 1)))
  (.cons (.ife (.cmp .eq (.ix (.var 2) (.cst (.int 0))) (.cst (.int 0)))
  (.cons (.exp (.mth .pop (.var 2) (.cons (.cst (.int 0)) .nil)))
  .nil)
  .nil)
  (.cons (.ret (.var 4))
  .nil))))
  .nil)
  (.cons (.set 3 (.bin .mod (.fn .int (.bin .mul (.bin .add (.ix (.var 0) (.cst (.int 0))) (.bin .mul (.cst (.int 7919)) (.ix (.var 0) (.cst (.int 1))))) (.cst (.int 48271)))) (.cst (.int 2147483647))))
  (.cons (.set 3 (.bin .mod (.fn .int (.bin .mul (.var 3) (.bin .add (.bin .fdiv (.var 3) (.cst (.int 1009))) (.cst (.int 69621))))) (.cst (.int 2147483647))))
  (.cons (.set 3 (.bin .mod (.fn .int (.bin .mul (.var 3) (.bin .add (.bin .fdiv (.var 3) (.cst (.int 2003))) (.cst (.int 40692))))) (.cst (.int 2147483399))))
  (.cons (.ret (.bin .mod (.fn .int (.bin .fdiv (.var 3) (.cst (.int 16)))) (.var 1)))
  .nil))))))))
def c__law_pick : SC := { N := n__law_pick, sc := defScope s__law_pick, fns := [], bl := ["int", "len"], gl := [], stc := fun _ => true }
theorem k__law_pick : chkSs c__law_pick m__law_pick (defBody s__law_pick) = true := by decide +kernel
theorem f__law_pick : FnScope n__law_pick p__law_pick (defScope s__law_pick) := ⟨rfl, rfl, rfl, by decide +kernel, rfl, by decide +kernel, by decide +kernel⟩
/-! #### _law_some -/
abbrev s__law_some : Stmt := top 24
def n__law_some : List Str := ["_law_bag_here", "_law_things"]
def p__law_some : List Str := ["_law_bag_here", "_law_things"]
def m__law_some : SXs := (.cons (.ret (.ix (.var 1) (.call 0 2 (.cons (.var 0) (.cons (.fn .len (.var 1)) .nil)))))
  .nil)
def c__law_some : SC := { N := n__law_some, sc := defScope s__law_some, fns := [("_law_pick", 2)], bl := ["len"], gl := [], stc := fun _ => true }
theorem k__law_some : chkSs c__law_some m__law_some (defBody s__law_some) = true := by decide +kernel
theorem f__law_some : FnScope n__law_some p__law_some (defScope s__law_some) := ⟨rfl, rfl, rfl, by decide +kernel, rfl, by decide +kernel, by decide +kernel⟩
/-! #### _law_inner -/
abbrev s__law_inner : Stmt := top 25
def n__law_inner : List Str := ["_law_kind"]
def p__law_inner : List Str := ["_law_kind"]
def m__law_inner : SXs := (.cons (.ife (.cmp .eq (.ix (.var 0) (.cst (.int 0))) (.cst (.str "row")))
  (.cons (.ret (.ix (.var 0) (.cst (.int 1))))
  .nil)
  .nil)
  (.cons (.ife (.cmp .eq (.ix (.var 0) (.cst (.int 0))) (.cst (.str "data")))
  (.cons (.ret (.ix (.var 0) (.cst (.int 2))))
  .nil)
  .nil)
  (.cons (.ife (.cmp .eq (.ix (.var 0) (.cst (.int 0))) (.cst (.str "fun")))
  (.cons (.ret (.bin .add (.ix (.var 0) (.cst (.int 1))) (.tup (.cons (.ix (.var 0) (.cst (.int 2))) .nil))))
  .nil)
  .nil)
  (.cons (.ret (.ite (.cmp .eq (.ix (.var 0) (.cst (.int 0))) (.cst (.str "box"))) (.tup (.cons (.ix (.var 0) (.cst (.int 1))) .nil)) (.tup .nil)))
  .nil))))
def c__law_inner : SC := { N := n__law_inner, sc := defScope s__law_inner, fns := [], bl := [], gl := [], stc := fun _ => true }
theorem k__law_inner : chkSs c__law_inner m__law_inner (defBody s__law_inner) = true := by decide +kernel
theorem f__law_inner : FnScope n__law_inner p__law_inner (defScope s__law_inner) := ⟨rfl, rfl, rfl, by decide +kernel, rfl, by decide +kernel, by decide +kernel⟩
/-! #### _law_put -/
abbrev s__law_put : Stmt := top 26
def n__law_put : List Str := ["_law_kind", "_law_kinds", "_law_inner_here", "_law_item"]
def p__law_put : List Str := ["_law_kind", "_law_kinds"]
def m__law_put : SXs := (.cons (.ife (.cmp .eq (.ix (.var 0) (.cst (.int 0))) (.cst (.str "letter")))
  (.cons (.ret (.ix (.var 1) (.ix (.var 0) (.cst (.int 1)))))
  .nil)
  .nil)
  (.cons (.set 2 (.fl .tuple (.comp (.one 3) (.call 0 2 (.cons (.var 3) (.cons (.var 1) .nil))) (.sq (.call 1 1 (.cons (.var 0) .nil))) .no [("_law_item", 3)])))
  (.cons (.ife (.cmp .eq (.ix (.var 0) (.cst (.int 0))) (.cst (.str "row")))
  (.cons (.ret (.tup (.cons (.cst (.str "row")) (.cons (.var 2) .nil))))
  .nil)
  .nil)
  (.cons (.ife (.cmp .eq (.ix (.var 0) (.cst (.int 0))) (.cst (.str "data")))
  (.cons (.ret (.tup (.cons (.cst (.str "data")) (.cons (.ix (.var 0) (.cst (.int 1))) (.cons (.var 2) .nil)))))
  .nil)
  .nil)
  (.cons (.ife (.cmp .eq (.ix (.var 0) (.cst (.int 0))) (.cst (.str "fun")))
  (.cons (.ret (.tup (.cons (.cst (.str "fun")) (.cons (.slc (.var 2) .no (.so (.neg (.cst (.int 1))))) (.cons (.ix (.var 2) (.neg (.cst (.int 1)))) .nil)))))
  .nil)
  .nil)
  (.cons (.ret (.ite (.cmp .eq (.ix (.var 0) (.cst (.int 0))) (.cst (.str "box"))) (.tup (.cons (.cst (.str "box")) (.cons (.ix (.var 2) (.cst (.int 0))) .nil))) (.var 0)))
  .nil))))))
def c__law_put : SC := { N := n__law_put, sc := defScope s__law_put, fns := [("_law_put", 2), ("_law_inner", 1)], bl := ["tuple"], gl := [], stc := fun _ => true }
theorem k__law_put : chkSs c__law_put m__law_put (defBody s__law_put) = true := by decide +kernel
theorem f__law_put : FnScope n__law_put p__law_put (defScope s__law_put) := ⟨rfl, rfl, rfl, by decide +kernel, rfl, by decide +kernel, by decide +kernel⟩
/-! #### _law_is_int -/
abbrev s__law_is_int : Stmt := top 27
def n__law_is_int : List Str := ["_law_thing"]
def p__law_is_int : List Str := ["_law_thing"]
def m__law_is_int : SXs := (.cons (.ret (.bop true (.cons (.isi "int" (.var 0)) (.cons (.not (.isi "bool" (.var 0))) .nil))))
  .nil)
def c__law_is_int : SC := { N := n__law_is_int, sc := defScope s__law_is_int, fns := [], bl := ["isinstance", "bool", "int"], gl := [], stc := fun _ => true }
theorem k__law_is_int : chkSs c__law_is_int m__law_is_int (defBody s__law_is_int) = true := by decide +kernel
theorem f__law_is_int : FnScope n__law_is_int p__law_is_int (defScope s__law_is_int) := ⟨rfl, rfl, rfl, by decide +kernel, rfl, by decide +kernel, by decide +kernel⟩
/-! #### _law_is_flag -/
abbrev s__law_is_flag : Stmt := top 28
def n__law_is_flag : List Str := ["_law_thing", "_law_due"]
def p__law_is_flag : List Str := ["_law_thing", "_law_due"]
def m__law_is_flag : SXs := (.cons (.ret (.bop true (.cons (.isi "bool" (.var 0)) (.cons (.cmp .eq (.var 0) (.var 1)) .nil))))
  .nil)
def c__law_is_flag : SC := { N := n__law_is_flag, sc := defScope s__law_is_flag, fns := [], bl := ["isinstance", "bool"], gl := [], stc := fun _ => true }
theorem k__law_is_flag : chkSs c__law_is_flag m__law_is_flag (defBody s__law_is_flag) = true := by decide +kernel
theorem f__law_is_flag : FnScope n__law_is_flag p__law_is_flag (defScope s__law_is_flag) := ⟨rfl, rfl, rfl, by decide +kernel, rfl, by decide +kernel, by decide +kernel⟩
/-! #### _law_is -/
abbrev s__law_is : Stmt := top 29
def n__law_is : List Str := ["_law_thing", "_law_due", "_law_one", "_law_other"]
def p__law_is : List Str := ["_law_thing", "_law_due"]
def m__law_is : SXs := (.cons (.ife (.isiT ["tuple", "list"] (.var 1))
  (.cons (.ife (.bop false (.cons (.cmp .ne (.isi "tuple" (.var 0)) (.isi "tuple" (.var 1))) (.cons (.cmp .ne (.isi "list" (.var 0)) (.isi "list" (.var 1))) .nil)))
  (.cons (.ret (.cst (.bl false)))
  .nil)
  .nil)
  (.cons (.ret (.bop true (.cons (.cmp .eq (.fn .len (.var 0)) (.fn .len (.var 1))) (.cons (.fl .all (.comp (.many [2, 3]) (.call 0 2 (.cons (.var 2) (.cons (.var 3) .nil))) (.zip (.var 0) (.var 1)) .no [("_law_one", 2), ("_law_other", 3)])) .nil))))
  .nil))
  .nil)
  (.cons (.ret (.bop true (.cons (.cmp .eq (.isi "bool" (.var 0)) (.isi "bool" (.var 1))) (.cons (.cmp .eq (.var 0) (.var 1)) .nil))))
  .nil))
def c__law_is : SC := { N := n__law_is, sc := defScope s__law_is, fns := [("_law_is", 2)], bl := ["isinstance", "bool", "tuple", "list", "zip", "all", "len"], gl := [], stc := fun _ => true }
theorem k__law_is : chkSs c__law_is m__law_is (defBody s__law_is) = true := by decide +kernel
theorem f__law_is : FnScope n__law_is p__law_is (defScope s__law_is) := ⟨rfl, rfl, rfl, by decide +kernel, rfl, by decide +kernel, by decide +kernel⟩
/-! #### _law_deep -/
abbrev s__law_deep : Stmt := top 30
def n__law_deep : List Str := ["_law_thing", "_law_turn"]
def p__law_deep : List Str := []
def m__law_deep : SXs := (.cons (.set 0 (.tup .nil))
  (.cons (.for (.one 1) (.rng1 (.cst (.int 40)))
  (.cons (.set 0 (.tup (.cons (.var 0) .nil)))
  .nil))
  (.cons (.ret (.var 0))
  .nil)))
def c__law_deep : SC := { N := n__law_deep, sc := defScope s__law_deep, fns := [], bl := ["range"], gl := [], stc := fun _ => true }
theorem k__law_deep : chkSs c__law_deep m__law_deep (defBody s__law_deep) = true := by decide +kernel
theorem f__law_deep : FnScope n__law_deep p__law_deep (defScope s__law_deep) := ⟨rfl, rfl, rfl, by decide +kernel, rfl, by decide +kernel, by decide +kernel⟩
/-! #### _law_has_form -/
abbrev s__law_has_form : Stmt := top 31
def n__law_has_form : List Str := ["_law_thing"]
def p__law_has_form : List Str := ["_law_thing"]
def m__law_has_form : SXs := (.cons (.ife (.bop false (.cons (.not (.isi "tuple" (.var 0))) (.cons (.cmp .eq (.fn .len (.var 0)) (.cst (.int 0))) (.cons (.not (.isi "str" (.ix (.var 0) (.cst (.int 0))))) .nil))))
  (.cons (.ret (.cst (.bl false)))
  .nil)
  .nil)
  (.cons (.ife (.cmp .inn (.ix (.var 0) (.cst (.int 0))) (.lst (.cons (.cst (.str "num")) (.cons (.cst (.str "nil")) .nil))))
  (.cons (.ret (.cmp .eq (.fn .len (.var 0)) (.cst (.int 1))))
  .nil)
  .nil)
  (.cons (.ife (.cmp .eq (.ix (.var 0) (.cst (.int 0))) (.cst (.str "row")))
  (.cons (.ret (.bop true (.cons (.cmp .eq (.fn .len (.var 0)) (.cst (.int 2))) (.cons (.isi "tuple" (.ix (.var 0) (.cst (.int 1)))) (.cons (.chn .lt .lt (.cst (.int 0)) (.fn .len (.ix (.var 0) (.cst (.int 1)))) (.cst (.int 5))) .nil)))))
  .nil)
  .nil)
  (.cons (.ife (.cmp .eq (.ix (.var 0) (.cst (.int 0))) (.cst (.str "data")))
  (.cons (.ret (.bop true (.cons (.cmp .eq (.fn .len (.var 0)) (.cst (.int 3))) (.cons (.call 0 1 (.cons (.ix (.var 0) (.cst (.int 1))) .nil)) (.cons (.cmp .ge (.ix (.var 0) (.cst (.int 1))) (.cst (.int 0))) (.cons (.isi "tuple" (.ix (.var 0) (.cst (.int 2)))) .nil))))))
  .nil)
  .nil)
  (.cons (.ife (.cmp .eq (.ix (.var 0) (.cst (.int 0))) (.cst (.str "fun")))
  (.cons (.ret (.bop true (.cons (.cmp .eq (.fn .len (.var 0)) (.cst (.int 3))) (.cons (.isi "tuple" (.ix (.var 0) (.cst (.int 1)))) (.cons (.chn .lt .lt (.cst (.int 0)) (.fn .len (.ix (.var 0) (.cst (.int 1)))) (.cst (.int 4))) .nil)))))
  .nil)
  .nil)
  (.cons (.ife (.cmp .eq (.ix (.var 0) (.cst (.int 0))) (.cst (.str "letter")))
  (.cons (.ret (.bop true (.cons (.cmp .eq (.fn .len (.var 0)) (.cst (.int 2))) (.cons (.call 0 1 (.cons (.ix (.var 0) (.cst (.int 1))) .nil)) (.cons (.cmp .ge (.ix (.var 0) (.cst (.int 1))) (.cst (.int 0))) .nil)))))
  .nil)
  .nil)
  (.cons (.ret (.bop true (.cons (.cmp .eq (.ix (.var 0) (.cst (.int 0))) (.cst (.str "box"))) (.cons (.cmp .eq (.fn .len (.var 0)) (.cst (.int 2))) .nil))))
  .nil)))))))
def c__law_has_form : SC := { N := n__law_has_form, sc := defScope s__law_has_form, fns := [("_law_is_int", 1)], bl := ["len", "isinstance", "tuple", "str"], gl := [], stc := fun _ => true }
theorem k__law_has_form : chkSs c__law_has_form m__law_has_form (defBody s__law_has_form) = true := by decide +kernel
theorem f__law_has_form : FnScope n__law_has_form p__law_has_form (defScope s__law_has_form) := ⟨rfl, rfl, rfl, by decide +kernel, rfl, by decide +kernel, by decide +kernel⟩
/-! #### _law_is_kind -/
abbrev s__law_is_kind : Stmt := top 32
def n__law_is_kind : List Str := ["_law_thing", "_law_waiting", "_law_here"]
def p__law_is_kind : List Str := ["_law_thing"]
def m__law_is_kind : SXs := (.cons (.set 1 (.lst (.cons (.var 0) .nil)))
  (.cons (.whl (.cmp .gt (.fn .len (.var 1)) (.cst (.int 0)))
  (.cons (.set 2 (.mth .pop (.var 1) .nil))
  (.cons (.ife (.not (.call 1 1 (.cons (.var 2) .nil)))
  (.cons (.ret (.cst (.bl false)))
  .nil)
  .nil)
  (.cons (.exp (.mthl (.var 1) (.listOf (.call 0 1 (.cons (.var 2) .nil)))))
  .nil))))
  (.cons (.ret (.cst (.bl true)))
  .nil)))
def c__law_is_kind : SC := { N := n__law_is_kind, sc := defScope s__law_is_kind, fns := [("_law_inner", 1), ("_law_has_form", 1)], bl := ["len", "list"], gl := [], stc := fun _ => true }
theorem k__law_is_kind : chkSs c__law_is_kind m__law_is_kind (defBody s__law_is_kind) = true := by decide +kernel
theorem f__law_is_kind : FnScope n__law_is_kind p__law_is_kind (defScope s__law_is_kind) := ⟨rfl, rfl, rfl, by decide +kernel, rfl, by decide +kernel, by decide +kernel⟩
/-! #### _law_all_in -/
abbrev s__law_all_in : Stmt := top 33
def n__law_all_in : List Str := ["_law_kind", "_law_found", "_law_at"]
def p__law_all_in : List Str := ["_law_kind"]
def m__law_all_in : SXs := (.cons (.set 1 (.lst (.cons (.var 0) .nil)))
  (.cons (.set 2 (.cst (.int 0)))
  (.cons (.whl (.cmp .lt (.var 2) (.fn .len (.var 1)))
  (.cons (.exp (.mthl (.var 1) (.listOf (.call 0 1 (.cons (.ix (.var 1) (.var 2)) .nil)))))
  (.cons (.set 2 (.bin .add (.var 2) (.cst (.int 1))))
  .nil)))
  (.cons (.ret (.var 1))
  .nil))))
def c__law_all_in : SC := { N := n__law_all_in, sc := defScope s__law_all_in, fns := [("_law_inner", 1)], bl := ["len", "list"], gl := [], stc := fun _ => true }
theorem k__law_all_in : chkSs c__law_all_in m__law_all_in (defBody s__law_all_in) = true := by decide +kernel
theorem f__law_all_in : FnScope n__law_all_in p__law_all_in (defScope s__law_all_in) := ⟨rfl, rfl, rfl, by decide +kernel, rfl, by decide +kernel, by decide +kernel⟩
/-! #### _law_letters -/
abbrev s__law_letters : Stmt := top 34
def n__law_letters : List Str := ["_law_kind", "_law_here"]
def p__law_letters : List Str := ["_law_kind"]
def m__law_letters : SXs := (.cons (.ret (.fl .tuple (.srt (.comp (.one 1) (.ix (.var 1) (.cst (.int 1))) (.sq (.call 0 1 (.cons (.var 0) .nil))) (.so (.cmp .eq (.ix (.var 1) (.cst (.int 0))) (.cst (.str "letter")))) [("_law_here", 1)]))))
  .nil)
def c__law_letters : SC := { N := n__law_letters, sc := defScope s__law_letters, fns := [("_law_all_in", 1)], bl := ["sorted", "set", "tuple"], gl := [], stc := fun _ => true }
theorem k__law_letters : chkSs c__law_letters m__law_letters (defBody s__law_letters) = true := by decide +kernel
theorem f__law_letters : FnScope n__law_letters p__law_letters (defScope s__law_letters) := ⟨rfl, rfl, rfl, by decide +kernel, rfl, by decide +kernel, by decide +kernel⟩
/-! #### _law_any_kind -/
abbrev s__law_any_kind : Stmt := top 35
def n__law_any_kind : List Str := ["_law_bag_here", "_law_deep_here", "_law_letters_here", "_law_word", "_law_inner_here", "_law_turn"]
def p__law_any_kind : List Str := ["_law_bag_here", "_law_deep_here", "_law_letters_here"]
def m__law_any_kind : SXs := (.cons (.set 3 (.call 2 2 (.cons (.var 0) (.cons (.lst (.cons (.cst (.str "num")) (.cons (.cst (.str "nil")) (.cons (.cst (.str "letter")) (.cons (.cst (.str "row")) (.cons (.cst (.str "data")) (.cons (.cst (.str "fun")) (.cons (.cst (.str "box")) (.cons (.cst (.str "row")) (.cons (.cst (.str "box")) .nil)))))))))) .nil))))
  (.cons (.ife (.bop true (.cons (.cmp .eq (.var 3) (.cst (.str "letter"))) (.cons (.cmp .gt (.var 2) (.cst (.int 0))) .nil)))
  (.cons (.ret (.tup (.cons (.cst (.str "letter")) (.cons (.call 1 2 (.cons (.var 0) (.cons (.var 2) .nil))) .nil))))
  .nil)
  .nil)
  (.cons (.ife (.bop false (.cons (.cmp .lt (.var 1) (.cst (.int 2))) (.cons (.cmp .inn (.var 3) (.lst (.cons (.cst (.str "num")) (.cons (.cst (.str "nil")) (.cons (.cst (.str "letter")) .nil))))) .nil)))
  (.cons (.ret (.ite (.cmp .eq (.var 3) (.cst (.str "nil"))) (.tup (.cons (.cst (.str "nil")) .nil)) (.tup (.cons (.cst (.str "num")) .nil))))
  .nil)
  .nil)
  (.cons (.ife (.cmp .eq (.var 3) (.cst (.str "row")))
  (.cons (.ret (.tup (.cons (.cst (.str "row")) (.cons (.fl .tuple (.comp (.one 5) (.call 0 3 (.cons (.var 0) (.cons (.bin .sub (.var 1) (.cst (.int 1))) (.cons (.var 2) .nil)))) (.rng1 (.bin .add (.cst (.int 1)) (.call 1 2 (.cons (.var 0) (.cons (.cst (.int 3)) .nil))))) .no [("_law_turn", 5)])) .nil))))
  .nil)
  .nil)
  (.cons (.ife (.cmp .eq (.var 3) (.cst (.str "data")))
  (.cons (.set 4 (.fl .tuple (.comp (.one 5) (.call 0 3 (.cons (.var 0) (.cons (.bin .sub (.var 1) (.cst (.int 1))) (.cons (.var 2) .nil)))) (.rng1 (.call 1 2 (.cons (.var 0) (.cons (.cst (.int 3)) .nil)))) .no [("_law_turn", 5)])))
  (.cons (.ret (.tup (.cons (.cst (.str "data")) (.cons (.call 1 2 (.cons (.var 0) (.cons (.cst (.int 7)) .nil))) (.cons (.var 4) .nil)))))
  .nil))
  .nil)
  (.cons (.ife (.cmp .eq (.var 3) (.cst (.str "fun")))
  (.cons (.set 4 (.fl .tuple (.comp (.one 5) (.call 0 3 (.cons (.var 0) (.cons (.bin .sub (.var 1) (.cst (.int 1))) (.cons (.var 2) .nil)))) (.rng1 (.bin .add (.cst (.int 1)) (.call 1 2 (.cons (.var 0) (.cons (.cst (.int 2)) .nil))))) .no [("_law_turn", 5)])))
  (.cons (.ret (.tup (.cons (.cst (.str "fun")) (.cons (.var 4) (.cons (.call 0 3 (.cons (.var 0) (.cons (.bin .sub (.var 1) (.cst (.int 1))) (.cons (.var 2) .nil)))) .nil)))))
  .nil))
  .nil)
  (.cons (.ret (.tup (.cons (.cst (.str "box")) (.cons (.call 0 3 (.cons (.var 0) (.cons (.bin .sub (.var 1) (.cst (.int 1))) (.cons (.var 2) .nil)))) .nil))))
  .nil)))))))
def c__law_any_kind : SC := { N := n__law_any_kind, sc := defScope s__law_any_kind, fns := [("_law_any_kind", 3), ("_law_pick", 2), ("_law_some", 2)], bl := ["range", "tuple"], gl := [], stc := fun _ => true }
theorem k__law_any_kind : chkSs c__law_any_kind m__law_any_kind (defBody s__law_any_kind) = true := by decide +kernel
theorem f__law_any_kind : FnScope n__law_any_kind p__law_any_kind (defScope s__law_any_kind) := ⟨rfl, rfl, rfl, by decide +kernel, rfl, by decide +kernel, by decide +kernel⟩
/-! #### _law_changed -/
abbrev s__law_changed : Stmt := top 36
def n__law_changed : List Str := ["_law_bag_here", "_law_thing", "_law_odd_here", "_law_deep_here", "_law_at", "_law_way"]
def p__law_changed : List Str := ["_law_bag_here", "_law_thing", "_law_odd_here", "_law_deep_here"]
def m__law_changed : SXs := (.cons (.ife (.bop false (.cons (.not (.isi "tuple" (.var 1))) (.cons (.cmp .eq (.fn .len (.var 1)) (.cst (.int 0))) (.cons (.cmp .eq (.var 3) (.cst (.int 0))) (.cons (.cmp .eq (.call 1 2 (.cons (.var 0) (.cons (.cst (.int 5)) .nil))) (.cst (.int 0))) .nil)))))
  (.cons (.ret (.var 2))
  .nil)
  .nil)
  (.cons (.set 4 (.call 1 2 (.cons (.var 0) (.cons (.fn .len (.var 1)) .nil))))
  (.cons (.set 5 (.call 1 2 (.cons (.var 0) (.cons (.cst (.int 12)) .nil))))
  (.cons (.ife (.cmp .eq (.var 5) (.cst (.int 0)))
  (.cons (.ret (.bin .add (.slc (.var 1) .no (.so (.var 4))) (.slc (.var 1) (.so (.bin .add (.var 4) (.cst (.int 1)))) .no)))
  .nil)
  .nil)
  (.cons (.ife (.cmp .eq (.var 5) (.cst (.int 1)))
  (.cons (.ret (.bin .add (.bin .add (.slc (.var 1) .no (.so (.var 4))) (.slc (.var 1) (.so (.var 4)) (.so (.bin .add (.var 4) (.cst (.int 1)))))) (.slc (.var 1) (.so (.var 4)) .no)))
  .nil)
  .nil)
  (.cons (.ret (.bin .add (.bin .add (.slc (.var 1) .no (.so (.var 4))) (.tup (.cons (.call 0 4 (.cons (.var 0) (.cons (.ix (.var 1) (.var 4)) (.cons (.var 2) (.cons (.bin .sub (.var 3) (.cst (.int 1))) .nil))))) .nil))) (.slc (.var 1) (.so (.bin .add (.var 4) (.cst (.int 1)))) .no)))
  .nil))))))
def c__law_changed : SC := { N := n__law_changed, sc := defScope s__law_changed, fns := [("_law_changed", 4), ("_law_pick", 2)], bl := ["len", "isinstance", "tuple"], gl := [], stc := fun _ => true }
theorem k__law_changed : chkSs c__law_changed m__law_changed (defBody s__law_changed) = true := by decide +kernel
theorem f__law_changed : FnScope n__law_changed p__law_changed (defScope s__law_changed) := ⟨rfl, rfl, rfl, by decide +kernel, rfl, by decide +kernel, by decide +kernel⟩
/-! #### _law_goes_with -/
abbrev s__law_goes_with : Stmt := top 37
def n__law_goes_with : List Str := ["_law_kind", "_law_closed", "_law_found", "_law_one", "_law_other", "_law_item", "_law_there"]
def p__law_goes_with : List Str := ["_law_kind", "_law_closed", "_law_found"]
def m__law_goes_with : SXs := (.cons (.ife (.cmp .eq (.ix (.var 0) (.cst (.int 0))) (.cst (.str "letter")))
  (.cons (.ife (.cmp .inn (.ix (.var 0) (.cst (.int 1))) (.var 2))
  (.cons (.ret (.cmp .eq (.ix (.var 2) (.ix (.var 0) (.cst (.int 1)))) (.var 1)))
  .nil)
  .nil)
  (.cons (.sub (.var 2) (.ix (.var 0) (.cst (.int 1))) (.var 1))
  (.cons (.ret (.cst (.bl true)))
  .nil)))
  .nil)
  (.cons (.par 3 4 (.call 1 1 (.cons (.var 0) .nil)) (.call 1 1 (.cons (.var 1) .nil)))
  (.cons (.ife (.bop false (.cons (.cmp .ne (.ix (.var 0) (.cst (.int 0))) (.ix (.var 1) (.cst (.int 0)))) (.cons (.cmp .ne (.fn .len (.var 3)) (.fn .len (.var 4))) (.cons (.bop true (.cons (.cmp .eq (.ix (.var 0) (.cst (.int 0))) (.cst (.str "data"))) (.cons (.cmp .ne (.ix (.var 0) (.cst (.int 1))) (.ix (.var 1) (.cst (.int 1)))) .nil))) .nil))))
  (.cons (.ret (.cst (.bl false)))
  .nil)
  .nil)
  (.cons (.ret (.fl .all (.comp (.many [5, 6]) (.call 0 3 (.cons (.var 5) (.cons (.var 6) (.cons (.var 2) .nil)))) (.zip (.var 3) (.var 4)) .no [("_law_item", 5), ("_law_there", 6)])))
  .nil))))
def c__law_goes_with : SC := { N := n__law_goes_with, sc := defScope s__law_goes_with, fns := [("_law_goes_with", 3), ("_law_inner", 1)], bl := ["zip", "all", "len"], gl := [], stc := fun _ => true }
theorem k__law_goes_with : chkSs c__law_goes_with m__law_goes_with (defBody s__law_goes_with) = true := by decide +kernel
theorem f__law_goes_with : FnScope n__law_goes_with p__law_goes_with (defScope s__law_goes_with) := ⟨rfl, rfl, rfl, by decide +kernel, rfl, by decide +kernel, by decide +kernel⟩
/-! #### _law_odd -/
abbrev s__law_odd : Stmt := top 38
def n__law_odd : List Str := ["_law_bag_here", "_law_odd_here"]
def p__law_odd : List Str := ["_law_bag_here"]
def m__law_odd : SXs := (.cons (.set 1 (.lst (.cons (.cst .non) (.cons (.cst (.str "num")) (.cons (.tup (.cons (.cst (.str "num")) (.cons (.cst (.int 0)) .nil))) (.cons (.lst (.cons (.cst (.str "num")) .nil)) (.cons (.tup (.cons (.cst (.str "row")) (.cons (.tup .nil) .nil))) (.cons (.tup (.cons (.cst (.str "row")) (.cons (.bin .mul (.tup (.cons (.tup (.cons (.cst (.str "num")) .nil)) .nil)) (.cst (.int 5))) .nil))) (.cons (.tup (.cons (.cst (.str "row")) (.cons (.lst (.cons (.tup (.cons (.cst (.str "num")) .nil)) .nil)) .nil))) (.cons (.tup (.cons (.cst (.str "row")) .nil)) .nil))))))))))
  (.cons (.set 1 (.bin .add (.var 1) (.lst (.cons (.tup (.cons (.cst (.str "data")) (.cons (.neg (.cst (.int 1))) (.cons (.tup .nil) .nil)))) (.cons (.tup (.cons (.cst (.str "data")) (.cons (.cst (.bl true)) (.cons (.tup .nil) .nil)))) (.cons (.tup (.cons (.cst (.str "data")) (.cons (.cst (.int 0)) (.cons (.lst (.cons (.tup (.cons (.cst (.str "nil")) .nil)) .nil)) .nil)))) (.cons (.tup (.cons (.cst (.str "data")) (.cons (.cst (.int 0)) .nil))) (.cons (.tup (.cons (.cst (.str "fun")) (.cons (.tup .nil) (.cons (.tup (.cons (.cst (.str "num")) .nil)) .nil)))) .nil))))))))
  (.cons (.set 1 (.bin .add (.var 1) (.lst (.cons (.tup (.cons (.cst (.str "fun")) (.cons (.bin .mul (.tup (.cons (.tup (.cons (.cst (.str "num")) .nil)) .nil)) (.cst (.int 4))) (.cons (.tup (.cons (.cst (.str "num")) .nil)) .nil)))) (.cons (.tup (.cons (.cst (.str "fun")) (.cons (.tup (.cons (.cst (.str "num")) .nil)) (.cons (.tup (.cons (.cst (.str "num")) .nil)) .nil)))) (.cons (.tup (.cons (.cst (.str "box")) .nil)) (.cons (.tup (.cons (.cst (.str "box")) (.cons (.tup (.cons (.cst (.str "num")) .nil)) (.cons (.tup (.cons (.cst (.str "num")) .nil)) .nil)))) .nil)))))))
  (.cons (.set 1 (.bin .add (.var 1) (.lst (.cons (.tup (.cons (.cst (.str "letter")) (.cons (.neg (.cst (.int 1))) .nil))) (.cons (.tup (.cons (.cst (.str "letter")) (.cons (.cst (.bl true)) .nil))) (.cons (.tup (.cons (.cst (.str "letter")) .nil)) (.cons (.tup (.cons (.cst (.str "thing")) .nil)) (.cons (.tup .nil) (.cons (.cst (.int 0)) (.cons (.cst (.bl true)) (.cons .dnew (.cons (.call 1 0 .nil) (.cons (.tup (.cons (.cst (.str "nil")) .nil)) .nil)))))))))))))
  (.cons (.set 1 (.bin .add (.var 1) (.lst (.cons (.tup (.cons (.cst (.str "letter")) (.cons (.cst (.int 2)) .nil))) (.cons (.tup (.cons (.cst (.str "row")) (.cons (.tup (.cons (.tup (.cons (.cst (.str "nil")) .nil)) .nil)) .nil))) (.cons (.tup (.cons (.cst (.str "box")) (.cons (.tup (.cons (.cst (.str "letter")) (.cons (.cst (.int 0)) .nil))) .nil))) (.cons (.tup (.cons (.cst (.str "data")) (.cons (.bin .pow (.cst (.int 10)) (.cst (.int 30))) (.cons (.tup .nil) .nil)))) .nil)))))))
  (.cons (.ret (.call 0 2 (.cons (.var 0) (.cons (.var 1) .nil))))
  .nil))))))
def c__law_odd : SC := { N := n__law_odd, sc := defScope s__law_odd, fns := [("_law_some", 2), ("_law_deep", 0)], bl := [], gl := [], stc := fun _ => true }
theorem k__law_odd : chkSs c__law_odd m__law_odd (defBody s__law_odd) = true := by decide +kernel
theorem f__law_odd : FnScope n__law_odd p__law_odd (defScope s__law_odd) := ⟨rfl, rfl, rfl, by decide +kernel, rfl, by decide +kernel, by decide +kernel⟩
/-! #### law -/
abbrev s_law : Stmt := top 39
def n_law : List Str := ["_law_script", "_law_bag_here", "_law_turn", "_law_kind", "_law_lot", "_law_kinds", "_law_closed", "_law_whole", "_law_due", "_law_letter", "_law_told", "_law_other", "_law_found", "_law_again", "_law_bent", "_law_thing"]
def p_law : List Str := ["_law_script"]
def m_law : SXs := (.cons (.set 1 (.call 15 1 (.cons (.var 0) .nil)))
  (.cons (.for (.one 2) (.rng1 (.cst (.int 3)))
  (.cons (.set 3 (.call 9 3 (.cons (.var 1) (.cons (.bin .add (.cst (.int 1)) (.call 8 2 (.cons (.var 1) (.cons (.cst (.int 5)) .nil)))) (.cons (.cst (.int 4)) .nil)))))
  (.cons (.set 4 (.call 14 1 (.cons (.var 3) .nil)))
  (.cons (.ife (.bop false (.cons (.not (.call 2 2 (.cons (.call 0 1 (.cons (.var 3) .nil)) (.cons (.cst (.bl true)) .nil)))) (.cons (.not (.call 10 2 (.cons (.call 13 1 (.cons (.var 3) .nil)) (.cons (.var 4) .nil)))) .nil)))
  (.cons (.ret (.cst (.bl false)))
  .nil)
  .nil)
  (.cons (.set 5 (.fl .tuple (.comp (.one 2) (.call 9 3 (.cons (.var 1) (.cons (.cst (.int 3)) (.cons (.cst (.int 3)) .nil)))) (.rng1 (.bin .add (.cst (.int 4)) (.call 8 2 (.cons (.var 1) (.cons (.cst (.int 2)) .nil))))) .no [("_law_turn", 2)])))
  (.cons (.ife (.bop false (.cons (.not (.call 10 2 (.cons (.call 11 2 (.cons (.var 3) (.cons (.var 5) .nil))) (.cons (.call 12 2 (.cons (.var 3) (.cons (.var 5) .nil))) .nil)))) (.cons (.cmp .ne (.call 11 2 (.cons (.var 3) (.cons (.var 5) .nil))) (.call 12 2 (.cons (.var 3) (.cons (.var 5) .nil)))) .nil)))
  (.cons (.ret (.cst (.bl false)))
  .nil)
  .nil)
  (.cons (.set 6 (.fl .tuple (.comp (.one 2) (.call 9 3 (.cons (.var 1) (.cons (.cst (.int 3)) (.cons (.cst (.int 0)) .nil)))) (.rng1 (.cst (.int 4))) .no [("_law_turn", 2)])))
  (.cons (.set 7 (.call 12 2 (.cons (.var 3) (.cons (.var 6) .nil))))
  (.cons (.set 8 .dnew)
  (.cons (.for (.one 9) (.sq (.var 4))
  (.cons (.sub (.var 8) (.var 9) (.ix (.var 6) (.var 9)))
  .nil))
  (.cons (.set 10 (.call 6 2 (.cons (.var 3) (.cons (.var 7) .nil))))
  (.cons (.ife (.bop false (.cons (.not (.isi "dict" (.var 10))) (.cons (.cmp .ne (.var 10) (.var 8)) (.cons (.not (.call 10 2 (.cons (.call 11 2 (.cons (.var 3) (.cons (.var 6) .nil))) (.cons (.var 7) .nil)))) .nil))))
  (.cons (.ret (.cst (.bl false)))
  .nil)
  .nil)
  (.cons (.set 11 (.call 9 3 (.cons (.var 1) (.cons (.bin .add (.cst (.int 1)) (.call 8 2 (.cons (.var 1) (.cons (.cst (.int 4)) .nil)))) (.cons (.cst (.int 0)) .nil)))))
  (.cons (.ife (.cmp .eq (.call 8 2 (.cons (.var 1) (.cons (.cst (.int 2)) .nil))) (.cst (.int 0)))
  (.cons (.set 14 (.call 4 4 (.cons (.var 1) (.cons (.var 7) (.cons (.tup (.cons (.cst (.str "num")) .nil)) (.cons (.cst (.int 8)) .nil))))))
  (.cons (.set 11 (.ite (.call 3 1 (.cons (.var 14) .nil)) (.var 14) (.var 11)))
  .nil))
  .nil)
  (.cons (.set 12 .dnew)
  (.cons (.set 8 (.ite (.call 7 3 (.cons (.var 3) (.cons (.var 11) (.cons (.var 12) .nil)))) (.var 12) (.cst .non)))
  (.cons (.ife (.cmp .ne (.call 6 2 (.cons (.var 3) (.cons (.var 11) .nil))) (.var 8))
  (.cons (.ret (.cst (.bl false)))
  .nil)
  .nil)
  (.cons (.for (.one 13) (.rng1 (.cst (.int 4)))
  (.cons (.set 15 (.call 4 4 (.cons (.var 1) (.cons (.var 3) (.cons (.call 5 1 (.cons (.var 1) .nil)) (.cons (.cst (.int 9)) .nil))))))
  (.cons (.ife (.not (.call 2 2 (.cons (.call 0 1 (.cons (.var 15) .nil)) (.cons (.call 3 1 (.cons (.var 15) .nil)) .nil))))
  (.cons (.ret (.cst (.bl false)))
  .nil)
  .nil)
  .nil)))
  .nil))))))))))))))))))
  (.cons (.ret (.cmp .is (.call 0 1 (.cons (.call 1 0 .nil) .nil)) (.cst (.bl false))))
  .nil)))
def c_law : SC := { N := n_law, sc := defScope s_law, fns := [("is_kind", 1), ("_law_deep", 0), ("_law_is_flag", 2), ("_law_is_kind", 1), ("_law_changed", 4), ("_law_odd", 1), ("matched", 2), ("_law_goes_with", 3), ("_law_pick", 2), ("_law_any_kind", 3), ("_law_is", 2), ("filled", 2), ("_law_put", 2), ("letters_in", 1), ("_law_letters", 1), ("_law_bag", 1)], bl := ["range", "isinstance", "dict", "tuple"], gl := [], stc := fun _ => true }
theorem k_law : chkSs c_law m_law (defBody s_law) = true := by decide +kernel
theorem f_law : FnScope n_law p_law (defScope s_law) := ⟨rfl, rfl, rfl, by decide +kernel, rfl, by decide +kernel, by decide +kernel⟩
end K01
end
section
set_option linter.all false
set_option maxRecDepth 100000
set_option maxHeartbeats 4000000
namespace K01
open PySem Bw
def isIntD : D → Bool
  | .int _ => true
  | _ => false
def S_is_integer : DSp := fun ds L Q _ => ∃ d t, ds = [d] ∧ tyD L d = some t ∧ Q (.bl (isIntD d)) L
theorem tyD_int {L : LH} {d : D} {t : String} (h : tyD L d = some t) : (isTy t "int" && !isTy t "bool") = isIntD d := by
  unfold tyD at h
  split at h
  any_goals (cases h; rfl)
  · split at h <;> first | (cases h; rfl) | cases h
  · cases h
theorem is_ret {L : LH} {Q : Post} (hL : clL L.length L) {d : D} (hd : clD L.length d) (q : Q d L) : (endsOf L.length Q).rt d L :=
  ⟨L, [], by simp, Nat.le_refl _, hL, hd, q⟩
theorem is_retG {L G : LH} {Q : Post} (hL : clL L.length L) {d : D} (hd : clD L.length d) (q : Q d L) : (endsOf L.length Q).rt d (L ++ G) :=
  ⟨L, G, rfl, Nat.le_refl _, hL, hd, q⟩
theorem cl_bl {n : Nat} {b : Bool} : clD n (.bl b) := by unfold clD; trivial
theorem w_is_integer {Γ : Nat → DSp} {ds : List D} {L : LH} {Q : Post} {E : XP} (c1 : clL L.length L) (c2 : clDs L.length ds) (h : S_is_integer ds L Q E) : wSs Γ m_is_integer (endsOf L.length Q) (start0 n_is_integer ds) L := by
  obtain ⟨d, t, rfl, ht, q⟩ := h
  rw [← tyD_int ht] at q
  simp only [m_is_integer, n_is_integer, wSs, wS, wSeq, wSkip, wRet, wRetN, wIf, wSet, wExp, wBrk, wCnt, wNever, wAsg, wPar, wSub, Bw.wE, wA, wB, wO, wCd, wLX, wIX, wAnd, wOr, Bw.wNot, wIte, asT, w1, w2, w1, wVar, wC, wTup, wACons, wANil, wCall, wSlc, wNo, wSo, wChn, wBopN, CO.sem, BO.sem, F1.sem, FL.sem, OM.sem, gT, gSlot, start0, List.map_cons, List.map_nil, List.length_cons, List.length_nil, List.replicate_succ, List.replicate_zero, List.cons_append, List.nil_append, List.append_nil, List.getElem?_cons_zero, List.getElem?_cons_succ, List.set_cons_zero, List.set_cons_succ, Nat.sub_self, Nat.sub_zero, Nat.add_sub_cancel, Nat.reduceAdd, Nat.reduceSub, if_true, if_false, Bool.false_eq_true, Nat.zero_add, x_some, x_some1, x_bl, x_ix, x_len, x_eqStr, x_eqInt, x_eqBl, x_in, x_b2, x_i2, x_mul, x_addI, x_addT, x_int, x_abs, x_neg, at_0, at_1, at_2, at_3, at_m1, Bool.false_xor, Bool.true_xor, x_isi (T := "int") (by decide) ht, x_isi (T := "bool") (by decide) ht]
  split
  · rename_i h
    rw [h, Bool.true_and] at q
    exact is_ret c1 cl_bl q
  · rename_i h
    rw [Bool.eq_false_iff.mpr h, Bool.false_and] at q
    exact is_ret c1 cl_bl q
/-! has_form -/
def isTupD : D → Bool
  | .tup _ => true
  | _ => false
def szT (a b : Int) : D → Bool
  | .tup ds => decide (a ≤ ds.length) && decide ((ds.length : Int) ≤ b)
  | _ => false
theorem tyD_tup {L : LH} {d : D} {t : String} (h : tyD L d = some t) : isTy t "tuple" = isTupD d := by
  unfold tyD at h
  split at h
  any_goals (cases h; rfl)
  · split at h <;> first | (cases h; rfl) | cases h
  · cases h
def S_is_sized : DSp := fun ds L Q _ => ∃ d t a b, ds = [d, .int a, .int b] ∧ tyD L d = some t ∧ Q (.bl (szT a b d)) L
theorem w_is_sized {Γ : Nat → DSp} {ds : List D} {L : LH} {Q : Post} {E : XP} (c1 : clL L.length L) (c2 : clDs L.length ds) (h : S_is_sized ds L Q E) : wSs Γ m_is_sized (endsOf L.length Q) (start0 n_is_sized ds) L := by
  obtain ⟨d, t, a, b, rfl, ht, q⟩ := h
  simp only [m_is_sized, n_is_sized, wSs, wS, wSeq, wSkip, wRet, wRetN, wIf, wSet, wExp, wBrk, wCnt, wNever, wAsg, wPar, wSub, Bw.wE, wA, wB, wO, wCd, wLX, wIX, wAnd, wOr, Bw.wNot, wIte, asT, w1, w2, w1, wVar, wC, wTup, wACons, wANil, wCall, wSlc, wNo, wSo, wChn, wBopN, CO.sem, BO.sem, F1.sem, FL.sem, OM.sem, gT, gSlot, start0, List.map_cons, List.map_nil, List.length_cons, List.length_nil, List.replicate_succ, List.replicate_zero, List.cons_append, List.nil_append, List.append_nil, List.getElem?_cons_zero, List.getElem?_cons_succ, List.set_cons_zero, List.set_cons_succ, Nat.sub_self, Nat.sub_zero, Nat.add_sub_cancel, Nat.reduceAdd, Nat.reduceSub, if_true, if_false, Bool.false_eq_true, Nat.zero_add, x_some, x_some1, x_bl, x_ix, x_len, x_eqStr, x_eqInt, x_eqBl, x_in, x_b2, x_i2, x_mul, x_addI, x_addT, x_int, x_abs, x_neg, at_0, at_1, at_2, at_3, at_m1, Bool.false_xor, Bool.true_xor, x_isi (T := "tuple") (by decide) ht, tyD_tup ht]
  cases d with
  | tup ds =>
    simp only [isTupD, start0, List.map_cons, List.map_nil, List.length_cons, List.length_nil, List.replicate_succ, List.replicate_zero, List.cons_append, List.nil_append, List.append_nil, List.getElem?_cons_zero, List.getElem?_cons_succ, List.set_cons_zero, List.set_cons_succ, Nat.sub_self, Nat.sub_zero, Nat.add_sub_cancel, Nat.reduceAdd, Nat.reduceSub, if_true, if_false, Bool.false_eq_true, Nat.zero_add, x_some, x_some1, x_bl, x_ix, x_len, x_eqStr, x_eqInt, x_eqBl, x_in, x_b2, x_i2, x_mul, x_addI, x_addT, x_int, x_abs, x_neg, at_0, at_1, at_2, at_3, at_m1, Bool.false_xor, Bool.true_xor]
    simp only [szT] at q
    split
    · rename_i h
      rw [h, Bool.true_and] at q
      exact is_ret c1 cl_bl q
    · rename_i h
      rw [Bool.eq_false_iff.mpr h, Bool.false_and] at q
      exact is_ret c1 cl_bl q
  | _ => exact is_ret c1 cl_bl q
end K01
end
section
set_option linter.all false
set_option maxRecDepth 100000
set_option maxHeartbeats 4000000
namespace K01
open PySem Bw
def nnD : D → Bool
  | .int i => decide (0 ≤ i)
  | _ => false
def formD : D → Bool
  | .tup (.str h :: r) =>
    if h = "num" ∨ h = "nil" then r.length == 0
    else if h = "row" then (match r with | [x] => szT 1 4 x | _ => false)
    else if h = "data" then (match r with | [x, y] => nnD x && isTupD y | _ => false)
    else if h = "fun" then (match r with | [x, _] => szT 1 3 x | _ => false)
    else if h = "letter" then (match r with | [x] => nnD x | _ => false)
    else if h = "box" then r.length == 1 else false
  | _ => false
mutual
def tyA (L : LH) : D → Prop
  | .tup ds => tyAs L ds
  | d => ∃ t, tyD L d = some t
def tyAs (L : LH) : List D → Prop
  | [] => True
  | d :: ds => tyA L d ∧ tyAs L ds
end
theorem tyA_ty {L : LH} {d : D} (h : tyA L d) : ∃ t, tyD L d = some t := by
  cases d with
  | tup ds => exact ⟨_, rfl⟩
  | _ => simpa [tyA] using h
theorem tyAs_iff {L : LH} : ∀ {ds : List D}, tyAs L ds ↔ ∀ d ∈ ds, tyA L d
  | [] => by simp [tyAs]
  | d :: ds => by simp [tyAs, tyAs_iff (ds := ds)]
def gam_form : Nat → DSp
  | 0 => S_is_integer
  | _ => S_is_sized
def S_has_form : DSp := fun ds L Q _ => ∃ d, ds = [d] ∧ tyA L d ∧ Q (.bl (formD d)) L
theorem in_two {h a b : Str} : inD (.str h) [.str a, .str b] = (decide (h = a) || decide (h = b)) := by
  simp only [inD, List.any_cons, List.any_nil, eqF, Bool.or_false]
  have e : ∀ x y : Str, (x == y) = decide (y = x) := fun x y => by
    by_cases z : y = x
    · subst z; simp
    · simp [z, Ne.symm z]
  rw [e, e]
theorem beq_dec {a b : Str} : (a == b) = decide (a = b) := by
  by_cases z : a = b
  · subst z; simp
  · simp [z]
theorem len_eq {n : Nat} {k : Nat} : ((n : Int) == (k : Int)) = (n == k) := by
  by_cases z : n = k
  · subst z; rw [beq_self_eq_true, beq_self_eq_true]
  · rw [beq_eq_false_iff_ne.mpr (by omega), beq_eq_false_iff_ne.mpr z]
def isStrD : D → Bool
  | .str _ => true
  | _ => false
theorem tyD_str {L : LH} {d : D} {t : String} (h : tyD L d = some t) : isTy t "str" = isStrD d := by
  unfold tyD at h
  split at h
  any_goals (cases h; rfl)
  · split at h <;> first | (cases h; rfl) | cases h
  · cases h
theorem isTyR : isTy "tuple" "tuple" = true ∧ isTy "str" "str" = true ∧ isTy "tuple" "str" = false := ⟨rfl, rfl, rfl⟩
theorem all_flat {a b : Str} : [D.str a, D.str b].all flatD = true := rfl
theorem w_has_form {ds : List D} {L : LH} {Q : Post} {E : XP} (c1 : clL L.length L) (c2 : clDs L.length ds) (h : S_has_form ds L Q E) : wSs gam_form m_has_form (endsOf L.length Q) (start0 n_has_form ds) L := by
  obtain ⟨d, rfl, ty, q⟩ := h
  obtain ⟨t, ht⟩ := tyA_ty ty
  have leaf : ∀ b, b = formD d → (endsOf L.length Q).rt (.bl b) L := fun b e => is_ret c1 cl_bl (e ▸ q)
  simp only [m_has_form, n_has_form, wSs, wS, wSeq, wSkip, wRet, wRetN, wIf, wSet, wExp, wBrk, wCnt, wNever, wAsg, wPar, wSub, Bw.wE, wA, wB, wO, wCd, wLX, wIX, wAnd, wOr, Bw.wNot, wIte, asT, w1, w2, w1, wVar, wC, wTup, wACons, wANil, wCall, wSlc, wNo, wSo, wChn, wBopN, CO.sem, BO.sem, F1.sem, FL.sem, OM.sem, gT, gSlot, start0, List.map_cons, List.map_nil, List.length_cons, List.length_nil, List.replicate_succ, List.replicate_zero, List.cons_append, List.nil_append, List.append_nil, List.getElem?_cons_zero, List.getElem?_cons_succ, List.set_cons_zero, List.set_cons_succ, Nat.sub_self, Nat.sub_zero, Nat.add_sub_cancel, Nat.reduceAdd, Nat.reduceSub, if_true, if_false, Bool.false_eq_true, Nat.zero_add, x_some, x_some1, x_bl, x_ix, x_len, x_eqStr, x_eqInt, x_eqBl, x_in, x_b2, x_i2, x_mul, x_addI, x_addT, x_int, x_abs, x_neg, at_0, at_1, at_2, at_3, at_m1, Bool.false_xor, Bool.true_xor, x_isi (T := "tuple") (by decide) ht, tyD_tup ht]
  cases d with
  | tup ds =>
    cases ds with
    | nil => simp only [isTupD, start0, List.map_cons, List.map_nil, List.length_cons, List.length_nil, List.replicate_succ, List.replicate_zero, List.cons_append, List.nil_append, List.append_nil, List.getElem?_cons_zero, List.getElem?_cons_succ, List.set_cons_zero, List.set_cons_succ, Nat.sub_self, Nat.sub_zero, Nat.add_sub_cancel, Nat.reduceAdd, Nat.reduceSub, if_true, if_false, Bool.false_eq_true, Nat.zero_add, x_some, x_some1, x_bl, x_ix, x_len, x_eqStr, x_eqInt, x_eqBl, x_in, x_b2, x_i2, x_mul, x_addI, x_addT, x_int, x_abs, x_neg, at_0, at_1, at_2, at_3, at_m1, Bool.false_xor, Bool.true_xor, Bool.not_true]; exact leaf _ rfl
    | cons x r =>
      obtain ⟨tx, hx⟩ := tyA_ty (L := L) (d := x) (tyAs_iff.1 ty x (by simp))
      have hlen0 : (((r.length + 1 : Nat) : Int) == 0) = false := by
        rw [beq_eq_false_iff_ne]; omega
      simp only [isTupD, start0, List.map_cons, List.map_nil, List.length_cons, List.length_nil, List.replicate_succ, List.replicate_zero, List.cons_append, List.nil_append, List.append_nil, List.getElem?_cons_zero, List.getElem?_cons_succ, List.set_cons_zero, List.set_cons_succ, Nat.sub_self, Nat.sub_zero, Nat.add_sub_cancel, Nat.reduceAdd, Nat.reduceSub, if_true, if_false, Bool.false_eq_true, Nat.zero_add, x_some, x_some1, x_bl, x_ix, x_len, x_eqStr, x_eqInt, x_eqBl, x_in, x_b2, x_i2, x_mul, x_addI, x_addT, x_int, x_abs, x_neg, at_0, at_1, at_2, at_3, at_m1, Bool.false_xor, Bool.true_xor, Bool.not_true, Bool.not_false, hlen0, x_isi (T := "str") (by decide) hx, tyD_str hx]
      cases x with
      | str s =>
        simp only [isStrD, start0, List.map_cons, List.map_nil, List.length_cons, List.length_nil, List.replicate_succ, List.replicate_zero, List.cons_append, List.nil_append, List.append_nil, List.getElem?_cons_zero, List.getElem?_cons_succ, List.set_cons_zero, List.set_cons_succ, Nat.sub_self, Nat.sub_zero, Nat.add_sub_cancel, Nat.reduceAdd, Nat.reduceSub, if_true, if_false, Bool.false_eq_true, Nat.zero_add, x_some, x_some1, x_bl, x_ix, x_len, x_eqStr, x_eqInt, x_eqBl, x_in, x_b2, x_i2, x_mul, x_addI, x_addT, x_int, x_abs, x_neg, at_0, at_1, at_2, at_3, at_m1, Bool.false_xor, Bool.true_xor, Bool.not_true, in_two, beq_dec]
        by_cases e1 : s = "num" ∨ s = "nil"
        · have e1' : (decide (s = Str.ofString "num") || decide (s = Str.ofString "nil")) = true := by simpa using e1
          simp only [e1', if_true]
          refine ⟨by decide, rfl, all_flat, leaf _ ?_⟩
          simp only [formD, if_pos e1]
          cases r <;> simp
          omega
        · have e1' : (decide (s = Str.ofString "num") || decide (s = Str.ofString "nil")) = false := by simpa using e1
          simp only [e1', Bool.false_eq_true, if_false]
          refine ⟨by decide, rfl, all_flat, ?_⟩
          simp only [formD, if_neg e1] at leaf
          clear e1 e1'
          have ln : ∀ k : Nat, (((r.length + 1 : Nat) : Int) == (k : Int)) = (r.length + 1 == k) := fun k => len_eq
          have ln2 := ln 2
          have ln3 := ln 3
          simp only [show ((2 : Nat) : Int) = 2 from rfl] at ln2
          simp only [show ((3 : Nat) : Int) = 3 from rfl] at ln3
          have pick : ∀ (n : Nat) (A B : Prop), (r.length + 1 = n → A) → (r.length + 1 ≠ n → B) → if (r.length + 1 == n) = true then A else B := fun n A B ha hb => by
            by_cases e : r.length + 1 = n
            · rw [if_pos (by simpa using e)]; exact ha e
            · rw [if_neg (by simpa using e)]; exact hb e
          by_cases e2 : s = "row"
          · simp only [e2, decide_true, if_true, ln2]
            simp only [if_pos e2] at leaf
            refine pick _ _ _ (fun e => ?_) (fun e => leaf _ ?_)
            · match r, e with
              | [x], _ =>
                obtain ⟨t', ht'⟩ := tyA_ty (L := L) (d := x) (tyAs_iff.1 ty x (by simp))
                exact ⟨x, rfl, trivial, x, t', 1, 4, rfl, ht', leaf _ rfl⟩
            · match r, e with
              | [], _ => rfl
              | [_], e => exact absurd rfl e
              | _ :: _ :: _, _ => rfl
          · simp only [e2, decide_false, Bool.false_eq_true, if_false]
            simp only [if_neg e2] at leaf
            clear e2
            by_cases e2 : s = "data"
            · simp only [e2, decide_true, if_true, ln3]
              simp only [if_pos e2] at leaf
              refine pick _ _ _ (fun e => ?_) (fun e => leaf _ ?_)
              · match r, e with
                | [x, y], _ =>
                  obtain ⟨t', ht'⟩ := tyA_ty (L := L) (d := x) (tyAs_iff.1 ty x (by simp))
                  obtain ⟨t2, ht2⟩ := tyA_ty (L := L) (d := y) (tyAs_iff.1 ty y (by simp))
                  refine ⟨x, rfl, trivial, x, t', rfl, ht', _, rfl, ?_⟩
                  cases x with
                  | int i =>
                    simp only [isIntD, if_true, start0, List.map_cons, List.map_nil, List.length_cons, List.length_nil, List.replicate_succ, List.replicate_zero, List.cons_append, List.nil_append, List.append_nil, List.getElem?_cons_zero, List.getElem?_cons_succ, List.set_cons_zero, List.set_cons_succ, Nat.sub_self, Nat.sub_zero, Nat.add_sub_cancel, Nat.reduceAdd, Nat.reduceSub, if_true, if_false, Bool.false_eq_true, Nat.zero_add]
                    refine ⟨_, rfl, ?_⟩
                    by_cases hi : (0 : Int) ≤ i
                    · refine ⟨_, rfl, ?_⟩
                      rw [if_pos (decide_eq_true hi)]
                      refine ⟨y, rfl, (x_isi (T := "tuple") (by decide) ht2).2 ?_⟩
                      rw [tyD_tup ht2]
                      exact leaf _ (by simp [nnD, hi])
                    · refine ⟨_, rfl, ?_⟩
                      rw [if_neg (by simpa using hi)]
                      exact leaf _ (by simp [nnD, hi])
                  | _ => exact leaf _ rfl
              · match r, e with
                | [], _ => rfl
                | [_], _ => rfl
                | [_, _], e => exact absurd rfl e
                | _ :: _ :: _ :: _, _ => rfl
            · simp only [e2, decide_false, Bool.false_eq_true, if_false]
              simp only [if_neg e2] at leaf
              clear e2
              by_cases e2 : s = "fun"
              · simp only [e2, decide_true, if_true, ln3]
                simp only [if_pos e2] at leaf
                refine pick _ _ _ (fun e => ?_) (fun e => leaf _ ?_)
                · match r, e with
                  | [x, y], _ =>
                    obtain ⟨t', ht'⟩ := tyA_ty (L := L) (d := x) (tyAs_iff.1 ty x (by simp))
                    exact ⟨x, rfl, trivial, x, t', 1, 3, rfl, ht', leaf _ rfl⟩
                · match r, e with
                  | [], _ => rfl
                  | [_], _ => rfl
                  | [_, _], e => exact absurd rfl e
                  | _ :: _ :: _ :: _, _ => rfl
              · simp only [e2, decide_false, Bool.false_eq_true, if_false]
                simp only [if_neg e2] at leaf
                clear e2
                by_cases e2 : s = "letter"
                · simp only [e2, decide_true, if_true, ln2]
                  simp only [if_pos e2] at leaf
                  refine pick _ _ _ (fun e => ?_) (fun e => leaf _ ?_)
                  · match r, e with
                    | [x], _ =>
                      obtain ⟨t', ht'⟩ := tyA_ty (L := L) (d := x) (tyAs_iff.1 ty x (by simp))
                      refine ⟨x, rfl, trivial, x, t', rfl, ht', _, rfl, ?_⟩
                      cases x with
                      | int i =>
                        simp only [isIntD, if_true, start0, List.map_cons, List.map_nil, List.length_cons, List.length_nil, List.replicate_succ, List.replicate_zero, List.cons_append, List.nil_append, List.append_nil, List.getElem?_cons_zero, List.getElem?_cons_succ, List.set_cons_zero, List.set_cons_succ, Nat.sub_self, Nat.sub_zero, Nat.add_sub_cancel, Nat.reduceAdd, Nat.reduceSub, if_true, if_false, Bool.false_eq_true, Nat.zero_add]
                        refine ⟨_, rfl, ?_⟩
                        exact leaf _ rfl
                      | _ => exact leaf _ rfl
                  · match r, e with
                    | [], _ => rfl
                    | [_], e => exact absurd rfl e
                    | _ :: _ :: _, _ => rfl
                · simp only [e2, decide_false, Bool.false_eq_true, if_false]
                  simp only [if_neg e2] at leaf
                  clear e2
                  by_cases e2 : s = "box"
                  · simp only [e2, decide_true, if_true, ln2]
                    simp only [if_pos e2] at leaf
                    exact leaf _ (by cases r <;> simp)
                  · simp only [e2, decide_false, Bool.false_eq_true, if_false]
                    simp only [if_neg e2] at leaf
                    exact leaf _ rfl
      | _ => exact leaf _ rfl
  | _ => exact leaf _ rfl
end K01
end
section
set_option linter.all false
set_option maxRecDepth 100000
set_option maxHeartbeats 4000000
namespace K01
open PySem Bw
theorem e_num_num : (Str.ofString "num" == Str.ofString "num") = true := beq_self_eq_true _
theorem e_num_nil : (Str.ofString "num" == Str.ofString "nil") = false := by decide
theorem e_num_row : (Str.ofString "num" == Str.ofString "row") = false := by decide
theorem e_num_data : (Str.ofString "num" == Str.ofString "data") = false := by decide
theorem e_num_fun : (Str.ofString "num" == Str.ofString "fun") = false := by decide
theorem e_num_letter : (Str.ofString "num" == Str.ofString "letter") = false := by decide
theorem e_num_box : (Str.ofString "num" == Str.ofString "box") = false := by decide
theorem e_nil_num : (Str.ofString "nil" == Str.ofString "num") = false := by decide
theorem e_nil_nil : (Str.ofString "nil" == Str.ofString "nil") = true := beq_self_eq_true _
theorem e_nil_row : (Str.ofString "nil" == Str.ofString "row") = false := by decide
theorem e_nil_data : (Str.ofString "nil" == Str.ofString "data") = false := by decide
theorem e_nil_fun : (Str.ofString "nil" == Str.ofString "fun") = false := by decide
theorem e_nil_letter : (Str.ofString "nil" == Str.ofString "letter") = false := by decide
theorem e_nil_box : (Str.ofString "nil" == Str.ofString "box") = false := by decide
theorem e_row_num : (Str.ofString "row" == Str.ofString "num") = false := by decide
theorem e_row_nil : (Str.ofString "row" == Str.ofString "nil") = false := by decide
theorem e_row_row : (Str.ofString "row" == Str.ofString "row") = true := beq_self_eq_true _
theorem e_row_data : (Str.ofString "row" == Str.ofString "data") = false := by decide
theorem e_row_fun : (Str.ofString "row" == Str.ofString "fun") = false := by decide
theorem e_row_letter : (Str.ofString "row" == Str.ofString "letter") = false := by decide
theorem e_row_box : (Str.ofString "row" == Str.ofString "box") = false := by decide
theorem e_data_num : (Str.ofString "data" == Str.ofString "num") = false := by decide
theorem e_data_nil : (Str.ofString "data" == Str.ofString "nil") = false := by decide
theorem e_data_row : (Str.ofString "data" == Str.ofString "row") = false := by decide
theorem e_data_data : (Str.ofString "data" == Str.ofString "data") = true := beq_self_eq_true _
theorem e_data_fun : (Str.ofString "data" == Str.ofString "fun") = false := by decide
theorem e_data_letter : (Str.ofString "data" == Str.ofString "letter") = false := by decide
theorem e_data_box : (Str.ofString "data" == Str.ofString "box") = false := by decide
theorem e_fun_num : (Str.ofString "fun" == Str.ofString "num") = false := by decide
theorem e_fun_nil : (Str.ofString "fun" == Str.ofString "nil") = false := by decide
theorem e_fun_row : (Str.ofString "fun" == Str.ofString "row") = false := by decide
theorem e_fun_data : (Str.ofString "fun" == Str.ofString "data") = false := by decide
theorem e_fun_fun : (Str.ofString "fun" == Str.ofString "fun") = true := beq_self_eq_true _
theorem e_fun_letter : (Str.ofString "fun" == Str.ofString "letter") = false := by decide
theorem e_fun_box : (Str.ofString "fun" == Str.ofString "box") = false := by decide
theorem e_letter_num : (Str.ofString "letter" == Str.ofString "num") = false := by decide
theorem e_letter_nil : (Str.ofString "letter" == Str.ofString "nil") = false := by decide
theorem e_letter_row : (Str.ofString "letter" == Str.ofString "row") = false := by decide
theorem e_letter_data : (Str.ofString "letter" == Str.ofString "data") = false := by decide
theorem e_letter_fun : (Str.ofString "letter" == Str.ofString "fun") = false := by decide
theorem e_letter_letter : (Str.ofString "letter" == Str.ofString "letter") = true := beq_self_eq_true _
theorem e_letter_box : (Str.ofString "letter" == Str.ofString "box") = false := by decide
theorem e_box_num : (Str.ofString "box" == Str.ofString "num") = false := by decide
theorem e_box_nil : (Str.ofString "box" == Str.ofString "nil") = false := by decide
theorem e_box_row : (Str.ofString "box" == Str.ofString "row") = false := by decide
theorem e_box_data : (Str.ofString "box" == Str.ofString "data") = false := by decide
theorem e_box_fun : (Str.ofString "box" == Str.ofString "fun") = false := by decide
theorem e_box_letter : (Str.ofString "box" == Str.ofString "letter") = false := by decide
theorem e_box_box : (Str.ofString "box" == Str.ofString "box") = true := beq_self_eq_true _

/-- the shapes of a form -/
inductive Frm : D → Prop
  | num : Frm (.tup [.str "num"])
  | nil : Frm (.tup [.str "nil"])
  | row (ks : List D) : 1 ≤ ks.length → ks.length ≤ 4 → Frm (.tup [.str "row", .tup ks])
  | data (i : Int) (ks : List D) : 0 ≤ i → Frm (.tup [.str "data", .int i, .tup ks])
  | fn (ks : List D) (k : D) : 1 ≤ ks.length → ks.length ≤ 3 → Frm (.tup [.str "fun", .tup ks, k])
  | letter (i : Int) : 0 ≤ i → Frm (.tup [.str "letter", .int i])
  | box (k : D) : Frm (.tup [.str "box", k])
theorem szT_iff {a b : Int} {d : D} (h : szT a b d = true) : ∃ ks, d = .tup ks ∧ a ≤ ks.length ∧ (ks.length : Int) ≤ b := by
  cases d with
  | tup ks => simp [szT] at h; exact ⟨ks, rfl, h⟩
  | _ => simp [szT] at h
theorem nnD_iff {d : D} (h : nnD d = true) : ∃ i, d = .int i ∧ 0 ≤ i := by
  cases d with
  | int i => simp [nnD] at h; exact ⟨i, rfl, h⟩
  | _ => simp [nnD] at h
theorem isTupD_iff {d : D} (h : isTupD d = true) : ∃ ks, d = .tup ks := by
  cases d with
  | tup ks => exact ⟨ks, rfl⟩
  | _ => simp [isTupD] at h
theorem frm_of : ∀ {d : D}, formD d = true → Frm d
  | .tup (.str s :: r), h => by
    simp only [formD] at h
    split at h
    · rename_i e
      have : r = [] := by cases r <;> simp at h ⊢
      subst this
      rcases e with rfl | rfl
      · exact .num
      · exact .nil
    split at h
    · rename_i e; subst e
      split at h
      · obtain ⟨ks, rfl, h1, h2⟩ := szT_iff h
        exact .row ks (by omega) (by omega)
      · cases h
    split at h
    · rename_i e; subst e
      split at h
      · rw [Bool.and_eq_true] at h
        obtain ⟨i, rfl, h1⟩ := nnD_iff h.1
        obtain ⟨ks, rfl⟩ := isTupD_iff h.2
        exact .data i ks h1
      · cases h
    split at h
    · rename_i e; subst e
      split at h
      · obtain ⟨ks, rfl, h1, h2⟩ := szT_iff h
        exact .fn ks _ (by omega) (by omega)
      · cases h
    split at h
    · rename_i e; subst e
      split at h
      · obtain ⟨i, rfl, h1⟩ := nnD_iff h
        exact .letter i h1
      · cases h
    split at h
    · rename_i e; subst e
      match r, h with
      | [k], _ => exact .box k
      | [], h => simp at h
      | _ :: _ :: _, h => simp at h
    · cases h
  | .tup [], h => by cases h
  | .tup (.non :: _), h | .tup (.bl _ :: _), h | .tup (.int _ :: _), h | .tup (.tup _ :: _), h | .tup (.loc _ :: _), h | .tup (.glo _ :: _), h | .tup (.ty _ :: _), h | .tup (.kl _ :: _), h => by cases h
  | .non, h | .bl _, h | .int _, h | .str _, h | .loc _, h | .glo _, h | .ty _, h | .kl _, h => by cases h
/-- what lies within a form -/
def innR : List D → List D
  | [.tup ks] => ks
  | _ => []
def innA : List D → List D
  | [_, .tup ks] => ks
  | _ => []
def innF : List D → List D
  | [.tup ks, k] => ks ++ [k]
  | _ => []
def innerD : D → List D
  | .tup (.str h :: r) => if h = "row" then innR r else if h = "data" then innA r else if h = "fun" then innF r else if h = "box" then r.take 1 else []
  | _ => []
theorem i_num : innerD (.tup [.str "num"]) = [] := rfl
theorem i_nil : innerD (.tup [.str "nil"]) = [] := rfl
theorem i_row {ks : List D} : innerD (.tup [.str "row", .tup ks]) = ks := rfl
theorem i_data {i : D} {ks : List D} : innerD (.tup [.str "data", i, .tup ks]) = ks := rfl
theorem i_fn {k : D} {ks : List D} : innerD (.tup [.str "fun", .tup ks, k]) = ks ++ [k] := rfl
theorem i_letter {i : D} : innerD (.tup [.str "letter", i]) = [] := rfl
theorem i_box {k : D} : innerD (.tup [.str "box", k]) = [k] := rfl
def S_inner_of : DSp := fun ds L Q _ => ∃ d, ds = [d] ∧ Frm d ∧ Q (.tup (innerD d)) L
theorem cl_tup {n : Nat} {ds : List D} : clD n (.tup ds) ↔ clDs n ds := by simp [clD]
theorem clDs_app {n : Nat} {a b : List D} : clDs n (a ++ b) ↔ clDs n a ∧ clDs n b := by
  simp only [clDs_iff, List.mem_append]
  exact ⟨fun h => ⟨fun d hd => h d (.inl hd), fun d hd => h d (.inr hd)⟩, fun ⟨h1, h2⟩ d hd => hd.elim (h1 d) (h2 d)⟩
theorem inner_cl {n : Nat} {d : D} (f : Frm d) (c : clD n d) : clDs n (innerD d) := by
  cases f with
  | num => exact trivial
  | nil => exact trivial
  | row ks _ _ => rw [i_row]; simp only [clD, clDs] at c; exact c.2.1
  | data i ks _ => rw [i_data]; simp only [clD, clDs] at c; exact c.2.2.1
  | fn ks k _ _ => rw [i_fn, clDs_app]; simp only [clD, clDs] at c; exact ⟨c.2.1, c.2.2.1, trivial⟩
  | letter i _ => exact trivial
  | box k => rw [i_box]; simp only [clD, clDs] at c; exact ⟨c.2.1, trivial⟩
theorem sz_small {n : Nat} (h : n ≤ 100000) : n ≤ sizeLine := by
  have : sizeLine = 16777216 := by decide
  omega
theorem w_inner_of {Γ : Nat → DSp} {ds : List D} {L : LH} {Q : Post} {E : XP} (c1 : clL L.length L) (c2 : clDs L.length ds) (h : S_inner_of ds L Q E) : wSs Γ m_inner_of (endsOf L.length Q) (start0 n_inner_of ds) L := by
  obtain ⟨d, rfl, f, q⟩ := h
  have leaf : ∀ e, e = innerD d → (endsOf L.length Q).rt (.tup e) L := fun e h => is_ret c1 (by rw [h, cl_tup]; exact inner_cl f c2.1) (h ▸ q)
  cases f <;> simp only [m_inner_of, n_inner_of, wSs, wS, wSeq, wSkip, wRet, wRetN, wIf, wSet, wExp, wBrk, wCnt, wNever, wAsg, wPar, wSub, Bw.wE, wA, wB, wO, wCd, wLX, wIX, wAnd, wOr, Bw.wNot, wIte, asT, w1, w2, w1, wVar, wC, wTup, wACons, wANil, wCall, wSlc, wNo, wSo, wChn, wBopN, CO.sem, BO.sem, F1.sem, FL.sem, OM.sem, gT, gSlot, start0, List.map_cons, List.map_nil, List.length_cons, List.length_nil, List.replicate_succ, List.replicate_zero, List.cons_append, List.nil_append, List.append_nil, List.getElem?_cons_zero, List.getElem?_cons_succ, List.set_cons_zero, List.set_cons_succ, Nat.sub_self, Nat.sub_zero, Nat.add_sub_cancel, Nat.reduceAdd, Nat.reduceSub, if_true, if_false, Bool.false_eq_true, Nat.zero_add, x_some, x_some1, x_bl, x_ix, x_len, x_eqStr, x_eqInt, x_eqBl, x_in, x_b2, x_i2, x_mul, x_addI, x_addT, x_int, x_abs, x_neg, at_0, at_1, at_2, at_3, at_m1, Bool.false_xor, Bool.true_xor, e_num_num, e_num_nil, e_num_row, e_num_data, e_num_fun, e_num_letter, e_num_box, e_nil_num, e_nil_nil, e_nil_row, e_nil_data, e_nil_fun, e_nil_letter, e_nil_box, e_row_num, e_row_nil, e_row_row, e_row_data, e_row_fun, e_row_letter, e_row_box, e_data_num, e_data_nil, e_data_row, e_data_data, e_data_fun, e_data_letter, e_data_box, e_fun_num, e_fun_nil, e_fun_row, e_fun_data, e_fun_fun, e_fun_letter, e_fun_box, e_letter_num, e_letter_nil, e_letter_row, e_letter_data, e_letter_fun, e_letter_letter, e_letter_box, e_box_num, e_box_nil, e_box_row, e_box_data, e_box_fun, e_box_letter, e_box_box]
  · exact ⟨by decide, leaf _ rfl⟩
  · exact ⟨by decide, leaf _ rfl⟩
  · exact leaf _ rfl
  · exact leaf _ rfl
  · rename_i ks k h1 h2
    exact ⟨by decide, sz_small (by omega), leaf _ rfl⟩
  · exact ⟨by decide, leaf _ rfl⟩
  · exact ⟨by decide, leaf _ rfl⟩
theorem w_law_inner {Γ : Nat → DSp} {ds : List D} {L : LH} {Q : Post} {E : XP} (c1 : clL L.length L) (c2 : clDs L.length ds) (h : S_inner_of ds L Q E) : wSs Γ m__law_inner (endsOf L.length Q) (start0 n__law_inner ds) L := by
  obtain ⟨d, rfl, f, q⟩ := h
  have leaf : ∀ e, e = innerD d → (endsOf L.length Q).rt (.tup e) L := fun e h => is_ret c1 (by rw [h, cl_tup]; exact inner_cl f c2.1) (h ▸ q)
  cases f <;> simp only [m__law_inner, n__law_inner, wSs, wS, wSeq, wSkip, wRet, wRetN, wIf, wSet, wExp, wBrk, wCnt, wNever, wAsg, wPar, wSub, Bw.wE, wA, wB, wO, wCd, wLX, wIX, wAnd, wOr, Bw.wNot, wIte, asT, w1, w2, w1, wVar, wC, wTup, wACons, wANil, wCall, wSlc, wNo, wSo, wChn, wBopN, CO.sem, BO.sem, F1.sem, FL.sem, OM.sem, gT, gSlot, start0, List.map_cons, List.map_nil, List.length_cons, List.length_nil, List.replicate_succ, List.replicate_zero, List.cons_append, List.nil_append, List.append_nil, List.getElem?_cons_zero, List.getElem?_cons_succ, List.set_cons_zero, List.set_cons_succ, Nat.sub_self, Nat.sub_zero, Nat.add_sub_cancel, Nat.reduceAdd, Nat.reduceSub, if_true, if_false, Bool.false_eq_true, Nat.zero_add, x_some, x_some1, x_bl, x_ix, x_len, x_eqStr, x_eqInt, x_eqBl, x_in, x_b2, x_i2, x_mul, x_addI, x_addT, x_int, x_abs, x_neg, at_0, at_1, at_2, at_3, at_m1, Bool.false_xor, Bool.true_xor, e_num_num, e_num_nil, e_num_row, e_num_data, e_num_fun, e_num_letter, e_num_box, e_nil_num, e_nil_nil, e_nil_row, e_nil_data, e_nil_fun, e_nil_letter, e_nil_box, e_row_num, e_row_nil, e_row_row, e_row_data, e_row_fun, e_row_letter, e_row_box, e_data_num, e_data_nil, e_data_row, e_data_data, e_data_fun, e_data_letter, e_data_box, e_fun_num, e_fun_nil, e_fun_row, e_fun_data, e_fun_fun, e_fun_letter, e_fun_box, e_letter_num, e_letter_nil, e_letter_row, e_letter_data, e_letter_fun, e_letter_letter, e_letter_box, e_box_num, e_box_nil, e_box_row, e_box_data, e_box_fun, e_box_letter, e_box_box]
  · exact ⟨by decide, leaf _ rfl⟩
  · exact ⟨by decide, leaf _ rfl⟩
  · exact leaf _ rfl
  · exact leaf _ rfl
  · rename_i ks k h1 h2
    exact ⟨by decide, sz_small (by omega), leaf _ rfl⟩
  · exact ⟨by decide, leaf _ rfl⟩
  · exact ⟨by decide, leaf _ rfl⟩
end K01
end
section
set_option linter.all false
set_option maxRecDepth 100000
set_option maxHeartbeats 4000000
namespace K01
open PySem Bw
mutual
def dsz : D → Nat
  | .tup ds => 1 + dszs ds
  | _ => 1
def dszs : List D → Nat
  | [] => 0
  | d :: ds => dsz d + dszs ds
end
theorem dsz_pos (d : D) : 1 ≤ dsz d := by cases d <;> simp [dsz]
theorem dszs_app : ∀ (a b : List D), dszs (a ++ b) = dszs a + dszs b
  | [], b => by simp [dszs]
  | d :: a, b => by simp [dszs, dszs_app a b]; omega
theorem dszs_len : ∀ (a : List D), a.length ≤ dszs a
  | [] => by simp
  | d :: a => by have := dsz_pos d; have := dszs_len a; simp [dszs]; omega
theorem dszs_mem {d : D} : ∀ {a : List D}, d ∈ a → dsz d ≤ dszs a
  | e :: a, h => by
    rcases List.mem_cons.mp h with rfl | h
    · simp [dszs]
    · have := dszs_mem h; simp [dszs]; omega
theorem inner_sz {d : D} (f : Frm d) : dszs (innerD d) + 1 ≤ dsz d := by
  cases f with
  | num => decide
  | nil => decide
  | row ks _ _ => rw [i_row]; simp [dsz, dszs]; omega
  | data i ks _ => rw [i_data]; simp [dsz, dszs]; omega
  | fn ks k _ _ => rw [i_fn, dszs_app]; simp [dsz, dszs]; omega
  | letter i _ => rw [i_letter]; simp [dsz, dszs]
  | box k => rw [i_box]; simp [dsz, dszs]; omega
def isKF : Nat → D → Bool
  | 0, _ => false
  | n + 1, d => formD d && (innerD d).all (isKF n)
def isKindD (d : D) : Bool := isKF (dsz d) d
theorem isKF_st : ∀ (n : Nat) (d : D), dsz d ≤ n → isKF n d = isKF (n + 1) d
  | 0, d, h => by have := dsz_pos d; omega
  | n + 1, d, h => by
    show (formD d && (innerD d).all (isKF n)) = (formD d && (innerD d).all (isKF (n + 1)))
    cases e : formD d with
    | false => rfl
    | true =>
      have hs := inner_sz (frm_of e)
      rw [Bool.true_and, Bool.true_and]
      apply Bool.eq_iff_iff.mpr
      simp only [List.all_eq_true]
      have key : ∀ x ∈ innerD d, isKF n x = isKF (n + 1) x := fun x hx => isKF_st n x (by have := dszs_mem hx; omega)
      exact ⟨fun z x hx => key x hx ▸ z x hx, fun z x hx => (key x hx).symm ▸ z x hx⟩
theorem isKF_ge {d : D} : ∀ {n : Nat}, dsz d ≤ n → isKF n d = isKindD d
  | n, h => by
    induction n with
    | zero => have := dsz_pos d; omega
    | succ n ih =>
      by_cases e : dsz d ≤ n
      · rw [← isKF_st n d e]; exact ih e
      · have : dsz d = n + 1 := by omega
        rw [← this]; rfl
theorem isKindD_eq (d : D) : isKindD d = (formD d && (innerD d).all isKindD) := by
  unfold isKindD
  have hp := dsz_pos d
  obtain ⟨n, hn⟩ : ∃ n, dsz d = n + 1 := ⟨dsz d - 1, by omega⟩
  rw [hn]
  show (formD d && (innerD d).all (isKF n)) = _
  cases e : formD d with
  | false => rfl
  | true =>
    have hs := inner_sz (frm_of e)
    rw [Bool.true_and, Bool.true_and]
    apply Bool.eq_iff_iff.mpr
    simp only [List.all_eq_true]
    have key : ∀ x ∈ innerD d, isKF n x = isKF (dsz x) x := fun x hx => isKF_ge (by have := dszs_mem hx; omega)
    exact ⟨fun z x hx => key x hx ▸ z x hx, fun z x hx => (key x hx).symm ▸ z x hx⟩
theorem tyA_mono {L G : LH} : ∀ {d : D}, tyA L d → tyA (L ++ G) d := by
  have key : ∀ (d : D) (t : String), tyD L d = some t → tyD (L ++ G) d = some t := fun d t h => by
    cases d with
    | loc n =>
      simp only [tyD] at h ⊢
      have hn : n < L.length := by
        rcases Nat.lt_or_ge n L.length with z | z
        · exact z
        · rw [List.getElem?_eq_none z] at h; cases h
      rw [List.getElem?_append_left hn]; exact h
    | _ => exact h
  have go : ∀ (k : Nat) (d : D), dsz d ≤ k → tyA L d → tyA (L ++ G) d := fun k => by
    induction k with
    | zero => intro d h; have := dsz_pos d; omega
    | succ k ih =>
      intro d h ty
      cases d with
      | tup ds =>
        simp only [tyA] at ty ⊢
        rw [tyAs_iff] at ty ⊢
        intro x hx
        exact ih x (by have := dszs_mem hx; simp [dsz] at h; omega) (ty x hx)
      | _ => simp only [tyA] at ty ⊢; obtain ⟨t, e⟩ := ty; exact ⟨t, key _ _ e⟩
  exact fun {d} => go _ d (Nat.le_refl _)
theorem inner_ty {L : LH} {d : D} (f : Frm d) (c : tyA L d) : tyAs L (innerD d) := by
  cases f with
  | num => exact trivial
  | nil => exact trivial
  | row ks _ _ => rw [i_row]; simp only [tyA, tyAs] at c; exact c.2.1
  | data i ks _ => rw [i_data]; simp only [tyA, tyAs] at c; exact c.2.2.1
  | fn ks k _ _ =>
    rw [i_fn]; simp only [tyA, tyAs] at c
    rw [tyAs_iff]
    intro x hx
    rcases List.mem_append.mp hx with h | h
    · exact tyAs_iff.1 c.2.1 x h
    · rw [List.mem_singleton.mp h]; exact c.2.2.1
  | letter i _ => exact trivial
  | box k => rw [i_box]; simp only [tyA, tyAs] at c; exact ⟨c.2.1, trivial⟩
theorem size_line : sizeLine = 16777216 := by decide
def S_is_kind : DSp := fun ds L Q _ => ∃ d, ds = [d] ∧ tyA L d ∧ dsz d ≤ 1000000 ∧ Q (.bl (isKindD d)) L
def gam_kind : Nat → DSp
  | 0 => S_inner_of
  | _ => S_has_form
theorem split_last {ws : List D} (h : ws ≠ []) : ∃ vs y, ws = vs ++ [y] := ⟨ws.dropLast, ws.getLast h, (List.dropLast_concat_getLast h).symm⟩
theorem w_is_kind {ds : List D} {L : LH} {Q : Post} {E : XP} (c1 : clL L.length L) (c2 : clDs L.length ds) (h : S_is_kind ds L Q E) : wSs gam_kind m_is_kind (endsOf L.length Q) (start0 n_is_kind ds) L := by
  obtain ⟨d, rfl, ty, hz, q⟩ := h
  have leaf : ∀ G b, b = isKindD d → (endsOf L.length Q).rt (.bl b) (L ++ G) := fun G b e => is_retG c1 cl_bl (e ▸ q)
  simp only [m_is_kind, n_is_kind, wSs, wS, wSeq, wSkip, wRet, wRetN, wIf, wSet, wExp, wBrk, wCnt, wNever, wAsg, wPar, wSub, Bw.wE, wA, wB, wO, wCd, wLX, wIX, wAnd, wOr, Bw.wNot, wIte, asT, w1, w2, w1, wVar, wC, wTup, wACons, wANil, wCall, wSlc, wNo, wSo, wChn, wBopN, CO.sem, BO.sem, F1.sem, FL.sem, OM.sem, gT, gSlot, start0, List.map_cons, List.map_nil, List.length_cons, List.length_nil, List.replicate_succ, List.replicate_zero, List.cons_append, List.nil_append, List.append_nil, List.getElem?_cons_zero, List.getElem?_cons_succ, List.set_cons_zero, List.set_cons_succ, Nat.sub_self, Nat.sub_zero, Nat.add_sub_cancel, Nat.reduceAdd, Nat.reduceSub, if_true, if_false, Bool.false_eq_true, Nat.zero_add, x_some, x_some1, x_bl, x_ix, x_len, x_eqStr, x_eqInt, x_eqBl, x_in, x_b2, x_i2, x_mul, x_addI, x_addT, x_int, x_abs, x_neg, at_0, at_1, at_2, at_3, at_m1, Bool.false_xor, Bool.true_xor, wLst]
  refine ⟨sz_small (by omega), ?_⟩
  unfold wWhile
  refine ⟨fun m ρ L' => ∃ ws h, ρ = [some d, some (.loc L.length), h] ∧ L' = L ++ [.lst ws] ∧ tyAs L ws ∧ dszs ws = m ∧ m ≤ 1000000 ∧ ws.all isKindD = isKindD d, ⟨_, [d], none, rfl, rfl, ⟨ty, trivial⟩, rfl, by simp only [dszs]; omega, by simp⟩, ?_⟩
  rintro m ρ L' ⟨ws, h, rfl, rfl, tw, hm, hm2, hall⟩
  simp only [wSs, wS, wSeq, wSkip, wRet, wRetN, wIf, wSet, wExp, wBrk, wCnt, wNever, wAsg, wPar, wSub, Bw.wE, wA, wB, wO, wCd, wLX, wIX, wAnd, wOr, Bw.wNot, wIte, asT, w1, w2, w1, wVar, wC, wTup, wACons, wANil, wCall, wSlc, wNo, wSo, wChn, wBopN, CO.sem, BO.sem, F1.sem, FL.sem, OM.sem, gT, gSlot, start0, List.map_cons, List.map_nil, List.length_cons, List.length_nil, List.replicate_succ, List.replicate_zero, List.cons_append, List.nil_append, List.append_nil, List.getElem?_cons_zero, List.getElem?_cons_succ, List.set_cons_zero, List.set_cons_succ, Nat.sub_self, Nat.sub_zero, Nat.add_sub_cancel, Nat.reduceAdd, Nat.reduceSub, if_true, if_false, Bool.false_eq_true, Nat.zero_add, x_some, x_some1, x_bl, x_ix, x_len, x_eqStr, x_eqInt, x_eqBl, x_in, x_b2, x_i2, x_mul, x_addI, x_addT, x_int, x_abs, x_neg, at_0, at_1, at_2, at_3, at_m1, Bool.false_xor, Bool.true_xor, x_lenL cell_last]
  by_cases hw : ws = []
  · subst hw
    exact leaf _ _ hall
  · obtain ⟨vs, y, rfl⟩ := split_last hw
    rw [if_pos (by simp)]
    rw [tyAs_iff] at tw
    have ty' := tw y (by simp)
    have hsz : dszs (vs ++ [y]) = dszs vs + dsz y := by rw [dszs_app]; simp [dszs]
    have tv : tyAs L vs := by rw [tyAs_iff]; exact fun x hx => tw x (by simp [hx])
    refine ⟨fun ρ' L' => ∃ m' < m, ∃ ws h, ρ' = [some d, some (.loc L.length), h] ∧ L' = L ++ [.lst ws] ∧ tyAs L ws ∧ dszs ws = m' ∧ m' ≤ 1000000 ∧ ws.all isKindD = isKindD d, fun ρ' L' ⟨m', h, r⟩ => ⟨m', h, r⟩, ?_⟩
    simp only [wMth, wSs, wS, wSeq, wSkip, wRet, wRetN, wIf, wSet, wExp, wBrk, wCnt, wNever, wAsg, wPar, wSub, Bw.wE, wA, wB, wO, wCd, wLX, wIX, wAnd, wOr, Bw.wNot, wIte, asT, w1, w2, w1, wVar, wC, wTup, wACons, wANil, wCall, wSlc, wNo, wSo, wChn, wBopN, CO.sem, BO.sem, F1.sem, FL.sem, OM.sem, gT, gSlot, start0, List.map_cons, List.map_nil, List.length_cons, List.length_nil, List.replicate_succ, List.replicate_zero, List.cons_append, List.nil_append, List.append_nil, List.getElem?_cons_zero, List.getElem?_cons_succ, List.set_cons_zero, List.set_cons_succ, Nat.sub_self, Nat.sub_zero, Nat.add_sub_cancel, Nat.reduceAdd, Nat.reduceSub, if_true, if_false, Bool.false_eq_true, Nat.zero_add, x_some, x_some1, x_bl, x_ix, x_len, x_eqStr, x_eqInt, x_eqBl, x_in, x_b2, x_i2, x_mul, x_addI, x_addT, x_int, x_abs, x_neg, at_0, at_1, at_2, at_3, at_m1, Bool.false_xor, Bool.true_xor]
    refine ⟨⟨_, _, rfl, cell_last⟩, x_pop cell_last ?_⟩
    simp only [wSs, wS, wSeq, wSkip, wRet, wRetN, wIf, wSet, wExp, wBrk, wCnt, wNever, wAsg, wPar, wSub, Bw.wE, wA, wB, wO, wCd, wLX, wIX, wAnd, wOr, Bw.wNot, wIte, asT, w1, w2, w1, wVar, wC, wTup, wACons, wANil, wCall, wSlc, wNo, wSo, wChn, wBopN, CO.sem, BO.sem, F1.sem, FL.sem, OM.sem, gT, gSlot, start0, List.map_cons, List.map_nil, List.length_cons, List.length_nil, List.replicate_succ, List.replicate_zero, List.cons_append, List.nil_append, List.append_nil, List.getElem?_cons_zero, List.getElem?_cons_succ, List.set_cons_zero, List.set_cons_succ, Nat.sub_self, Nat.sub_zero, Nat.add_sub_cancel, Nat.reduceAdd, Nat.reduceSub, if_true, if_false, Bool.false_eq_true, Nat.zero_add, x_some, x_some1, x_bl, x_ix, x_len, x_eqStr, x_eqInt, x_eqBl, x_in, x_b2, x_i2, x_mul, x_addI, x_addT, x_int, x_abs, x_neg, at_0, at_1, at_2, at_3, at_m1, Bool.false_xor, Bool.true_xor, set_last]
    refine ⟨trivial, y, rfl, tyA_mono ty', _, rfl, ?_⟩
    have hy := isKindD_eq y
    rw [List.all_append] at hall
    simp only [List.all_cons, List.all_nil, Bool.and_true] at hall
    cases hf : formD y with
    | false =>
      rw [hf, Bool.false_and] at hy
      rw [if_pos (show (!false) = true from rfl)]
      exact leaf _ _ (by rw [← hall, hy, Bool.and_false])
    | true =>
      rw [hf, Bool.true_and] at hy
      have fr := frm_of hf
      have h1 := inner_sz fr
      have h2 := dszs_len vs
      have h3 := dszs_len (innerD y)
      rw [if_neg (by simp)]
      refine ⟨⟨_, _, rfl, cell_last⟩, trivial, y, rfl, fr, x_ext cell_last (by rw [size_line]; omega) ?_⟩
      rw [set_last]
      refine ⟨dszs (vs ++ innerD y), by rw [dszs_app]; omega, vs ++ innerD y, _, rfl, rfl, ?_, rfl, by rw [dszs_app]; omega, ?_⟩
      · rw [tyAs_iff]
        intro x hx
        rcases List.mem_append.mp hx with h | h
        · exact tyAs_iff.1 tv x h
        · exact tyAs_iff.1 (inner_ty fr ty') x h
      · rw [List.all_append, ← hy]; exact hall
end K01
end
section
set_option linter.all false
set_option maxRecDepth 100000
set_option maxHeartbeats 4000000
namespace K01
open PySem Bw
theorem x_inL {neg : Bool} {d : D} {n : Nat} {ds : List D} {L : LH} {Q : Post} (hL : L[n]? = some (.lst ds)) (h1 : flatD d = true) (h2 : ds.all flatD = true) (q : Q (.bl (neg ^^ inD d ds)) L) : pIn neg d (.loc n) L Q :=
  .inl ⟨ds, by simp only [sq, sqL, hL], h1, h2, q⟩
def gam_lform : Nat → DSp := fun _ => S_is_integer
theorem w__law_is_int {Γ : Nat → DSp} {ds : List D} {L : LH} {Q : Post} {E : XP} (c1 : clL L.length L) (c2 : clDs L.length ds) (h : S_is_integer ds L Q E) : wSs Γ m__law_is_int (endsOf L.length Q) (start0 n__law_is_int ds) L := w_is_integer (Γ := Γ) (E := E) c1 c2 h
theorem len0 {n : Nat} : (((n + 1 : Nat) : Int) == 0) = false := by rw [beq_eq_false_iff_ne]; omega
theorem leafI {n : Nat} {x : D} {y : D} {P : Prop} (h : nnD x && isTupD y = (nnD x && isTupD y)) : True := trivial
theorem w__law_has_form {ds : List D} {L : LH} {Q : Post} {E : XP} (c1 : clL L.length L) (c2 : clDs L.length ds) (h : S_has_form ds L Q E) : wSs gam_lform m__law_has_form (endsOf L.length Q) (start0 n__law_has_form ds) L := by
  obtain ⟨d, rfl, ty, q⟩ := h
  obtain ⟨t, ht⟩ := tyA_ty ty
  have leaf : ∀ b, b = formD d → (endsOf L.length Q).rt (.bl b) L := fun b e => is_ret c1 cl_bl (e ▸ q)
  have leafG : ∀ G b, b = formD d → (endsOf L.length Q).rt (.bl b) (L ++ G) := fun G b e => is_retG c1 cl_bl (e ▸ q)
  simp only [m__law_has_form, n__law_has_form, wSs, wS, wSeq, wSkip, wRet, wRetN, wIf, wSet, wExp, wBrk, wCnt, wNever, wAsg, wPar, wSub, Bw.wE, wA, wB, wO, wCd, wLX, wIX, wAnd, wOr, Bw.wNot, wIte, asT, w1, w2, w1, wVar, wC, wTup, wLst, wMth, wMthl, wListOf, wL, wNew, wACons, wANil, wCall, wSlc, wNo, wSo, wChn, wBopN, CO.sem, BO.sem, F1.sem, FL.sem, OM.sem, gT, gSlot, start0, List.map_cons, List.map_nil, List.length_cons, List.length_nil, List.replicate_succ, List.replicate_zero, List.cons_append, List.nil_append, List.append_nil, List.getElem?_cons_zero, List.getElem?_cons_succ, List.set_cons_zero, List.set_cons_succ, Nat.sub_self, Nat.sub_zero, Nat.add_sub_cancel, Nat.reduceAdd, Nat.reduceSub, if_true, if_false, Bool.false_eq_true, Nat.zero_add, x_some, x_some1, x_bl, x_ix, x_len, x_eqStr, x_eqInt, x_eqBl, x_in, x_b2, x_i2, x_mul, x_addI, x_addT, x_int, x_abs, x_neg, at_0, at_1, at_2, at_3, at_m1, Bool.false_xor, Bool.true_xor, x_isi (T := "tuple") (by decide) ht, tyD_tup ht]
  cases d with
  | tup ds =>
    cases ds with
    | nil => simp only [isTupD, start0, List.map_cons, List.map_nil, List.length_cons, List.length_nil, List.replicate_succ, List.replicate_zero, List.cons_append, List.nil_append, List.append_nil, List.getElem?_cons_zero, List.getElem?_cons_succ, List.set_cons_zero, List.set_cons_succ, Nat.sub_self, Nat.sub_zero, Nat.add_sub_cancel, Nat.reduceAdd, Nat.reduceSub, if_true, if_false, Bool.false_eq_true, Nat.zero_add, x_some, x_some1, x_bl, x_ix, x_len, x_eqStr, x_eqInt, x_eqBl, x_in, x_b2, x_i2, x_mul, x_addI, x_addT, x_int, x_abs, x_neg, at_0, at_1, at_2, at_3, at_m1, Bool.false_xor, Bool.true_xor, Bool.not_true]; exact leaf _ rfl
    | cons x r =>
      obtain ⟨tx, hx⟩ := tyA_ty (L := L) (d := x) (tyAs_iff.1 ty x (by simp))
      simp only [isTupD, start0, List.map_cons, List.map_nil, List.length_cons, List.length_nil, List.replicate_succ, List.replicate_zero, List.cons_append, List.nil_append, List.append_nil, List.getElem?_cons_zero, List.getElem?_cons_succ, List.set_cons_zero, List.set_cons_succ, Nat.sub_self, Nat.sub_zero, Nat.add_sub_cancel, Nat.reduceAdd, Nat.reduceSub, if_true, if_false, Bool.false_eq_true, Nat.zero_add, x_some, x_some1, x_bl, x_ix, x_len, x_eqStr, x_eqInt, x_eqBl, x_in, x_b2, x_i2, x_mul, x_addI, x_addT, x_int, x_abs, x_neg, at_0, at_1, at_2, at_3, at_m1, Bool.false_xor, Bool.true_xor, Bool.not_true, Bool.not_false, len0, x_isi (T := "str") (by decide) hx, tyD_str hx]
      cases x with
      | str s =>
        simp only [isStrD, start0, List.map_cons, List.map_nil, List.length_cons, List.length_nil, List.replicate_succ, List.replicate_zero, List.cons_append, List.nil_append, List.append_nil, List.getElem?_cons_zero, List.getElem?_cons_succ, List.set_cons_zero, List.set_cons_succ, Nat.sub_self, Nat.sub_zero, Nat.add_sub_cancel, Nat.reduceAdd, Nat.reduceSub, if_true, if_false, Bool.false_eq_true, Nat.zero_add, x_some, x_some1, x_bl, x_ix, x_len, x_eqStr, x_eqInt, x_eqBl, x_in, x_b2, x_i2, x_mul, x_addI, x_addT, x_int, x_abs, x_neg, at_0, at_1, at_2, at_3, at_m1, Bool.false_xor, Bool.true_xor, Bool.not_true]
        refine ⟨sz_small (by omega), x_inL cell_last rfl all_flat ?_⟩
        clear leaf
        have leaf : ∀ b, b = formD (.tup (.str s :: r)) → (endsOf L.length Q).rt (.bl b) (L ++ [.lst [.str "num", .str "nil"]]) := fun b e => leafG _ b e
        have ty1 : ∀ x ∈ r, ∃ t, tyD (L ++ [.lst [.str "num", .str "nil"]]) x = some t := fun x hx => tyA_ty (tyA_mono (tyAs_iff.1 ty x (by simp [hx])))
        revert leaf ty1
        generalize (L ++ [.lst [.str "num", .str "nil"]] : LH) = L1
        intro leaf ty1
        simp only [in_two, beq_dec, start0, List.map_cons, List.map_nil, List.length_cons, List.length_nil, List.replicate_succ, List.replicate_zero, List.cons_append, List.nil_append, List.append_nil, List.getElem?_cons_zero, List.getElem?_cons_succ, List.set_cons_zero, List.set_cons_succ, Nat.sub_self, Nat.sub_zero, Nat.add_sub_cancel, Nat.reduceAdd, Nat.reduceSub, if_true, if_false, Bool.false_eq_true, Nat.zero_add, x_some, x_some1, x_bl, x_ix, x_len, x_eqStr, x_eqInt, x_eqBl, x_in, x_b2, x_i2, x_mul, x_addI, x_addT, x_int, x_abs, x_neg, at_0, at_1, at_2, at_3, at_m1, Bool.false_xor, Bool.true_xor]
        by_cases e1 : s = "num" ∨ s = "nil"
        · have e1' : (decide (s = Str.ofString "num") || decide (s = Str.ofString "nil")) = true := by simpa using e1
          simp only [e1', if_true]
          refine leaf _ ?_
          simp only [formD, if_pos e1]
          cases r <;> simp
          omega
        · have e1' : (decide (s = Str.ofString "num") || decide (s = Str.ofString "nil")) = false := by simpa using e1
          simp only [e1', Bool.false_eq_true, if_false]
          simp only [formD, if_neg e1] at leaf
          clear e1 e1'
          have ln : ∀ k : Nat, (((r.length + 1 : Nat) : Int) == (k : Int)) = (r.length + 1 == k) := fun k => len_eq
          have ln2 := ln 2
          have ln3 := ln 3
          simp only [show ((2 : Nat) : Int) = 2 from rfl] at ln2
          simp only [show ((3 : Nat) : Int) = 3 from rfl] at ln3
          have pick : ∀ (n : Nat) (A B : Prop), (r.length + 1 = n → A) → (r.length + 1 ≠ n → B) → if (r.length + 1 == n) = true then A else B := fun n A B ha hb => by
            by_cases e : r.length + 1 = n
            · rw [if_pos (by simpa using e)]; exact ha e
            · rw [if_neg (by simpa using e)]; exact hb e
          by_cases e2 : s = "row"
          · simp only [e2, decide_true, if_true, ln2]
            simp only [if_pos e2] at leaf
            refine pick _ _ _ (fun e => ?_) (fun e => leaf _ ?_)
            · match r, e with
              | [x], _ =>
                obtain ⟨t', ht'⟩ := ty1 x (by simp)
                refine ⟨x, rfl, (x_isi (T := "tuple") (by decide) ht').2 ⟨_, rfl, ?_⟩⟩
                rw [tyD_tup ht']
                cases x with
                | tup ks =>
                  simp only [isTupD, if_true, start0, List.map_cons, List.map_nil, List.length_cons, List.length_nil, List.replicate_succ, List.replicate_zero, List.cons_append, List.nil_append, List.append_nil, List.getElem?_cons_zero, List.getElem?_cons_succ, List.set_cons_zero, List.set_cons_succ, Nat.sub_self, Nat.sub_zero, Nat.add_sub_cancel, Nat.reduceAdd, Nat.reduceSub, if_true, if_false, Bool.false_eq_true, Nat.zero_add, x_some, x_some1, x_bl, x_ix, x_len, x_eqStr, x_eqInt, x_eqBl, x_in, x_b2, x_i2, x_mul, x_addI, x_addT, x_int, x_abs, x_neg, at_0, at_1, at_2, at_3, at_m1, Bool.false_xor, Bool.true_xor]
                  by_cases hk : (0 : Int) < ks.length
                  · simp only [decide_eq_true hk, if_true]
                    exact leaf _ (by rw [Bool.eq_iff_iff]; simp [szT]; omega)
                  · simp only [decide_eq_false hk, Bool.false_eq_true, if_false]
                    exact leaf _ (by rw [Bool.eq_iff_iff]; simp [szT]; omega)
                | _ => exact leaf _ rfl
            · match r, e with
              | [], _ => rfl
              | [_], e => exact absurd rfl e
              | _ :: _ :: _, _ => rfl
          · simp only [e2, decide_false, Bool.false_eq_true, if_false]
            simp only [if_neg e2] at leaf
            clear e2
            by_cases e2 : s = "data"
            · simp only [e2, decide_true, if_true, ln3]
              simp only [if_pos e2] at leaf
              refine pick _ _ _ (fun e => ?_) (fun e => leaf _ ?_)
              · match r, e with
                | [x, y], _ =>
                  obtain ⟨t', ht'⟩ := ty1 x (by simp)
                  obtain ⟨t2, ht2⟩ := ty1 y (by simp)
                  refine ⟨x, rfl, trivial, x, t', rfl, ht', _, rfl, ?_⟩
                  cases x with
                  | int i =>
                    simp only [isIntD, if_true, start0, List.map_cons, List.map_nil, List.length_cons, List.length_nil, List.replicate_succ, List.replicate_zero, List.cons_append, List.nil_append, List.append_nil, List.getElem?_cons_zero, List.getElem?_cons_succ, List.set_cons_zero, List.set_cons_succ, Nat.sub_self, Nat.sub_zero, Nat.add_sub_cancel, Nat.reduceAdd, Nat.reduceSub, if_true, if_false, Bool.false_eq_true, Nat.zero_add]
                    refine ⟨_, rfl, ?_⟩
                    by_cases hi : (0 : Int) ≤ i
                    · refine ⟨_, rfl, ?_⟩
                      rw [if_pos (decide_eq_true hi)]
                      refine ⟨y, rfl, (x_isi (T := "tuple") (by decide) ht2).2 ?_⟩
                      rw [tyD_tup ht2]
                      exact leaf _ (by simp [nnD, hi])
                    · refine ⟨_, rfl, ?_⟩
                      rw [if_neg (by simpa using hi)]
                      exact leaf _ (by simp [nnD, hi])
                  | _ => exact leaf _ rfl
              · match r, e with
                | [], _ => rfl
                | [_], _ => rfl
                | [_, _], e => exact absurd rfl e
                | _ :: _ :: _ :: _, _ => rfl
            · simp only [e2, decide_false, Bool.false_eq_true, if_false]
              simp only [if_neg e2] at leaf
              clear e2
              by_cases e2 : s = "fun"
              · simp only [e2, decide_true, if_true, ln3]
                simp only [if_pos e2] at leaf
                refine pick _ _ _ (fun e => ?_) (fun e => leaf _ ?_)
                · match r, e with
                  | [x, y], _ =>
                    obtain ⟨t', ht'⟩ := ty1 x (by simp)
                    refine ⟨x, rfl, (x_isi (T := "tuple") (by decide) ht').2 ⟨_, rfl, ?_⟩⟩
                    rw [tyD_tup ht']
                    cases x with
                    | tup ks =>
                      simp only [isTupD, if_true, start0, List.map_cons, List.map_nil, List.length_cons, List.length_nil, List.replicate_succ, List.replicate_zero, List.cons_append, List.nil_append, List.append_nil, List.getElem?_cons_zero, List.getElem?_cons_succ, List.set_cons_zero, List.set_cons_succ, Nat.sub_self, Nat.sub_zero, Nat.add_sub_cancel, Nat.reduceAdd, Nat.reduceSub, if_true, if_false, Bool.false_eq_true, Nat.zero_add, x_some, x_some1, x_bl, x_ix, x_len, x_eqStr, x_eqInt, x_eqBl, x_in, x_b2, x_i2, x_mul, x_addI, x_addT, x_int, x_abs, x_neg, at_0, at_1, at_2, at_3, at_m1, Bool.false_xor, Bool.true_xor]
                      by_cases hk : (0 : Int) < ks.length
                      · simp only [decide_eq_true hk, if_true]
                        exact leaf _ (by rw [Bool.eq_iff_iff]; simp [szT]; omega)
                      · simp only [decide_eq_false hk, Bool.false_eq_true, if_false]
                        exact leaf _ (by rw [Bool.eq_iff_iff]; simp [szT]; omega)
                    | _ => exact leaf _ rfl
                · match r, e with
                  | [], _ => rfl
                  | [_], _ => rfl
                  | [_, _], e => exact absurd rfl e
                  | _ :: _ :: _ :: _, _ => rfl
              · simp only [e2, decide_false, Bool.false_eq_true, if_false]
                simp only [if_neg e2] at leaf
                clear e2
                by_cases e2 : s = "letter"
                · simp only [e2, decide_true, if_true, ln2]
                  simp only [if_pos e2] at leaf
                  refine pick _ _ _ (fun e => ?_) (fun e => leaf _ ?_)
                  · match r, e with
                    | [x], _ =>
                      obtain ⟨t', ht'⟩ := ty1 x (by simp)
                      refine ⟨x, rfl, trivial, x, t', rfl, ht', _, rfl, ?_⟩
                      cases x with
                      | int i =>
                        simp only [isIntD, if_true, start0, List.map_cons, List.map_nil, List.length_cons, List.length_nil, List.replicate_succ, List.replicate_zero, List.cons_append, List.nil_append, List.append_nil, List.getElem?_cons_zero, List.getElem?_cons_succ, List.set_cons_zero, List.set_cons_succ, Nat.sub_self, Nat.sub_zero, Nat.add_sub_cancel, Nat.reduceAdd, Nat.reduceSub, if_true, if_false, Bool.false_eq_true, Nat.zero_add]
                        refine ⟨_, rfl, ?_⟩
                        exact leaf _ rfl
                      | _ => exact leaf _ rfl
                  · match r, e with
                    | [], _ => rfl
                    | [_], e => exact absurd rfl e
                    | _ :: _ :: _, _ => rfl
                · simp only [e2, decide_false, Bool.false_eq_true, if_false]
                  simp only [if_neg e2] at leaf
                  clear e2
                  by_cases e2 : s = "box"
                  · simp only [e2, decide_true, if_true, ln2]
                    simp only [if_pos e2] at leaf
                    exact leaf _ (by cases r <;> simp)
                  · simp only [e2, decide_false, Bool.false_eq_true, if_false]
                    simp only [if_neg e2] at leaf
                    exact leaf _ rfl
      | _ => exact leaf _ rfl
  | _ => exact leaf _ rfl
end K01
end
section
set_option linter.all false
set_option maxRecDepth 100000
set_option maxHeartbeats 4000000
namespace K01
open PySem Bw
theorem w__law_is_kind {ds : List D} {L : LH} {Q : Post} {E : XP} (c1 : clL L.length L) (c2 : clDs L.length ds) (h : S_is_kind ds L Q E) : wSs gam_kind m__law_is_kind (endsOf L.length Q) (start0 n__law_is_kind ds) L := by
  obtain ⟨d, rfl, ty, hz, q⟩ := h
  have leaf : ∀ G b, b = isKindD d → (endsOf L.length Q).rt (.bl b) (L ++ G) := fun G b e => is_retG c1 cl_bl (e ▸ q)
  simp only [m__law_is_kind, n__law_is_kind, wSs, wS, wSeq, wSkip, wRet, wRetN, wIf, wSet, wExp, wBrk, wCnt, wNever, wAsg, wPar, wSub, Bw.wE, wA, wB, wO, wCd, wLX, wIX, wAnd, wOr, Bw.wNot, wIte, asT, w1, w2, w1, wVar, wC, wTup, wLst, wMth, wMthl, wListOf, wL, wNew, wACons, wANil, wCall, wSlc, wNo, wSo, wChn, wBopN, CO.sem, BO.sem, F1.sem, FL.sem, OM.sem, gT, gSlot, start0, List.map_cons, List.map_nil, List.length_cons, List.length_nil, List.replicate_succ, List.replicate_zero, List.cons_append, List.nil_append, List.append_nil, List.getElem?_cons_zero, List.getElem?_cons_succ, List.set_cons_zero, List.set_cons_succ, Nat.sub_self, Nat.sub_zero, Nat.add_sub_cancel, Nat.reduceAdd, Nat.reduceSub, if_true, if_false, Bool.false_eq_true, Nat.zero_add, x_some, x_some1, x_bl, x_ix, x_len, x_eqStr, x_eqInt, x_eqBl, x_in, x_b2, x_i2, x_mul, x_addI, x_addT, x_int, x_abs, x_neg, at_0, at_1, at_2, at_3, at_m1, Bool.false_xor, Bool.true_xor]
  refine ⟨sz_small (by omega), ?_⟩
  unfold wWhile
  refine ⟨fun m ρ L' => ∃ ws h, ρ = [some d, some (.loc L.length), h] ∧ L' = L ++ [.lst ws] ∧ tyAs L ws ∧ dszs ws = m ∧ m ≤ 1000000 ∧ ws.all isKindD = isKindD d, ⟨_, [d], none, rfl, rfl, ⟨ty, trivial⟩, rfl, by simp only [dszs]; omega, by simp⟩, ?_⟩
  rintro m ρ L' ⟨ws, h, rfl, rfl, tw, hm, hm2, hall⟩
  simp only [wSs, wS, wSeq, wSkip, wRet, wRetN, wIf, wSet, wExp, wBrk, wCnt, wNever, wAsg, wPar, wSub, Bw.wE, wA, wB, wO, wCd, wLX, wIX, wAnd, wOr, Bw.wNot, wIte, asT, w1, w2, w1, wVar, wC, wTup, wLst, wMth, wMthl, wListOf, wL, wNew, wACons, wANil, wCall, wSlc, wNo, wSo, wChn, wBopN, CO.sem, BO.sem, F1.sem, FL.sem, OM.sem, gT, gSlot, start0, List.map_cons, List.map_nil, List.length_cons, List.length_nil, List.replicate_succ, List.replicate_zero, List.cons_append, List.nil_append, List.append_nil, List.getElem?_cons_zero, List.getElem?_cons_succ, List.set_cons_zero, List.set_cons_succ, Nat.sub_self, Nat.sub_zero, Nat.add_sub_cancel, Nat.reduceAdd, Nat.reduceSub, if_true, if_false, Bool.false_eq_true, Nat.zero_add, x_some, x_some1, x_bl, x_ix, x_len, x_eqStr, x_eqInt, x_eqBl, x_in, x_b2, x_i2, x_mul, x_addI, x_addT, x_int, x_abs, x_neg, at_0, at_1, at_2, at_3, at_m1, Bool.false_xor, Bool.true_xor, x_lenL cell_last]
  by_cases hw : ws = []
  · subst hw
    exact leaf _ _ hall
  · obtain ⟨vs, y, rfl⟩ := split_last hw
    rw [if_pos (by simp)]
    rw [tyAs_iff] at tw
    have ty' := tw y (by simp)
    have hsz : dszs (vs ++ [y]) = dszs vs + dsz y := by rw [dszs_app]; simp [dszs]
    have tv : tyAs L vs := by rw [tyAs_iff]; exact fun x hx => tw x (by simp [hx])
    refine ⟨fun ρ' L' => ∃ m' < m, ∃ ws h, ρ' = [some d, some (.loc L.length), h] ∧ L' = L ++ [.lst ws] ∧ tyAs L ws ∧ dszs ws = m' ∧ m' ≤ 1000000 ∧ ws.all isKindD = isKindD d, fun ρ' L' ⟨m', h, r⟩ => ⟨m', h, r⟩, ?_⟩
    simp only [wSs, wS, wSeq, wSkip, wRet, wRetN, wIf, wSet, wExp, wBrk, wCnt, wNever, wAsg, wPar, wSub, Bw.wE, wA, wB, wO, wCd, wLX, wIX, wAnd, wOr, Bw.wNot, wIte, asT, w1, w2, w1, wVar, wC, wTup, wLst, wMth, wMthl, wListOf, wL, wNew, wACons, wANil, wCall, wSlc, wNo, wSo, wChn, wBopN, CO.sem, BO.sem, F1.sem, FL.sem, OM.sem, gT, gSlot, start0, List.map_cons, List.map_nil, List.length_cons, List.length_nil, List.replicate_succ, List.replicate_zero, List.cons_append, List.nil_append, List.append_nil, List.getElem?_cons_zero, List.getElem?_cons_succ, List.set_cons_zero, List.set_cons_succ, Nat.sub_self, Nat.sub_zero, Nat.add_sub_cancel, Nat.reduceAdd, Nat.reduceSub, if_true, if_false, Bool.false_eq_true, Nat.zero_add, x_some, x_some1, x_bl, x_ix, x_len, x_eqStr, x_eqInt, x_eqBl, x_in, x_b2, x_i2, x_mul, x_addI, x_addT, x_int, x_abs, x_neg, at_0, at_1, at_2, at_3, at_m1, Bool.false_xor, Bool.true_xor]
    refine ⟨⟨_, _, rfl, cell_last⟩, x_pop cell_last ?_⟩
    simp only [wSs, wS, wSeq, wSkip, wRet, wRetN, wIf, wSet, wExp, wBrk, wCnt, wNever, wAsg, wPar, wSub, Bw.wE, wA, wB, wO, wCd, wLX, wIX, wAnd, wOr, Bw.wNot, wIte, asT, w1, w2, w1, wVar, wC, wTup, wLst, wMth, wMthl, wListOf, wL, wNew, wACons, wANil, wCall, wSlc, wNo, wSo, wChn, wBopN, CO.sem, BO.sem, F1.sem, FL.sem, OM.sem, gT, gSlot, start0, List.map_cons, List.map_nil, List.length_cons, List.length_nil, List.replicate_succ, List.replicate_zero, List.cons_append, List.nil_append, List.append_nil, List.getElem?_cons_zero, List.getElem?_cons_succ, List.set_cons_zero, List.set_cons_succ, Nat.sub_self, Nat.sub_zero, Nat.add_sub_cancel, Nat.reduceAdd, Nat.reduceSub, if_true, if_false, Bool.false_eq_true, Nat.zero_add, x_some, x_some1, x_bl, x_ix, x_len, x_eqStr, x_eqInt, x_eqBl, x_in, x_b2, x_i2, x_mul, x_addI, x_addT, x_int, x_abs, x_neg, at_0, at_1, at_2, at_3, at_m1, Bool.false_xor, Bool.true_xor, set_last]
    refine ⟨trivial, y, rfl, tyA_mono ty', _, rfl, ?_⟩
    have hy := isKindD_eq y
    rw [List.all_append] at hall
    simp only [List.all_cons, List.all_nil, Bool.and_true] at hall
    cases hf : formD y with
    | false =>
      rw [hf, Bool.false_and] at hy
      rw [if_pos (show (!false) = true from rfl)]
      exact leaf _ _ (by rw [← hall, hy, Bool.and_false])
    | true =>
      rw [hf, Bool.true_and] at hy
      have fr := frm_of hf
      have h1 := inner_sz fr
      have h2 := dszs_len vs
      have h3 := dszs_len (innerD y)
      rw [if_neg (by simp)]
      refine ⟨⟨_, _, rfl, cell_last⟩, trivial, y, rfl, fr, innerD y, rfl, x_extl cell_last (by rw [size_line]; omega) ?_⟩
      rw [set_last]
      refine ⟨dszs (vs ++ innerD y), by rw [dszs_app]; omega, vs ++ innerD y, _, rfl, rfl, ?_, rfl, by rw [dszs_app]; omega, ?_⟩
      · rw [tyAs_iff]
        intro x hx
        rcases List.mem_append.mp hx with h | h
        · exact tyAs_iff.1 tv x h
        · exact tyAs_iff.1 (inner_ty fr ty') x h
      · rw [List.all_append, ← hy]; exact hall
/-! the nodes of a kind -/
def nodesF : Nat → D → List D
  | 0, _ => []
  | n + 1, d => d :: (innerD d).flatMap (nodesF n)
def nodesD (d : D) : List D := nodesF (dsz d) d
theorem innR_sz : ∀ (r : List D), ∀ x ∈ innR r, dsz x ≤ dszs r
  | [.tup ks], x, hx => by have := dszs_mem (a := ks) hx; simp only [dsz, dszs]; omega
  | [], x, hx => by simp [innR] at hx
  | .non :: _, x, hx | .bl _ :: _, x, hx | .int _ :: _, x, hx | .str _ :: _, x, hx | .loc _ :: _, x, hx | .glo _ :: _, x, hx | .ty _ :: _, x, hx | .kl _ :: _, x, hx => by simp [innR] at hx
  | .tup _ :: _ :: _, x, hx => by simp [innR] at hx
theorem innA_sz : ∀ (r : List D), ∀ x ∈ innA r, dsz x ≤ dszs r
  | [_, .tup ks], x, hx => by have := dszs_mem (a := ks) hx; simp only [dsz, dszs]; omega
  | [], x, hx => by simp [innA] at hx
  | [_], x, hx => by simp [innA] at hx
  | _ :: .non :: _, x, hx | _ :: .bl _ :: _, x, hx | _ :: .int _ :: _, x, hx | _ :: .str _ :: _, x, hx | _ :: .loc _ :: _, x, hx | _ :: .glo _ :: _, x, hx | _ :: .ty _ :: _, x, hx | _ :: .kl _ :: _, x, hx => by simp [innA] at hx
  | _ :: .tup _ :: _ :: _, x, hx => by simp [innA] at hx
theorem innF_sz : ∀ (r : List D), ∀ x ∈ innF r, dsz x ≤ dszs r
  | [.tup ks, k], x, hx => by
    rcases List.mem_append.mp (show x ∈ ks ++ [k] from hx) with h | h
    · have := dszs_mem h; simp only [dsz, dszs]; omega
    · rw [List.mem_singleton.mp h]; simp only [dsz, dszs]; omega
  | [], x, hx => by simp [innF] at hx
  | .non :: _, x, hx | .bl _ :: _, x, hx | .int _ :: _, x, hx | .str _ :: _, x, hx | .loc _ :: _, x, hx | .glo _ :: _, x, hx | .ty _ :: _, x, hx | .kl _ :: _, x, hx => by simp [innF] at hx
  | [.tup _], x, hx => by simp [innF] at hx
  | .tup _ :: _ :: _ :: _, x, hx => by simp [innF] at hx
theorem innerD_sz : ∀ (d : D), ∀ x ∈ innerD d, dsz x < dsz d
  | .tup (.str h :: r), x, hx => by
    have e : innerD (.tup (.str h :: r)) = if h = "row" then innR r else if h = "data" then innA r else if h = "fun" then innF r else if h = "box" then r.take 1 else [] := rfl
    rw [e] at hx
    have g : dsz (.tup (.str h :: r)) = 1 + (1 + dszs r) := by simp only [dsz, dszs]
    rw [g]
    split at hx
    · have := innR_sz r x hx; omega
    split at hx
    · have := innA_sz r x hx; omega
    split at hx
    · have := innF_sz r x hx; omega
    split at hx
    · have := dszs_mem (List.mem_of_mem_take hx); omega
    · simp at hx
  | .tup [], x, hx => by simp [innerD] at hx
  | .tup (.non :: _), x, hx | .tup (.bl _ :: _), x, hx | .tup (.int _ :: _), x, hx | .tup (.tup _ :: _), x, hx | .tup (.loc _ :: _), x, hx | .tup (.glo _ :: _), x, hx | .tup (.ty _ :: _), x, hx | .tup (.kl _ :: _), x, hx => by simp [innerD] at hx
  | .non, x, hx | .bl _, x, hx | .int _, x, hx | .str _, x, hx | .loc _, x, hx | .glo _, x, hx | .ty _, x, hx | .kl _, x, hx => by simp [innerD] at hx
theorem flat_eq {f g : D → List D} : ∀ {l : List D}, (∀ x ∈ l, f x = g x) → l.flatMap f = l.flatMap g
  | [], _ => rfl
  | x :: l, h => by rw [List.flatMap_cons, List.flatMap_cons, h x (by simp), flat_eq fun y hy => h y (by simp [hy])]
theorem nodesF_st : ∀ (n : Nat) (d : D), dsz d ≤ n → nodesF n d = nodesF (n + 1) d
  | 0, d, h => by have := dsz_pos d; omega
  | n + 1, d, h => by
    show d :: (innerD d).flatMap (nodesF n) = d :: (innerD d).flatMap (nodesF (n + 1))
    rw [flat_eq fun x hx => nodesF_st n x (by have := innerD_sz d x hx; omega)]
theorem nodesF_ge {d : D} : ∀ {n : Nat}, dsz d ≤ n → nodesF n d = nodesD d
  | n, h => by
    induction n with
    | zero => have := dsz_pos d; omega
    | succ n ih =>
      by_cases e : dsz d ≤ n
      · rw [← nodesF_st n d e]; exact ih e
      · have : dsz d = n + 1 := by omega
        rw [← this]; rfl
theorem nodesD_eq (d : D) : nodesD d = d :: (innerD d).flatMap nodesD := by
  have hp := dsz_pos d
  obtain ⟨n, hn⟩ : ∃ n, dsz d = n + 1 := ⟨dsz d - 1, by omega⟩
  have : nodesD d = d :: (innerD d).flatMap (nodesF n) := by unfold nodesD; rw [hn]; rfl
  rw [this, flat_eq fun x hx => nodesF_ge (by have := innerD_sz d x hx; omega)]
theorem kind_inner {d : D} (h : isKindD d = true) : Frm d ∧ ∀ x ∈ innerD d, isKindD x = true := by
  rw [isKindD_eq, Bool.and_eq_true] at h
  exact ⟨frm_of h.1, fun x hx => List.all_eq_true.mp h.2 x hx⟩
theorem kind_nodes : ∀ (n : Nat) (d : D), dsz d ≤ n → isKindD d = true → ∀ x ∈ nodesD d, isKindD x = true
  | 0, d, h => by have := dsz_pos d; omega
  | n + 1, d, h => fun k x hx => by
    rw [nodesD_eq] at hx
    rcases List.mem_cons.mp hx with rfl | hx
    · exact k
    · obtain ⟨y, hy, hx⟩ := List.mem_flatMap.mp hx
      exact kind_nodes n y (by have := innerD_sz d y hy; omega) ((kind_inner k).2 y hy) x hx
/-- nodes are fewer than the size -/
theorem nodes_len : ∀ (n : Nat) (d : D), dsz d ≤ n → isKindD d = true → (nodesD d).length ≤ dsz d
  | 0, d, h => by have := dsz_pos d; omega
  | n + 1, d, h => fun k => by
    rw [nodesD_eq, List.length_cons]
    obtain ⟨fr, ki⟩ := kind_inner k
    have h1 := inner_sz fr
    have : ∀ l : List D, (∀ x ∈ l, x ∈ innerD d) → (l.flatMap nodesD).length ≤ dszs l := fun l => by
      induction l with
      | nil => intro _; simp
      | cons x l ih =>
        intro hl
        rw [List.flatMap_cons, List.length_append]
        have := nodes_len n x (by have := innerD_sz d x (hl x (by simp)); omega) (ki x (hl x (by simp)))
        have := ih fun y hy => hl y (by simp [hy])
        simp only [dszs]; omega
    have := this (innerD d) fun x hx => hx
    omega
def S_all_in : DSp := fun ds L Q _ => ∃ d, ds = [d] ∧ isKindD d = true ∧ clD L.length d ∧ dsz d ≤ 1000000 ∧ ∀ ns, ns.Perm (nodesD d) → Q (.loc L.length) (L ++ [.lst ns])
def gam_all : Nat → DSp := fun _ => S_inner_of
theorem cl_nodes {n : Nat} : ∀ (k : Nat) (d : D), dsz d ≤ k → isKindD d = true → clD n d → ∀ x ∈ nodesD d, clD n x
  | 0, d, h => by have := dsz_pos d; omega
  | k + 1, d, h => fun kd c x hx => by
    rw [nodesD_eq] at hx
    rcases List.mem_cons.mp hx with rfl | hx
    · exact c
    · obtain ⟨y, hy, hx⟩ := List.mem_flatMap.mp hx
      exact cl_nodes k y (by have := innerD_sz d y hy; omega) ((kind_inner kd).2 y hy) (clDs_iff.1 (inner_cl (kind_inner kd).1 c) y hy) x hx
theorem clL_app {n : Nat} {L : LH} {ds : List D} (h : clL n L) (hn : n ≤ n + 1) (hd : clDs (n + 1) ds) : clL (n + 1) (L ++ [.lst ds]) := fun c hc => by
  rcases List.mem_append.mp hc with hc | hc
  · exact clC_mono hn (h c hc)
  · rw [List.mem_singleton.mp hc]; exact hd
theorem ret_new {L G : LH} {Q : Post} {ns : List D} (hL : clL L.length L) (hc : clDs L.length ns) (q : Q (.loc L.length) (L ++ [.lst ns])) : (endsOf L.length Q).rt (.loc L.length) (L ++ .lst ns :: G) :=
  ⟨L ++ [.lst ns], G, by simp, by simp, by
    rw [show (L ++ [Cell.lst ns]).length = L.length + 1 by simp]
    exact clL_app hL (by omega) (clDs_mono (by omega) hc), by unfold clD; simp, q⟩
theorem w_all_in {ds : List D} {L : LH} {Q : Post} {E : XP} (c1 : clL L.length L) (c2 : clDs L.length ds) (h : S_all_in ds L Q E) : wSs gam_all m_all_in (endsOf L.length Q) (start0 n_all_in ds) L := by
  obtain ⟨d, rfl, kd, cd, hz, q⟩ := h
  simp only [m_all_in, n_all_in, wSs, wS, wSeq, wSkip, wRet, wRetN, wIf, wSet, wExp, wBrk, wCnt, wNever, wAsg, wPar, wSub, Bw.wE, wA, wB, wO, wCd, wLX, wIX, wAnd, wOr, Bw.wNot, wIte, asT, w1, w2, w1, wVar, wC, wTup, wLst, wMth, wMthl, wListOf, wL, wNew, wACons, wANil, wCall, wSlc, wNo, wSo, wChn, wBopN, CO.sem, BO.sem, F1.sem, FL.sem, OM.sem, gT, gSlot, start0, List.map_cons, List.map_nil, List.length_cons, List.length_nil, List.replicate_succ, List.replicate_zero, List.cons_append, List.nil_append, List.append_nil, List.getElem?_cons_zero, List.getElem?_cons_succ, List.set_cons_zero, List.set_cons_succ, Nat.sub_self, Nat.sub_zero, Nat.add_sub_cancel, Nat.reduceAdd, Nat.reduceSub, if_true, if_false, Bool.false_eq_true, Nat.zero_add, x_some, x_some1, x_bl, x_ix, x_len, x_eqStr, x_eqInt, x_eqBl, x_in, x_b2, x_i2, x_mul, x_addI, x_addT, x_int, x_abs, x_neg, at_0, at_1, at_2, at_3, at_m1, Bool.false_xor, Bool.true_xor]
  refine ⟨sz_small (by omega), sz_small (by omega), ?_⟩
  simp only [List.length_append, List.length_cons, List.length_nil, Nat.zero_add, List.append_assoc, List.cons_append, List.nil_append]
  unfold wWhile
  refine ⟨fun m ρ L' => ∃ fs ws h, ρ = [some d, some (.loc L.length), some (.loc (L.length + 1)), h] ∧ L' = L ++ [.lst fs, .lst ws] ∧ (∀ w ∈ ws, isKindD w = true) ∧ dszs ws = m ∧ fs.length + m ≤ 1000000 ∧ (fs ++ ws.flatMap nodesD).Perm (nodesD d), ⟨_, [], [d], none, rfl, rfl, by simpa using kd, rfl, by simp [dszs]; omega, by simp⟩, ?_⟩
  rintro m ρ L' ⟨fs, ws, h, rfl, rfl, tw, hm, hm2, hp⟩
  simp only [wSs, wS, wSeq, wSkip, wRet, wRetN, wIf, wSet, wExp, wBrk, wCnt, wNever, wAsg, wPar, wSub, Bw.wE, wA, wB, wO, wCd, wLX, wIX, wAnd, wOr, Bw.wNot, wIte, asT, w1, w2, w1, wVar, wC, wTup, wLst, wMth, wMthl, wListOf, wL, wNew, wACons, wANil, wCall, wSlc, wNo, wSo, wChn, wBopN, CO.sem, BO.sem, F1.sem, FL.sem, OM.sem, gT, gSlot, start0, List.map_cons, List.map_nil, List.length_cons, List.length_nil, List.replicate_succ, List.replicate_zero, List.cons_append, List.nil_append, List.append_nil, List.getElem?_cons_zero, List.getElem?_cons_succ, List.set_cons_zero, List.set_cons_succ, Nat.sub_self, Nat.sub_zero, Nat.add_sub_cancel, Nat.reduceAdd, Nat.reduceSub, if_true, if_false, Bool.false_eq_true, Nat.zero_add, x_some, x_some1, x_bl, x_ix, x_len, x_eqStr, x_eqInt, x_eqBl, x_in, x_b2, x_i2, x_mul, x_addI, x_addT, x_int, x_abs, x_neg, at_0, at_1, at_2, at_3, at_m1, Bool.false_xor, Bool.true_xor, x_lenL cell_last2]
  by_cases hw : ws = []
  · subst hw
    simp only [List.flatMap_nil, List.append_nil] at hp
    exact ret_new c1 (clDs_iff.2 fun x hx => cl_nodes _ d (Nat.le_refl _) kd cd x (hp.mem_iff.1 hx)) (q _ hp)
  · obtain ⟨vs, y, rfl⟩ := split_last hw
    rw [if_pos (by simp)]
    have ky := tw y (by simp)
    have hsz : dszs (vs ++ [y]) = dszs vs + dsz y := by rw [dszs_app]; simp [dszs]
    refine ⟨fun ρ' L' => ∃ m' < m, ∃ fs ws h, ρ' = [some d, some (.loc L.length), some (.loc (L.length + 1)), h] ∧ L' = L ++ [.lst fs, .lst ws] ∧ (∀ w ∈ ws, isKindD w = true) ∧ dszs ws = m' ∧ fs.length + m' ≤ 1000000 ∧ (fs ++ ws.flatMap nodesD).Perm (nodesD d), fun ρ' L' ⟨m', h, r⟩ => ⟨m', h, r⟩, ?_⟩
    simp only [wSs, wS, wSeq, wSkip, wRet, wRetN, wIf, wSet, wExp, wBrk, wCnt, wNever, wAsg, wPar, wSub, Bw.wE, wA, wB, wO, wCd, wLX, wIX, wAnd, wOr, Bw.wNot, wIte, asT, w1, w2, w1, wVar, wC, wTup, wLst, wMth, wMthl, wListOf, wL, wNew, wACons, wANil, wCall, wSlc, wNo, wSo, wChn, wBopN, CO.sem, BO.sem, F1.sem, FL.sem, OM.sem, gT, gSlot, start0, List.map_cons, List.map_nil, List.length_cons, List.length_nil, List.replicate_succ, List.replicate_zero, List.cons_append, List.nil_append, List.append_nil, List.getElem?_cons_zero, List.getElem?_cons_succ, List.set_cons_zero, List.set_cons_succ, Nat.sub_self, Nat.sub_zero, Nat.add_sub_cancel, Nat.reduceAdd, Nat.reduceSub, if_true, if_false, Bool.false_eq_true, Nat.zero_add, x_some, x_some1, x_bl, x_ix, x_len, x_eqStr, x_eqInt, x_eqBl, x_in, x_b2, x_i2, x_mul, x_addI, x_addT, x_int, x_abs, x_neg, at_0, at_1, at_2, at_3, at_m1, Bool.false_xor, Bool.true_xor]
    refine ⟨⟨_, _, rfl, cell_last2⟩, x_pop cell_last2 ?_⟩
    simp only [wSs, wS, wSeq, wSkip, wRet, wRetN, wIf, wSet, wExp, wBrk, wCnt, wNever, wAsg, wPar, wSub, Bw.wE, wA, wB, wO, wCd, wLX, wIX, wAnd, wOr, Bw.wNot, wIte, asT, w1, w2, w1, wVar, wC, wTup, wLst, wMth, wMthl, wListOf, wL, wNew, wACons, wANil, wCall, wSlc, wNo, wSo, wChn, wBopN, CO.sem, BO.sem, F1.sem, FL.sem, OM.sem, gT, gSlot, start0, List.map_cons, List.map_nil, List.length_cons, List.length_nil, List.replicate_succ, List.replicate_zero, List.cons_append, List.nil_append, List.append_nil, List.getElem?_cons_zero, List.getElem?_cons_succ, List.set_cons_zero, List.set_cons_succ, Nat.sub_self, Nat.sub_zero, Nat.add_sub_cancel, Nat.reduceAdd, Nat.reduceSub, if_true, if_false, Bool.false_eq_true, Nat.zero_add, x_some, x_some1, x_bl, x_ix, x_len, x_eqStr, x_eqInt, x_eqBl, x_in, x_b2, x_i2, x_mul, x_addI, x_addT, x_int, x_abs, x_neg, at_0, at_1, at_2, at_3, at_m1, Bool.false_xor, Bool.true_xor, set_last2]
    have fr := (kind_inner ky).1
    have h1 := inner_sz fr
    have h2 := dszs_len vs
    have h3 := dszs_len (innerD y)
    refine ⟨⟨_, _, rfl, cell_last1⟩, x_app cell_last1 (by rw [size_line]; omega) ?_⟩
    simp only [set_last1]
    refine ⟨⟨_, _, rfl, cell_last2⟩, trivial, y, rfl, fr, x_ext cell_last2 (by rw [size_line]; omega) ?_⟩
    rw [set_last2]
    refine ⟨dszs (vs ++ innerD y), by rw [dszs_app]; omega, fs ++ [y], vs ++ innerD y, _, rfl, rfl, fun x hx => ?_, rfl, by rw [dszs_app]; simp; omega, ?_⟩
    · rcases List.mem_append.mp hx with h | h
      · exact tw x (by simp [h])
      · exact (kind_inner ky).2 x h
    · refine List.Perm.trans ?_ hp
      rw [List.flatMap_append, List.flatMap_append, List.flatMap_cons, List.flatMap_nil, List.append_nil, nodesD_eq y, List.append_assoc]
      refine List.Perm.append_left fs ?_
      rw [List.singleton_append]
      exact (List.perm_middle).symm
theorem w__law_all_in {ds : List D} {L : LH} {Q : Post} {E : XP} (c1 : clL L.length L) (c2 : clDs L.length ds) (h : S_all_in ds L Q E) : wSs gam_all m__law_all_in (endsOf L.length Q) (start0 n__law_all_in ds) L := by
  obtain ⟨d, rfl, kd, cd, hz, q⟩ := h
  simp only [m__law_all_in, n__law_all_in, wSs, wS, wSeq, wSkip, wRet, wRetN, wIf, wSet, wExp, wBrk, wCnt, wNever, wAsg, wPar, wSub, Bw.wE, wA, wB, wO, wCd, wLX, wIX, wAnd, wOr, Bw.wNot, wIte, asT, w1, w2, w1, wVar, wC, wTup, wLst, wMth, wMthl, wListOf, wL, wNew, wACons, wANil, wCall, wSlc, wNo, wSo, wChn, wBopN, CO.sem, BO.sem, F1.sem, FL.sem, OM.sem, gT, gSlot, start0, List.map_cons, List.map_nil, List.length_cons, List.length_nil, List.replicate_succ, List.replicate_zero, List.cons_append, List.nil_append, List.append_nil, List.getElem?_cons_zero, List.getElem?_cons_succ, List.set_cons_zero, List.set_cons_succ, Nat.sub_self, Nat.sub_zero, Nat.add_sub_cancel, Nat.reduceAdd, Nat.reduceSub, if_true, if_false, Bool.false_eq_true, Nat.zero_add, x_some, x_some1, x_bl, x_ix, x_len, x_eqStr, x_eqInt, x_eqBl, x_in, x_b2, x_i2, x_mul, x_addI, x_addT, x_int, x_abs, x_neg, at_0, at_1, at_2, at_3, at_m1, Bool.false_xor, Bool.true_xor]
  refine ⟨sz_small (by omega), ?_⟩
  unfold wWhile
  refine ⟨fun m ρ L' => ∃ fs ws, ρ = [some d, some (.loc L.length), some (.int (fs.length : Nat))] ∧ L' = L ++ [.lst (fs ++ ws)] ∧ (∀ w ∈ ws, isKindD w = true) ∧ dszs ws = m ∧ fs.length + m ≤ 1000000 ∧ (fs ++ ws.flatMap nodesD).Perm (nodesD d), ⟨_, [], [d], rfl, rfl, by simpa using kd, rfl, by simp [dszs]; omega, by simp⟩, ?_⟩
  rintro m ρ L' ⟨fs, ws, rfl, rfl, tw, hm, hm2, hp⟩
  simp only [wSs, wS, wSeq, wSkip, wRet, wRetN, wIf, wSet, wExp, wBrk, wCnt, wNever, wAsg, wPar, wSub, Bw.wE, wA, wB, wO, wCd, wLX, wIX, wAnd, wOr, Bw.wNot, wIte, asT, w1, w2, w1, wVar, wC, wTup, wLst, wMth, wMthl, wListOf, wL, wNew, wACons, wANil, wCall, wSlc, wNo, wSo, wChn, wBopN, CO.sem, BO.sem, F1.sem, FL.sem, OM.sem, gT, gSlot, start0, List.map_cons, List.map_nil, List.length_cons, List.length_nil, List.replicate_succ, List.replicate_zero, List.cons_append, List.nil_append, List.append_nil, List.getElem?_cons_zero, List.getElem?_cons_succ, List.set_cons_zero, List.set_cons_succ, Nat.sub_self, Nat.sub_zero, Nat.add_sub_cancel, Nat.reduceAdd, Nat.reduceSub, if_true, if_false, Bool.false_eq_true, Nat.zero_add, x_some, x_some1, x_bl, x_ix, x_len, x_eqStr, x_eqInt, x_eqBl, x_in, x_b2, x_i2, x_mul, x_addI, x_addT, x_int, x_abs, x_neg, at_0, at_1, at_2, at_3, at_m1, Bool.false_xor, Bool.true_xor, x_lenL cell_last]
  cases ws with
  | nil =>
    rw [if_neg (by simp)]
    simp only [List.flatMap_nil, List.append_nil] at hp ⊢
    exact ret_new (G := []) c1 (clDs_iff.2 fun x hx => cl_nodes _ d (Nat.le_refl _) kd cd x (hp.mem_iff.1 hx)) (q _ hp)
  | cons y vs =>
    rw [if_pos (by simp; omega)]
    have ky := tw y (by simp)
    refine ⟨fun ρ' L' => ∃ m' < m, ∃ fs ws, ρ' = [some d, some (.loc L.length), some (.int (fs.length : Nat))] ∧ L' = L ++ [.lst (fs ++ ws)] ∧ (∀ w ∈ ws, isKindD w = true) ∧ dszs ws = m' ∧ fs.length + m' ≤ 1000000 ∧ (fs ++ ws.flatMap nodesD).Perm (nodesD d), fun ρ' L' ⟨m', h, r⟩ => ⟨m', h, r⟩, ?_⟩
    simp only [wSs, wS, wSeq, wSkip, wRet, wRetN, wIf, wSet, wExp, wBrk, wCnt, wNever, wAsg, wPar, wSub, Bw.wE, wA, wB, wO, wCd, wLX, wIX, wAnd, wOr, Bw.wNot, wIte, asT, w1, w2, w1, wVar, wC, wTup, wLst, wMth, wMthl, wListOf, wL, wNew, wACons, wANil, wCall, wSlc, wNo, wSo, wChn, wBopN, CO.sem, BO.sem, F1.sem, FL.sem, OM.sem, gT, gSlot, start0, List.map_cons, List.map_nil, List.length_cons, List.length_nil, List.replicate_succ, List.replicate_zero, List.cons_append, List.nil_append, List.append_nil, List.getElem?_cons_zero, List.getElem?_cons_succ, List.set_cons_zero, List.set_cons_succ, Nat.sub_self, Nat.sub_zero, Nat.add_sub_cancel, Nat.reduceAdd, Nat.reduceSub, if_true, if_false, Bool.false_eq_true, Nat.zero_add, x_some, x_some1, x_bl, x_ix, x_len, x_eqStr, x_eqInt, x_eqBl, x_in, x_b2, x_i2, x_mul, x_addI, x_addT, x_int, x_abs, x_neg, at_0, at_1, at_2, at_3, at_m1, Bool.false_xor, Bool.true_xor, x_ixL cell_last]
    have fr := (kind_inner ky).1
    have h1 := inner_sz fr
    have h2 := dszs_len vs
    have h3 := dszs_len (innerD y)
    simp only [dszs] at hm
    refine ⟨⟨_, _, rfl, cell_last⟩, y, by rw [L2.atI_nat]; simp, trivial, y, rfl, fr, innerD y, rfl, x_extl cell_last (by rw [size_line]; simp; omega) ?_⟩
    rw [set_last]
    refine ⟨dszs (vs ++ innerD y), by rw [dszs_app]; omega, fs ++ [y], vs ++ innerD y, by simp, by simp, fun x hx => ?_, rfl, by rw [dszs_app]; simp; omega, ?_⟩
    · rcases List.mem_append.mp hx with h | h
      · exact tw x (by simp [h])
      · exact (kind_inner ky).2 x h
    · refine List.Perm.trans ?_ hp
      rw [List.flatMap_append, List.flatMap_cons, nodesD_eq y, List.append_assoc]
      refine List.Perm.append_left fs ?_
      rw [List.singleton_append, List.cons_append]
      exact List.Perm.cons y List.perm_append_comm
end K01
end
section
set_option linter.all false
set_option maxRecDepth 100000
set_option maxHeartbeats 4000000
namespace K01
open PySem Bw
def isLet : D → Bool
  | .tup (.str h :: _) => decide (h = "letter")
  | _ => false
def secD : D → D
  | .tup (_ :: y :: _) => y
  | _ => .non
def ltrI : D → Option Int
  | .tup [.str h, .int i] => if h = "letter" then some i else none
  | _ => none
def letL (ns : List D) : List Int := ns.filterMap ltrI
theorem ltr_none {x : D} (h : isLet x = false) : ltrI x = none := by
  unfold ltrI
  split
  · simp [isLet] at h; simp [h]
  · rfl
theorem let_ints : ∀ {ns : List D}, (∀ x ∈ ns, Frm x) → intsOf ((ns.filter isLet).map secD) = some (letL ns)
  | [], _ => rfl
  | x :: ns, h => by
    have ih := let_ints (ns := ns) fun y hy => h y (by simp [hy])
    have f := h x (by simp)
    cases hl : isLet x with
    | false =>
      rw [List.filter_cons, if_neg (by simp [hl])]
      simp only [letL, List.filterMap_cons, ltr_none hl] at ih ⊢
      exact ih
    | true =>
      cases f with
      | letter i _ =>
        have e2 : ltrI (.tup [.str "letter", .int i]) = some i := by simp [ltrI]
        rw [List.filter_cons, if_pos hl]
        simp only [letL, List.filterMap_cons, e2] at ih ⊢
        show (intsOf _).map (i :: ·) = _
        rw [ih]; rfl
      | _ => exact absurd hl (by simp only [isLet]; decide)
theorem let_len {ns : List D} (h : ∀ x ∈ ns, Frm x) : ((ns.filter isLet).map secD).length = (letL ns).length := by
  have := intsOf_some (let_ints h)
  rw [this]; simp
theorem let_perm {ns ms : List D} (h : ns.Perm ms) : srt (letL ns) = srt (letL ms) := by
  refine pw_uniq pw_srt pw_srt fun k => ?_
  rw [mem_srt, mem_srt]
  exact (h.filterMap ltrI).mem_iff
def letsD (d : D) : List Int := srt (letL (nodesD d))
def S_letters : DSp := fun ds L Q _ => ∃ d, ds = [d] ∧ isKindD d = true ∧ clD L.length d ∧ dsz d ≤ 1000000 ∧ (letL (nodesD d)).length + 1 < 4096 ∧ (letsD d).length < 64 ∧ Q (.tup ((letsD d).map .int)) L
def gam_let : Nat → DSp := fun _ => S_all_in
theorem let_step {Γ : Nat → DSp} {z : D} {x : D} (f : Frm x) {acc : List D} {L : LH} {K : List D → LH → Prop} (hz : acc.length < sizeLine) (h : if isLet x = true then K (acc ++ [secD x]) L else K acc L) :
    stepC (gT (.one 1)) (wCd Γ (.so (.cmp .eq (.ix (.var 1) (.cst (.int 0))) (.cst (.str "letter"))))) (Bw.wE Γ (.ix (.var 1) (.cst (.int 1)))) [some z, none] x acc L K := by
  unfold stepC
  cases f <;> simp only [wSs, wS, wSeq, wSkip, wRet, wRetN, wIf, wSet, wExp, wBrk, wCnt, wNever, wAsg, wPar, wSub, Bw.wE, wA, wB, wO, wCd, wLX, wIX, wAnd, wOr, Bw.wNot, wIte, asT, w1, w2, w1, wVar, wC, wTup, wLst, wMth, wMthl, wListOf, wL, wNew, wACons, wANil, wCall, wSlc, wNo, wSo, wChn, wBopN, CO.sem, BO.sem, F1.sem, FL.sem, OM.sem, gT, gSlot, start0, List.map_cons, List.map_nil, List.length_cons, List.length_nil, List.replicate_succ, List.replicate_zero, List.cons_append, List.nil_append, List.append_nil, List.getElem?_cons_zero, List.getElem?_cons_succ, List.set_cons_zero, List.set_cons_succ, Nat.sub_self, Nat.sub_zero, Nat.add_sub_cancel, Nat.reduceAdd, Nat.reduceSub, if_true, if_false, Bool.false_eq_true, Nat.zero_add, x_some, x_some1, x_bl, x_ix, x_len, x_eqStr, x_eqInt, x_eqBl, x_in, x_b2, x_i2, x_mul, x_addI, x_addT, x_int, x_abs, x_neg, at_0, at_1, at_2, at_3, at_m1, Bool.false_xor, Bool.true_xor, e_num_num, e_num_nil, e_num_row, e_num_data, e_num_fun, e_num_letter, e_num_box, e_nil_num, e_nil_nil, e_nil_row, e_nil_data, e_nil_fun, e_nil_letter, e_nil_box, e_row_num, e_row_nil, e_row_row, e_row_data, e_row_fun, e_row_letter, e_row_box, e_data_num, e_data_nil, e_data_row, e_data_data, e_data_fun, e_data_letter, e_data_box, e_fun_num, e_fun_nil, e_fun_row, e_fun_data, e_fun_fun, e_fun_letter, e_fun_box, e_letter_num, e_letter_nil, e_letter_row, e_letter_data, e_letter_fun, e_letter_letter, e_letter_box, e_box_num, e_box_nil, e_box_row, e_box_data, e_box_fun, e_box_letter, e_box_box, isLet] at h ⊢
  · exact h
  · exact h
  · exact h
  · exact h
  · exact h
  · exact ⟨hz, h⟩
  · exact h
theorem clDs_ints {n : Nat} : ∀ {l : List Int}, clDs n (l.map .int)
  | [] => trivial
  | _ :: l => ⟨by unfold clD; trivial, clDs_ints (l := l)⟩
theorem w_letters_of {ds : List D} {L : LH} {Q : Post} {E : XP} (c1 : clL L.length L) (c2 : clDs L.length ds) (h : S_letters ds L Q E) : wSs gam_let m_letters_of (endsOf L.length Q) (start0 n_letters_of ds) L := by
  obtain ⟨d, rfl, kd, cd, hz, h1, h2, q⟩ := h
  simp only [m_letters_of, n_letters_of, wSs, wS, wSeq, wSkip, wRet, wRetN, wIf, wSet, wExp, wBrk, wCnt, wNever, wAsg, wPar, wSub, Bw.wE, wA, wB, wO, wCd, wLX, wIX, wAnd, wOr, Bw.wNot, wIte, asT, w1, w2, w1, wVar, wC, wTup, wLst, wMth, wMthl, wListOf, wL, wNew, wACons, wANil, wCall, wSlc, wNo, wSo, wChn, wBopN, CO.sem, BO.sem, F1.sem, FL.sem, OM.sem, gT, gSlot, start0, List.map_cons, List.map_nil, List.length_cons, List.length_nil, List.replicate_succ, List.replicate_zero, List.cons_append, List.nil_append, List.append_nil, List.getElem?_cons_zero, List.getElem?_cons_succ, List.set_cons_zero, List.set_cons_succ, Nat.sub_self, Nat.sub_zero, Nat.add_sub_cancel, Nat.reduceAdd, Nat.reduceSub, if_true, if_false, Bool.false_eq_true, Nat.zero_add, x_some, x_some1, x_bl, x_ix, x_len, x_eqStr, x_eqInt, x_eqBl, x_in, x_b2, x_i2, x_mul, x_addI, x_addT, x_int, x_abs, x_neg, at_0, at_1, at_2, at_3, at_m1, Bool.false_xor, Bool.true_xor, wSrt, wComp, iSq, lTup]
  refine ⟨trivial, d, rfl, kd, cd, hz, fun ns hp => ⟨ns, by simp [sqL], ?_⟩⟩
  have fr : ∀ x ∈ ns, Frm x := fun x hx => (kind_inner (kind_nodes _ d (Nat.le_refl _) kd x (hp.mem_iff.1 hx))).1
  have hl := hp.length_eq
  have hn := nodes_len _ d (Nat.le_refl _) kd
  refine comp_pure isLet secD (by simp [sqL]) (by rw [size_line]; omega) (fun x hx acc K hz h => let_step (Γ := gam_let) (fr x hx) hz h) ⟨letL ns, let_ints fr, ?_, ?_, ?_⟩
  · rw [show scanBound = 4096 from rfl, show (letL ns).length = (letL (nodesD d)).length from (hp.filterMap ltrI).length_eq]; exact h1
  · rw [let_perm hp]; exact h2
  · rw [let_perm hp]; exact is_retG c1 (by rw [cl_tup]; exact clDs_ints) q
theorem w__law_letters {ds : List D} {L : LH} {Q : Post} {E : XP} (c1 : clL L.length L) (c2 : clDs L.length ds) (h : S_letters ds L Q E) : wSs gam_let m__law_letters (endsOf L.length Q) (start0 n__law_letters ds) L := w_letters_of (E := E) c1 c2 h
def S_check : DSp := fun ds L Q _ => ∃ d, ds = [d] ∧ isKindD d = true ∧ tyA L d ∧ dsz d ≤ 1000000 ∧ Q .non L
def gam_chk : Nat → DSp := fun _ => S_is_kind
theorem is_nx {L : LH} {Q : Post} {ρ : Rho} (hL : clL L.length L) (q : Q .non L) : (endsOf L.length Q).nx ρ L := ⟨L, [], by simp, Nat.le_refl _, hL, q⟩
theorem w_check_kind {ds : List D} {L : LH} {Q : Post} {E : XP} (c1 : clL L.length L) (c2 : clDs L.length ds) (h : S_check ds L Q E) : wSs gam_chk m_check_kind (endsOf L.length Q) (start0 n_check_kind ds) L := by
  obtain ⟨d, rfl, kd, ty, hz, q⟩ := h
  simp only [m_check_kind, n_check_kind, wSs, wS, wSeq, wSkip, wRet, wRetN, wIf, wSet, wExp, wBrk, wCnt, wNever, wAsg, wPar, wSub, Bw.wE, wA, wB, wO, wCd, wLX, wIX, wAnd, wOr, Bw.wNot, wIte, asT, w1, w2, w1, wVar, wC, wTup, wLst, wMth, wMthl, wListOf, wL, wNew, wACons, wANil, wCall, wSlc, wNo, wSo, wChn, wBopN, CO.sem, BO.sem, F1.sem, FL.sem, OM.sem, gT, gSlot, start0, List.map_cons, List.map_nil, List.length_cons, List.length_nil, List.replicate_succ, List.replicate_zero, List.cons_append, List.nil_append, List.append_nil, List.getElem?_cons_zero, List.getElem?_cons_succ, List.set_cons_zero, List.set_cons_succ, Nat.sub_self, Nat.sub_zero, Nat.add_sub_cancel, Nat.reduceAdd, Nat.reduceSub, if_true, if_false, Bool.false_eq_true, Nat.zero_add, x_some, x_some1, x_bl, x_ix, x_len, x_eqStr, x_eqInt, x_eqBl, x_in, x_b2, x_i2, x_mul, x_addI, x_addT, x_int, x_abs, x_neg, at_0, at_1, at_2, at_3, at_m1, Bool.false_xor, Bool.true_xor]
  refine ⟨trivial, d, rfl, ty, hz, _, rfl, ?_⟩
  rw [kd]
  exact is_nx c1 q
def S_letters2 : DSp := fun ds L Q _ => ∃ d, ds = [d] ∧ isKindD d = true ∧ tyA L d ∧ clD L.length d ∧ dsz d ≤ 1000000 ∧ (letL (nodesD d)).length + 1 < 4096 ∧ (letsD d).length < 64 ∧ Q (.tup ((letsD d).map .int)) L
def gam_li : Nat → DSp
  | 0 => S_letters
  | _ => S_check
theorem w_letters_in {ds : List D} {L : LH} {Q : Post} {E : XP} (c1 : clL L.length L) (c2 : clDs L.length ds) (h : S_letters2 ds L Q E) : wSs gam_li m_letters_in (endsOf L.length Q) (start0 n_letters_in ds) L := by
  obtain ⟨d, rfl, kd, ty, cd, hz, h1, h2, q⟩ := h
  simp only [m_letters_in, n_letters_in, wSs, wS, wSeq, wSkip, wRet, wRetN, wIf, wSet, wExp, wBrk, wCnt, wNever, wAsg, wPar, wSub, Bw.wE, wA, wB, wO, wCd, wLX, wIX, wAnd, wOr, Bw.wNot, wIte, asT, w1, w2, w1, wVar, wC, wTup, wLst, wMth, wMthl, wListOf, wL, wNew, wACons, wANil, wCall, wSlc, wNo, wSo, wChn, wBopN, CO.sem, BO.sem, F1.sem, FL.sem, OM.sem, gT, gSlot, start0, List.map_cons, List.map_nil, List.length_cons, List.length_nil, List.replicate_succ, List.replicate_zero, List.cons_append, List.nil_append, List.append_nil, List.getElem?_cons_zero, List.getElem?_cons_succ, List.set_cons_zero, List.set_cons_succ, Nat.sub_self, Nat.sub_zero, Nat.add_sub_cancel, Nat.reduceAdd, Nat.reduceSub, if_true, if_false, Bool.false_eq_true, Nat.zero_add, x_some, x_some1, x_bl, x_ix, x_len, x_eqStr, x_eqInt, x_eqBl, x_in, x_b2, x_i2, x_mul, x_addI, x_addT, x_int, x_abs, x_neg, at_0, at_1, at_2, at_3, at_m1, Bool.false_xor, Bool.true_xor]
  exact ⟨trivial, d, rfl, kd, ty, hz, trivial, d, rfl, kd, cd, hz, h1, h2, is_ret c1 (by rw [cl_tup]; exact clDs_ints) q⟩
def S_is_closed : DSp := fun ds L Q _ => ∃ d, ds = [d] ∧ isKindD d = true ∧ clD L.length d ∧ dsz d ≤ 1000000 ∧ (letL (nodesD d)).length + 1 < 4096 ∧ (letsD d).length < 64 ∧ Q (.bl ((letsD d).length == 0)) L
def gam_cl : Nat → DSp := fun _ => S_letters
theorem w_is_closed {ds : List D} {L : LH} {Q : Post} {E : XP} (c1 : clL L.length L) (c2 : clDs L.length ds) (h : S_is_closed ds L Q E) : wSs gam_cl m_is_closed (endsOf L.length Q) (start0 n_is_closed ds) L := by
  obtain ⟨d, rfl, kd, cd, hz, h1, h2, q⟩ := h
  simp only [m_is_closed, n_is_closed, wSs, wS, wSeq, wSkip, wRet, wRetN, wIf, wSet, wExp, wBrk, wCnt, wNever, wAsg, wPar, wSub, Bw.wE, wA, wB, wO, wCd, wLX, wIX, wAnd, wOr, Bw.wNot, wIte, asT, w1, w2, w1, wVar, wC, wTup, wLst, wMth, wMthl, wListOf, wL, wNew, wACons, wANil, wCall, wSlc, wNo, wSo, wChn, wBopN, CO.sem, BO.sem, F1.sem, FL.sem, OM.sem, gT, gSlot, start0, List.map_cons, List.map_nil, List.length_cons, List.length_nil, List.replicate_succ, List.replicate_zero, List.cons_append, List.nil_append, List.append_nil, List.getElem?_cons_zero, List.getElem?_cons_succ, List.set_cons_zero, List.set_cons_succ, Nat.sub_self, Nat.sub_zero, Nat.add_sub_cancel, Nat.reduceAdd, Nat.reduceSub, if_true, if_false, Bool.false_eq_true, Nat.zero_add, x_some, x_some1, x_bl, x_ix, x_len, x_eqStr, x_eqInt, x_eqBl, x_in, x_b2, x_i2, x_mul, x_addI, x_addT, x_int, x_abs, x_neg, at_0, at_1, at_2, at_3, at_m1, Bool.false_xor, Bool.true_xor]
  refine ⟨trivial, d, rfl, kd, cd, hz, h1, h2, ?_⟩
  simp only [x_some, x_some1, x_bl, x_ix, x_len, x_eqStr, x_eqInt, x_eqBl, x_in, x_b2, x_i2, x_mul, x_addI, x_addT, x_int, x_abs, x_neg, at_0, at_1, at_2, at_3, at_m1, Bool.false_xor, Bool.true_xor, List.length_map]
  refine is_ret c1 cl_bl ?_
  have := @len_eq (letsD d).length 0
  rw [show ((0 : Nat) : Int) = 0 from rfl] at this
  rw [this]; exact q
end K01
end
section
set_option linter.all false
set_option maxRecDepth 100000
set_option maxHeartbeats 4000000
namespace K01
open PySem Bw
theorem form_of {d : D} (f : Frm d) : formD d = true := by
  cases f with
  | num => decide
  | nil => decide
  | row ks h1 h2 =>
    show szT 1 4 (.tup ks) = true
    simp [szT]; omega
  | data i ks h =>
    show (nnD (.int i) && isTupD (.tup ks)) = true
    simp [nnD, isTupD, h]
  | fn ks k h1 h2 =>
    show szT 1 3 (.tup ks) = true
    simp [szT]; omega
  | letter i h =>
    show nnD (.int i) = true
    simp [nnD, h]
  | box k => rfl
/-- kinds of a depth -/
def kdp : Nat → D → Prop
  | 0, _ => False
  | n + 1, d => Frm d ∧ ∀ x ∈ innerD d, kdp n x
theorem kdp_kind : ∀ {n : Nat} {d : D}, kdp n d → isKindD d = true
  | 0, _, h => h.elim
  | n + 1, d, ⟨f, h⟩ => by
    rw [isKindD_eq, form_of f, Bool.true_and, List.all_eq_true]
    exact fun x hx => kdp_kind (h x hx)
theorem kdp_mono : ∀ {n m : Nat} {d : D}, n ≤ m → kdp n d → kdp m d
  | 0, _, _, _, h => h.elim
  | n + 1, 0, _, e, _ => by omega
  | n + 1, m + 1, d, e, ⟨f, h⟩ => ⟨f, fun x hx => kdp_mono (by omega) (h x hx)⟩
def withD : D → List D → D
  | .tup (.str h :: r), ks => if h = "row" then .tup [.str "row", .tup ks] else if h = "data" then .tup [.str "data", r.headD .non, .tup ks]
    else if h = "fun" then .tup [.str "fun", .tup ks.dropLast, ks.getLast?.getD .non] else if h = "box" then .tup [.str "box", ks.headD .non] else .tup (.str h :: r)
  | d, _ => d
theorem wi_num {ks : List D} : withD (.tup [.str "num"]) ks = .tup [.str "num"] := rfl
theorem wi_nil {ks : List D} : withD (.tup [.str "nil"]) ks = .tup [.str "nil"] := rfl
theorem wi_row {ks js : List D} : withD (.tup [.str "row", .tup js]) ks = .tup [.str "row", .tup ks] := rfl
theorem wi_data {i : Int} {ks js : List D} : withD (.tup [.str "data", .int i, .tup js]) ks = .tup [.str "data", .int i, .tup ks] := rfl
theorem wi_fn {k j : D} {ks js : List D} : withD (.tup [.str "fun", .tup js, j]) (ks ++ [k]) = .tup [.str "fun", .tup ks, k] := by
  show D.tup [.str "fun", .tup (ks ++ [k]).dropLast, (ks ++ [k]).getLast?.getD .non] = _
  simp
theorem wi_letter {i : Int} {ks : List D} : withD (.tup [.str "letter", .int i]) ks = .tup [.str "letter", .int i] := rfl
theorem wi_box {k j : D} : withD (.tup [.str "box", j]) [k] = .tup [.str "box", k] := rfl
theorem len_one {α : Type} {l : List α} (h : l.length = 1) : ∃ x, l = [x] := by
  match l, h with
  | [x], _ => exact ⟨x, rfl⟩
theorem len_last {α : Type} {l : List α} {n : Nat} (h : l.length = n + 1) : ∃ r x, l = r ++ [x] ∧ r.length = n := by
  refine ⟨l.dropLast, l.getLast (by intro e; subst e; simp at h), (List.dropLast_concat_getLast _).symm, by simp [h]⟩
theorem with_frm {d : D} (f : Frm d) {ks : List D} (h : ks.length = (innerD d).length) : Frm (withD d ks) ∧ innerD (withD d ks) = ks := by
  cases f with
  | num => exact ⟨.num, (List.eq_nil_of_length_eq_zero h).symm⟩
  | nil => exact ⟨.nil, (List.eq_nil_of_length_eq_zero h).symm⟩
  | row js h1 h2 => rw [i_row] at h; rw [wi_row]; exact ⟨.row _ (by omega) (by omega), i_row⟩
  | data i js h1 => rw [wi_data]; exact ⟨.data _ _ h1, i_data⟩
  | fn js j h1 h2 =>
    rw [i_fn, List.length_append] at h
    obtain ⟨r, x, rfl, hr⟩ := len_last h
    rw [wi_fn]; exact ⟨.fn _ _ (by omega) (by omega), i_fn⟩
  | letter i h1 => exact ⟨.letter i h1, (List.eq_nil_of_length_eq_zero h).symm⟩
  | box j =>
    obtain ⟨x, rfl⟩ := len_one h
    rw [wi_box]; exact ⟨.box _, i_box⟩
theorem with_cl {n : Nat} {d : D} (f : Frm d) (c : clD n d) {ks : List D} (hk : clDs n ks) (h : ks.length = (innerD d).length) : clD n (withD d ks) := by
  cases f with
  | num => exact c
  | nil => exact c
  | row js h1 h2 => rw [wi_row]; simp only [clD, clDs]; exact ⟨trivial, hk, trivial⟩
  | data i js h1 => rw [wi_data]; simp only [clD, clDs]; exact ⟨trivial, trivial, hk, trivial⟩
  | fn js j h1 h2 =>
    rw [i_fn, List.length_append] at h
    obtain ⟨r, x, rfl, hr⟩ := len_last h
    rw [clDs_app] at hk
    rw [wi_fn]; simp only [clD, clDs]; exact ⟨trivial, hk.1, hk.2.1, trivial⟩
  | letter i h1 => exact c
  | box j =>
    obtain ⟨x, rfl⟩ := len_one h
    rw [wi_box]; simp only [clD, clDs]; exact ⟨trivial, hk.1, trivial⟩
def S_with : DSp := fun ds L Q _ => ∃ d ks, ds = [d, .tup ks] ∧ Frm d ∧ ks.length = (innerD d).length ∧ Q (withD d ks) L
theorem cut_m1 {ks : List D} : cutD ks none (some (-1)) = ks.dropLast := by
  unfold cutD
  have e : HT.sIx ks.length ks.length (some (-1)) = ks.length - 1 := by
    show (if (-1 : Int) < 0 then ((-1 : Int) + (ks.length : Int)).toNat else min (-1 : Int).toNat ks.length) = _
    rw [if_pos (by decide)]; omega
  rw [e]
  show (ks.drop 0).take (ks.length - 1 - 0) = _
  rw [List.drop_zero, Nat.sub_zero, List.dropLast_eq_take]
theorem w_with_inner {Γ : Nat → DSp} {ds : List D} {L : LH} {Q : Post} {E : XP} (c1 : clL L.length L) (c2 : clDs L.length ds) (h : S_with ds L Q E) : wSs Γ m_with_inner (endsOf L.length Q) (start0 n_with_inner ds) L := by
  obtain ⟨d, ks, rfl, f, hl, q⟩ := h
  have leaf : ∀ e, e = withD d ks → (endsOf L.length Q).rt e L := fun e h => is_ret c1 (by rw [h]; exact with_cl f c2.1 (cl_tup.1 c2.2.1) hl) (h ▸ q)
  have hks : ks.length ≤ sizeLine ∨ True := .inr trivial
  cases f with
  | num => simp only [m_with_inner, n_with_inner, wSs, wS, wSeq, wSkip, wRet, wRetN, wIf, wSet, wExp, wBrk, wCnt, wNever, wAsg, wPar, wSub, Bw.wE, wA, wB, wO, wCd, wLX, wIX, wAnd, wOr, Bw.wNot, wIte, asT, w1, w2, w1, wVar, wC, wTup, wLst, wMth, wMthl, wListOf, wL, wNew, wACons, wANil, wCall, wSlc, wNo, wSo, wChn, wBopN, CO.sem, BO.sem, F1.sem, FL.sem, OM.sem, gT, gSlot, start0, List.map_cons, List.map_nil, List.length_cons, List.length_nil, List.replicate_succ, List.replicate_zero, List.cons_append, List.nil_append, List.append_nil, List.getElem?_cons_zero, List.getElem?_cons_succ, List.set_cons_zero, List.set_cons_succ, Nat.sub_self, Nat.sub_zero, Nat.add_sub_cancel, Nat.reduceAdd, Nat.reduceSub, if_true, if_false, Bool.false_eq_true, Nat.zero_add, x_some, x_some1, x_bl, x_ix, x_len, x_eqStr, x_eqInt, x_eqBl, x_in, x_b2, x_i2, x_mul, x_addI, x_addT, x_int, x_abs, x_neg, at_0, at_1, at_2, at_3, at_m1, Bool.false_xor, Bool.true_xor, e_num_num, e_num_nil, e_num_row, e_num_data, e_num_fun, e_num_letter, e_num_box, e_nil_num, e_nil_nil, e_nil_row, e_nil_data, e_nil_fun, e_nil_letter, e_nil_box, e_row_num, e_row_nil, e_row_row, e_row_data, e_row_fun, e_row_letter, e_row_box, e_data_num, e_data_nil, e_data_row, e_data_data, e_data_fun, e_data_letter, e_data_box, e_fun_num, e_fun_nil, e_fun_row, e_fun_data, e_fun_fun, e_fun_letter, e_fun_box, e_letter_num, e_letter_nil, e_letter_row, e_letter_data, e_letter_fun, e_letter_letter, e_letter_box, e_box_num, e_box_nil, e_box_row, e_box_data, e_box_fun, e_box_letter, e_box_box, pSlT]; exact leaf _ rfl
  | nil => simp only [m_with_inner, n_with_inner, wSs, wS, wSeq, wSkip, wRet, wRetN, wIf, wSet, wExp, wBrk, wCnt, wNever, wAsg, wPar, wSub, Bw.wE, wA, wB, wO, wCd, wLX, wIX, wAnd, wOr, Bw.wNot, wIte, asT, w1, w2, w1, wVar, wC, wTup, wLst, wMth, wMthl, wListOf, wL, wNew, wACons, wANil, wCall, wSlc, wNo, wSo, wChn, wBopN, CO.sem, BO.sem, F1.sem, FL.sem, OM.sem, gT, gSlot, start0, List.map_cons, List.map_nil, List.length_cons, List.length_nil, List.replicate_succ, List.replicate_zero, List.cons_append, List.nil_append, List.append_nil, List.getElem?_cons_zero, List.getElem?_cons_succ, List.set_cons_zero, List.set_cons_succ, Nat.sub_self, Nat.sub_zero, Nat.add_sub_cancel, Nat.reduceAdd, Nat.reduceSub, if_true, if_false, Bool.false_eq_true, Nat.zero_add, x_some, x_some1, x_bl, x_ix, x_len, x_eqStr, x_eqInt, x_eqBl, x_in, x_b2, x_i2, x_mul, x_addI, x_addT, x_int, x_abs, x_neg, at_0, at_1, at_2, at_3, at_m1, Bool.false_xor, Bool.true_xor, e_num_num, e_num_nil, e_num_row, e_num_data, e_num_fun, e_num_letter, e_num_box, e_nil_num, e_nil_nil, e_nil_row, e_nil_data, e_nil_fun, e_nil_letter, e_nil_box, e_row_num, e_row_nil, e_row_row, e_row_data, e_row_fun, e_row_letter, e_row_box, e_data_num, e_data_nil, e_data_row, e_data_data, e_data_fun, e_data_letter, e_data_box, e_fun_num, e_fun_nil, e_fun_row, e_fun_data, e_fun_fun, e_fun_letter, e_fun_box, e_letter_num, e_letter_nil, e_letter_row, e_letter_data, e_letter_fun, e_letter_letter, e_letter_box, e_box_num, e_box_nil, e_box_row, e_box_data, e_box_fun, e_box_letter, e_box_box, pSlT]; exact leaf _ rfl
  | row js h1 h2 => simp only [m_with_inner, n_with_inner, wSs, wS, wSeq, wSkip, wRet, wRetN, wIf, wSet, wExp, wBrk, wCnt, wNever, wAsg, wPar, wSub, Bw.wE, wA, wB, wO, wCd, wLX, wIX, wAnd, wOr, Bw.wNot, wIte, asT, w1, w2, w1, wVar, wC, wTup, wLst, wMth, wMthl, wListOf, wL, wNew, wACons, wANil, wCall, wSlc, wNo, wSo, wChn, wBopN, CO.sem, BO.sem, F1.sem, FL.sem, OM.sem, gT, gSlot, start0, List.map_cons, List.map_nil, List.length_cons, List.length_nil, List.replicate_succ, List.replicate_zero, List.cons_append, List.nil_append, List.append_nil, List.getElem?_cons_zero, List.getElem?_cons_succ, List.set_cons_zero, List.set_cons_succ, Nat.sub_self, Nat.sub_zero, Nat.add_sub_cancel, Nat.reduceAdd, Nat.reduceSub, if_true, if_false, Bool.false_eq_true, Nat.zero_add, x_some, x_some1, x_bl, x_ix, x_len, x_eqStr, x_eqInt, x_eqBl, x_in, x_b2, x_i2, x_mul, x_addI, x_addT, x_int, x_abs, x_neg, at_0, at_1, at_2, at_3, at_m1, Bool.false_xor, Bool.true_xor, e_num_num, e_num_nil, e_num_row, e_num_data, e_num_fun, e_num_letter, e_num_box, e_nil_num, e_nil_nil, e_nil_row, e_nil_data, e_nil_fun, e_nil_letter, e_nil_box, e_row_num, e_row_nil, e_row_row, e_row_data, e_row_fun, e_row_letter, e_row_box, e_data_num, e_data_nil, e_data_row, e_data_data, e_data_fun, e_data_letter, e_data_box, e_fun_num, e_fun_nil, e_fun_row, e_fun_data, e_fun_fun, e_fun_letter, e_fun_box, e_letter_num, e_letter_nil, e_letter_row, e_letter_data, e_letter_fun, e_letter_letter, e_letter_box, e_box_num, e_box_nil, e_box_row, e_box_data, e_box_fun, e_box_letter, e_box_box, pSlT]; exact ⟨by decide, leaf _ rfl⟩
  | data i js h1 => simp only [m_with_inner, n_with_inner, wSs, wS, wSeq, wSkip, wRet, wRetN, wIf, wSet, wExp, wBrk, wCnt, wNever, wAsg, wPar, wSub, Bw.wE, wA, wB, wO, wCd, wLX, wIX, wAnd, wOr, Bw.wNot, wIte, asT, w1, w2, w1, wVar, wC, wTup, wLst, wMth, wMthl, wListOf, wL, wNew, wACons, wANil, wCall, wSlc, wNo, wSo, wChn, wBopN, CO.sem, BO.sem, F1.sem, FL.sem, OM.sem, gT, gSlot, start0, List.map_cons, List.map_nil, List.length_cons, List.length_nil, List.replicate_succ, List.replicate_zero, List.cons_append, List.nil_append, List.append_nil, List.getElem?_cons_zero, List.getElem?_cons_succ, List.set_cons_zero, List.set_cons_succ, Nat.sub_self, Nat.sub_zero, Nat.add_sub_cancel, Nat.reduceAdd, Nat.reduceSub, if_true, if_false, Bool.false_eq_true, Nat.zero_add, x_some, x_some1, x_bl, x_ix, x_len, x_eqStr, x_eqInt, x_eqBl, x_in, x_b2, x_i2, x_mul, x_addI, x_addT, x_int, x_abs, x_neg, at_0, at_1, at_2, at_3, at_m1, Bool.false_xor, Bool.true_xor, e_num_num, e_num_nil, e_num_row, e_num_data, e_num_fun, e_num_letter, e_num_box, e_nil_num, e_nil_nil, e_nil_row, e_nil_data, e_nil_fun, e_nil_letter, e_nil_box, e_row_num, e_row_nil, e_row_row, e_row_data, e_row_fun, e_row_letter, e_row_box, e_data_num, e_data_nil, e_data_row, e_data_data, e_data_fun, e_data_letter, e_data_box, e_fun_num, e_fun_nil, e_fun_row, e_fun_data, e_fun_fun, e_fun_letter, e_fun_box, e_letter_num, e_letter_nil, e_letter_row, e_letter_data, e_letter_fun, e_letter_letter, e_letter_box, e_box_num, e_box_nil, e_box_row, e_box_data, e_box_fun, e_box_letter, e_box_box, pSlT]; exact ⟨by decide, leaf _ rfl⟩
  | fn js j h1 h2 =>
    rw [i_fn, List.length_append] at hl
    obtain ⟨r, x, rfl, hr⟩ := len_last hl
    simp only [m_with_inner, n_with_inner, wSs, wS, wSeq, wSkip, wRet, wRetN, wIf, wSet, wExp, wBrk, wCnt, wNever, wAsg, wPar, wSub, Bw.wE, wA, wB, wO, wCd, wLX, wIX, wAnd, wOr, Bw.wNot, wIte, asT, w1, w2, w1, wVar, wC, wTup, wLst, wMth, wMthl, wListOf, wL, wNew, wACons, wANil, wCall, wSlc, wNo, wSo, wChn, wBopN, CO.sem, BO.sem, F1.sem, FL.sem, OM.sem, gT, gSlot, start0, List.map_cons, List.map_nil, List.length_cons, List.length_nil, List.replicate_succ, List.replicate_zero, List.cons_append, List.nil_append, List.append_nil, List.getElem?_cons_zero, List.getElem?_cons_succ, List.set_cons_zero, List.set_cons_succ, Nat.sub_self, Nat.sub_zero, Nat.add_sub_cancel, Nat.reduceAdd, Nat.reduceSub, if_true, if_false, Bool.false_eq_true, Nat.zero_add, x_some, x_some1, x_bl, x_ix, x_len, x_eqStr, x_eqInt, x_eqBl, x_in, x_b2, x_i2, x_mul, x_addI, x_addT, x_int, x_abs, x_neg, at_0, at_1, at_2, at_3, at_m1, Bool.false_xor, Bool.true_xor, e_num_num, e_num_nil, e_num_row, e_num_data, e_num_fun, e_num_letter, e_num_box, e_nil_num, e_nil_nil, e_nil_row, e_nil_data, e_nil_fun, e_nil_letter, e_nil_box, e_row_num, e_row_nil, e_row_row, e_row_data, e_row_fun, e_row_letter, e_row_box, e_data_num, e_data_nil, e_data_row, e_data_data, e_data_fun, e_data_letter, e_data_box, e_fun_num, e_fun_nil, e_fun_row, e_fun_data, e_fun_fun, e_fun_letter, e_fun_box, e_letter_num, e_letter_nil, e_letter_row, e_letter_data, e_letter_fun, e_letter_letter, e_letter_box, e_box_num, e_box_nil, e_box_row, e_box_data, e_box_fun, e_box_letter, e_box_box, pSlT]
    refine ⟨_, rfl, x, by simp, by decide, leaf _ ?_⟩
    have := cut_m1 (ks := r ++ [x])
    rw [List.dropLast_concat] at this
    show D.tup [.str "fun", .tup (cutD (r ++ [x]) none (some (-1))), x] = _
    rw [this, wi_fn]
  | letter i h1 => simp only [m_with_inner, n_with_inner, wSs, wS, wSeq, wSkip, wRet, wRetN, wIf, wSet, wExp, wBrk, wCnt, wNever, wAsg, wPar, wSub, Bw.wE, wA, wB, wO, wCd, wLX, wIX, wAnd, wOr, Bw.wNot, wIte, asT, w1, w2, w1, wVar, wC, wTup, wLst, wMth, wMthl, wListOf, wL, wNew, wACons, wANil, wCall, wSlc, wNo, wSo, wChn, wBopN, CO.sem, BO.sem, F1.sem, FL.sem, OM.sem, gT, gSlot, start0, List.map_cons, List.map_nil, List.length_cons, List.length_nil, List.replicate_succ, List.replicate_zero, List.cons_append, List.nil_append, List.append_nil, List.getElem?_cons_zero, List.getElem?_cons_succ, List.set_cons_zero, List.set_cons_succ, Nat.sub_self, Nat.sub_zero, Nat.add_sub_cancel, Nat.reduceAdd, Nat.reduceSub, if_true, if_false, Bool.false_eq_true, Nat.zero_add, x_some, x_some1, x_bl, x_ix, x_len, x_eqStr, x_eqInt, x_eqBl, x_in, x_b2, x_i2, x_mul, x_addI, x_addT, x_int, x_abs, x_neg, at_0, at_1, at_2, at_3, at_m1, Bool.false_xor, Bool.true_xor, e_num_num, e_num_nil, e_num_row, e_num_data, e_num_fun, e_num_letter, e_num_box, e_nil_num, e_nil_nil, e_nil_row, e_nil_data, e_nil_fun, e_nil_letter, e_nil_box, e_row_num, e_row_nil, e_row_row, e_row_data, e_row_fun, e_row_letter, e_row_box, e_data_num, e_data_nil, e_data_row, e_data_data, e_data_fun, e_data_letter, e_data_box, e_fun_num, e_fun_nil, e_fun_row, e_fun_data, e_fun_fun, e_fun_letter, e_fun_box, e_letter_num, e_letter_nil, e_letter_row, e_letter_data, e_letter_fun, e_letter_letter, e_letter_box, e_box_num, e_box_nil, e_box_row, e_box_data, e_box_fun, e_box_letter, e_box_box, pSlT]; exact leaf _ rfl
  | box j =>
    obtain ⟨x, rfl⟩ := len_one hl
    simp only [m_with_inner, n_with_inner, wSs, wS, wSeq, wSkip, wRet, wRetN, wIf, wSet, wExp, wBrk, wCnt, wNever, wAsg, wPar, wSub, Bw.wE, wA, wB, wO, wCd, wLX, wIX, wAnd, wOr, Bw.wNot, wIte, asT, w1, w2, w1, wVar, wC, wTup, wLst, wMth, wMthl, wListOf, wL, wNew, wACons, wANil, wCall, wSlc, wNo, wSo, wChn, wBopN, CO.sem, BO.sem, F1.sem, FL.sem, OM.sem, gT, gSlot, start0, List.map_cons, List.map_nil, List.length_cons, List.length_nil, List.replicate_succ, List.replicate_zero, List.cons_append, List.nil_append, List.append_nil, List.getElem?_cons_zero, List.getElem?_cons_succ, List.set_cons_zero, List.set_cons_succ, Nat.sub_self, Nat.sub_zero, Nat.add_sub_cancel, Nat.reduceAdd, Nat.reduceSub, if_true, if_false, Bool.false_eq_true, Nat.zero_add, x_some, x_some1, x_bl, x_ix, x_len, x_eqStr, x_eqInt, x_eqBl, x_in, x_b2, x_i2, x_mul, x_addI, x_addT, x_int, x_abs, x_neg, at_0, at_1, at_2, at_3, at_m1, Bool.false_xor, Bool.true_xor, e_num_num, e_num_nil, e_num_row, e_num_data, e_num_fun, e_num_letter, e_num_box, e_nil_num, e_nil_nil, e_nil_row, e_nil_data, e_nil_fun, e_nil_letter, e_nil_box, e_row_num, e_row_nil, e_row_row, e_row_data, e_row_fun, e_row_letter, e_row_box, e_data_num, e_data_nil, e_data_row, e_data_data, e_data_fun, e_data_letter, e_data_box, e_fun_num, e_fun_nil, e_fun_row, e_fun_data, e_fun_fun, e_fun_letter, e_fun_box, e_letter_num, e_letter_nil, e_letter_row, e_letter_data, e_letter_fun, e_letter_letter, e_letter_box, e_box_num, e_box_nil, e_box_row, e_box_data, e_box_fun, e_box_letter, e_box_box, pSlT]
    exact ⟨by decide, leaf _ rfl⟩
end K01
end
section
set_option linter.all false
set_option maxRecDepth 100000
set_option maxHeartbeats 4000000
namespace K01
open PySem Bw
def putF : Nat → List D → D → D
  | 0, _, _ => .non
  | n + 1, σ, d => match ltrI d with
    | some i => (σ[i.toNat]?).getD .non
    | none => withD d ((innerD d).map (putF n σ))
def putD (σ : List D) (d : D) : D := putF (dsz d) σ d
theorem putF_st : ∀ (n : Nat) (σ : List D) (d : D), dsz d ≤ n → putF n σ d = putF (n + 1) σ d
  | 0, σ, d, h => by have := dsz_pos d; omega
  | n + 1, σ, d, h => by
    show (match ltrI d with | some i => (σ[i.toNat]?).getD .non | none => withD d ((innerD d).map (putF n σ))) = (match ltrI d with | some i => (σ[i.toNat]?).getD .non | none => withD d ((innerD d).map (putF (n + 1) σ)))
    rw [List.map_congr_left fun x hx => putF_st n σ x (by have := innerD_sz d x hx; omega)]
theorem putF_ge {σ : List D} {d : D} : ∀ {n : Nat}, dsz d ≤ n → putF n σ d = putD σ d
  | n, h => by
    induction n with
    | zero => have := dsz_pos d; omega
    | succ n ih =>
      by_cases e : dsz d ≤ n
      · rw [← putF_st n σ d e]; exact ih e
      · have : dsz d = n + 1 := by omega
        rw [← this]; rfl
theorem putD_eq (σ : List D) (d : D) : putD σ d = match ltrI d with
    | some i => (σ[i.toNat]?).getD .non
    | none => withD d ((innerD d).map (putD σ)) := by
  have hp := dsz_pos d
  obtain ⟨n, hn⟩ : ∃ n, dsz d = n + 1 := ⟨dsz d - 1, by omega⟩
  have : putD σ d = putF (n + 1) σ d := by unfold putD; rw [hn]
  rw [this]
  show (match ltrI d with | some i => (σ[i.toNat]?).getD .non | none => withD d ((innerD d).map (putF n σ))) = _
  rw [List.map_congr_left fun x hx => putF_ge (by have := innerD_sz d x hx; omega)]
/-- the letters of a kind lie below n -/
def below (n : Nat) (d : D) : Prop := ∀ i ∈ letL (nodesD d), i < n
theorem below_in {n : Nat} {d : D} (h : below n d) : ∀ x ∈ innerD d, below n x := fun x hx i hi => h i (by
  rw [nodesD_eq, letL, List.filterMap_cons]
  have : i ∈ ((innerD d).flatMap nodesD).filterMap ltrI := by
    obtain ⟨y, hy, e⟩ := List.mem_filterMap.mp hi
    exact List.mem_filterMap.mpr ⟨y, List.mem_flatMap.mpr ⟨x, hx, hy⟩, e⟩
  split
  · exact this
  · exact List.mem_cons_of_mem _ this)
theorem below_letter {n : Nat} {i : Int} (h : below n (.tup [.str "letter", .int i])) : i < n := h i (by
  rw [nodesD_eq, letL, List.filterMap_cons]
  have : ltrI (.tup [.str "letter", .int i]) = some i := by simp [ltrI]
  rw [this]; simp)
theorem put_letter {σ : List D} {i : Int} : putD σ (.tup [.str "letter", .int i]) = (σ[i.toNat]?).getD .non := by
  rw [putD_eq]
  have : ltrI (.tup [.str "letter", .int i]) = some i := by simp [ltrI]
  rw [this]
theorem put_other {σ : List D} {d : D} (h : isLet d = false) : putD σ d = withD d ((innerD d).map (putD σ)) := by
  rw [putD_eq, ltr_none h]
theorem let_cases {d : D} (f : Frm d) : (∃ i, d = .tup [.str "letter", .int i] ∧ 0 ≤ i) ∨ isLet d = false := by
  cases f with
  | letter i h => exact .inl ⟨i, rfl, h⟩
  | _ => exact .inr (by simp only [isLet]; decide)
theorem get_of {σ : List D} {i : Int} (h0 : 0 ≤ i) (h1 : i < σ.length) : ∃ x, σ[i.toNat]? = some x ∧ x ∈ σ := by
  have : i.toNat < σ.length := by omega
  exact ⟨σ[i.toNat], List.getElem?_eq_getElem this, List.getElem_mem this⟩
theorem put_cl {k : Nat} {σ : List D} (hσ : clDs k σ) : ∀ {n : Nat} {d : D}, kdp n d → clD k d → below σ.length d → clD k (putD σ d)
  | 0, _, h, _, _ => h.elim
  | n + 1, d, ⟨f, h⟩, c, b => by
    rcases let_cases f with ⟨i, rfl, h0⟩ | e
    · rw [put_letter]
      obtain ⟨x, hx, hm⟩ := get_of h0 (below_letter b)
      rw [hx]; exact clDs_iff.1 hσ x hm
    · rw [put_other e]
      refine with_cl f c (clDs_iff.2 fun y hy => ?_) (by simp)
      obtain ⟨x, hx, rfl⟩ := List.mem_map.mp hy
      exact put_cl hσ (h x hx) (clDs_iff.1 (inner_cl f c) x hx) (below_in b x hx)
def S_raw (n : Nat) : DSp := fun ds L Q _ => ∃ d σ, ds = [d, .tup σ] ∧ kdp n d ∧ below σ.length d ∧ Q (putD σ d) L
def gam_raw (n : Nat) : Nat → DSp
  | 0 => S_with
  | 1 => S_raw n
  | _ => S_inner_of
theorem inner_few {d : D} (f : Frm d) (h : dsz d ≤ 1000000) : (innerD d).length ≤ sizeLine := by
  have := inner_sz f
  have := dszs_len (innerD d)
  rw [size_line]; omega
theorem head_let {d : D} (f : Frm d) : ∃ h r, d = .tup (.str h :: r) ∧ isLet d = (h == "letter") := by
  cases f <;> exact ⟨_, _, rfl, by simp only [isLet, beq_dec]⟩
theorem kdp_few {n : Nat} {d : D} (f : Frm d) (hz : dsz d ≤ 1000000) : (innerD d).length ≤ sizeLine := inner_few f hz
theorem sz_in {d : D} (f : Frm d) {x : D} (hx : x ∈ innerD d) : dsz x ≤ dsz d := by have := innerD_sz d x hx; omega
def S_rawz (n : Nat) : DSp := fun ds L Q _ => ∃ d σ, ds = [d, .tup σ] ∧ kdp n d ∧ below σ.length d ∧ dsz d ≤ 1000000 ∧ Q (putD σ d) L
def gam_rawz (n : Nat) : Nat → DSp
  | 0 => S_with
  | 1 => S_rawz n
  | _ => S_inner_of
theorem map_all {f : D → D} {l : List D} : (l.filter fun _ => true).map f = l.map f := by rw [List.filter_eq_self.mpr (fun _ _ => rfl)]
theorem w_raw_filled {n : Nat} {ds : List D} {L : LH} {Q : Post} {E : XP} (c1 : clL L.length L) (c2 : clDs L.length ds) (h : S_rawz (n + 1) ds L Q E) : wSs (gam_rawz n) m_raw_filled (endsOf L.length Q) (start0 n_raw_filled ds) L := by
  obtain ⟨d, σ, rfl, ⟨f, hd⟩, b, hz, q⟩ := h
  have hcl : clD L.length (putD σ d) := put_cl (cl_tup.1 c2.2.1) (n := n + 1) ⟨f, hd⟩ c2.1 b
  obtain ⟨s, r, rfl, hs⟩ := head_let f
  simp only [m_raw_filled, n_raw_filled, wSs, wS, wSeq, wSkip, wRet, wRetN, wIf, wSet, wExp, wBrk, wCnt, wNever, wAsg, wPar, wSub, Bw.wE, wA, wB, wO, wCd, wLX, wIX, wAnd, wOr, Bw.wNot, wIte, asT, w1, w2, w1, wVar, wC, wTup, wLst, wMth, wMthl, wListOf, wL, wNew, wACons, wANil, wCall, wSlc, wNo, wSo, wChn, wBopN, CO.sem, BO.sem, F1.sem, FL.sem, OM.sem, gT, gSlot, start0, List.map_cons, List.map_nil, List.length_cons, List.length_nil, List.replicate_succ, List.replicate_zero, List.cons_append, List.nil_append, List.append_nil, List.getElem?_cons_zero, List.getElem?_cons_succ, List.set_cons_zero, List.set_cons_succ, Nat.sub_self, Nat.sub_zero, Nat.add_sub_cancel, Nat.reduceAdd, Nat.reduceSub, if_true, if_false, Bool.false_eq_true, Nat.zero_add, x_some, x_some1, x_bl, x_ix, x_len, x_eqStr, x_eqInt, x_eqBl, x_in, x_b2, x_i2, x_mul, x_addI, x_addT, x_int, x_abs, x_neg, at_0, at_1, at_2, at_3, at_m1, Bool.false_xor, Bool.true_xor, lTup, wComp, iSq]
  rw [← hs]
  rcases let_cases f with ⟨i, e, h0⟩ | e
  · injection e with e; injection e with e1 e2; cases e1; subst e2
    rw [if_pos (by simp [isLet])]
    obtain ⟨x, hx, hm⟩ := get_of h0 (below_letter b)
    rw [put_letter, hx] at q hcl
    refine ⟨_, rfl, (x_ix).2 ⟨x, ?_, is_ret c1 hcl q⟩⟩
    have := Bw.atI_nat σ i.toNat
    rw [show ((i.toNat : Nat) : Int) = i by omega] at this
    rw [this, hx]
  · rw [if_neg (by simp [e])]
    rw [put_other e] at q hcl
    refine ⟨trivial, _, rfl, f, comp_pure (fun _ => true) (putD σ) trivial (inner_few f hz) (fun x hx acc K hz' hK => ?_) ?_⟩
    · unfold stepC
      simp only [wipeR, wSs, wS, wSeq, wSkip, wRet, wRetN, wIf, wSet, wExp, wBrk, wCnt, wNever, wAsg, wPar, wSub, Bw.wE, wA, wB, wO, wCd, wLX, wIX, wAnd, wOr, Bw.wNot, wIte, asT, w1, w2, w1, wVar, wC, wTup, wLst, wMth, wMthl, wListOf, wL, wNew, wACons, wANil, wCall, wSlc, wNo, wSo, wChn, wBopN, CO.sem, BO.sem, F1.sem, FL.sem, OM.sem, gT, gSlot, start0, List.map_cons, List.map_nil, List.length_cons, List.length_nil, List.replicate_succ, List.replicate_zero, List.cons_append, List.nil_append, List.append_nil, List.getElem?_cons_zero, List.getElem?_cons_succ, List.set_cons_zero, List.set_cons_succ, Nat.sub_self, Nat.sub_zero, Nat.add_sub_cancel, Nat.reduceAdd, Nat.reduceSub, if_true, if_false, Bool.false_eq_true, Nat.zero_add, x_some, x_some1, x_bl, x_ix, x_len, x_eqStr, x_eqInt, x_eqBl, x_in, x_b2, x_i2, x_mul, x_addI, x_addT, x_int, x_abs, x_neg, at_0, at_1, at_2, at_3, at_m1, Bool.false_xor, Bool.true_xor]
      exact ⟨trivial, x, σ, rfl, hd x hx, below_in b x hx, by have := sz_in f hx; omega, hz', hK⟩
    · rw [map_all]
      exact ⟨trivial, _, _, rfl, f, by simp, is_ret c1 hcl q⟩
def gam_put (n : Nat) : Nat → DSp
  | 0 => S_rawz n
  | _ => S_inner_of
theorem w__law_put {n : Nat} {ds : List D} {L : LH} {Q : Post} {E : XP} (c1 : clL L.length L) (c2 : clDs L.length ds) (h : S_rawz (n + 1) ds L Q E) : wSs (gam_put n) m__law_put (endsOf L.length Q) (start0 n__law_put ds) L := by
  obtain ⟨d, σ, rfl, ⟨f, hd⟩, b, hz, q⟩ := h
  have hcl : clD L.length (putD σ d) := put_cl (cl_tup.1 c2.2.1) (n := n + 1) ⟨f, hd⟩ c2.1 b
  rcases let_cases f with ⟨i, e, h0⟩ | e
  · subst e
    simp only [m__law_put, n__law_put, wSs, wS, wSeq, wSkip, wRet, wRetN, wIf, wSet, wExp, wBrk, wCnt, wNever, wAsg, wPar, wSub, Bw.wE, wA, wB, wO, wCd, wLX, wIX, wAnd, wOr, Bw.wNot, wIte, asT, w1, w2, w1, wVar, wC, wTup, wLst, wMth, wMthl, wListOf, wL, wNew, wACons, wANil, wCall, wSlc, wNo, wSo, wChn, wBopN, CO.sem, BO.sem, F1.sem, FL.sem, OM.sem, gT, gSlot, start0, List.map_cons, List.map_nil, List.length_cons, List.length_nil, List.replicate_succ, List.replicate_zero, List.cons_append, List.nil_append, List.append_nil, List.getElem?_cons_zero, List.getElem?_cons_succ, List.set_cons_zero, List.set_cons_succ, Nat.sub_self, Nat.sub_zero, Nat.add_sub_cancel, Nat.reduceAdd, Nat.reduceSub, if_true, if_false, Bool.false_eq_true, Nat.zero_add, x_some, x_some1, x_bl, x_ix, x_len, x_eqStr, x_eqInt, x_eqBl, x_in, x_b2, x_i2, x_mul, x_addI, x_addT, x_int, x_abs, x_neg, at_0, at_1, at_2, at_3, at_m1, Bool.false_xor, Bool.true_xor, e_num_num, e_num_nil, e_num_row, e_num_data, e_num_fun, e_num_letter, e_num_box, e_nil_num, e_nil_nil, e_nil_row, e_nil_data, e_nil_fun, e_nil_letter, e_nil_box, e_row_num, e_row_nil, e_row_row, e_row_data, e_row_fun, e_row_letter, e_row_box, e_data_num, e_data_nil, e_data_row, e_data_data, e_data_fun, e_data_letter, e_data_box, e_fun_num, e_fun_nil, e_fun_row, e_fun_data, e_fun_fun, e_fun_letter, e_fun_box, e_letter_num, e_letter_nil, e_letter_row, e_letter_data, e_letter_fun, e_letter_letter, e_letter_box, e_box_num, e_box_nil, e_box_row, e_box_data, e_box_fun, e_box_letter, e_box_box, lTup, wComp, iSq]
    obtain ⟨x, hx, hm⟩ := get_of h0 (below_letter b)
    rw [put_letter, hx] at q hcl
    refine ⟨x, ?_, is_ret c1 hcl q⟩
    have := Bw.atI_nat σ i.toNat
    rw [show ((i.toNat : Nat) : Int) = i by omega] at this
    rw [this, hx]
  · rw [put_other e] at q hcl
    have step : ∀ (x : D), x ∈ innerD d → ∀ (acc : List D) (K : List D → LH → Prop), acc.length < sizeLine → (if (fun _ : D => true) x = true then K (acc ++ [putD σ x]) L else K acc L) →
        stepC (gT (.one 3)) (wCd (gam_put n) .no) (Bw.wE (gam_put n) (.call 0 2 (.cons (.var 3) (.cons (.var 1) .nil)))) [some d, some (.tup σ), none, none] x acc L K := fun x hx acc K hz' hK => by
      unfold stepC
      simp only [wSs, wS, wSeq, wSkip, wRet, wRetN, wIf, wSet, wExp, wBrk, wCnt, wNever, wAsg, wPar, wSub, Bw.wE, wA, wB, wO, wCd, wLX, wIX, wAnd, wOr, Bw.wNot, wIte, asT, w1, w2, w1, wVar, wC, wTup, wLst, wMth, wMthl, wListOf, wL, wNew, wACons, wANil, wCall, wSlc, wNo, wSo, wChn, wBopN, CO.sem, BO.sem, F1.sem, FL.sem, OM.sem, gT, gSlot, start0, List.map_cons, List.map_nil, List.length_cons, List.length_nil, List.replicate_succ, List.replicate_zero, List.cons_append, List.nil_append, List.append_nil, List.getElem?_cons_zero, List.getElem?_cons_succ, List.set_cons_zero, List.set_cons_succ, Nat.sub_self, Nat.sub_zero, Nat.add_sub_cancel, Nat.reduceAdd, Nat.reduceSub, if_true, if_false, Bool.false_eq_true, Nat.zero_add, x_some, x_some1, x_bl, x_ix, x_len, x_eqStr, x_eqInt, x_eqBl, x_in, x_b2, x_i2, x_mul, x_addI, x_addT, x_int, x_abs, x_neg, at_0, at_1, at_2, at_3, at_m1, Bool.false_xor, Bool.true_xor]
      exact ⟨trivial, x, σ, rfl, hd x hx, below_in b x hx, by have := sz_in f hx; omega, hz', hK⟩
    have go : ∀ (R : List D → LH → Prop), R ((innerD d).map (putD σ)) L → compL (gT (.one 3)) (wCd (gam_put n) .no) (Bw.wE (gam_put n) (.call 0 2 (.cons (.var 3) (.cons (.var 1) .nil)))) [some d, some (.tup σ), none, none] (fun _ => True) (innerD d) [] L R := fun R hR =>
      comp_pure (fun _ => true) (putD σ) trivial (inner_few f hz) step (by rw [map_all]; exact hR)
    have hlen : ((innerD d).map (putD σ)).length = (innerD d).length := by simp
    revert q hcl go hlen
    generalize (innerD d).map (putD σ) = ks
    intro q hcl go hlen
    have leaf : ∀ e, e = withD d ks → (endsOf L.length Q).rt e L := fun e h => is_ret c1 (h ▸ hcl) (h ▸ q)
    cases f with
    | num => simp only [m__law_put, n__law_put, wSs, wS, wSeq, wSkip, wRet, wRetN, wIf, wSet, wExp, wBrk, wCnt, wNever, wAsg, wPar, wSub, Bw.wE, wA, wB, wO, wCd, wLX, wIX, wAnd, wOr, Bw.wNot, wIte, asT, w1, w2, w1, wVar, wC, wTup, wLst, wMth, wMthl, wListOf, wL, wNew, wACons, wANil, wCall, wSlc, wNo, wSo, wChn, wBopN, CO.sem, BO.sem, F1.sem, FL.sem, OM.sem, gT, gSlot, start0, List.map_cons, List.map_nil, List.length_cons, List.length_nil, List.replicate_succ, List.replicate_zero, List.cons_append, List.nil_append, List.append_nil, List.getElem?_cons_zero, List.getElem?_cons_succ, List.set_cons_zero, List.set_cons_succ, Nat.sub_self, Nat.sub_zero, Nat.add_sub_cancel, Nat.reduceAdd, Nat.reduceSub, if_true, if_false, Bool.false_eq_true, Nat.zero_add, x_some, x_some1, x_bl, x_ix, x_len, x_eqStr, x_eqInt, x_eqBl, x_in, x_b2, x_i2, x_mul, x_addI, x_addT, x_int, x_abs, x_neg, at_0, at_1, at_2, at_3, at_m1, Bool.false_xor, Bool.true_xor, e_num_num, e_num_nil, e_num_row, e_num_data, e_num_fun, e_num_letter, e_num_box, e_nil_num, e_nil_nil, e_nil_row, e_nil_data, e_nil_fun, e_nil_letter, e_nil_box, e_row_num, e_row_nil, e_row_row, e_row_data, e_row_fun, e_row_letter, e_row_box, e_data_num, e_data_nil, e_data_row, e_data_data, e_data_fun, e_data_letter, e_data_box, e_fun_num, e_fun_nil, e_fun_row, e_fun_data, e_fun_fun, e_fun_letter, e_fun_box, e_letter_num, e_letter_nil, e_letter_row, e_letter_data, e_letter_fun, e_letter_letter, e_letter_box, e_box_num, e_box_nil, e_box_row, e_box_data, e_box_fun, e_box_letter, e_box_box, lTup, wComp, iSq, pSlT]; exact ⟨trivial, _, rfl, .num, go _ (leaf _ rfl)⟩
    | nil => simp only [m__law_put, n__law_put, wSs, wS, wSeq, wSkip, wRet, wRetN, wIf, wSet, wExp, wBrk, wCnt, wNever, wAsg, wPar, wSub, Bw.wE, wA, wB, wO, wCd, wLX, wIX, wAnd, wOr, Bw.wNot, wIte, asT, w1, w2, w1, wVar, wC, wTup, wLst, wMth, wMthl, wListOf, wL, wNew, wACons, wANil, wCall, wSlc, wNo, wSo, wChn, wBopN, CO.sem, BO.sem, F1.sem, FL.sem, OM.sem, gT, gSlot, start0, List.map_cons, List.map_nil, List.length_cons, List.length_nil, List.replicate_succ, List.replicate_zero, List.cons_append, List.nil_append, List.append_nil, List.getElem?_cons_zero, List.getElem?_cons_succ, List.set_cons_zero, List.set_cons_succ, Nat.sub_self, Nat.sub_zero, Nat.add_sub_cancel, Nat.reduceAdd, Nat.reduceSub, if_true, if_false, Bool.false_eq_true, Nat.zero_add, x_some, x_some1, x_bl, x_ix, x_len, x_eqStr, x_eqInt, x_eqBl, x_in, x_b2, x_i2, x_mul, x_addI, x_addT, x_int, x_abs, x_neg, at_0, at_1, at_2, at_3, at_m1, Bool.false_xor, Bool.true_xor, e_num_num, e_num_nil, e_num_row, e_num_data, e_num_fun, e_num_letter, e_num_box, e_nil_num, e_nil_nil, e_nil_row, e_nil_data, e_nil_fun, e_nil_letter, e_nil_box, e_row_num, e_row_nil, e_row_row, e_row_data, e_row_fun, e_row_letter, e_row_box, e_data_num, e_data_nil, e_data_row, e_data_data, e_data_fun, e_data_letter, e_data_box, e_fun_num, e_fun_nil, e_fun_row, e_fun_data, e_fun_fun, e_fun_letter, e_fun_box, e_letter_num, e_letter_nil, e_letter_row, e_letter_data, e_letter_fun, e_letter_letter, e_letter_box, e_box_num, e_box_nil, e_box_row, e_box_data, e_box_fun, e_box_letter, e_box_box, lTup, wComp, iSq, pSlT]; exact ⟨trivial, _, rfl, .nil, go _ (leaf _ rfl)⟩
    | row js h1 h2 => simp only [m__law_put, n__law_put, wSs, wS, wSeq, wSkip, wRet, wRetN, wIf, wSet, wExp, wBrk, wCnt, wNever, wAsg, wPar, wSub, Bw.wE, wA, wB, wO, wCd, wLX, wIX, wAnd, wOr, Bw.wNot, wIte, asT, w1, w2, w1, wVar, wC, wTup, wLst, wMth, wMthl, wListOf, wL, wNew, wACons, wANil, wCall, wSlc, wNo, wSo, wChn, wBopN, CO.sem, BO.sem, F1.sem, FL.sem, OM.sem, gT, gSlot, start0, List.map_cons, List.map_nil, List.length_cons, List.length_nil, List.replicate_succ, List.replicate_zero, List.cons_append, List.nil_append, List.append_nil, List.getElem?_cons_zero, List.getElem?_cons_succ, List.set_cons_zero, List.set_cons_succ, Nat.sub_self, Nat.sub_zero, Nat.add_sub_cancel, Nat.reduceAdd, Nat.reduceSub, if_true, if_false, Bool.false_eq_true, Nat.zero_add, x_some, x_some1, x_bl, x_ix, x_len, x_eqStr, x_eqInt, x_eqBl, x_in, x_b2, x_i2, x_mul, x_addI, x_addT, x_int, x_abs, x_neg, at_0, at_1, at_2, at_3, at_m1, Bool.false_xor, Bool.true_xor, e_num_num, e_num_nil, e_num_row, e_num_data, e_num_fun, e_num_letter, e_num_box, e_nil_num, e_nil_nil, e_nil_row, e_nil_data, e_nil_fun, e_nil_letter, e_nil_box, e_row_num, e_row_nil, e_row_row, e_row_data, e_row_fun, e_row_letter, e_row_box, e_data_num, e_data_nil, e_data_row, e_data_data, e_data_fun, e_data_letter, e_data_box, e_fun_num, e_fun_nil, e_fun_row, e_fun_data, e_fun_fun, e_fun_letter, e_fun_box, e_letter_num, e_letter_nil, e_letter_row, e_letter_data, e_letter_fun, e_letter_letter, e_letter_box, e_box_num, e_box_nil, e_box_row, e_box_data, e_box_fun, e_box_letter, e_box_box, lTup, wComp, iSq, pSlT]; exact ⟨trivial, _, rfl, .row js h1 h2, go _ ⟨by decide, leaf _ rfl⟩⟩
    | data i js h1 => simp only [m__law_put, n__law_put, wSs, wS, wSeq, wSkip, wRet, wRetN, wIf, wSet, wExp, wBrk, wCnt, wNever, wAsg, wPar, wSub, Bw.wE, wA, wB, wO, wCd, wLX, wIX, wAnd, wOr, Bw.wNot, wIte, asT, w1, w2, w1, wVar, wC, wTup, wLst, wMth, wMthl, wListOf, wL, wNew, wACons, wANil, wCall, wSlc, wNo, wSo, wChn, wBopN, CO.sem, BO.sem, F1.sem, FL.sem, OM.sem, gT, gSlot, start0, List.map_cons, List.map_nil, List.length_cons, List.length_nil, List.replicate_succ, List.replicate_zero, List.cons_append, List.nil_append, List.append_nil, List.getElem?_cons_zero, List.getElem?_cons_succ, List.set_cons_zero, List.set_cons_succ, Nat.sub_self, Nat.sub_zero, Nat.add_sub_cancel, Nat.reduceAdd, Nat.reduceSub, if_true, if_false, Bool.false_eq_true, Nat.zero_add, x_some, x_some1, x_bl, x_ix, x_len, x_eqStr, x_eqInt, x_eqBl, x_in, x_b2, x_i2, x_mul, x_addI, x_addT, x_int, x_abs, x_neg, at_0, at_1, at_2, at_3, at_m1, Bool.false_xor, Bool.true_xor, e_num_num, e_num_nil, e_num_row, e_num_data, e_num_fun, e_num_letter, e_num_box, e_nil_num, e_nil_nil, e_nil_row, e_nil_data, e_nil_fun, e_nil_letter, e_nil_box, e_row_num, e_row_nil, e_row_row, e_row_data, e_row_fun, e_row_letter, e_row_box, e_data_num, e_data_nil, e_data_row, e_data_data, e_data_fun, e_data_letter, e_data_box, e_fun_num, e_fun_nil, e_fun_row, e_fun_data, e_fun_fun, e_fun_letter, e_fun_box, e_letter_num, e_letter_nil, e_letter_row, e_letter_data, e_letter_fun, e_letter_letter, e_letter_box, e_box_num, e_box_nil, e_box_row, e_box_data, e_box_fun, e_box_letter, e_box_box, lTup, wComp, iSq, pSlT]; exact ⟨trivial, _, rfl, .data i js h1, go _ ⟨by decide, leaf _ rfl⟩⟩
    | fn js j h1 h2 =>
      rw [i_fn, List.length_append] at hlen
      obtain ⟨r, x, rfl, hr⟩ := len_last hlen
      simp only [m__law_put, n__law_put, wSs, wS, wSeq, wSkip, wRet, wRetN, wIf, wSet, wExp, wBrk, wCnt, wNever, wAsg, wPar, wSub, Bw.wE, wA, wB, wO, wCd, wLX, wIX, wAnd, wOr, Bw.wNot, wIte, asT, w1, w2, w1, wVar, wC, wTup, wLst, wMth, wMthl, wListOf, wL, wNew, wACons, wANil, wCall, wSlc, wNo, wSo, wChn, wBopN, CO.sem, BO.sem, F1.sem, FL.sem, OM.sem, gT, gSlot, start0, List.map_cons, List.map_nil, List.length_cons, List.length_nil, List.replicate_succ, List.replicate_zero, List.cons_append, List.nil_append, List.append_nil, List.getElem?_cons_zero, List.getElem?_cons_succ, List.set_cons_zero, List.set_cons_succ, Nat.sub_self, Nat.sub_zero, Nat.add_sub_cancel, Nat.reduceAdd, Nat.reduceSub, if_true, if_false, Bool.false_eq_true, Nat.zero_add, x_some, x_some1, x_bl, x_ix, x_len, x_eqStr, x_eqInt, x_eqBl, x_in, x_b2, x_i2, x_mul, x_addI, x_addT, x_int, x_abs, x_neg, at_0, at_1, at_2, at_3, at_m1, Bool.false_xor, Bool.true_xor, e_num_num, e_num_nil, e_num_row, e_num_data, e_num_fun, e_num_letter, e_num_box, e_nil_num, e_nil_nil, e_nil_row, e_nil_data, e_nil_fun, e_nil_letter, e_nil_box, e_row_num, e_row_nil, e_row_row, e_row_data, e_row_fun, e_row_letter, e_row_box, e_data_num, e_data_nil, e_data_row, e_data_data, e_data_fun, e_data_letter, e_data_box, e_fun_num, e_fun_nil, e_fun_row, e_fun_data, e_fun_fun, e_fun_letter, e_fun_box, e_letter_num, e_letter_nil, e_letter_row, e_letter_data, e_letter_fun, e_letter_letter, e_letter_box, e_box_num, e_box_nil, e_box_row, e_box_data, e_box_fun, e_box_letter, e_box_box, lTup, wComp, iSq, pSlT]
      refine ⟨trivial, _, rfl, .fn js j h1 h2, go _ ⟨_, rfl, x, by simp, by decide, leaf _ ?_⟩⟩
      have := cut_m1 (ks := r ++ [x])
      rw [List.dropLast_concat] at this
      show D.tup [.str "fun", .tup (cutD (r ++ [x]) none (some (-1))), x] = _
      rw [this, wi_fn]
    | letter i h1 => exact absurd e (by simp [isLet])
    | box j =>
      obtain ⟨x, rfl⟩ := len_one hlen
      simp only [m__law_put, n__law_put, wSs, wS, wSeq, wSkip, wRet, wRetN, wIf, wSet, wExp, wBrk, wCnt, wNever, wAsg, wPar, wSub, Bw.wE, wA, wB, wO, wCd, wLX, wIX, wAnd, wOr, Bw.wNot, wIte, asT, w1, w2, w1, wVar, wC, wTup, wLst, wMth, wMthl, wListOf, wL, wNew, wACons, wANil, wCall, wSlc, wNo, wSo, wChn, wBopN, CO.sem, BO.sem, F1.sem, FL.sem, OM.sem, gT, gSlot, start0, List.map_cons, List.map_nil, List.length_cons, List.length_nil, List.replicate_succ, List.replicate_zero, List.cons_append, List.nil_append, List.append_nil, List.getElem?_cons_zero, List.getElem?_cons_succ, List.set_cons_zero, List.set_cons_succ, Nat.sub_self, Nat.sub_zero, Nat.add_sub_cancel, Nat.reduceAdd, Nat.reduceSub, if_true, if_false, Bool.false_eq_true, Nat.zero_add, x_some, x_some1, x_bl, x_ix, x_len, x_eqStr, x_eqInt, x_eqBl, x_in, x_b2, x_i2, x_mul, x_addI, x_addT, x_int, x_abs, x_neg, at_0, at_1, at_2, at_3, at_m1, Bool.false_xor, Bool.true_xor, e_num_num, e_num_nil, e_num_row, e_num_data, e_num_fun, e_num_letter, e_num_box, e_nil_num, e_nil_nil, e_nil_row, e_nil_data, e_nil_fun, e_nil_letter, e_nil_box, e_row_num, e_row_nil, e_row_row, e_row_data, e_row_fun, e_row_letter, e_row_box, e_data_num, e_data_nil, e_data_row, e_data_data, e_data_fun, e_data_letter, e_data_box, e_fun_num, e_fun_nil, e_fun_row, e_fun_data, e_fun_fun, e_fun_letter, e_fun_box, e_letter_num, e_letter_nil, e_letter_row, e_letter_data, e_letter_fun, e_letter_letter, e_letter_box, e_box_num, e_box_nil, e_box_row, e_box_data, e_box_fun, e_box_letter, e_box_box, lTup, wComp, iSq, pSlT]
      exact ⟨trivial, _, rfl, .box j, go _ ⟨x, rfl, by decide, leaf _ rfl⟩⟩
end K01
end
section
set_option linter.all false
set_option maxRecDepth 100000
set_option maxHeartbeats 4000000
namespace K01
open PySem Bw
mutual
/-- data without cells and names -/
def pureD : D → Prop
  | .tup ds => pureDs ds
  | .non => True
  | .bl _ => True
  | .int _ => True
  | .str _ => True
  | _ => False
def pureDs : List D → Prop
  | [] => True
  | d :: ds => pureD d ∧ pureDs ds
end
theorem pureDs_iff : ∀ {ds : List D}, pureDs ds ↔ ∀ d ∈ ds, pureD d
  | [] => by simp [pureDs]
  | d :: ds => by simp [pureDs, pureDs_iff (ds := ds)]
theorem pureDs_app {a b : List D} : pureDs (a ++ b) ↔ pureDs a ∧ pureDs b := by
  simp only [pureDs_iff, List.mem_append]
  exact ⟨fun h => ⟨fun d hd => h d (.inl hd), fun d hd => h d (.inr hd)⟩, fun ⟨h1, h2⟩ d hd => hd.elim (h1 d) (h2 d)⟩
mutual
theorem pure_ty {L : LH} : ∀ {d : D}, pureD d → tyA L d
  | .tup ds, h => by simp only [tyA]; exact pures_ty (by simpa only [pureD] using h)
  | .non, _ => ⟨_, rfl⟩
  | .bl _, _ => ⟨_, rfl⟩
  | .int _, _ => ⟨_, rfl⟩
  | .str _, _ => ⟨_, rfl⟩
  | .loc _, h | .glo _, h | .ty _, h | .kl _, h => h.elim
theorem pures_ty {L : LH} : ∀ {ds : List D}, pureDs ds → tyAs L ds
  | [], _ => trivial
  | d :: ds, h => ⟨pure_ty h.1, pures_ty h.2⟩
end
mutual
theorem pure_cl {n : Nat} : ∀ {d : D}, pureD d → clD n d
  | .tup ds, h => by simp only [clD]; exact pures_cl (by simpa only [pureD] using h)
  | .non, _ | .bl _, _ | .int _, _ | .str _, _ => by unfold clD; trivial
  | .loc _, h | .glo _, h | .ty _, h | .kl _, h => h.elim
theorem pures_cl {n : Nat} : ∀ {ds : List D}, pureDs ds → clDs n ds
  | [], _ => trivial
  | d :: ds, h => ⟨pure_cl h.1, pures_cl h.2⟩
end
theorem pure_inner {d : D} (f : Frm d) (c : pureD d) : pureDs (innerD d) := by
  cases f with
  | num => exact trivial
  | nil => exact trivial
  | row ks _ _ => rw [i_row]; simp only [pureD, pureDs] at c; exact c.2.1
  | data i ks _ => rw [i_data]; simp only [pureD, pureDs] at c; exact c.2.2.1
  | fn ks k _ _ => rw [i_fn, pureDs_app]; simp only [pureD, pureDs] at c; exact ⟨c.2.1, c.2.2.1, trivial⟩
  | letter i _ => exact trivial
  | box k => rw [i_box]; simp only [pureD, pureDs] at c; exact ⟨c.2.1, trivial⟩
theorem with_pure {d : D} (f : Frm d) (c : pureD d) {ks : List D} (hk : pureDs ks) (h : ks.length = (innerD d).length) : pureD (withD d ks) := by
  cases f with
  | num => exact c
  | nil => exact c
  | row js h1 h2 => rw [wi_row]; simp only [pureD, pureDs]; exact ⟨trivial, hk, trivial⟩
  | data i js h1 => rw [wi_data]; simp only [pureD, pureDs]; exact ⟨trivial, trivial, hk, trivial⟩
  | fn js j h1 h2 =>
    rw [i_fn, List.length_append] at h
    obtain ⟨r, x, rfl, hr⟩ := len_last h
    rw [pureDs_app] at hk
    rw [wi_fn]; simp only [pureD, pureDs]; exact ⟨trivial, hk.1, hk.2.1, trivial⟩
  | letter i h1 => exact c
  | box j =>
    obtain ⟨x, rfl⟩ := len_one h
    rw [wi_box]; simp only [pureD, pureDs]; exact ⟨trivial, hk.1, trivial⟩
theorem put_pure {σ : List D} (hσ : pureDs σ) : ∀ {n : Nat} {d : D}, kdp n d → pureD d → below σ.length d → pureD (putD σ d)
  | 0, _, h, _, _ => h.elim
  | n + 1, d, ⟨f, h⟩, c, b => by
    rcases let_cases f with ⟨i, rfl, h0⟩ | e
    · rw [put_letter]
      obtain ⟨x, hx, hm⟩ := get_of h0 (below_letter b)
      rw [hx]; exact pureDs_iff.1 hσ x hm
    · rw [put_other e]
      refine with_pure f c (pureDs_iff.2 fun y hy => ?_) (by simp)
      obtain ⟨x, hx, rfl⟩ := List.mem_map.mp hy
      exact put_pure hσ (h x hx) (pureDs_iff.1 (pure_inner f c) x hx) (below_in b x hx)
/-! filled -/
def S_filled (n : Nat) : DSp := fun ds L Q _ => ∃ d σ, ds = [d, .tup σ] ∧ kdp n d ∧ pureD d ∧ below σ.length d ∧ dsz d ≤ 1000000 ∧ (∀ x ∈ σ, isKindD x = true ∧ pureD x ∧ dsz x ≤ 1000000) ∧ σ.length ≤ 1000 ∧
  (letL (nodesD d)).length + 1 < 4096 ∧ (letsD d).length < 64 ∧ Q (putD σ d) L
def gam_fil (n : Nat) : Nat → DSp
  | 0 => S_rawz n
  | 1 => S_letters
  | 2 => S_is_kind
  | _ => S_check
theorem bls_true : ∀ {l : List D}, blsOf (l.map fun _ => D.bl true) = some (l.map fun _ => true)
  | [] => rfl
  | _ :: l => by simp [blsOf, bls_true (l := l)]
theorem w_filled {n : Nat} {ds : List D} {L : LH} {Q : Post} {E : XP} (c1 : clL L.length L) (c2 : clDs L.length ds) (h : S_filled n ds L Q E) : wSs (gam_fil n) m_filled (endsOf L.length Q) (start0 n_filled ds) L := by
  obtain ⟨d, σ, rfl, kd, pd, b, hz, hσ, hl, h1, h2, q⟩ := h
  have hp : pureDs σ := pureDs_iff.2 fun x hx => (hσ x hx).2.1
  have kk := kdp_kind kd
  have ht : tyD L (.tup σ) = some "tuple" := rfl
  simp only [m_filled, n_filled, wSs, wS, wSeq, wSkip, wRet, wRetN, wIf, wSet, wExp, wBrk, wCnt, wNever, wAsg, wPar, wSub, Bw.wE, wA, wB, wO, wCd, wLX, wIX, wAnd, wOr, Bw.wNot, wIte, asT, w1, w2, w1, wVar, wC, wTup, wLst, wMth, wMthl, wListOf, wL, wNew, wACons, wANil, wCall, wSlc, wNo, wSo, wChn, wBopN, CO.sem, BO.sem, F1.sem, FL.sem, OM.sem, gT, gSlot, start0, List.map_cons, List.map_nil, List.length_cons, List.length_nil, List.replicate_succ, List.replicate_zero, List.cons_append, List.nil_append, List.append_nil, List.getElem?_cons_zero, List.getElem?_cons_succ, List.set_cons_zero, List.set_cons_succ, Nat.sub_self, Nat.sub_zero, Nat.add_sub_cancel, Nat.reduceAdd, Nat.reduceSub, if_true, if_false, Bool.false_eq_true, Nat.zero_add, x_some, x_some1, x_bl, x_ix, x_len, x_eqStr, x_eqInt, x_eqBl, x_in, x_b2, x_i2, x_mul, x_addI, x_addT, x_int, x_abs, x_neg, at_0, at_1, at_2, at_3, at_m1, Bool.false_xor, Bool.true_xor, lAll, lAny, wComp, iSq, x_isi (T := "tuple") (by decide) ht]
  refine ⟨trivial, d, rfl, kk, pure_ty pd, hz, (x_isi (T := "tuple") (by decide) ht).2 ⟨_, rfl, ?_⟩⟩
  rw [show isTy "tuple" "tuple" = true from rfl]
  simp only [Bool.not_true, Bool.false_eq_true, if_false]
  refine comp_pure (fun _ => true) (fun _ => .bl true) trivial (by rw [size_line]; omega) (fun x hx acc K hz' hK => ?_) ?_
  · unfold stepC
    simp only [wipeR, wSs, wS, wSeq, wSkip, wRet, wRetN, wIf, wSet, wExp, wBrk, wCnt, wNever, wAsg, wPar, wSub, Bw.wE, wA, wB, wO, wCd, wLX, wIX, wAnd, wOr, Bw.wNot, wIte, asT, w1, w2, w1, wVar, wC, wTup, wLst, wMth, wMthl, wListOf, wL, wNew, wACons, wANil, wCall, wSlc, wNo, wSo, wChn, wBopN, CO.sem, BO.sem, F1.sem, FL.sem, OM.sem, gT, gSlot, start0, List.map_cons, List.map_nil, List.length_cons, List.length_nil, List.replicate_succ, List.replicate_zero, List.cons_append, List.nil_append, List.append_nil, List.getElem?_cons_zero, List.getElem?_cons_succ, List.set_cons_zero, List.set_cons_succ, Nat.sub_self, Nat.sub_zero, Nat.add_sub_cancel, Nat.reduceAdd, Nat.reduceSub, if_true, if_false, Bool.false_eq_true, Nat.zero_add, x_some, x_some1, x_bl, x_ix, x_len, x_eqStr, x_eqInt, x_eqBl, x_in, x_b2, x_i2, x_mul, x_addI, x_addT, x_int, x_abs, x_neg, at_0, at_1, at_2, at_3, at_m1, Bool.false_xor, Bool.true_xor]
    obtain ⟨a1, a2, a3⟩ := hσ x hx
    refine ⟨trivial, x, rfl, pure_ty a2, a3, ?_⟩
    rw [a1]; exact ⟨hz', hK⟩
  · rw [map_all]
    refine ⟨_, bls_true, ?_⟩
    have e1 : (σ.map fun _ => true).all id = true := by simp
    rw [e1]
    simp only [Bool.not_true, Bool.false_eq_true, if_false]
    refine ⟨trivial, d, rfl, kk, pure_cl pd, hz, h1, h2, ?_⟩
    refine comp_pure (fun _ => true) (fun _ => .bl false) trivial (by rw [List.length_map, size_line]; omega) (fun x hx acc K hz' hK => ?_) ?_
    · obtain ⟨i, hi, rfl⟩ := List.mem_map.mp hx
      unfold stepC
      simp only [wipeR, wSs, wS, wSeq, wSkip, wRet, wRetN, wIf, wSet, wExp, wBrk, wCnt, wNever, wAsg, wPar, wSub, Bw.wE, wA, wB, wO, wCd, wLX, wIX, wAnd, wOr, Bw.wNot, wIte, asT, w1, w2, w1, wVar, wC, wTup, wLst, wMth, wMthl, wListOf, wL, wNew, wACons, wANil, wCall, wSlc, wNo, wSo, wChn, wBopN, CO.sem, BO.sem, F1.sem, FL.sem, OM.sem, gT, gSlot, start0, List.map_cons, List.map_nil, List.length_cons, List.length_nil, List.replicate_succ, List.replicate_zero, List.cons_append, List.nil_append, List.append_nil, List.getElem?_cons_zero, List.getElem?_cons_succ, List.set_cons_zero, List.set_cons_succ, Nat.sub_self, Nat.sub_zero, Nat.add_sub_cancel, Nat.reduceAdd, Nat.reduceSub, if_true, if_false, Bool.false_eq_true, Nat.zero_add, x_some, x_some1, x_bl, x_ix, x_len, x_eqStr, x_eqInt, x_eqBl, x_in, x_b2, x_i2, x_mul, x_addI, x_addT, x_int, x_abs, x_neg, at_0, at_1, at_2, at_3, at_m1, Bool.false_xor, Bool.true_xor]
      have hb : i < σ.length := b i (mem_srt.1 hi)
      refine ⟨hz', ?_⟩
      rw [show decide ((σ.length : Int) ≤ i) = false by simp; omega]
      exact hK
    · rw [map_all]
      have e2 : ∀ l : List D, blsOf (l.map fun _ => D.bl false) = some (l.map fun _ => false) := fun l => by
        induction l with
        | nil => rfl
        | cons x l ih => simp [blsOf, ih]
      refine ⟨_, e2 _, ?_⟩
      have e3 : ∀ l : List D, (l.map fun _ => false).any id = false := fun l => by simp
      rw [e3]
      simp only [Bool.false_eq_true, if_false]
      exact ⟨trivial, d, σ, rfl, kd, b, hz, is_ret c1 (pure_cl (put_pure hp kd pd b)) q⟩
/-! is_like -/
def headS : D → Str
  | .tup (.str h :: _) => h
  | _ => "?"
def sameI : D → D → Bool
  | .tup [_, .int i, _], .tup [_, .int j, _] => i == j
  | _, _ => false
def likeD (k o : D) : Bool := (headS k == headS o) && ((innerD k).length == (innerD o).length) && (!(headS k == "data") || sameI k o)
def S_like : DSp := fun ds L Q _ => ∃ k o, ds = [k, o] ∧ Frm k ∧ Frm o ∧ Q (.bl (likeD k o)) L
def gam_one : Nat → DSp := fun _ => S_inner_of
theorem frm_head {d : D} (f : Frm d) : ∃ r, d = .tup (.str (headS d) :: r) := by cases f <;> exact ⟨_, rfl⟩
theorem frm_data {d : D} (f : Frm d) (h : headS d = "data") : ∃ i ks, d = .tup [.str "data", .int i, .tup ks] := by
  cases f with
  | data i ks _ => exact ⟨i, ks, rfl⟩
  | _ => exact absurd h (by simp only [headS]; decide)
theorem w_is_like {ds : List D} {L : LH} {Q : Post} {E : XP} (c1 : clL L.length L) (c2 : clDs L.length ds) (h : S_like ds L Q E) : wSs gam_one m_is_like (endsOf L.length Q) (start0 n_is_like ds) L := by
  obtain ⟨k, o, rfl, fk, fo, q⟩ := h
  have leaf : ∀ b, b = likeD k o → (endsOf L.length Q).rt (.bl b) L := fun b e => is_ret c1 cl_bl (e ▸ q)
  obtain ⟨rk, ek⟩ := frm_head fk
  obtain ⟨ro, eo⟩ := frm_head fo
  generalize hk : headS k = hk' at *
  generalize ho : headS o = ho' at *
  subst ek eo
  simp only [m_is_like, n_is_like, wSs, wS, wSeq, wSkip, wRet, wRetN, wIf, wSet, wExp, wBrk, wCnt, wNever, wAsg, wPar, wSub, Bw.wE, wA, wB, wO, wCd, wLX, wIX, wAnd, wOr, Bw.wNot, wIte, asT, w1, w2, w1, wVar, wC, wTup, wLst, wMth, wMthl, wListOf, wL, wNew, wACons, wANil, wCall, wSlc, wNo, wSo, wChn, wBopN, CO.sem, BO.sem, F1.sem, FL.sem, OM.sem, gT, gSlot, start0, List.map_cons, List.map_nil, List.length_cons, List.length_nil, List.replicate_succ, List.replicate_zero, List.cons_append, List.nil_append, List.append_nil, List.getElem?_cons_zero, List.getElem?_cons_succ, List.set_cons_zero, List.set_cons_succ, Nat.sub_self, Nat.sub_zero, Nat.add_sub_cancel, Nat.reduceAdd, Nat.reduceSub, if_true, if_false, Bool.false_eq_true, Nat.zero_add, x_some, x_some1, x_bl, x_ix, x_len, x_eqStr, x_eqInt, x_eqBl, x_in, x_b2, x_i2, x_mul, x_addI, x_addT, x_int, x_abs, x_neg, at_0, at_1, at_2, at_3, at_m1, Bool.false_xor, Bool.true_xor]
  simp only [likeD, hk, ho] at leaf
  by_cases e1 : hk' = ho'
  · subst e1
    simp only [beq_self_eq_true, Bool.true_and, Bool.not_true, Bool.false_eq_true, if_false] at leaf ⊢
    refine ⟨trivial, _, rfl, fk, x_len.2 ⟨trivial, _, rfl, fo, x_len.2 (x_eqInt.2 ?_)⟩⟩
    simp only [x_some, x_some1, x_bl, x_ix, x_len, x_eqStr, x_eqInt, x_eqBl, x_in, x_b2, x_i2, x_mul, x_addI, x_addT, x_int, x_abs, x_neg, at_0, at_1, at_2, at_3, at_m1, Bool.false_xor, Bool.true_xor, len_eq]
    cases e2 : (innerD (.tup (.str hk' :: rk))).length == (innerD (.tup (.str hk' :: ro))).length with
    | false =>
      simp only [Bool.not_false, if_true]
      exact leaf _ (by rw [e2]; rfl)
    | true =>
      simp only [Bool.not_true, Bool.false_eq_true, if_false]
      simp only [e2, Bool.true_and] at leaf
      by_cases e3 : hk' = "data"
      · simp only [e3, beq_self_eq_true, Bool.not_true, Bool.false_eq_true, if_false, Bool.false_or] at leaf ⊢
        subst e3
        obtain ⟨i, ks, e4⟩ := frm_data fk hk
        obtain ⟨j, js, e5⟩ := frm_data fo ho
        cases e4; cases e5
        exact ⟨_, rfl, _, rfl, x_eqInt.2 (leaf _ (by simp [sameI]))⟩
      · simp only [beq_eq_false_iff_ne.mpr e3, Bool.not_false, if_true, Bool.true_or] at leaf ⊢
        exact leaf _ rfl
  · simp only [beq_eq_false_iff_ne.mpr e1, Bool.not_false, if_true] at leaf ⊢
    exact leaf _ rfl
end K01
end
section
set_option linter.all false
set_option maxRecDepth 100000
set_option maxHeartbeats 4000000
namespace K01
open PySem Bw
mutual
/-- texts, ints and tuples of such -/
def siD : D → Prop
  | .tup ds => siDs ds
  | .int _ => True
  | .str _ => True
  | _ => False
def siDs : List D → Prop
  | [] => True
  | d :: ds => siD d ∧ siDs ds
end
theorem siDs_iff : ∀ {ds : List D}, siDs ds ↔ ∀ d ∈ ds, siD d
  | [] => by simp [siDs]
  | d :: ds => by simp [siDs, siDs_iff (ds := ds)]
mutual
theorem si_pure : ∀ {d : D}, siD d → pureD d
  | .tup ds, h => by simp only [pureD]; exact sis_pure (by simpa only [siD] using h)
  | .int _, _ | .str _, _ => by simp only [pureD]
  | .non, h | .bl _, h | .loc _, h | .glo _, h | .ty _, h | .kl _, h => h.elim
theorem sis_pure : ∀ {ds : List D}, siDs ds → pureDs ds
  | [], _ => trivial
  | d :: ds, h => ⟨si_pure h.1, sis_pure h.2⟩
end
mutual
def ddp : D → Nat
  | .tup ds => 1 + ddps ds
  | _ => 0
def ddps : List D → Nat
  | [] => 0
  | d :: ds => max (ddp d) (ddps ds)
end
theorem ddps_mem {d : D} : ∀ {a : List D}, d ∈ a → ddp d ≤ ddps a
  | e :: a, h => by
    rcases List.mem_cons.mp h with rfl | h
    · simp only [ddps]; omega
    · have := ddps_mem h; simp only [ddps]; omega
theorem ddps_le {n : Nat} : ∀ {a : List D}, (∀ d ∈ a, ddp d ≤ n) → ddps a ≤ n
  | [], _ => by simp [ddps]
  | d :: a, h => by
    have := h d (by simp)
    have := ddps_le (a := a) fun e he => h e (by simp [he])
    simp only [ddps]; omega
mutual
theorem py_of : ∀ {d : D}, pureD d → ∃ p, d.py = some p ∧ p.depth = ddp d
  | .tup ds, h => by
    obtain ⟨ps, e, hd⟩ := pys_of (ds := ds) (by simpa only [pureD] using h)
    exact ⟨.tuple ps, by simp only [D.py, e]; rfl, by simp only [PyData.depth, hd, ddp]; omega⟩
  | .non, _ => ⟨.none, rfl, rfl⟩
  | .bl b, _ => ⟨.bool b, rfl, rfl⟩
  | .int i, _ => ⟨.int i, rfl, rfl⟩
  | .str x, _ => ⟨.str x, rfl, rfl⟩
  | .loc _, h | .glo _, h | .ty _, h | .kl _, h => h.elim
theorem pys_of : ∀ {ds : List D}, pureDs ds → ∃ ps, D.pys ds = some ps ∧ PyData.depthAll ps = ddps ds
  | [], _ => ⟨[], rfl, rfl⟩
  | d :: ds, h => by
    obtain ⟨p, e1, h1⟩ := py_of h.1
    obtain ⟨ps, e2, h2⟩ := pys_of h.2
    exact ⟨p :: ps, by simp only [D.pys, e1, e2], by simp only [PyData.depthAll, h1, h2, ddps]⟩
end
mutual
theorem eqv_si : ∀ {d e : D} {p q : PyData}, siD d → siD e → d.py = some p → e.py = some q → (PyData.eqv p q = true ↔ d = e)
  | .tup ds, .tup es, p, q, h1, h2, e1, e2 => by
    simp only [D.py] at e1 e2
    cases a : D.pys ds with
    | none => rw [a] at e1; cases e1
    | some ps =>
      cases b : D.pys es with
      | none => rw [b] at e2; cases e2
      | some qs =>
        rw [a] at e1; rw [b] at e2
        cases e1; cases e2
        have := eqvs_si (ds := ds) (es := es) (by simpa only [siD] using h1) (by simpa only [siD] using h2) a b
        simp only [PyData.eqv, this, D.tup.injEq]
  | .int i, .int j, p, q, h1, h2, e1, e2 => by cases e1; cases e2; simp [PyData.eqv]
  | .str i, .str j, p, q, h1, h2, e1, e2 => by cases e1; cases e2; simp [PyData.eqv]
  | .int i, .str j, p, q, h1, h2, e1, e2 => by cases e1; cases e2; simp [PyData.eqv]
  | .str i, .int j, p, q, h1, h2, e1, e2 => by cases e1; cases e2; simp [PyData.eqv]
  | .tup ds, .int j, p, q, h1, h2, e1, e2 => by
    cases e2
    simp only [D.py] at e1
    cases a : D.pys ds with
    | none => rw [a] at e1; cases e1
    | some ps => rw [a] at e1; cases e1; simp [PyData.eqv]
  | .tup ds, .str j, p, q, h1, h2, e1, e2 => by
    cases e2
    simp only [D.py] at e1
    cases a : D.pys ds with
    | none => rw [a] at e1; cases e1
    | some ps => rw [a] at e1; cases e1; simp [PyData.eqv]
  | .int j, .tup ds, p, q, h1, h2, e1, e2 => by
    cases e1
    simp only [D.py] at e2
    cases a : D.pys ds with
    | none => rw [a] at e2; cases e2
    | some ps => rw [a] at e2; cases e2; simp [PyData.eqv]
  | .str j, .tup ds, p, q, h1, h2, e1, e2 => by
    cases e1
    simp only [D.py] at e2
    cases a : D.pys ds with
    | none => rw [a] at e2; cases e2
    | some ps => rw [a] at e2; cases e2; simp [PyData.eqv]
  | .non, _, _, _, h, _, _, _ | .bl _, _, _, _, h, _, _, _ | .loc _, _, _, _, h, _, _, _ | .glo _, _, _, _, h, _, _, _ | .ty _, _, _, _, h, _, _, _ | .kl _, _, _, _, h, _, _, _ => h.elim
  | .tup _, .non, _, _, _, h, _, _ | .tup _, .bl _, _, _, _, h, _, _ | .tup _, .loc _, _, _, _, h, _, _ | .tup _, .glo _, _, _, _, h, _, _ | .tup _, .ty _, _, _, _, h, _, _ | .tup _, .kl _, _, _, _, h, _, _ => h.elim
  | .int _, .non, _, _, _, h, _, _ | .int _, .bl _, _, _, _, h, _, _ | .int _, .loc _, _, _, _, h, _, _ | .int _, .glo _, _, _, _, h, _, _ | .int _, .ty _, _, _, _, h, _, _ | .int _, .kl _, _, _, _, h, _, _ => h.elim
  | .str _, .non, _, _, _, h, _, _ | .str _, .bl _, _, _, _, h, _, _ | .str _, .loc _, _, _, _, h, _, _ | .str _, .glo _, _, _, _, h, _, _ | .str _, .ty _, _, _, _, h, _, _ | .str _, .kl _, _, _, _, h, _, _ => h.elim
theorem eqvs_si : ∀ {ds es : List D} {ps qs : List PyData}, siDs ds → siDs es → D.pys ds = some ps → D.pys es = some qs → (PyData.eqvAll ps qs = true ↔ ds = es)
  | [], [], _, _, _, _, e1, e2 => by cases e1; cases e2; simp [PyData.eqvAll]
  | [], e :: es, _, qs, _, _, e1, e2 => by
    cases e1
    simp only [D.pys] at e2
    cases a : D.py e with
    | none => rw [a] at e2; cases e2
    | some p => cases b : D.pys es with
      | none => rw [a, b] at e2; cases e2
      | some r => rw [a, b] at e2; cases e2; simp [PyData.eqvAll]
  | e :: es, [], qs, _, _, _, e2, e1 => by
    cases e1
    simp only [D.pys] at e2
    cases a : D.py e with
    | none => rw [a] at e2; cases e2
    | some p => cases b : D.pys es with
      | none => rw [a, b] at e2; cases e2
      | some r => rw [a, b] at e2; cases e2; simp [PyData.eqvAll]
  | d :: ds, e :: es, ps, qs, h1, h2, e1, e2 => by
    simp only [D.pys] at e1 e2
    cases a : D.py d with
    | none => rw [a] at e1; cases e1
    | some p => cases b : D.pys ds with
      | none => rw [a, b] at e1; cases e1
      | some r =>
        cases a' : D.py e with
        | none => rw [a'] at e2; cases e2
        | some p' => cases b' : D.pys es with
          | none => rw [a', b'] at e2; cases e2
          | some r' =>
            rw [a, b] at e1; rw [a', b'] at e2
            cases e1; cases e2
            simp only [PyData.eqvAll, Bool.and_eq_true, eqv_si h1.1 h2.1 a a', eqvs_si h1.2 h2.2 b b', List.cons.injEq]
end
noncomputable instance decD : DecidableEq D := fun a b => Classical.propDecidable (a = b)
/-- == of such data -/
theorem eqDP_si {d e : D} (h1 : siD d) (h2 : siD e) (hd : ddp d ≤ 60) : eqDP d e = some (decide (d = e)) := by
  obtain ⟨p, e1, g1⟩ := py_of (si_pure h1)
  obtain ⟨q, e2, g2⟩ := py_of (si_pure h2)
  unfold eqDP
  rw [e1, e2]
  simp only
  rw [if_pos (by omega)]
  congr 1
  rw [Bool.eq_iff_iff, eqv_si h1 h2 e1 e2, decide_eq_true_eq]
theorem x_eqsi {neg : Bool} {d e : D} {L : LH} {Q : Post} (h1 : siD d) (h2 : siD e) (hd : ddp d ≤ 60) (q : Q (.bl (neg ^^ decide (d = e))) L) : pEq neg d e L Q := by
  obtain ⟨p, e1, g1⟩ := py_of (si_pure h1)
  obtain ⟨r, e2, g2⟩ := py_of (si_pure h2)
  refine x_eqP e1 e2 (by omega) ?_
  have : PyData.eqv p r = decide (d = e) := by rw [Bool.eq_iff_iff, eqv_si h1 h2 e1 e2, decide_eq_true_eq]
  rw [this]; exact q
theorem frm_si {d : D} (f : Frm d) (h : ∀ x ∈ innerD d, siD x) : siD d := by
  cases f with
  | num => simp only [siD, siDs]; trivial
  | nil => simp only [siD, siDs]; trivial
  | row ks _ _ => rw [i_row] at h; simp only [siD, siDs]; exact ⟨trivial, siDs_iff.2 h, trivial⟩
  | data i ks _ => rw [i_data] at h; simp only [siD, siDs]; exact ⟨trivial, trivial, siDs_iff.2 h, trivial⟩
  | fn ks k _ _ => rw [i_fn] at h; simp only [siD, siDs]; exact ⟨trivial, siDs_iff.2 fun x hx => h x (by simp [hx]), h k (by simp), trivial⟩
  | letter i _ => simp only [siD, siDs]; trivial
  | box k => rw [i_box] at h; simp only [siD, siDs]; exact ⟨trivial, h k (by simp), trivial⟩
theorem kind_si : ∀ (n : Nat) (d : D), dsz d ≤ n → isKindD d = true → siD d
  | 0, d, h, _ => by have := dsz_pos d; omega
  | n + 1, d, h, k => frm_si (kind_inner k).1 fun x hx => kind_si n x (by have := innerD_sz d x hx; omega) ((kind_inner k).2 x hx)
theorem kindsi {d : D} (k : isKindD d = true) : siD d := kind_si _ d (Nat.le_refl _) k
theorem inner_ddp {d : D} (f : Frm d) : ∀ x ∈ innerD d, ddp x ≤ ddp d := fun x hx => by
  cases f with
  | num => simp [i_num] at hx
  | nil => simp [i_nil] at hx
  | row ks _ _ => rw [i_row] at hx; have := ddps_mem hx; simp only [ddp, ddps]; omega
  | data i ks _ => rw [i_data] at hx; have := ddps_mem hx; simp only [ddp, ddps]; omega
  | fn ks k _ _ =>
    rw [i_fn] at hx
    rcases List.mem_append.mp hx with h | h
    · have := ddps_mem h; simp only [ddp, ddps]; omega
    · rw [List.mem_singleton.mp h]; simp only [ddp, ddps]; omega
  | letter i _ => simp [i_letter] at hx
  | box k => rw [i_box] at hx; rw [List.mem_singleton.mp hx]; simp only [ddp, ddps]; omega
end K01
end
section
set_option linter.all false
set_option maxRecDepth 100000
set_option maxHeartbeats 4000000
namespace K01
open PySem Bw
abbrev PL := List (Int × D)
def ocat : List (Option PL) → Option PL
  | [] => some []
  | none :: _ => none
  | some a :: r => (ocat r).map (a ++ ·)
theorem ocat_cons {a : Option PL} {r : List (Option PL)} {ts : PL} : ocat (a :: r) = some ts ↔ ∃ t1 t2, a = some t1 ∧ ocat r = some t2 ∧ ts = t1 ++ t2 := by
  cases a with
  | none => simp [ocat]
  | some t1 =>
    cases h : ocat r with
    | none => simp [ocat, h]
    | some t2 =>
      simp only [ocat, h, Option.map_some, Option.some.injEq]
      constructor
      · rintro rfl; exact ⟨t1, t2, rfl, rfl, rfl⟩
      · rintro ⟨_, _, rfl, rfl, e⟩; exact e.symm
theorem ocat_app {ts : PL} : ∀ {a b : List (Option PL)}, ocat (a ++ b) = some ts ↔ ∃ t1 t2, ocat a = some t1 ∧ ocat b = some t2 ∧ ts = t1 ++ t2
  | [], b => by simp [ocat]
  | x :: a, b => by
    rw [List.cons_append, ocat_cons]
    constructor
    · rintro ⟨t1, t2, h1, h2, rfl⟩
      obtain ⟨t3, t4, h3, h4, rfl⟩ := ocat_app.1 h2
      exact ⟨t1 ++ t3, t4, ocat_cons.2 ⟨t1, t3, h1, h3, rfl⟩, h4, by simp⟩
    · rintro ⟨t1, t2, h1, h2, rfl⟩
      obtain ⟨t3, t4, h3, h4, rfl⟩ := ocat_cons.1 h1
      exact ⟨t3, t4 ++ t2, h3, ocat_app.2 ⟨t4, t2, h4, h2, rfl⟩, by simp⟩
theorem ocat_one {a : Option PL} {ts : PL} : ocat [a] = some ts ↔ a = some ts := by
  rw [ocat_cons]
  constructor
  · rintro ⟨t1, t2, rfl, h, rfl⟩; cases h; simp
  · rintro rfl; exact ⟨ts, [], rfl, rfl, by simp⟩
def pairsF : Nat → D → D → Option PL
  | 0, _, _ => none
  | n + 1, k, c => match ltrI k with
    | some i => some [(i, c)]
    | none => if likeD k c = true then ocat (((innerD k).zip (innerD c)).map fun (p : D × D) => pairsF n p.1 p.2) else none
def pairsP (k c : D) : Option PL := pairsF (dsz k) k c
theorem zip_mem1 {α β : Type} {a : α} {b : β} : ∀ {l : List α} {m : List β}, (a, b) ∈ l.zip m → a ∈ l ∧ b ∈ m
  | [], _, h => by simp at h
  | _ :: _, [], h => by simp at h
  | x :: l, y :: m, h => by
    rw [List.zip_cons_cons, List.mem_cons] at h
    rcases h with h | h
    · cases h; simp
    · obtain ⟨h1, h2⟩ := zip_mem1 h; exact ⟨by simp [h1], by simp [h2]⟩
theorem pairsF_st : ∀ (n : Nat) (k c : D), dsz k ≤ n → pairsF n k c = pairsF (n + 1) k c
  | 0, k, c, h => by have := dsz_pos k; omega
  | n + 1, k, c, h => by
    show (match ltrI k with | some i => some [(i, c)] | none => if likeD k c = true then ocat (((innerD k).zip (innerD c)).map fun (p : D × D) => pairsF n p.1 p.2) else none) = (match ltrI k with | some i => some [(i, c)] | none => if likeD k c = true then ocat (((innerD k).zip (innerD c)).map fun (p : D × D) => pairsF (n + 1) p.1 p.2) else none)
    rw [List.map_congr_left fun (p : D × D) hp => pairsF_st n p.1 p.2 (by have := innerD_sz k p.1 (zip_mem1 (a := p.1) (b := p.2) hp).1; omega)]
theorem pairsF_ge {k c : D} : ∀ {n : Nat}, dsz k ≤ n → pairsF n k c = pairsP k c
  | n, h => by
    induction n with
    | zero => have := dsz_pos k; omega
    | succ n ih =>
      by_cases e : dsz k ≤ n
      · rw [← pairsF_st n k c e]; exact ih e
      · have : dsz k = n + 1 := by omega
        rw [← this]; rfl
theorem pairs_let {i : Int} {c : D} : pairsP (.tup [.str "letter", .int i]) c = some [(i, c)] := by
  have : ltrI (.tup [.str "letter", .int i]) = some i := by simp [ltrI]
  obtain ⟨n, hn⟩ : ∃ n, dsz (.tup [.str "letter", .int i]) = n + 1 := ⟨2, rfl⟩
  unfold pairsP
  rw [hn]
  simp only [pairsF, this]
theorem pairs_other {k c : D} (h : isLet k = false) : pairsP k c = if likeD k c = true then ocat (((innerD k).zip (innerD c)).map fun (p : D × D) => pairsP p.1 p.2) else none := by
  have hp := dsz_pos k
  obtain ⟨n, hn⟩ : ∃ n, dsz k = n + 1 := ⟨dsz k - 1, by omega⟩
  have : pairsP k c = pairsF (n + 1) k c := by unfold pairsP; rw [hn]
  rw [this]
  show (match ltrI k with | some i => some [(i, c)] | none => if likeD k c = true then ocat (((innerD k).zip (innerD c)).map fun (p : D × D) => pairsF n p.1 p.2) else none) = _
  rw [ltr_none h]
  simp only
  rw [List.map_congr_left fun (p : D × D) hp => pairsF_ge (c := p.2) (by have := innerD_sz k p.1 (zip_mem1 (a := p.1) (b := p.2) hp).1; omega)]
def Fn (ps : PL) : Prop := ∀ i x y, (i, x) ∈ ps → (i, y) ∈ ps → x = y
theorem Fn.sub {a b : PL} (h : Fn b) (s : ∀ p ∈ a, p ∈ b) : Fn a := fun i x y h1 h2 => h i x y (s _ h1) (s _ h2)
structure IsMap (kvs : List (L2.Key × D)) (ps : PL) : Prop where
  val : ∀ i x, valD kvs (.inl i) = some x ↔ (i, x) ∈ ps
  nd : (kvs.map (·.1)).Nodup
  inl : ∀ p ∈ kvs, ∃ i, p.1 = .inl i
theorem IsMap.fn {kvs : List (L2.Key × D)} {ps : PL} (h : IsMap kvs ps) : Fn ps := fun i x y h1 h2 => by
  have a := (h.val i x).2 h1
  have b := (h.val i y).2 h2
  rw [a] at b; cases b; rfl
theorem IsMap.congr {kvs : List (L2.Key × D)} {ps qs : PL} (h : IsMap kvs ps) (e : ∀ p, p ∈ ps ↔ p ∈ qs) : IsMap kvs qs := ⟨fun i x => (h.val i x).trans (e _), h.nd, h.inl⟩
theorem isMap_nil : IsMap [] [] := ⟨fun i x => by simp [valD], by simp, by simp⟩
theorem valD_none {kvs : List (L2.Key × D)} {k : L2.Key} : valD kvs k = none ↔ ∀ p ∈ kvs, p.1 ≠ k := by
  simp only [valD, Option.map_eq_none_iff, List.find?_eq_none, decide_eq_true_eq]
theorem putD_new {kvs : List (L2.Key × D)} {k : L2.Key} {v : D} (h : valD kvs k = none) : Bw.putD kvs k v = kvs ++ [(k, v)] := by
  unfold Bw.putD
  rw [if_neg]
  rw [valD_none] at h
  simp only [List.any_eq_true, decide_eq_true_eq, not_exists, not_and]
  exact fun p hp => h p hp
theorem IsMap.put {kvs : List (L2.Key × D)} {ps : PL} {i : Int} {v : D} (h : IsMap kvs ps) (hn : valD kvs (.inl i) = none) : IsMap (Bw.putD kvs (.inl i) v) (ps ++ [(i, v)]) := by
  rw [putD_new hn]
  have hn' := valD_none.1 hn
  refine ⟨fun j x => ?_, ?_, fun p hp => ?_⟩
  · rw [List.mem_append, List.mem_singleton, ← h.val j x]
    have e : valD (kvs ++ [(.inl i, v)]) (.inl j) = (valD kvs (.inl j)).or (if i = j then some v else none) := by
      unfold valD
      rw [List.find?_append]
      cases hf : kvs.find? (fun kv => decide (kv.1 = Sum.inl j)) with
      | some p => simp
      | none =>
        by_cases e : i = j
        · subst e; simp [List.find?_cons]
        · have : ¬ (Sum.inl i : L2.Key) = Sum.inl j := fun z => e (Sum.inl.inj z)
          simp [List.find?_cons, this, e]
    rw [e]
    by_cases e : i = j
    · subst e
      rw [hn]
      simp
      exact ⟨fun h => h.symm, fun h => h.symm⟩
    · rw [if_neg e, Option.or_none]
      constructor
      · exact .inl
      · rintro (h | h)
        · exact h
        · cases h; exact absurd rfl e
  · rw [List.map_append, List.nodup_append]
    refine ⟨h.nd, by simp, fun a ha b hb => ?_⟩
    obtain ⟨p, hp, rfl⟩ := List.mem_map.mp ha
    simp at hb; subst hb
    exact hn' p hp
  · rcases List.mem_append.mp hp with hp | hp
    · exact h.inl p hp
    · rw [List.mem_singleton.mp hp]; exact ⟨i, rfl⟩
theorem IsMap.same {kvs : List (L2.Key × D)} {ps : PL} {i : Int} {v : D} (h : IsMap kvs ps) (hn : valD kvs (.inl i) = some v) : IsMap kvs (ps ++ [(i, v)]) :=
  h.congr fun p => by
    rw [List.mem_append, List.mem_singleton]
    exact ⟨.inl, fun z => z.elim id fun e => by subst e; exact (h.val i v).1 hn⟩
/-- what stands in the dict -/
def Good (ps : PL) : Prop := ∀ p ∈ ps, siD p.2 ∧ ddp p.2 ≤ 60
theorem Good.app {a b : PL} (h1 : Good a) (h2 : Good b) : Good (a ++ b) := fun p hp => (List.mem_append.mp hp).elim (h1 p) (h2 p)
theorem like_len {k c : D} (h : likeD k c = true) : (innerD k).length = (innerD c).length := by
  simp only [likeD, Bool.and_eq_true] at h
  exact eq_of_beq h.1.2
theorem pairs_good : ∀ (n : Nat) (k c : D), dsz k ≤ n → Frm k → isKindD c = true → (∀ x ∈ innerD k, isKindD x = true) → ddp c ≤ 60 → ∀ ts, pairsP k c = some ts → Good ts
  | 0, k, c, h => by have := dsz_pos k; omega
  | n + 1, k, c, h => fun f kc ki hd ts e => by
    rcases let_cases f with ⟨i, rfl, h0⟩ | hl
    · rw [pairs_let] at e; cases e
      intro p hp
      rw [List.mem_singleton.mp hp]
      exact ⟨kindsi kc, hd⟩
    · rw [pairs_other hl] at e
      split at e
      · have key : ∀ (l : List (D × D)), (∀ p ∈ l, p ∈ (innerD k).zip (innerD c)) → ∀ ts, ocat (l.map fun (p : D × D) => pairsP p.1 p.2) = some ts → Good ts := fun l => by
          induction l with
          | nil => intro _ ts e; cases e; intro p hp; simp at hp
          | cons p l ih =>
            intro hl ts e
            obtain ⟨t1, t2, e1, e2, rfl⟩ := ocat_cons.1 e
            obtain ⟨m1, m2⟩ := zip_mem1 (a := p.1) (b := p.2) (hl p (by simp))
            obtain ⟨fc, kci⟩ := kind_inner kc
            obtain ⟨f1, k1⟩ := kind_inner (ki p.1 m1)
            exact Good.app (pairs_good n p.1 p.2 (by have := innerD_sz k p.1 m1; omega) f1 (kci p.2 m2) k1 (by have := inner_ddp fc p.2 m2; omega) t1 e1) (ih (fun q hq => hl q (by simp [hq])) t2 e2)
        exact key _ (fun p hp => hp) ts e
      · cases e
end K01
end
section
set_option linter.all false
set_option maxRecDepth 100000
set_option maxHeartbeats 4000000
namespace K01
open PySem Bw
def S_matched : DSp := fun ds L Q _ => ∃ k c, ds = [k, c] ∧ isKindD k = true ∧ isKindD c = true ∧ dsz k ≤ 500000 ∧ dsz c ≤ 500000 ∧ ddp c ≤ 60 ∧ letL (nodesD c) = [] ∧
  (∀ ps kvs, pairsP k c = some ps → IsMap kvs ps → Q (.loc L.length) (L ++ [.dk kvs])) ∧ ((∀ ps, pairsP k c = some ps → ¬ Fn ps) → Q .non L)
def gam_mat : Nat → DSp
  | 0 => S_like
  | 1 => S_inner_of
  | 2 => S_is_closed
  | 3 => S_is_kind
  | _ => S_check
def prs (l : List (D × D)) : List (Option PL) := l.map fun (p : D × D) => pairsP p.1 p.2
def psz (l : List (D × D)) : Nat := (l.map fun p => dsz p.1).sum
def prT (l : List (D × D)) : List D := l.map fun p => .tup [p.1, p.2]
theorem psz_app {a b : List (D × D)} : psz (a ++ b) = psz a + psz b := by simp [psz]
theorem psz_zip : ∀ {a b : List D}, psz (a.zip b) ≤ dszs a
  | [], _ => by simp [psz]
  | _ :: _, [] => by simp [psz]
  | x :: a, y :: b => by have := psz_zip (a := a) (b := b); simp [psz, dszs] at this ⊢; omega
theorem psz_len : ∀ {a : List (D × D)}, a.length ≤ psz a
  | [] => by simp
  | p :: a => by have := dsz_pos p.1; have := psz_len (a := a); simp [psz] at this ⊢; omega
theorem zipD_prT : ∀ {a b : List D}, zipD a b = prT (a.zip b)
  | [], _ => by simp [zipD, prT]
  | _ :: _, [] => by simp [zipD, prT]
  | x :: a, y :: b => by simp [zipD, prT, zipD_prT (a := a) (b := b)]
theorem split_last' {α : Type} {ws : List α} (h : ws ≠ []) : ∃ vs y, ws = vs ++ [y] := ⟨ws.dropLast, ws.getLast h, (List.dropLast_concat_getLast h).symm⟩
theorem valD_mem {i : Int} {p : L2.Key × D} : ∀ {kvs : List (L2.Key × D)}, (kvs.map (·.1)).Nodup → p ∈ kvs → p.1 = .inl i → valD kvs (.inl i) = some p.2
  | [], _, hp, _ => by simp at hp
  | r :: kvs, nd, hp, hi => by
    rw [List.map_cons, List.nodup_cons] at nd
    rcases List.mem_cons.mp hp with rfl | hp
    · simp [valD, List.find?_cons, hi]
    · have hne : ¬ r.1 = Sum.inl i := fun z => nd.1 (List.mem_map.mpr ⟨p, hp, by rw [hi, z]⟩)
      have := valD_mem nd.2 hp hi
      simpa [valD, List.find?_cons, hne] using this
theorem mem_rot {x : Int × D} {a b c : PL} : x ∈ a ++ (b ++ c) ↔ x ∈ (a ++ c) ++ b := by
  simp only [List.mem_append, or_assoc, or_comm, or_left_comm]
theorem w_matched {ds : List D} {L : LH} {Q : Post} {E : XP} (c1 : clL L.length L) (c2 : clDs L.length ds) (h : S_matched ds L Q E) : wSs gam_mat m_matched (endsOf L.length Q) (start0 n_matched ds) L := by
  obtain ⟨k, c, rfl, kk, kc, zk, zc, hd, hlc, q1, q2⟩ := h
  have lc : letsD c = [] := by unfold letsD; rw [hlc]; rfl
  simp only [m_matched, n_matched, wSs, wS, wSeq, wSkip, wRet, wRetN, wIf, wSet, wExp, wBrk, wCnt, wNever, wAsg, wPar, wSub, Bw.wE, wA, wB, wO, wCd, wLX, wIX, wAnd, wOr, Bw.wNot, wIte, asT, w1, w2, w1, wVar, wC, wTup, wLst, wMth, wMthl, wListOf, wL, wNew, wACons, wANil, wCall, wSlc, wNo, wSo, wChn, wBopN, CO.sem, BO.sem, F1.sem, FL.sem, OM.sem, gT, gSlot, start0, List.map_cons, List.map_nil, List.length_cons, List.length_nil, List.replicate_succ, List.replicate_zero, List.cons_append, List.nil_append, List.append_nil, List.getElem?_cons_zero, List.getElem?_cons_succ, List.set_cons_zero, List.set_cons_succ, Nat.sub_self, Nat.sub_zero, Nat.add_sub_cancel, Nat.reduceAdd, Nat.reduceSub, if_true, if_false, Bool.false_eq_true, Nat.zero_add, x_some, x_some1, x_bl, x_ix, x_len, x_eqStr, x_eqInt, x_eqBl, x_in, x_b2, x_i2, x_mul, x_addI, x_addT, x_int, x_abs, x_neg, at_0, at_1, at_2, at_3, at_m1, Bool.false_xor, Bool.true_xor, wDNew]
  refine ⟨trivial, k, rfl, kk, pure_ty (si_pure (kindsi kk)), by omega, trivial, c, rfl, pure_ty (si_pure (kindsi kc)), by omega, _, rfl, ?_⟩
  rw [kc]
  simp only [Bool.not_true, Bool.false_eq_true, if_false]
  refine ⟨trivial, c, rfl, kc, pure_cl (si_pure (kindsi kc)), by omega, by rw [hlc]; decide, by rw [lc]; decide, _, rfl, ?_⟩
  rw [lc]
  simp only [start0, List.map_cons, List.map_nil, List.length_cons, List.length_nil, List.replicate_succ, List.replicate_zero, List.cons_append, List.nil_append, List.append_nil, List.getElem?_cons_zero, List.getElem?_cons_succ, List.set_cons_zero, List.set_cons_succ, Nat.sub_self, Nat.sub_zero, Nat.add_sub_cancel, Nat.reduceAdd, Nat.reduceSub, if_true, if_false, Bool.false_eq_true, Nat.zero_add, beq_self_eq_true, Bool.not_true]
  refine ⟨sz_small (by omega), sz_small (by omega), ?_⟩
  simp only [List.length_append, List.length_cons, List.length_nil, Nat.zero_add, List.append_assoc, List.cons_append, List.nil_append]
  unfold wWhile
  refine ⟨fun m ρ L' => ∃ kvs wp ps0 h1 h2, ρ = [some k, some c, some (.loc L.length), some (.loc (L.length + 1)), h1, h2] ∧ L' = L ++ [.dk kvs, .lst (prT wp)] ∧ (∀ p ∈ wp, isKindD p.1 = true ∧ isKindD p.2 = true ∧ ddp p.2 ≤ 60) ∧ IsMap kvs ps0 ∧ Good ps0 ∧
    kvs.length + m ≤ 500000 ∧ psz wp = m ∧ (ocat (prs wp) = none → pairsP k c = none) ∧ (∀ ts, ocat (prs wp) = some ts → ∃ ps, pairsP k c = some ps ∧ ∀ x, x ∈ ps ↔ x ∈ ps0 ++ ts),
    ⟨_, [], [(k, c)], [], none, none, rfl, rfl, by simpa using ⟨kk, kc, hd⟩, isMap_nil, by intro p hp; simp at hp, by simp [psz]; omega, rfl, ?_, ?_⟩, ?_⟩
  · intro e
    cases e2 : pairsP k c with
    | none => rfl
    | some ts => simp [prs, ocat, e2] at e
  · intro ts e
    have : pairsP k c = some ts := ocat_one.1 e
    exact ⟨ts, this, fun x => by simp⟩
  rintro m ρ L' ⟨kvs, wp, ps0, h1, h2, rfl, rfl, hw, im, gd, hz, hm, hn, hs⟩
  simp only [wSs, wS, wSeq, wSkip, wRet, wRetN, wIf, wSet, wExp, wBrk, wCnt, wNever, wAsg, wPar, wSub, Bw.wE, wA, wB, wO, wCd, wLX, wIX, wAnd, wOr, Bw.wNot, wIte, asT, w1, w2, w1, wVar, wC, wTup, wLst, wMth, wMthl, wListOf, wL, wNew, wACons, wANil, wCall, wSlc, wNo, wSo, wChn, wBopN, CO.sem, BO.sem, F1.sem, FL.sem, OM.sem, gT, gSlot, start0, List.map_cons, List.map_nil, List.length_cons, List.length_nil, List.replicate_succ, List.replicate_zero, List.cons_append, List.nil_append, List.append_nil, List.getElem?_cons_zero, List.getElem?_cons_succ, List.set_cons_zero, List.set_cons_succ, Nat.sub_self, Nat.sub_zero, Nat.add_sub_cancel, Nat.reduceAdd, Nat.reduceSub, if_true, if_false, Bool.false_eq_true, Nat.zero_add, x_some, x_some1, x_bl, x_ix, x_len, x_eqStr, x_eqInt, x_eqBl, x_in, x_b2, x_i2, x_mul, x_addI, x_addT, x_int, x_abs, x_neg, at_0, at_1, at_2, at_3, at_m1, Bool.false_xor, Bool.true_xor, x_lenL cell_last2]
  by_cases hwe : wp = []
  · subst hwe
    rw [if_neg (by simp [prT])]
    obtain ⟨ps, e1, e2⟩ := hs [] rfl
    have e2' : ∀ p, p ∈ ps0 ↔ p ∈ ps := fun p => by rw [e2]; simp
    refine ⟨L ++ [.dk kvs], [.lst (prT [])], by simp, by simp, ?_, by unfold clD; simp, q1 ps kvs e1 (im.congr e2')⟩
    rw [show (L ++ [Cell.dk kvs]).length = L.length + 1 by simp]
    intro x hx
    rcases List.mem_append.mp hx with hx | hx
    · exact clC_mono (by omega) (c1 x hx)
    · rw [List.mem_singleton.mp hx]
      refine clDs_iff.2 fun v hv => ?_
      obtain ⟨p, hp, rfl⟩ := List.mem_map.mp hv
      obtain ⟨i, hi⟩ := im.inl p hp
      have : valD kvs (.inl i) = some p.2 := valD_mem im.nd hp hi
      exact pure_cl (si_pure (gd (i, p.2) ((im.val i p.2).1 this)).1)
  · obtain ⟨vs, ⟨y1, y2⟩, rfl⟩ := split_last' hwe
    rw [if_pos (by simp [prT])]
    have hsz : psz (vs ++ [(y1, y2)]) = psz vs + dsz y1 := by rw [psz_app]; simp [psz]
    obtain ⟨ky1, ky2, dy2⟩ := hw (y1, y2) (by simp)
    have hv : ∀ p ∈ vs, isKindD p.1 = true ∧ isKindD p.2 = true ∧ ddp p.2 ≤ 60 := fun p hp => hw p (by simp [hp])
    obtain ⟨f1, ki1⟩ := kind_inner ky1
    obtain ⟨f2, ki2⟩ := kind_inner ky2
    have hp1 := dsz_pos y1
    refine ⟨fun ρ' L' => ∃ m' < m, ∃ kvs wp ps0 h1 h2, ρ' = [some k, some c, some (.loc L.length), some (.loc (L.length + 1)), h1, h2] ∧ L' = L ++ [.dk kvs, .lst (prT wp)] ∧ (∀ p ∈ wp, isKindD p.1 = true ∧ isKindD p.2 = true ∧ ddp p.2 ≤ 60) ∧ IsMap kvs ps0 ∧ Good ps0 ∧
      kvs.length + m' ≤ 500000 ∧ psz wp = m' ∧ (ocat (prs wp) = none → pairsP k c = none) ∧ (∀ ts, ocat (prs wp) = some ts → ∃ ps, pairsP k c = some ps ∧ ∀ x, x ∈ ps ↔ x ∈ ps0 ++ ts), fun ρ' L' ⟨m', h, r⟩ => ⟨m', h, r⟩, ?_⟩
    have epr : prT (vs ++ [(y1, y2)]) = prT vs ++ [.tup [y1, y2]] := by simp [prT]
    rw [epr]
    have eps : prs (vs ++ [(y1, y2)]) = prs vs ++ [pairsP y1 y2] := by simp [prs]
    rw [eps] at hn hs
    simp only [wSs, wS, wSeq, wSkip, wRet, wRetN, wIf, wSet, wExp, wBrk, wCnt, wNever, wAsg, wPar, wSub, Bw.wE, wA, wB, wO, wCd, wLX, wIX, wAnd, wOr, Bw.wNot, wIte, asT, w1, w2, w1, wVar, wC, wTup, wLst, wMth, wMthl, wListOf, wL, wNew, wACons, wANil, wCall, wSlc, wNo, wSo, wChn, wBopN, CO.sem, BO.sem, F1.sem, FL.sem, OM.sem, gT, gSlot, start0, List.map_cons, List.map_nil, List.length_cons, List.length_nil, List.replicate_succ, List.replicate_zero, List.cons_append, List.nil_append, List.append_nil, List.getElem?_cons_zero, List.getElem?_cons_succ, List.set_cons_zero, List.set_cons_succ, Nat.sub_self, Nat.sub_zero, Nat.add_sub_cancel, Nat.reduceAdd, Nat.reduceSub, if_true, if_false, Bool.false_eq_true, Nat.zero_add, x_some, x_some1, x_bl, x_ix, x_len, x_eqStr, x_eqInt, x_eqBl, x_in, x_b2, x_i2, x_mul, x_addI, x_addT, x_int, x_abs, x_neg, at_0, at_1, at_2, at_3, at_m1, Bool.false_xor, Bool.true_xor]
    refine ⟨⟨_, _, rfl, cell_last2⟩, x_pop cell_last2 ⟨[y1, y2], rfl, rfl, ?_⟩⟩
    simp only [setAll, wSs, wS, wSeq, wSkip, wRet, wRetN, wIf, wSet, wExp, wBrk, wCnt, wNever, wAsg, wPar, wSub, Bw.wE, wA, wB, wO, wCd, wLX, wIX, wAnd, wOr, Bw.wNot, wIte, asT, w1, w2, w1, wVar, wC, wTup, wLst, wMth, wMthl, wListOf, wL, wNew, wACons, wANil, wCall, wSlc, wNo, wSo, wChn, wBopN, CO.sem, BO.sem, F1.sem, FL.sem, OM.sem, gT, gSlot, start0, List.map_cons, List.map_nil, List.length_cons, List.length_nil, List.replicate_succ, List.replicate_zero, List.cons_append, List.nil_append, List.append_nil, List.getElem?_cons_zero, List.getElem?_cons_succ, List.set_cons_zero, List.set_cons_succ, Nat.sub_self, Nat.sub_zero, Nat.add_sub_cancel, Nat.reduceAdd, Nat.reduceSub, if_true, if_false, Bool.false_eq_true, Nat.zero_add, x_some, x_some1, x_bl, x_ix, x_len, x_eqStr, x_eqInt, x_eqBl, x_in, x_b2, x_i2, x_mul, x_addI, x_addT, x_int, x_abs, x_neg, at_0, at_1, at_2, at_3, at_m1, Bool.false_xor, Bool.true_xor, set_last2]
    obtain ⟨s, r, rfl, hs1⟩ := head_let f1
    simp only [wSs, wS, wSeq, wSkip, wRet, wRetN, wIf, wSet, wExp, wBrk, wCnt, wNever, wAsg, wPar, wSub, Bw.wE, wA, wB, wO, wCd, wLX, wIX, wAnd, wOr, Bw.wNot, wIte, asT, w1, w2, w1, wVar, wC, wTup, wLst, wMth, wMthl, wListOf, wL, wNew, wACons, wANil, wCall, wSlc, wNo, wSo, wChn, wBopN, CO.sem, BO.sem, F1.sem, FL.sem, OM.sem, gT, gSlot, start0, List.map_cons, List.map_nil, List.length_cons, List.length_nil, List.replicate_succ, List.replicate_zero, List.cons_append, List.nil_append, List.append_nil, List.getElem?_cons_zero, List.getElem?_cons_succ, List.set_cons_zero, List.set_cons_succ, Nat.sub_self, Nat.sub_zero, Nat.add_sub_cancel, Nat.reduceAdd, Nat.reduceSub, if_true, if_false, Bool.false_eq_true, Nat.zero_add, x_some, x_some1, x_bl, x_ix, x_len, x_eqStr, x_eqInt, x_eqBl, x_in, x_b2, x_i2, x_mul, x_addI, x_addT, x_int, x_abs, x_neg, at_0, at_1, at_2, at_3, at_m1, Bool.false_xor, Bool.true_xor]
    rw [← hs1]
    have nonout : (∀ ps, pairsP k c = some ps → ¬ Fn ps) → ∀ G, (endsOf L.length Q).rt .non (L ++ G) := fun hb G => is_retG c1 (by unfold clD; trivial) (q2 hb)
    rcases let_cases f1 with ⟨i, e, h0⟩ | e
    · injection e with e; injection e with e1 e2; cases e1; subst e2
      rw [if_pos (by simp [isLet])]
      rw [pairs_let] at hn hs
      have nx : ∀ kvs', IsMap kvs' (ps0 ++ [(i, y2)]) → kvs'.length ≤ kvs.length + 1 → ∃ m' < m, ∃ kvs wp ps0 h1 h2, ([some k, some c, some (.loc L.length), some (.loc (L.length + 1)), some (.tup [.str "letter", .int i]), some y2] : Rho) = [some k, some c, some (.loc L.length), some (.loc (L.length + 1)), h1, h2] ∧ L ++ [.dk kvs', .lst (prT vs)] = L ++ [.dk kvs, .lst (prT wp)] ∧ (∀ p ∈ wp, isKindD p.1 = true ∧ isKindD p.2 = true ∧ ddp p.2 ≤ 60) ∧ IsMap kvs ps0 ∧ Good ps0 ∧
          kvs.length + m' ≤ 500000 ∧ psz wp = m' ∧ (ocat (prs wp) = none → pairsP k c = none) ∧ (∀ ts, ocat (prs wp) = some ts → ∃ ps, pairsP k c = some ps ∧ ∀ x, x ∈ ps ↔ x ∈ ps0 ++ ts) := fun kvs' im' hl' => by
        refine ⟨psz vs, by omega, kvs', vs, ps0 ++ [(i, y2)], _, _, rfl, rfl, hv, im', Good.app gd (fun p hp => by rw [List.mem_singleton.mp hp]; exact ⟨kindsi ky2, dy2⟩), by omega, rfl, ?_, ?_⟩
        · intro z
          refine hn ?_
          cases e3 : ocat (prs vs ++ [some [(i, y2)]]) with
          | none => rfl
          | some ts =>
            obtain ⟨t1, _, e4, _⟩ := ocat_app.1 e3
            rw [z] at e4; cases e4
        · intro ts e3
          obtain ⟨ps, e4, e5⟩ := hs (ts ++ [(i, y2)]) (ocat_app.2 ⟨ts, _, e3, ocat_one.2 rfl, rfl⟩)
          exact ⟨ps, e4, fun x => by rw [e5, mem_rot]⟩
      cases hv2 : valD kvs (.inl i) with
      | none =>
        have im2 := im.put (v := y2) hv2
        simp only [wDsd, wSs, wS, wSeq, wSkip, wRet, wRetN, wIf, wSet, wExp, wBrk, wCnt, wNever, wAsg, wPar, wSub, Bw.wE, wA, wB, wO, wCd, wLX, wIX, wAnd, wOr, Bw.wNot, wIte, asT, w1, w2, w1, wVar, wC, wTup, wLst, wMth, wMthl, wListOf, wL, wNew, wACons, wANil, wCall, wSlc, wNo, wSo, wChn, wBopN, CO.sem, BO.sem, F1.sem, FL.sem, OM.sem, gT, gSlot, start0, List.map_cons, List.map_nil, List.length_cons, List.length_nil, List.replicate_succ, List.replicate_zero, List.cons_append, List.nil_append, List.append_nil, List.getElem?_cons_zero, List.getElem?_cons_succ, List.set_cons_zero, List.set_cons_succ, Nat.sub_self, Nat.sub_zero, Nat.add_sub_cancel, Nat.reduceAdd, Nat.reduceSub, if_true, if_false, Bool.false_eq_true, Nat.zero_add, x_some, x_some1, x_bl, x_ix, x_len, x_eqStr, x_eqInt, x_eqBl, x_in, x_b2, x_i2, x_mul, x_addI, x_addT, x_int, x_abs, x_neg, at_0, at_1, at_2, at_3, at_m1, Bool.false_xor, Bool.true_xor]
        refine ⟨by simp [dkOf], L.length, kvs, .inl i, rfl, cell_last1, rfl, by rw [size_line]; omega, fun y e => (by rw [hv2] at e; cases e), fun _ => ?_⟩
        rw [set_last1]
        refine x_eqsi (kindsi ky2) (kindsi ky2) (by omega) ⟨_, rfl, ?_⟩
        rw [show (true ^^ decide (y2 = y2)) = false by simp]
        simp only [Bool.false_eq_true, if_false]
        refine nx _ im2 ?_
        rw [putD_new hv2]; simp
      | some x =>
        obtain ⟨sx, dx⟩ := gd (i, x) ((im.val i x).1 hv2)
        simp only [wDsd, wSs, wS, wSeq, wSkip, wRet, wRetN, wIf, wSet, wExp, wBrk, wCnt, wNever, wAsg, wPar, wSub, Bw.wE, wA, wB, wO, wCd, wLX, wIX, wAnd, wOr, Bw.wNot, wIte, asT, w1, w2, w1, wVar, wC, wTup, wLst, wMth, wMthl, wListOf, wL, wNew, wACons, wANil, wCall, wSlc, wNo, wSo, wChn, wBopN, CO.sem, BO.sem, F1.sem, FL.sem, OM.sem, gT, gSlot, start0, List.map_cons, List.map_nil, List.length_cons, List.length_nil, List.replicate_succ, List.replicate_zero, List.cons_append, List.nil_append, List.append_nil, List.getElem?_cons_zero, List.getElem?_cons_succ, List.set_cons_zero, List.set_cons_succ, Nat.sub_self, Nat.sub_zero, Nat.add_sub_cancel, Nat.reduceAdd, Nat.reduceSub, if_true, if_false, Bool.false_eq_true, Nat.zero_add, x_some, x_some1, x_bl, x_ix, x_len, x_eqStr, x_eqInt, x_eqBl, x_in, x_b2, x_i2, x_mul, x_addI, x_addT, x_int, x_abs, x_neg, at_0, at_1, at_2, at_3, at_m1, Bool.false_xor, Bool.true_xor]
        refine ⟨by simp [dkOf], L.length, kvs, .inl i, rfl, cell_last1, rfl, by rw [size_line]; omega, fun y e => ?_, fun e => (by rw [hv2] at e; cases e)⟩
        rw [hv2] at e; cases e
        refine x_eqsi sx (kindsi ky2) dx ⟨_, rfl, ?_⟩
        by_cases hxy : x = y2
        · rw [show (true ^^ decide (x = y2)) = false by simp [hxy]]
          simp only [Bool.false_eq_true, if_false]
          exact nx _ (im.same (hxy ▸ hv2)) (by omega)
        · rw [show (true ^^ decide (x = y2)) = true by simp [hxy]]
          simp only [if_true]
          refine nonout (fun ps e fn => ?_) _
          cases e3 : ocat (prs vs ++ [some [(i, y2)]]) with
          | none => rw [hn e3] at e; cases e
          | some ts =>
            obtain ⟨ps', e4, e5⟩ := hs ts e3
            rw [e] at e4; cases e4
            obtain ⟨t1, t2, e6, e7, rfl⟩ := ocat_app.1 e3
            have e7 := ocat_one.1 e7
            cases e7
            exact hxy (fn i x y2 ((e5 _).2 (by simp [(im.val i x).1 hv2])) ((e5 _).2 (by simp)))
    · rw [if_neg (by simp [e])]
      refine ⟨trivial, _, y2, rfl, f1, f2, _, rfl, ?_⟩
      rw [pairs_other e] at hn hs
      cases hl : likeD (.tup (.str s :: r)) y2 with
      | false =>
        rw [hl] at hn hs
        simp only [Bool.not_false, if_true]
        refine nonout (fun ps e3 _ => ?_) _
        rw [hn] at e3
        · cases e3
        · cases e4 : ocat (prs vs ++ [if false = true then ocat (((innerD (.tup (.str s :: r))).zip (innerD y2)).map fun (p : D × D) => pairsP p.1 p.2) else none]) with
          | none => rfl
          | some ts =>
            obtain ⟨t1, t2, _, e5, _⟩ := ocat_app.1 e4
            have := ocat_one.1 e5
            simp at this
      | true =>
        rw [hl, if_pos rfl] at hn hs
        simp only [Bool.not_true, Bool.false_eq_true, if_false]
        have hll := like_len hl
        have hsi : dszs (innerD (.tup (.str s :: r))) + 1 ≤ dsz (.tup (.str s :: r)) := inner_sz f1
        have hzz := psz_zip (a := innerD (.tup (.str s :: r))) (b := innerD y2)
        have hvl := psz_len (a := vs)
        have hzl := psz_len (a := (innerD (.tup (.str s :: r))).zip (innerD y2))
        refine ⟨⟨_, _, rfl, cell_last2⟩, ?_⟩
        simp only [wZipL, wSs, wS, wSeq, wSkip, wRet, wRetN, wIf, wSet, wExp, wBrk, wCnt, wNever, wAsg, wPar, wSub, Bw.wE, wA, wB, wO, wCd, wLX, wIX, wAnd, wOr, Bw.wNot, wIte, asT, w1, w2, w1, wVar, wC, wTup, wLst, wMth, wMthl, wListOf, wL, wNew, wACons, wANil, wCall, wSlc, wNo, wSo, wChn, wBopN, CO.sem, BO.sem, F1.sem, FL.sem, OM.sem, gT, gSlot, start0, List.map_cons, List.map_nil, List.length_cons, List.length_nil, List.replicate_succ, List.replicate_zero, List.cons_append, List.nil_append, List.append_nil, List.getElem?_cons_zero, List.getElem?_cons_succ, List.set_cons_zero, List.set_cons_succ, Nat.sub_self, Nat.sub_zero, Nat.add_sub_cancel, Nat.reduceAdd, Nat.reduceSub, if_true, if_false, Bool.false_eq_true, Nat.zero_add, x_some, x_some1, x_bl, x_ix, x_len, x_eqStr, x_eqInt, x_eqBl, x_in, x_b2, x_i2, x_mul, x_addI, x_addT, x_int, x_abs, x_neg, at_0, at_1, at_2, at_3, at_m1, Bool.false_xor, Bool.true_xor]
        refine ⟨trivial, _, rfl, f1, trivial, _, rfl, f2, _, _, rfl, rfl, x_extl cell_last2 ?_ ?_⟩
        · rw [zipD_prT, size_line]; simp only [prT, List.length_map]; omega
        rw [set_last2, zipD_prT]
        refine ⟨psz (vs ++ (innerD (.tup (.str s :: r))).zip (innerD y2)), by rw [psz_app]; omega, kvs, vs ++ (innerD (.tup (.str s :: r))).zip (innerD y2), ps0, _, _, rfl, by simp [prT], fun p hp => ?_, im, gd, by rw [psz_app]; omega, rfl, fun z => hn ?_, fun ts e3 => hs ts ?_⟩
        · rcases List.mem_append.mp hp with hp | hp
          · exact hv p hp
          · obtain ⟨m1, m2⟩ := zip_mem1 (a := p.1) (b := p.2) hp
            exact ⟨ki1 _ m1, ki2 _ m2, by have := inner_ddp f2 _ m2; omega⟩
        · cases e4 : ocat (prs vs ++ [ocat (((innerD (.tup (.str s :: r))).zip (innerD y2)).map fun (p : D × D) => pairsP p.1 p.2)]) with
          | none => rfl
          | some ts =>
            obtain ⟨t1, t2, e5, e6, rfl⟩ := ocat_app.1 e4
            have e6 := ocat_one.1 e6
            have : ocat (prs (vs ++ (innerD (.tup (.str s :: r))).zip (innerD y2))) = some (t1 ++ t2) := by
              rw [prs, List.map_append]; exact ocat_app.2 ⟨t1, t2, e5, e6, rfl⟩
            rw [this] at z; cases z
        · rw [prs, List.map_append] at e3
          obtain ⟨t1, t2, e5, e6, rfl⟩ := ocat_app.1 e3
          exact ocat_app.2 ⟨t1, t2, e5, ocat_one.2 e6, rfl⟩
end K01
end
section
set_option linter.all false
set_option maxRecDepth 100000
set_option maxHeartbeats 4000000
namespace K01
open PySem Bw
theorem dk_loc {f : Nat} {L : LH} {kvs : List (L2.Key × D)} (h : L[f]? = some (.dk kvs)) : dkOf L (.loc f) = some kvs := by simp only [dkOf, h]
theorem x_inDk {neg : Bool} {i : Int} {f : Nat} {L : LH} {kvs : List (L2.Key × D)} {Q : Post} (h : L[f]? = some (.dk kvs)) (q : Q (.bl (neg ^^ (valD kvs (.inl i)).isSome)) L) : pIn neg (.int i) (.loc f) L Q :=
  .inr ⟨kvs, .inl i, dk_loc h, rfl, q⟩
theorem x_ixDk {i : Int} {f : Nat} {L : LH} {kvs : List (L2.Key × D)} {x : D} {Q : Post} (h : L[f]? = some (.dk kvs)) (hv : valD kvs (.inl i) = some x) (q : Q x L) : pIx (.loc f) (.int i) L Q :=
  .inr (.inr ⟨kvs, .inl i, x, dk_loc h, rfl, hv, q⟩)
theorem x_setDk {i : Int} {f : Nat} {L : LH} {kvs : List (L2.Key × D)} {x : D} {Q : LH → Prop} (h : L[f]? = some (.dk kvs)) (hz : kvs.length < sizeLine) (q : Q (L.set f (.dk (Bw.putD kvs (.inl i) x)))) : pSet (.loc f) (.int i) x L Q :=
  .inr ⟨f, kvs, .inl i, rfl, rfl, h, hz, q⟩
theorem isLet_head {d : D} (f : Frm d) : isLet d = (headS d == "letter") := by cases f <;> simp only [isLet, headS, beq_dec]
def DOK (kvs : List (L2.Key × D)) : Prop := ∃ ps, IsMap kvs ps ∧ Good ps
def S_gw (n : Nat) : DSp := fun ds L Q _ => ∃ k c f kvs ps0, ds = [k, c, .loc f] ∧ L[f]? = some (.dk kvs) ∧ kdp n k ∧ isKindD c = true ∧ ddp c ≤ 60 ∧ IsMap kvs ps0 ∧ Good ps0 ∧ kvs.length + dsz k ≤ 1000000 ∧
  ∀ r kvs', kvs'.length ≤ kvs.length + dsz k → DOK kvs' → (r = true → ∃ ts, pairsP k c = some ts ∧ IsMap kvs' (ps0 ++ ts)) → (r = false → ∀ ts, pairsP k c = some ts → ¬ Fn (ps0 ++ ts)) → Q (.bl r) (L.set f (.dk kvs'))
def gam_gw (n : Nat) : Nat → DSp
  | 0 => S_gw n
  | _ => S_inner_of
theorem dok_cl {n : Nat} {kvs : List (L2.Key × D)} (h : DOK kvs) : clC n (.dk kvs) := by
  obtain ⟨ps, im, gd⟩ := h
  refine clDs_iff.2 fun v hv => ?_
  obtain ⟨p, hp, rfl⟩ := List.mem_map.mp hv
  obtain ⟨i, hi⟩ := im.inl p hp
  exact pure_cl (si_pure (gd (i, p.2) ((im.val i p.2).1 (valD_mem im.nd hp hi))).1)
theorem cl_set {n : Nat} {L : LH} {f : Nat} {c : Cell} (h : clL n L) (hc : clC n c) : clL n (L.set f c) := fun x hx => by
  rcases List.mem_or_eq_of_mem_set hx with hx | rfl
  · exact h x hx
  · exact hc
theorem ret_set {L : LH} {Q : Post} {f : Nat} {c : Cell} {d : D} (hL : clL L.length L) (hc : clC L.length c) (hd : clD L.length d) (q : Q d (L.set f c)) : (endsOf L.length Q).rt d (L.set f c) :=
  ⟨L.set f c, [], by simp, by simp, by rw [List.length_set]; exact cl_set hL hc, by rw [List.length_set]; exact hd, q⟩
theorem set_same {L : LH} {f : Nat} {c : Cell} (h : L[f]? = some c) : L.set f c = L := by
  apply List.ext_getElem?
  intro i
  by_cases e : f = i
  · subst e
    rw [h, List.getElem?_set_self (List.getElem?_eq_some_iff.mp h).1]
  · rw [List.getElem?_set_ne e]
theorem all_map_id {bs : List Bool} : (bs.all id = true ↔ ∀ b ∈ bs, b = true) := by simp
theorem zipD_get' : ∀ {a b : List D} {i : Nat} {d : D}, (zipD a b)[i]? = some d → ∃ x y, (a.zip b)[i]? = some (x, y) ∧ d = .tup [x, y]
  | [], _, i, d, h => by simp [zipD] at h
  | _ :: _, [], i, d, h => by simp [zipD] at h
  | x :: a, y :: b, 0, d, h => by simp [zipD] at h; exact ⟨x, y, rfl, h.symm⟩
  | x :: a, y :: b, i + 1, d, h => by simp [zipD] at h; simpa using zipD_get' h
theorem take_prs {l : List (D × D)} {i : Nat} {p : D × D} (h : l[i]? = some p) : prs (l.take (i + 1)) = prs (l.take i) ++ [pairsP p.1 p.2] := by
  rw [List.take_add_one, h]; simp [prs]
theorem take_psz {l : List (D × D)} {i : Nat} {p : D × D} (h : l[i]? = some p) : psz (l.take (i + 1)) = psz (l.take i) + dsz p.1 := by
  rw [List.take_add_one, h, psz_app]; simp [psz]
theorem psz_take {l : List (D × D)} {i : Nat} : psz (l.take i) ≤ psz l := by
  have := psz_app (a := l.take i) (b := l.drop i)
  rw [List.take_append_drop] at this; omega
theorem split_at {l : List (D × D)} {i : Nat} {p : D × D} (h : l[i]? = some p) {ts : PL} (e : ocat (prs l) = some ts) : ∃ t1 t2 t3, ocat (prs (l.take i)) = some t1 ∧ pairsP p.1 p.2 = some t2 ∧ ts = (t1 ++ t2) ++ t3 := by
  have : l = l.take (i + 1) ++ l.drop (i + 1) := (List.take_append_drop _ _).symm
  rw [this, prs, List.map_append] at e
  obtain ⟨t12, t3, e1, e2, rfl⟩ := ocat_app.1 e
  rw [← prs, take_prs h] at e1
  obtain ⟨t1, t2, e3, e4, rfl⟩ := ocat_app.1 e1
  exact ⟨t1, t2, t3, e3, ocat_one.1 e4, rfl⟩
theorem w__law_goes_with {n : Nat} {ds : List D} {L : LH} {Q : Post} {E : XP} (c1 : clL L.length L) (c2 : clDs L.length ds) (h : S_gw (n + 1) ds L Q E) : wSs (gam_gw n) m__law_goes_with (endsOf L.length Q) (start0 n__law_goes_with ds) L := by
  obtain ⟨k, c, f, kvs, ps0, rfl, hf, ⟨fk, hk⟩, kc, hd, im, gd, hz, q⟩ := h
  obtain ⟨fc, kci⟩ := kind_inner kc
  have hp1 := dsz_pos k
  have q' : ∀ r kvs', kvs'.length ≤ kvs.length + dsz k → DOK kvs' → (r = true → ∃ ts, pairsP k c = some ts ∧ IsMap kvs' (ps0 ++ ts)) → (r = false → ∀ ts, pairsP k c = some ts → ¬ Fn (ps0 ++ ts)) → (endsOf L.length Q).rt (.bl r) (L.set f (.dk kvs')) :=
    fun r kvs' a b c d => ret_set c1 (dok_cl b) cl_bl (q r kvs' a b c d)
  have q0 : ∀ r, (r = true → ∃ ts, pairsP k c = some ts ∧ IsMap kvs (ps0 ++ ts)) → (r = false → ∀ ts, pairsP k c = some ts → ¬ Fn (ps0 ++ ts)) → (endsOf L.length Q).rt (.bl r) L := fun r a b => by
    have := q' r kvs (by omega) ⟨ps0, im, gd⟩ a b
    rwa [set_same hf] at this
  obtain ⟨rk, ek⟩ := frm_head fk
  obtain ⟨rc, ec⟩ := frm_head fc
  have hs1 := isLet_head fk
  rcases let_cases fk with ⟨i, rfl, h0⟩ | e
  · rw [pairs_let] at q0 q'
    simp only [m__law_goes_with, n__law_goes_with, wSs, wS, wSeq, wSkip, wRet, wRetN, wIf, wSet, wExp, wBrk, wCnt, wNever, wAsg, wPar, wSub, Bw.wE, wA, wB, wO, wCd, wLX, wIX, wAnd, wOr, Bw.wNot, wIte, asT, w1, w2, w1, wVar, wC, wTup, wLst, wMth, wMthl, wListOf, wL, wNew, wACons, wANil, wCall, wSlc, wNo, wSo, wChn, wBopN, CO.sem, BO.sem, F1.sem, FL.sem, OM.sem, gT, gSlot, start0, List.map_cons, List.map_nil, List.length_cons, List.length_nil, List.replicate_succ, List.replicate_zero, List.cons_append, List.nil_append, List.append_nil, List.getElem?_cons_zero, List.getElem?_cons_succ, List.set_cons_zero, List.set_cons_succ, Nat.sub_self, Nat.sub_zero, Nat.add_sub_cancel, Nat.reduceAdd, Nat.reduceSub, if_true, if_false, Bool.false_eq_true, Nat.zero_add, x_some, x_some1, x_bl, x_ix, x_len, x_eqStr, x_eqInt, x_eqBl, x_in, x_b2, x_i2, x_mul, x_addI, x_addT, x_int, x_abs, x_neg, at_0, at_1, at_2, at_3, at_m1, Bool.false_xor, Bool.true_xor, e_num_num, e_num_nil, e_num_row, e_num_data, e_num_fun, e_num_letter, e_num_box, e_nil_num, e_nil_nil, e_nil_row, e_nil_data, e_nil_fun, e_nil_letter, e_nil_box, e_row_num, e_row_nil, e_row_row, e_row_data, e_row_fun, e_row_letter, e_row_box, e_data_num, e_data_nil, e_data_row, e_data_data, e_data_fun, e_data_letter, e_data_box, e_fun_num, e_fun_nil, e_fun_row, e_fun_data, e_fun_fun, e_fun_letter, e_fun_box, e_letter_num, e_letter_nil, e_letter_row, e_letter_data, e_letter_fun, e_letter_letter, e_letter_box, e_box_num, e_box_nil, e_box_row, e_box_data, e_box_fun, e_box_letter, e_box_box]
    refine x_inDk hf ⟨_, rfl, ?_⟩
    cases hv : valD kvs (.inl i) with
    | some x =>
      obtain ⟨sx, dx⟩ := gd (i, x) ((im.val i x).1 hv)
      simp only [Option.isSome_some, Bool.false_xor, if_true, start0, List.map_cons, List.map_nil, List.length_cons, List.length_nil, List.replicate_succ, List.replicate_zero, List.cons_append, List.nil_append, List.append_nil, List.getElem?_cons_zero, List.getElem?_cons_succ, List.set_cons_zero, List.set_cons_succ, Nat.sub_self, Nat.sub_zero, Nat.add_sub_cancel, Nat.reduceAdd, Nat.reduceSub, if_true, if_false, Bool.false_eq_true, Nat.zero_add, x_some, x_some1, x_bl, x_ix, x_len, x_eqStr, x_eqInt, x_eqBl, x_in, x_b2, x_i2, x_mul, x_addI, x_addT, x_int, x_abs, x_neg, at_0, at_1, at_2, at_3, at_m1, Bool.false_xor, Bool.true_xor]
      refine x_ixDk hf hv (x_eqsi sx (kindsi kc) dx (q0 _ (fun e => ⟨_, rfl, ?_⟩) fun e ts ht fn => ?_))
      · have : x = c := by simpa using e
        exact im.same (this ▸ hv)
      · cases ht
        have : ¬ x = c := by simpa using e
        exact this (fn i x c (by simp [(im.val i x).1 hv]) (by simp))
    | none =>
      simp only [Option.isSome_none, Bool.false_xor, Bool.false_eq_true, if_false, start0, List.map_cons, List.map_nil, List.length_cons, List.length_nil, List.replicate_succ, List.replicate_zero, List.cons_append, List.nil_append, List.append_nil, List.getElem?_cons_zero, List.getElem?_cons_succ, List.set_cons_zero, List.set_cons_succ, Nat.sub_self, Nat.sub_zero, Nat.add_sub_cancel, Nat.reduceAdd, Nat.reduceSub, if_true, if_false, Bool.false_eq_true, Nat.zero_add, x_some, x_some1, x_bl, x_ix, x_len, x_eqStr, x_eqInt, x_eqBl, x_in, x_b2, x_i2, x_mul, x_addI, x_addT, x_int, x_abs, x_neg, at_0, at_1, at_2, at_3, at_m1, Bool.false_xor, Bool.true_xor]
      have im2 := im.put (v := c) hv
      refine x_setDk hf (by rw [size_line]; omega) (q' true _ ?_ ⟨_, im2, Good.app gd fun p hp => by rw [List.mem_singleton.mp hp]; exact ⟨kindsi kc, hd⟩⟩ (fun _ => ⟨_, rfl, im2⟩) fun e => by cases e)
      rw [putD_new hv]; simp; omega
  · have hh : (headS k == Str.ofString "letter") = false := hs1 ▸ e
    have leafF : likeD k c = false → (endsOf L.length Q).rt (.bl false) L := fun hl => q0 false (fun e => by cases e) fun _ ts ht => by
      rw [pairs_other e, hl, if_neg (by simp)] at ht; cases ht
    have goal : (likeD k c = true → compL (gT (.many [5, 6])) (wCd (gam_gw n) .no) (Bw.wE (gam_gw n) (.call 0 3 (.cons (.var 5) (.cons (.var 6) (.cons (.var 2) .nil))))) [some k, some c, some (.loc f), some (.tup (innerD k)), some (.tup (innerD c)), none, none] (fun _ => True) (zipD (innerD k) (innerD c)) [] L
        fun ds L1 => lAll ds L1 (endsOf L.length Q).rt) := fun hl => by
      have hll := like_len hl
      have hsi := inner_sz fk
      have hzz := psz_zip (a := innerD k) (b := innerD c)
      generalize hzl : (innerD k).zip (innerD c) = zl at *
      have hzm : ∀ p ∈ zl, p.1 ∈ innerD k ∧ p.2 ∈ innerD c := fun p hp => zip_mem1 (a := p.1) (b := p.2) (by rw [hzl]; exact hp)
      have hpk : pairsP k c = ocat (prs zl) := by rw [pairs_other e, hl, if_pos rfl, hzl]; rfl
      have hlen : (zipD (innerD k) (innerD c)).length = zl.length := by rw [zipD_prT, hzl]; simp [prT]
      refine comp_run (fun i acc L' => ∃ bs kvs', acc = bs.map D.bl ∧ bs.length = i ∧ L' = L.set f (.dk kvs') ∧ DOK kvs' ∧ kvs'.length ≤ kvs.length + psz (zl.take i) ∧
        ((bs.all id = true ∧ ∃ ts, ocat (prs (zl.take i)) = some ts ∧ IsMap kvs' (ps0 ++ ts)) ∨ (bs.all id = false ∧ ∀ ts, ocat (prs zl) = some ts → ¬ Fn (ps0 ++ ts))))
        ⟨[], kvs, rfl, rfl, (set_same hf).symm, ⟨ps0, im, gd⟩, by simp [psz], .inl ⟨rfl, [], rfl, by simpa using im⟩⟩ (fun _ _ _ _ => trivial) ?_ ?_
      · rintro i d acc L' K hdi ⟨bs, kvs', rfl, hbl, rfl, dok, hkl, st⟩ hK
        obtain ⟨x, y, hxy, rfl⟩ := zipD_get' hdi
        rw [hzl] at hxy
        obtain ⟨mx, my⟩ := hzm (x, y) (List.mem_of_getElem? hxy)
        have hix : i < zl.length := (List.getElem?_eq_some_iff.mp hxy).1
        have t1 : psz (zl.take (i + 1)) = psz (zl.take i) + dsz x := take_psz hxy
        have t2 := psz_take (l := zl) (i := i + 1)
        have t3 := psz_len (a := zl)
        unfold stepC
        refine ⟨[x, y], rfl, rfl, ?_⟩
        simp only [setAll, wipeR, wSs, wS, wSeq, wSkip, wRet, wRetN, wIf, wSet, wExp, wBrk, wCnt, wNever, wAsg, wPar, wSub, Bw.wE, wA, wB, wO, wCd, wLX, wIX, wAnd, wOr, Bw.wNot, wIte, asT, w1, w2, w1, wVar, wC, wTup, wLst, wMth, wMthl, wListOf, wL, wNew, wACons, wANil, wCall, wSlc, wNo, wSo, wChn, wBopN, CO.sem, BO.sem, F1.sem, FL.sem, OM.sem, gT, gSlot, start0, List.map_cons, List.map_nil, List.length_cons, List.length_nil, List.replicate_succ, List.replicate_zero, List.cons_append, List.nil_append, List.append_nil, List.getElem?_cons_zero, List.getElem?_cons_succ, List.set_cons_zero, List.set_cons_succ, Nat.sub_self, Nat.sub_zero, Nat.add_sub_cancel, Nat.reduceAdd, Nat.reduceSub, if_true, if_false, Bool.false_eq_true, Nat.zero_add, x_some, x_some1, x_bl, x_ix, x_len, x_eqStr, x_eqInt, x_eqBl, x_in, x_b2, x_i2, x_mul, x_addI, x_addT, x_int, x_abs, x_neg, at_0, at_1, at_2, at_3, at_m1, Bool.false_xor, Bool.true_xor]
        have hlt : f < L.length := (List.getElem?_eq_some_iff.mp hf).1
        have hf' : (L.set f (.dk kvs'))[f]? = some (.dk kvs') := List.getElem?_set_self hlt
        have hbz : (bs.map D.bl).length < sizeLine := by rw [List.length_map, size_line]; omega
        have app : ∀ r, bs.map D.bl ++ [.bl r] = (bs ++ [r]).map D.bl := fun r => by simp
        obtain ⟨psx, imx, gdx⟩ := dok
        rcases st with ⟨ha, ts, ht, imt⟩ | ⟨ha, hbad⟩
        · have gdt : Good (ps0 ++ ts) := fun p hp => gdx p ((imx.val p.1 p.2).1 ((imt.val p.1 p.2).2 hp))
          refine ⟨trivial, x, y, f, kvs', ps0 ++ ts, rfl, hf', hk x mx, kci y my, by have := inner_ddp fc y my; omega, imt, gdt, by omega, fun r kvs2 h1 h2 h3 h4 => ⟨hbz, ?_⟩⟩
          rw [app, List.set_set]
          refine hK _ _ ⟨bs ++ [r], kvs2, rfl, by simp [hbl], rfl, h2, by omega, ?_⟩
          cases r with
          | true =>
            obtain ⟨t, h5, h6⟩ := h3 rfl
            refine .inl ⟨by simp [ha], ts ++ t, ?_, by rw [← List.append_assoc]; exact h6⟩
            rw [take_prs hxy]
            exact ocat_app.2 ⟨ts, t, ht, ocat_one.2 h5, rfl⟩
          | false =>
            refine .inr ⟨by simp, fun tt htt fn => ?_⟩
            obtain ⟨a1, a2, a3, e1, e2, rfl⟩ := split_at hxy htt
            rw [ht] at e1; cases e1
            exact h4 rfl a2 e2 (fn.sub fun p hp => by simp only [List.mem_append] at hp ⊢; rcases hp with (hp | hp) | hp <;> simp [hp])
        · refine ⟨trivial, x, y, f, kvs', psx, rfl, hf', hk x mx, kci y my, by have := inner_ddp fc y my; omega, imx, gdx, by omega, fun r kvs2 h1 h2 h3 h4 => ⟨hbz, ?_⟩⟩
          rw [app, List.set_set]
          refine hK _ _ ⟨bs ++ [r], kvs2, rfl, by simp [hbl], rfl, h2, by omega, .inr ⟨?_, hbad⟩⟩
          rw [List.all_append, ha]; rfl
      · rintro acc L' ⟨bs, kvs', rfl, hbl, rfl, dok, hkl, st⟩
        rw [hlen] at hkl st
        rw [List.take_length] at hkl
        refine ⟨bs, blsOf_map bs, q' _ _ (by omega) dok ?_ ?_⟩
        · intro ha
          rcases st with ⟨_, ts, ht, imt⟩ | ⟨hb, _⟩
          · rw [List.take_length] at ht
            exact ⟨ts, hpk.trans ht, imt⟩
          · rw [hb] at ha; cases ha
        · intro ha ts ht
          rcases st with ⟨hb, _⟩ | ⟨_, hbad⟩
          · rw [hb] at ha; cases ha
          · exact hbad ts (hpk ▸ ht)
    generalize hhk : headS k = hk' at *
    generalize hhc : headS c = hc' at *
    have lk : likeD k c = ((hk' == hc') && ((innerD k).length == (innerD c).length) && (!(hk' == "data") || sameI k c)) := by rw [← hhk, ← hhc]; rfl
    simp only [m__law_goes_with, n__law_goes_with, wSs, wS, wSeq, wSkip, wRet, wRetN, wIf, wSet, wExp, wBrk, wCnt, wNever, wAsg, wPar, wSub, Bw.wE, wA, wB, wO, wCd, wLX, wIX, wAnd, wOr, Bw.wNot, wIte, asT, w1, w2, w1, wVar, wC, wTup, wLst, wMth, wMthl, wListOf, wL, wNew, wACons, wANil, wCall, wSlc, wNo, wSo, wChn, wBopN, CO.sem, BO.sem, F1.sem, FL.sem, OM.sem, gT, gSlot, start0, List.map_cons, List.map_nil, List.length_cons, List.length_nil, List.replicate_succ, List.replicate_zero, List.cons_append, List.nil_append, List.append_nil, List.getElem?_cons_zero, List.getElem?_cons_succ, List.set_cons_zero, List.set_cons_succ, Nat.sub_self, Nat.sub_zero, Nat.add_sub_cancel, Nat.reduceAdd, Nat.reduceSub, if_true, if_false, Bool.false_eq_true, Nat.zero_add, x_some, x_some1, x_bl, x_ix, x_len, x_eqStr, x_eqInt, x_eqBl, x_in, x_b2, x_i2, x_mul, x_addI, x_addT, x_int, x_abs, x_neg, at_0, at_1, at_2, at_3, at_m1, Bool.false_xor, Bool.true_xor, wComp, iZip2]
    rw [ek, ec]
    simp only [wSs, wS, wSeq, wSkip, wRet, wRetN, wIf, wSet, wExp, wBrk, wCnt, wNever, wAsg, wPar, wSub, Bw.wE, wA, wB, wO, wCd, wLX, wIX, wAnd, wOr, Bw.wNot, wIte, asT, w1, w2, w1, wVar, wC, wTup, wLst, wMth, wMthl, wListOf, wL, wNew, wACons, wANil, wCall, wSlc, wNo, wSo, wChn, wBopN, CO.sem, BO.sem, F1.sem, FL.sem, OM.sem, gT, gSlot, start0, List.map_cons, List.map_nil, List.length_cons, List.length_nil, List.replicate_succ, List.replicate_zero, List.cons_append, List.nil_append, List.append_nil, List.getElem?_cons_zero, List.getElem?_cons_succ, List.set_cons_zero, List.set_cons_succ, Nat.sub_self, Nat.sub_zero, Nat.add_sub_cancel, Nat.reduceAdd, Nat.reduceSub, if_true, if_false, Bool.false_eq_true, Nat.zero_add, x_some, x_some1, x_bl, x_ix, x_len, x_eqStr, x_eqInt, x_eqBl, x_in, x_b2, x_i2, x_mul, x_addI, x_addT, x_int, x_abs, x_neg, at_0, at_1, at_2, at_3, at_m1, Bool.false_xor, Bool.true_xor, hh]
    rw [← ek, ← ec]
    refine ⟨trivial, k, rfl, fk, trivial, c, rfl, fc, ?_⟩
    by_cases e1 : hk' = hc'
    · subst e1
      simp only [beq_self_eq_true, Bool.true_and, Bool.not_true, Bool.false_eq_true, if_false] at lk ⊢
      refine x_len.2 (x_len.2 (x_eqInt.2 ⟨_, rfl, ?_⟩))
      simp only [x_some, x_some1, x_bl, x_ix, x_len, x_eqStr, x_eqInt, x_eqBl, x_in, x_b2, x_i2, x_mul, x_addI, x_addT, x_int, x_abs, x_neg, at_0, at_1, at_2, at_3, at_m1, Bool.false_xor, Bool.true_xor, len_eq]
      cases e2 : (innerD k).length == (innerD c).length with
      | false =>
        rw [e2, Bool.false_and] at lk
        simp only [Bool.not_false, if_true]
        exact leafF lk
      | true =>
        rw [e2, Bool.true_and] at lk
        simp only [Bool.not_true, Bool.false_eq_true, if_false]
        by_cases e3 : hk' = "data"
        · subst e3
          simp only [beq_self_eq_true, Bool.not_true, Bool.false_or, if_true] at lk ⊢
          obtain ⟨i, ks, e4⟩ := frm_data fk hhk
          obtain ⟨j, js, e5⟩ := frm_data fc hhc
          rw [e4] at ek; rw [e5] at ec
          cases ek; cases ec
          refine ⟨_, rfl, _, rfl, x_eqInt.2 ⟨_, rfl, ?_⟩⟩
          have lk' : likeD k c = (i == j) := by rw [lk, e4, e5]; rfl
          cases hij : i == j with
          | true =>
            rw [show (true ^^ true) = false from rfl]
            simp only [Bool.false_eq_true, if_false]
            exact .inl ⟨_, _, rfl, goal (lk'.trans hij)⟩
          | false =>
            rw [show (true ^^ false) = true from rfl]
            simp only [if_true]
            exact leafF (lk'.trans hij)
        · simp only [beq_eq_false_iff_ne.mpr e3, Bool.not_false, Bool.true_or, Bool.false_eq_true, if_false] at lk ⊢
          exact .inl ⟨_, _, rfl, goal lk⟩
    · simp only [beq_eq_false_iff_ne.mpr e1, Bool.not_false, if_true, Bool.false_and] at lk ⊢
      exact leafF lk
end K01
end
section
set_option linter.all false
set_option maxRecDepth 100000
set_option maxHeartbeats 4000000
namespace K01
open PySem Bw
/-- the bag stands -/
structure Bag (b g : Nat) (L : LH) : Prop where
  ne : b ≠ g
  ex : ∃ (s c : Int) (a : D) (gs : List Int), L[b]? = some (.lst [.int s, .int c, .loc g, a]) ∧ L[g]? = some (.lst (gs.map D.int)) ∧ (∀ x ∈ gs, 0 ≤ x) ∧ (a = .non ∨ ∃ v, a = .int v ∧ 0 ≤ v)
/-- only the bag changed, cells came -/
structure BagX (b g : Nat) (L L' : LH) : Prop where
  len : L.length ≤ L'.length
  bag : Bag b g L'
  oth : ∀ i, i < L.length → i ≠ b → i ≠ g → L'[i]? = L[i]?
theorem Bag.x {b g : Nat} {L : LH} (h : Bag b g L) : BagX b g L L := ⟨Nat.le_refl _, h, fun _ _ _ _ => rfl⟩
theorem BagX.trans {b g : Nat} {L L1 L2 : LH} (h : BagX b g L L1) (h2 : BagX b g L1 L2) : BagX b g L L2 :=
  ⟨Nat.le_trans h.len h2.len, h2.bag, fun i hi h3 h4 => (h2.oth i (Nat.lt_of_lt_of_le hi h.len) h3 h4).trans (h.oth i hi h3 h4)⟩
theorem Bag.app {b g : Nat} {L G : LH} (h : Bag b g L) : Bag b g (L ++ G) := by
  obtain ⟨s, c, a, gs, h1, h2, h3⟩ := h.ex
  exact ⟨h.ne, s, c, a, gs, by rw [List.getElem?_append_left (List.getElem?_eq_some_iff.mp h1).1]; exact h1, by rw [List.getElem?_append_left (List.getElem?_eq_some_iff.mp h2).1]; exact h2, h3⟩
theorem Bag.xapp {b g : Nat} {L G : LH} (h : Bag b g L) : BagX b g L (L ++ G) := ⟨by simp, h.app, fun i hi _ _ => List.getElem?_append_left hi⟩
theorem Bag.lt {b g : Nat} {L : LH} (h : Bag b g L) : b < L.length ∧ g < L.length := by
  obtain ⟨s, c, a, gs, h1, h2, _⟩ := h.ex
  exact ⟨(List.getElem?_eq_some_iff.mp h1).1, (List.getElem?_eq_some_iff.mp h2).1⟩
def S_pick : DSp := fun ds L Q _ => ∃ b g m, ds = [.loc b, .int m] ∧ Bag b g L ∧ 0 < m ∧ m ≤ 1000000 ∧ ∀ r L', 0 ≤ r → r < m → L'.length = L.length → BagX b g L L' → Q (.int r) L'
theorem x_setL {n : Nat} {ds : List D} {k : Int} {j : Nat} {v : D} {L : LH} {Q : LH → Prop} (h : L[n]? = some (.lst ds)) (hj : L2.ixN ds.length k = some j) (q : Q (L.set n (.lst (ds.set j v)))) : pSet (.loc n) (.int k) v L Q :=
  .inl ⟨n, ds, k, j, rfl, rfl, h, hj, q⟩
theorem x_pop0 {n : Nat} {d : D} {ds : List D} {L : LH} {Q : Post} (hL : L[n]? = some (.lst (d :: ds))) (q : Q d (L.set n (.lst ds))) : mPop (.loc n) [.int 0] L Q :=
  ⟨n, d :: ds, d, rfl, hL, .inr ⟨rfl, rfl, q⟩⟩
theorem cmul_r {i j : Int} (h1 : -(2 ^ 64) < j) (h2 : j < 2 ^ 64) : L2.CMul i j := .inr ⟨h1, h2⟩
theorem cmul_l {i j : Int} (h1 : -(2 ^ 64) < i) (h2 : i < 2 ^ 64) : L2.CMul i j := .inl ⟨h1, h2⟩
theorem ret_cell {L L' : LH} {Q : Post} {d : D} (hlen : L'.length = L.length) (hL : clL L.length L') (hd : clD L.length d) (q : Q d L') : (endsOf L.length Q).rt d L' :=
  ⟨L', [], by simp, by omega, by rw [hlen]; exact hL, by rw [hlen]; exact hd, q⟩
theorem cl_int {n : Nat} {i : Int} : clD n (.int i) := by unfold clD; trivial
theorem ne_n (a : Int) : isNon (.int a) = false := rfl
theorem w__law_pick {Γ : Nat → DSp} {ds : List D} {L : LH} {Q : Post} {E : XP} (c1 : clL L.length L) (c2 : clDs L.length ds) (h : S_pick ds L Q E) : wSs Γ m__law_pick (endsOf L.length Q) (start0 n__law_pick ds) L := by
  obtain ⟨b, g, m, rfl, bg, hm, hm2, q⟩ := h
  obtain ⟨s, c, a, gs, hb, hg, hgs, ha⟩ := bg.ex
  obtain ⟨lb, lg⟩ := bg.lt
  have ne := bg.ne
  simp only [m__law_pick, n__law_pick, wSs, wS, wSeq, wSkip, wRet, wRetN, wIf, wSet, wExp, wBrk, wCnt, wNever, wAsg, wPar, wSub, Bw.wE, wA, wB, wO, wCd, wLX, wIX, wAnd, wOr, Bw.wNot, wIte, asT, w1, w2, w1, wVar, wC, wTup, wLst, wMth, wMthl, wListOf, wL, wNew, wACons, wANil, wCall, wSlc, wNo, wSo, wChn, wBopN, CO.sem, BO.sem, F1.sem, FL.sem, OM.sem, gT, gSlot, start0, List.map_cons, List.map_nil, List.length_cons, List.length_nil, List.replicate_succ, List.replicate_zero, List.cons_append, List.nil_append, List.append_nil, List.getElem?_cons_zero, List.getElem?_cons_succ, List.set_cons_zero, List.set_cons_succ, Nat.sub_self, Nat.sub_zero, Nat.add_sub_cancel, Nat.reduceAdd, Nat.reduceSub, if_true, if_false, Bool.false_eq_true, Nat.zero_add, x_some, x_some1, x_bl, x_ix, x_len, x_eqStr, x_eqInt, x_eqBl, x_in, x_b2, x_i2, x_mul, x_addI, x_addT, x_int, x_abs, x_neg, at_0, at_1, at_2, at_3, at_m1, Bool.false_xor, Bool.true_xor, x_ixL hb, pIsNotN]
  rcases ha with rfl | ⟨v, rfl, hv⟩
  · simp only [isNon, Bool.not_true, Bool.false_eq_true, if_false]
    -- the count
    refine x_setL (j := 1) hb (show L2.ixN 4 1 = some 1 by decide) ?_
    simp only [List.set_cons_succ, List.set_cons_zero]
    have hb1 : (L.set b (.lst [.int s, .int (c + 1), .loc g, .non]))[b]? = some (.lst [.int s, .int (c + 1), .loc g, .non]) := List.getElem?_set_self lb
    have hg1 : (L.set b (.lst [.int s, .int (c + 1), .loc g, .non]))[g]? = some (.lst (gs.map D.int)) := by rw [List.getElem?_set_ne ne]; exact hg
    have cl1 : clL L.length (L.set b (.lst [.int s, .int (c + 1), .loc g, .non])) := cl_set c1 (by show clDs _ _; simp only [clDs, clD]; exact ⟨trivial, trivial, lg, trivial, trivial⟩)
    have len1 : (L.set b (.lst [.int s, .int (c + 1), .loc g, .non])).length = L.length := List.length_set
    have oth1 : ∀ i, i ≠ b → (L.set b (.lst [.int s, .int (c + 1), .loc g, .non]))[i]? = L[i]? := fun i hi => List.getElem?_set_ne hi.symm
    generalize (L.set b (.lst [.int s, .int (c + 1), .loc g, .non])) = L1 at *
    simp only [wSs, wS, wSeq, wSkip, wRet, wRetN, wIf, wSet, wExp, wBrk, wCnt, wNever, wAsg, wPar, wSub, Bw.wE, wA, wB, wO, wCd, wLX, wIX, wAnd, wOr, Bw.wNot, wIte, asT, w1, w2, w1, wVar, wC, wTup, wLst, wMth, wMthl, wListOf, wL, wNew, wACons, wANil, wCall, wSlc, wNo, wSo, wChn, wBopN, CO.sem, BO.sem, F1.sem, FL.sem, OM.sem, gT, gSlot, start0, List.map_cons, List.map_nil, List.length_cons, List.length_nil, List.replicate_succ, List.replicate_zero, List.cons_append, List.nil_append, List.append_nil, List.getElem?_cons_zero, List.getElem?_cons_succ, List.set_cons_zero, List.set_cons_succ, Nat.sub_self, Nat.sub_zero, Nat.add_sub_cancel, Nat.reduceAdd, Nat.reduceSub, if_true, if_false, Bool.false_eq_true, Nat.zero_add, x_some, x_some1, x_bl, x_ix, x_len, x_eqStr, x_eqInt, x_eqBl, x_in, x_b2, x_i2, x_mul, x_addI, x_addT, x_int, x_abs, x_neg, at_0, at_1, at_2, at_3, at_m1, Bool.false_xor, Bool.true_xor, x_ixL hb1, x_lenL hg1, List.length_map]
    cases gs with
    | cons x gs =>
      have hx := hgs x (by simp)
      rw [if_pos (by simp)]
      simp only [List.map_cons] at hg1
      simp only [wSs, wS, wSeq, wSkip, wRet, wRetN, wIf, wSet, wExp, wBrk, wCnt, wNever, wAsg, wPar, wSub, Bw.wE, wA, wB, wO, wCd, wLX, wIX, wAnd, wOr, Bw.wNot, wIte, asT, w1, w2, w1, wVar, wC, wTup, wLst, wMth, wMthl, wListOf, wL, wNew, wACons, wANil, wCall, wSlc, wNo, wSo, wChn, wBopN, CO.sem, BO.sem, F1.sem, FL.sem, OM.sem, gT, gSlot, start0, List.map_cons, List.map_nil, List.length_cons, List.length_nil, List.replicate_succ, List.replicate_zero, List.cons_append, List.nil_append, List.append_nil, List.getElem?_cons_zero, List.getElem?_cons_succ, List.set_cons_zero, List.set_cons_succ, Nat.sub_self, Nat.sub_zero, Nat.add_sub_cancel, Nat.reduceAdd, Nat.reduceSub, if_true, if_false, Bool.false_eq_true, Nat.zero_add, x_some, x_some1, x_bl, x_ix, x_len, x_eqStr, x_eqInt, x_eqBl, x_in, x_b2, x_i2, x_mul, x_addI, x_addT, x_int, x_abs, x_neg, at_0, at_1, at_2, at_3, at_m1, Bool.false_xor, Bool.true_xor, x_ixL hg1]
      refine ⟨hm, ⟨hm, by omega⟩, ?_⟩
      refine x_setL (j := 0) hg1 (by unfold L2.ixN; simp) ?_
      simp only [List.set_cons_zero]
      have lg1 : g < L1.length := by omega
      have hg2 : (L1.set g (.lst (.int (x / m) :: gs.map D.int)))[g]? = some (.lst (.int (x / m) :: gs.map D.int)) := List.getElem?_set_self lg1
      have r0 : 0 ≤ x % m := Int.emod_nonneg x (by omega)
      have r1 : x % m < m := Int.emod_lt_of_pos x hm
      have leaf : ∀ gs' : List Int, (∀ y ∈ gs', 0 ≤ y) → (endsOf L.length Q).rt (.int (x % m)) (L1.set g (.lst (gs'.map D.int))) := fun gs' h' =>
        ret_cell (by simp [len1]) (cl_set cl1 (by show clDs _ _; exact clDs_ints)) cl_int (q _ _ r0 r1 (by simp [len1]) ⟨by simp [len1], ⟨ne, s, c + 1, .non, gs', by rw [List.getElem?_set_ne ne.symm]; exact hb1, List.getElem?_set_self lg1, h', .inl rfl⟩,
          fun i hi h1 h2 => by rw [List.getElem?_set_ne h2.symm]; exact oth1 i h1⟩)
      simp only [wSs, wS, wSeq, wSkip, wRet, wRetN, wIf, wSet, wExp, wBrk, wCnt, wNever, wAsg, wPar, wSub, Bw.wE, wA, wB, wO, wCd, wLX, wIX, wAnd, wOr, Bw.wNot, wIte, asT, w1, w2, w1, wVar, wC, wTup, wLst, wMth, wMthl, wListOf, wL, wNew, wACons, wANil, wCall, wSlc, wNo, wSo, wChn, wBopN, CO.sem, BO.sem, F1.sem, FL.sem, OM.sem, gT, gSlot, start0, List.map_cons, List.map_nil, List.length_cons, List.length_nil, List.replicate_succ, List.replicate_zero, List.cons_append, List.nil_append, List.append_nil, List.getElem?_cons_zero, List.getElem?_cons_succ, List.set_cons_zero, List.set_cons_succ, Nat.sub_self, Nat.sub_zero, Nat.add_sub_cancel, Nat.reduceAdd, Nat.reduceSub, if_true, if_false, Bool.false_eq_true, Nat.zero_add, x_some, x_some1, x_bl, x_ix, x_len, x_eqStr, x_eqInt, x_eqBl, x_in, x_b2, x_i2, x_mul, x_addI, x_addT, x_int, x_abs, x_neg, at_0, at_1, at_2, at_3, at_m1, Bool.false_xor, Bool.true_xor, x_ixL hg2]
      have hxm : 0 ≤ x / m := Int.ediv_nonneg hx (by omega)
      by_cases hz : x / m = 0
      · rw [if_pos (by simp [hz])]
        refine ⟨⟨_, _, rfl, hg2⟩, x_pop0 hg2 ?_⟩
        rw [List.set_set]
        exact leaf gs fun y hy => hgs y (by simp [hy])
      · rw [if_neg (by simp [hz])]
        have := leaf (x / m :: gs) fun y hy => by
          rcases List.mem_cons.mp hy with rfl | hy
          · exact hxm
          · exact hgs y (by simp [hy])
        exact this
    | nil =>
      rw [if_neg (by simp)]
      refine ⟨cmul_l (by decide) (by decide), cmul_r (by decide) (by decide), by decide, ⟨by decide, by decide⟩, ?_⟩
      generalize ha1 : (s + 7919 * (c + 1)) * 48271 % 2147483647 = a1
      have a1l : 0 ≤ a1 ∧ a1 < 2147483647 := by subst ha1; exact ⟨Int.emod_nonneg _ (by decide), Int.emod_lt_of_pos _ (by decide)⟩
      refine ⟨cmul_l (by omega) (by omega), by decide, ⟨by decide, by decide⟩, ?_⟩
      generalize ha2 : a1 * (a1 / 1009 + 69621) % 2147483647 = a2
      have a2l : 0 ≤ a2 ∧ a2 < 2147483647 := by subst ha2; exact ⟨Int.emod_nonneg _ (by decide), Int.emod_lt_of_pos _ (by decide)⟩
      refine ⟨cmul_l (by omega) (by omega), by decide, ⟨by decide, by decide⟩, hm, ?_⟩
      exact ret_cell len1 cl1 cl_int (q _ _ (Int.emod_nonneg _ (by omega)) (Int.emod_lt_of_pos _ hm) len1 ⟨by omega, ⟨ne, s, c + 1, .non, [], hb1, hg1, by simp, .inl rfl⟩, fun i hi h1 h2 => oth1 i h1⟩)
  · simp only [isNon, Bool.not_false, if_true, x_some, x_some1, x_bl, x_ix, x_len, x_eqStr, x_eqInt, x_eqBl, x_in, x_b2, x_i2, x_mul, x_addI, x_addT, x_int, x_abs, x_neg, at_0, at_1, at_2, at_3, at_m1, Bool.false_xor, Bool.true_xor]
    exact ⟨hm, ret_cell rfl c1 cl_int (q _ _ (Int.emod_nonneg _ (by omega)) (Int.emod_lt_of_pos _ hm) rfl bg.x)⟩
end K01
end
section
set_option linter.all false
set_option maxRecDepth 100000
set_option maxHeartbeats 4000000
namespace K01
open PySem Bw
theorem sq_of_sqL {L : LH} {d : D} {ds : List D} (h : sqL L d = some ds) : sq L d = some ds := by
  cases d <;> first | exact h | (simp [sqL] at h)
theorem x_lenS {L : LH} {d : D} {ds : List D} {Q : Post} (h : sqL L d = some ds) (q : Q (.int ds.length) L) : pLen d L Q := .inl ⟨ds, sq_of_sqL h, q⟩
theorem sqL_app {L G : LH} {d : D} {ds : List D} (h : sqL L d = some ds) : sqL (L ++ G) d = some ds := by
  cases d with
  | loc n =>
    simp only [sqL] at h ⊢
    have hn : n < L.length := by
      rcases Nat.lt_or_ge n L.length with z | z
      · exact z
      · rw [List.getElem?_eq_none z] at h; cases h
    rw [List.getElem?_append_left hn]; exact h
  | kl ns => exact h
  | _ => cases h
def S_bag : DSp := fun ds L Q _ => ∃ (d : D) (ns : List Int), ds = [d] ∧ sqL L d = some (ns.map D.int) ∧ ns.length ≤ 63 ∧ ∀ L', Bag (L.length + 1) L.length (L ++ L') → L'.length = 2 → Q (.loc (L.length + 1)) (L ++ L')
theorem cut_mem {ds : List D} {lo hi : Option Int} {x : D} (h : x ∈ cutD ds lo hi) : x ∈ ds := by
  unfold cutD at h
  exact List.mem_of_mem_drop (List.mem_of_mem_take h)
theorem cut_len {ds : List D} {lo hi : Option Int} : (cutD ds lo hi).length ≤ ds.length := by
  unfold cutD
  rw [List.length_take, List.length_drop]; omega
def absD : D → D
  | .int x => .int (if x < 0 then -x else x)
  | d => d
def bigD : D → Bool
  | .int x => decide ((10 : Int) ^ (18 : Int).toNat ≤ (if x < 0 then -x else x))
  | _ => false
theorem abs_ge (x : Int) : 0 ≤ (if x < 0 then -x else x) := by split <;> omega
theorem abs_ints : ∀ {l : List D}, (∀ x ∈ l, ∃ i, x = .int i) → ∃ gs : List Int, (l.map absD) = gs.map D.int ∧ ∀ x ∈ gs, 0 ≤ x
  | [], _ => ⟨[], rfl, by simp⟩
  | x :: l, h => by
    obtain ⟨i, rfl⟩ := h x (by simp)
    obtain ⟨gs, e, hg⟩ := abs_ints (l := l) fun y hy => h y (by simp [hy])
    refine ⟨(if i < 0 then -i else i) :: gs, by simp only [List.map_cons, e, absD], fun y hy => ?_⟩
    rcases List.mem_cons.mp hy with rfl | hy
    · exact abs_ge i
    · exact hg y hy
theorem sq_m {d : D} {ds : List D} {L : LH} {Q : List D → (LH → Prop) → LH → Prop} (h : sqL L d = some ds) (q : Q ds (fun L' => sqL L' d = some ds) L) : iSq (wC d) [] L Q NoX := by
  cases d with
  | tup _ => cases h
  | _ => exact ⟨ds, h, q⟩
theorem w__law_bag {Γ : Nat → DSp} {ds : List D} {L : LH} {Q : Post} {E : XP} (c1 : clL L.length L) (c2 : clDs L.length ds) (h : S_bag ds L Q E) : wSs Γ m__law_bag (endsOf L.length Q) (start0 n__law_bag ds) L := by
  obtain ⟨d, ns, rfl, hs, hl, q⟩ := h
  have items : ∀ x ∈ cutD (ns.map D.int) none (some 63), ∃ i, x = .int i := fun x hx => by
    obtain ⟨i, _, rfl⟩ := List.mem_map.mp (cut_mem hx); exact ⟨i, rfl⟩
  have hcl := cut_len (ds := ns.map D.int) (lo := none) (hi := some 63)
  rw [List.length_map] at hcl
  simp only [m__law_bag, n__law_bag, wSs, wS, wSeq, wSkip, wRet, wRetN, wIf, wSet, wExp, wBrk, wCnt, wNever, wAsg, wPar, wSub, Bw.wE, wA, wB, wO, wCd, wLX, wIX, wAnd, wOr, Bw.wNot, wIte, asT, w1, w2, w1, wVar, wC, wTup, wLst, wMth, wMthl, wListOf, wL, wNew, wSlcL, wFor, iLx, iSq, wComp, wACons, wANil, wCall, wSlc, wNo, wSo, wChn, wBopN, CO.sem, BO.sem, F1.sem, FL.sem, OM.sem, gT, gSlot, start0, List.map_cons, List.map_nil, List.length_cons, List.length_nil, List.replicate_succ, List.replicate_zero, List.cons_append, List.nil_append, List.append_nil, List.getElem?_cons_zero, List.getElem?_cons_succ, List.set_cons_zero, List.set_cons_succ, Nat.sub_self, Nat.sub_zero, Nat.add_sub_cancel, Nat.reduceAdd, Nat.reduceSub, if_true, if_false, Bool.false_eq_true, Nat.zero_add, x_some, x_some1, x_bl, x_ix, x_len, x_eqStr, x_eqInt, x_eqBl, x_in, x_b2, x_i2, x_mul, x_addI, x_addT, x_int, x_abs, x_neg, at_0, at_1, at_2, at_3, at_m1, Bool.false_xor, Bool.true_xor]
  refine x_lenS hs ?_
  simp only [x_some, x_some1, x_bl, x_ix, x_len, x_eqStr, x_eqInt, x_eqBl, x_in, x_b2, x_i2, x_mul, x_addI, x_addT, x_int, x_abs, x_neg, at_0, at_1, at_2, at_3, at_m1, Bool.false_xor, Bool.true_xor, List.length_map]
  refine ⟨_, rfl, _, hs, ?_⟩
  refine for_run (fun i ρ L' => L' = L ∧ ∃ s c, 0 ≤ s ∧ s < 2147483647 ∧ ρ = [some d, some (.int s), c, none, none]) ⟨rfl, _, none, by omega, by omega, rfl⟩ (fun _ _ _ _ => trivial) ?_ ?_
  · rintro i x ρ L' K hx ⟨rfl, s, c, h0, h1, rfl⟩ hK
    obtain ⟨v, rfl⟩ := items x (List.mem_of_getElem? hx)
    simp only [wSs, wS, wSeq, wSkip, wRet, wRetN, wIf, wSet, wExp, wBrk, wCnt, wNever, wAsg, wPar, wSub, Bw.wE, wA, wB, wO, wCd, wLX, wIX, wAnd, wOr, Bw.wNot, wIte, asT, w1, w2, w1, wVar, wC, wTup, wLst, wMth, wMthl, wListOf, wL, wNew, wSlcL, wFor, iLx, iSq, wComp, wACons, wANil, wCall, wSlc, wNo, wSo, wChn, wBopN, CO.sem, BO.sem, F1.sem, FL.sem, OM.sem, gT, gSlot, start0, List.map_cons, List.map_nil, List.length_cons, List.length_nil, List.replicate_succ, List.replicate_zero, List.cons_append, List.nil_append, List.append_nil, List.getElem?_cons_zero, List.getElem?_cons_succ, List.set_cons_zero, List.set_cons_succ, Nat.sub_self, Nat.sub_zero, Nat.add_sub_cancel, Nat.reduceAdd, Nat.reduceSub, if_true, if_false, Bool.false_eq_true, Nat.zero_add, x_some, x_some1, x_bl, x_ix, x_len, x_eqStr, x_eqInt, x_eqBl, x_in, x_b2, x_i2, x_mul, x_addI, x_addT, x_int, x_abs, x_neg, at_0, at_1, at_2, at_3, at_m1, Bool.false_xor, Bool.true_xor]
    exact ⟨cmul_r (by decide) (by decide), by decide, by decide, hK _ _ ⟨rfl, _, _, Int.emod_nonneg _ (by decide), Int.emod_lt_of_pos _ (by decide), rfl⟩⟩
  · rintro ρ L' ⟨rfl, s, c, h0, h1, rfl⟩
    simp only [wSs, wS, wSeq, wSkip, wRet, wRetN, wIf, wSet, wExp, wBrk, wCnt, wNever, wAsg, wPar, wSub, Bw.wE, wA, wB, wO, wCd, wLX, wIX, wAnd, wOr, Bw.wNot, wIte, asT, w1, w2, w1, wVar, wC, wTup, wLst, wMth, wMthl, wListOf, wL, wNew, wSlcL, wFor, iLx, iSq, wComp, wACons, wANil, wCall, wSlc, wNo, wSo, wChn, wBopN, CO.sem, BO.sem, F1.sem, FL.sem, OM.sem, gT, gSlot, start0, List.map_cons, List.map_nil, List.length_cons, List.length_nil, List.replicate_succ, List.replicate_zero, List.cons_append, List.nil_append, List.append_nil, List.getElem?_cons_zero, List.getElem?_cons_succ, List.set_cons_zero, List.set_cons_succ, Nat.sub_self, Nat.sub_zero, Nat.add_sub_cancel, Nat.reduceAdd, Nat.reduceSub, if_true, if_false, Bool.false_eq_true, Nat.zero_add, x_some, x_some1, x_bl, x_ix, x_len, x_eqStr, x_eqInt, x_eqBl, x_in, x_b2, x_i2, x_mul, x_addI, x_addT, x_int, x_abs, x_neg, at_0, at_1, at_2, at_3, at_m1, Bool.false_xor, Bool.true_xor]
    refine ⟨_, rfl, _, hs, ?_⟩
    refine comp_pure bigD absD trivial (by rw [size_line]; omega) (fun x hx acc K hz hK => ?_) ?_
    · obtain ⟨v, rfl⟩ := items x hx
      unfold stepC
      simp only [wipeR, wSs, wS, wSeq, wSkip, wRet, wRetN, wIf, wSet, wExp, wBrk, wCnt, wNever, wAsg, wPar, wSub, Bw.wE, wA, wB, wO, wCd, wLX, wIX, wAnd, wOr, Bw.wNot, wIte, asT, w1, w2, w1, wVar, wC, wTup, wLst, wMth, wMthl, wListOf, wL, wNew, wSlcL, wFor, iLx, iSq, wComp, wACons, wANil, wCall, wSlc, wNo, wSo, wChn, wBopN, CO.sem, BO.sem, F1.sem, FL.sem, OM.sem, gT, gSlot, start0, List.map_cons, List.map_nil, List.length_cons, List.length_nil, List.replicate_succ, List.replicate_zero, List.cons_append, List.nil_append, List.append_nil, List.getElem?_cons_zero, List.getElem?_cons_succ, List.set_cons_zero, List.set_cons_succ, Nat.sub_self, Nat.sub_zero, Nat.add_sub_cancel, Nat.reduceAdd, Nat.reduceSub, if_true, if_false, Bool.false_eq_true, Nat.zero_add, x_some, x_some1, x_bl, x_ix, x_len, x_eqStr, x_eqInt, x_eqBl, x_in, x_b2, x_i2, x_mul, x_addI, x_addT, x_int, x_abs, x_neg, at_0, at_1, at_2, at_3, at_m1, Bool.false_xor, Bool.true_xor]
      refine ⟨⟨by decide, by decide, by decide⟩, ?_⟩
      revert hK
      show (if bigD (.int v) = true then K (acc ++ [absD (.int v)]) L' else K acc L') → (if bigD (.int v) = true then acc.length < sizeLine ∧ K (acc ++ [absD (.int v)]) L' else K acc L')
      intro hK
      cases hb : bigD (.int v) with
      | true => rw [hb, if_pos rfl] at hK; rw [if_pos rfl]; exact ⟨hz, hK⟩
      | false => rw [hb, if_neg (by simp)] at hK; rw [if_neg (by simp)]; exact hK
    · obtain ⟨gs, eg, hg⟩ := abs_ints (l := (cutD (ns.map D.int) none (some 63)).filter bigD) fun x hx => items x (List.mem_filter.mp hx).1
      rw [eg]
      have hs1 : sqL (L' ++ [.lst (gs.map D.int)]) d = some (ns.map D.int) := sqL_app hs
      refine x_lenS hs1 ?_
      have hgl : (L' ++ [Cell.lst (gs.map D.int)])[L'.length]? = some (.lst (gs.map D.int)) := cell_last
      have fin : ∀ a, (a = .non ∨ ∃ v, a = .int v ∧ 0 ≤ v) → (endsOf L'.length Q).rt (.loc (L' ++ [Cell.lst (gs.map D.int)]).length) ((L' ++ [Cell.lst (gs.map D.int)]) ++ [.lst [.int s, .int 1, .loc L'.length, a]]) := fun a ha => by
        have e : (L' ++ [Cell.lst (gs.map D.int)]) ++ [.lst [.int s, .int 1, .loc L'.length, a]] = L' ++ [Cell.lst (gs.map D.int), .lst [.int s, .int 1, .loc L'.length, a]] := by simp
        have e2 : (L' ++ [Cell.lst (gs.map D.int)]).length = L'.length + 1 := by simp
        rw [e, e2]
        refine ⟨_, [], (List.append_nil _).symm, by simp, ?_, by unfold clD; simp, q _ ⟨by omega, s, 1, a, gs, by simp, by simp, hg, ha⟩ rfl⟩
        intro x hx
        have e3 : (L' ++ [Cell.lst (gs.map D.int), .lst [.int s, .int 1, .loc L'.length, a]]).length = L'.length + 2 := by simp
        rw [e3]
        simp only [List.mem_append, List.mem_cons, List.not_mem_nil, or_false] at hx
        rcases hx with hx | rfl | rfl
        · exact clC_mono (by omega) (c1 x hx)
        · exact clDs_ints
        · show clDs _ _
          refine ⟨cl_int, cl_int, by unfold clD; omega, ?_, trivial⟩
          rcases ha with rfl | ⟨v, rfl, _⟩
          · unfold clD; trivial
          · exact cl_int
      simp only [x_some, x_some1, x_bl, x_ix, x_len, x_eqStr, x_eqInt, x_eqBl, x_in, x_b2, x_i2, x_mul, x_addI, x_addT, x_int, x_abs, x_neg, at_0, at_1, at_2, at_3, at_m1, Bool.false_xor, Bool.true_xor, List.length_map]
      by_cases h2 : (ns.length : Int) < 2
      · rw [if_pos (by simpa using h2)]
        refine (x_lenL hgl).2 (x_eqInt.2 ?_)
        rw [Bool.false_xor]
        cases h3 : (((gs.map D.int).length : Int) == 0) with
        | true =>
          refine ⟨_, rfl, ?_⟩
          rw [if_pos rfl]
          refine sq_m (Q := fun items keep L1 => compL (fun d ρ L Q => Q (List.set ρ 2 (some d)) L) (wC (D.bl true)) (w1 pInt (wVar 2)) (wipeR [some d, some (D.int s), c, some (D.loc L'.length), some D.non] [2]) keep items [] L1 fun ds L1 => lSum ds L1 fun d L1 => pAbs d L1 fun d L1 => 4 ≤ sizeLine ∧ (endsOf L'.length Q).rt (D.loc L1.length) (L1 ++ [Cell.lst [D.int s, D.int 1, D.loc L'.length, d]])) hs1 (comp_pure (ds := ns.map D.int) (fun _ => true) id hs1 (by rw [List.length_map, size_line]; omega) (fun x hx acc K hz hK => ?_) ?_)
          · obtain ⟨v, _, rfl⟩ := List.mem_map.mp hx
            unfold stepC
            simp only [wipeR, wSs, wS, wSeq, wSkip, wRet, wRetN, wIf, wSet, wExp, wBrk, wCnt, wNever, wAsg, wPar, wSub, Bw.wE, wA, wB, wO, wCd, wLX, wIX, wAnd, wOr, Bw.wNot, wIte, asT, w1, w2, w1, wVar, wC, wTup, wLst, wMth, wMthl, wListOf, wL, wNew, wSlcL, wFor, iLx, iSq, wComp, wACons, wANil, wCall, wSlc, wNo, wSo, wChn, wBopN, CO.sem, BO.sem, F1.sem, FL.sem, OM.sem, gT, gSlot, start0, List.map_cons, List.map_nil, List.length_cons, List.length_nil, List.replicate_succ, List.replicate_zero, List.cons_append, List.nil_append, List.append_nil, List.getElem?_cons_zero, List.getElem?_cons_succ, List.set_cons_zero, List.set_cons_succ, Nat.sub_self, Nat.sub_zero, Nat.add_sub_cancel, Nat.reduceAdd, Nat.reduceSub, if_true, if_false, Bool.false_eq_true, Nat.zero_add, x_some, x_some1, x_bl, x_ix, x_len, x_eqStr, x_eqInt, x_eqBl, x_in, x_b2, x_i2, x_mul, x_addI, x_addT, x_int, x_abs, x_neg, at_0, at_1, at_2, at_3, at_m1, Bool.false_xor, Bool.true_xor]
            exact ⟨hz, hK⟩
          · rw [map_all, List.map_id]
            exact ⟨ns, intsOf_map ns, sz_small (by omega), fin _ (.inr ⟨_, rfl, abs_ge _⟩)⟩
        | false =>
          refine ⟨_, rfl, ?_⟩
          rw [if_neg (by simp)]
          exact ⟨sz_small (by omega), fin _ (.inl rfl)⟩
      · rw [if_neg (by simpa using h2)]
        exact ⟨sz_small (by omega), fin _ (.inl rfl)⟩
end K01
end
section
set_option linter.all false
set_option maxRecDepth 100000
set_option maxHeartbeats 4000000
namespace K01
open PySem Bw
/-- what is left of the cells at an end -/
theorem bag_cut {b g : Nat} {L L' : LH} (c1 : clL L.length L) (bg : Bag b g L) (h : BagX b g L L') : ∃ L0 G, L' = L0 ++ G ∧ L0.length = L.length ∧ clL L.length L0 ∧ BagX b g L L0 := by
  obtain ⟨lb, lg⟩ := bg.lt
  have hlen := h.len
  have tl : (L'.take L.length).length = L.length := by simp; omega
  have get : ∀ i, i < L.length → (L'.take L.length)[i]? = L'[i]? := fun i hi => List.getElem?_take_of_lt hi
  obtain ⟨s, c, a, gs, h1, h2, h3, h4⟩ := h.bag.ex
  refine ⟨L'.take L.length, L'.drop L.length, (List.take_append_drop _ _).symm, tl, fun x hx => ?_, ⟨by omega, ⟨h.bag.ne, s, c, a, gs, by rw [get b lb]; exact h1, by rw [get g lg]; exact h2, h3, h4⟩, fun i hi e1 e2 => by rw [get i hi]; exact h.oth i hi e1 e2⟩⟩
  obtain ⟨i, hi, e⟩ := List.mem_iff_getElem.mp hx
  have hi' : i < L.length := by omega
  have e' : L'[i]? = some x := by rw [← get i hi', List.getElem?_eq_getElem hi, e]
  by_cases eb : i = b
  · subst eb; rw [h1] at e'; cases e'
    show clDs _ _
    refine ⟨cl_int, cl_int, by unfold clD; exact lg, ?_, trivial⟩
    rcases h4 with rfl | ⟨v, rfl, _⟩
    · unfold clD; trivial
    · exact cl_int
  by_cases eg : i = g
  · subst eg; rw [h2] at e'; cases e'
    exact clDs_ints
  rw [h.oth i hi' eb eg] at e'
  exact c1 x (List.mem_of_getElem? e')
theorem retB {b g : Nat} {L L' : LH} {Q : Post} {d : D} (c1 : clL L.length L) (bg : Bag b g L) (h : BagX b g L L') (hd : clD L.length d) (q : ∀ L0, L0.length = L.length → BagX b g L L0 → Q d L0) : (endsOf L.length Q).rt d L' := by
  obtain ⟨L0, G, rfl, hl, hc, hx⟩ := bag_cut c1 bg h
  exact ⟨L0, G, rfl, by omega, by rw [hl]; exact hc, by rw [hl]; exact hd, q L0 hl hx⟩
def S_some : DSp := fun ds L Q _ => ∃ b g n xs, ds = [.loc b, .loc n] ∧ Bag b g L ∧ n ≠ b ∧ n ≠ g ∧ L[n]? = some (.lst xs) ∧ xs ≠ [] ∧ xs.length ≤ 1000000 ∧ ∀ x ∈ xs, ∀ L0, L0.length = L.length → BagX b g L L0 → Q x L0
def gam_pk : Nat → DSp := fun _ => S_pick
theorem w__law_some {ds : List D} {L : LH} {Q : Post} {E : XP} (c1 : clL L.length L) (c2 : clDs L.length ds) (h : S_some ds L Q E) : wSs gam_pk m__law_some (endsOf L.length Q) (start0 n__law_some ds) L := by
  obtain ⟨b, g, n, xs, rfl, bg, hb, hg, hn, hx, hz, q⟩ := h
  simp only [m__law_some, n__law_some, wSs, wS, wSeq, wSkip, wRet, wRetN, wIf, wSet, wExp, wBrk, wCnt, wNever, wAsg, wPar, wSub, Bw.wE, wA, wB, wO, wCd, wLX, wIX, wAnd, wOr, Bw.wNot, wIte, asT, w1, w2, w1, wVar, wC, wTup, wLst, wMth, wMthl, wListOf, wL, wNew, wSlcL, wFor, iLx, iSq, wComp, wACons, wANil, wCall, wSlc, wNo, wSo, wChn, wBopN, CO.sem, BO.sem, F1.sem, FL.sem, OM.sem, gT, gSlot, start0, List.map_cons, List.map_nil, List.length_cons, List.length_nil, List.replicate_succ, List.replicate_zero, List.cons_append, List.nil_append, List.append_nil, List.getElem?_cons_zero, List.getElem?_cons_succ, List.set_cons_zero, List.set_cons_succ, Nat.sub_self, Nat.sub_zero, Nat.add_sub_cancel, Nat.reduceAdd, Nat.reduceSub, if_true, if_false, Bool.false_eq_true, Nat.zero_add, x_some, x_some1, x_bl, x_ix, x_len, x_eqStr, x_eqInt, x_eqBl, x_in, x_b2, x_i2, x_mul, x_addI, x_addT, x_int, x_abs, x_neg, at_0, at_1, at_2, at_3, at_m1, Bool.false_xor, Bool.true_xor, x_lenL hn]
  have hp : 0 < xs.length := List.length_pos_iff.mpr hx
  refine ⟨trivial, b, g, xs.length, rfl, bg, by omega, by omega, fun r L' h0 h1 hl bx => ?_⟩
  have hn' : L'[n]? = some (.lst xs) := by rw [bx.oth n (List.getElem?_eq_some_iff.mp hn).1 hb hg]; exact hn
  refine (x_ixL hn').2 ?_
  have hr : r.toNat < xs.length := by omega
  refine ⟨xs[r.toNat], ?_, ?_⟩
  · have := Bw.atI_nat xs r.toNat
    rw [show ((r.toNat : Nat) : Int) = r by omega] at this
    rw [this, List.getElem?_eq_getElem hr]
  · have hm : xs[r.toNat] ∈ xs := List.getElem_mem hr
    exact retB c1 bg bx (clDs_iff.1 (show clDs L.length xs from c1 _ (List.mem_of_getElem? hn)) _ hm) (q _ hm)
/-! flags -/
def S_flag : DSp := fun ds L Q _ => ∃ a b, ds = [.bl a, .bl b] ∧ Q (.bl (a == b)) L
theorem w__law_is_flag {Γ : Nat → DSp} {ds : List D} {L : LH} {Q : Post} {E : XP} (c1 : clL L.length L) (c2 : clDs L.length ds) (h : S_flag ds L Q E) : wSs Γ m__law_is_flag (endsOf L.length Q) (start0 n__law_is_flag ds) L := by
  obtain ⟨a, b, rfl, q⟩ := h
  have ht : tyD L (.bl a) = some "bool" := rfl
  simp only [m__law_is_flag, n__law_is_flag, wSs, wS, wSeq, wSkip, wRet, wRetN, wIf, wSet, wExp, wBrk, wCnt, wNever, wAsg, wPar, wSub, Bw.wE, wA, wB, wO, wCd, wLX, wIX, wAnd, wOr, Bw.wNot, wIte, asT, w1, w2, w1, wVar, wC, wTup, wLst, wMth, wMthl, wListOf, wL, wNew, wSlcL, wFor, iLx, iSq, wComp, wACons, wANil, wCall, wSlc, wNo, wSo, wChn, wBopN, CO.sem, BO.sem, F1.sem, FL.sem, OM.sem, gT, gSlot, start0, List.map_cons, List.map_nil, List.length_cons, List.length_nil, List.replicate_succ, List.replicate_zero, List.cons_append, List.nil_append, List.append_nil, List.getElem?_cons_zero, List.getElem?_cons_succ, List.set_cons_zero, List.set_cons_succ, Nat.sub_self, Nat.sub_zero, Nat.add_sub_cancel, Nat.reduceAdd, Nat.reduceSub, if_true, if_false, Bool.false_eq_true, Nat.zero_add, x_some, x_some1, x_bl, x_ix, x_len, x_eqStr, x_eqInt, x_eqBl, x_in, x_b2, x_i2, x_mul, x_addI, x_addT, x_int, x_abs, x_neg, at_0, at_1, at_2, at_3, at_m1, Bool.false_xor, Bool.true_xor, x_isi (T := "bool") (by decide) ht]
  rw [if_pos (by rfl)]
  exact is_ret c1 cl_bl q
/-- the same twice -/
def S_is (n : Nat) : DSp := fun ds L Q _ => ∃ d, ds = [d, d] ∧ siD d ∧ ddp d < n ∧ ddp d ≤ 60 ∧ dsz d ≤ 1000000 ∧ Q (.bl true) L
def gam_is (n : Nat) : Nat → DSp := fun _ => S_is n
theorem zip_self : ∀ {l : List D} {i : Nat} {p : D × D}, (l.zip l)[i]? = some p → p.1 = p.2 ∧ p.1 ∈ l
  | [], i, p, h => by simp at h
  | x :: l, 0, p, h => by simp at h; subst h; exact ⟨rfl, by simp⟩
  | x :: l, i + 1, p, h => by
    obtain ⟨h1, h2⟩ := zip_self (l := l) (i := i) (p := p) (by simpa using h)
    exact ⟨h1, by simp [h2]⟩
theorem isT_tup : (["tuple", "list"] : List String).any (isTy "tuple") = true := by decide
theorem isT_int : (["tuple", "list"] : List String).any (isTy "int") = false := by decide
theorem isT_str : (["tuple", "list"] : List String).any (isTy "str") = false := by decide
theorem x_isiT {Ts : List String} {d : D} {t : String} {L : LH} {Q : Post} (hl : Ts.length ≤ 8) (hT : ∀ T ∈ Ts, T ∈ ["bool", "int", "str", "tuple", "list", "dict"]) (ht : tyD L d = some t) : pIsiT Ts d L Q ↔ Q (.bl (Ts.any (isTy t))) L := by
  unfold pIsiT
  rw [ht]
  constructor
  · rintro ⟨_, _, t', e, q⟩; cases e; exact q
  · intro q; exact ⟨hl, hT, t, rfl, q⟩
theorem isT2 : ∀ T ∈ (["tuple", "list"] : List String), T ∈ ["bool", "int", "str", "tuple", "list", "dict"] := by decide
theorem w__law_is {n : Nat} {ds : List D} {L : LH} {Q : Post} {E : XP} (c1 : clL L.length L) (c2 : clDs L.length ds) (h : S_is (n + 1) ds L Q E) : wSs (gam_is n) m__law_is (endsOf L.length Q) (start0 n__law_is ds) L := by
  obtain ⟨d, rfl, sd, hn, h60, hz, q⟩ := h
  have leaf : (endsOf L.length Q).rt (.bl true) L := is_ret c1 cl_bl q
  cases d with
  | tup xs =>
    have ht : tyD L (.tup xs) = some "tuple" := rfl
    simp only [m__law_is, n__law_is, wSs, wS, wSeq, wSkip, wRet, wRetN, wIf, wSet, wExp, wBrk, wCnt, wNever, wAsg, wPar, wSub, Bw.wE, wA, wB, wO, wCd, wLX, wIX, wAnd, wOr, Bw.wNot, wIte, asT, w1, w2, w1, wVar, wC, wTup, wLst, wMth, wMthl, wListOf, wL, wNew, wSlcL, wFor, iLx, iSq, wComp, wACons, wANil, wCall, wSlc, wNo, wSo, wChn, wBopN, CO.sem, BO.sem, F1.sem, FL.sem, OM.sem, gT, gSlot, start0, List.map_cons, List.map_nil, List.length_cons, List.length_nil, List.replicate_succ, List.replicate_zero, List.cons_append, List.nil_append, List.append_nil, List.getElem?_cons_zero, List.getElem?_cons_succ, List.set_cons_zero, List.set_cons_succ, Nat.sub_self, Nat.sub_zero, Nat.add_sub_cancel, Nat.reduceAdd, Nat.reduceSub, if_true, if_false, Bool.false_eq_true, Nat.zero_add, x_some, x_some1, x_bl, x_ix, x_len, x_eqStr, x_eqInt, x_eqBl, x_in, x_b2, x_i2, x_mul, x_addI, x_addT, x_int, x_abs, x_neg, at_0, at_1, at_2, at_3, at_m1, Bool.false_xor, Bool.true_xor, x_isiT (Ts := ["tuple", "list"]) (by decide) isT2 ht, isT_tup, x_isi (T := "tuple") (by decide) ht, x_isi (T := "list") (by decide) ht, beq_self_eq_true, Bool.not_true, iZip2]
    refine .inl ⟨xs, xs, rfl, ?_⟩
    rw [zipD_prT]
    have hsz := dszs_len xs
    simp only [dsz] at hz
    simp only [ddp] at hn h60
    refine comp_run (fun i acc L' => L' = L ∧ acc = (List.replicate i true).map D.bl) ⟨rfl, rfl⟩ (fun _ _ _ _ => trivial) ?_ ?_
    · rintro i d acc L' K hd ⟨rfl, rfl⟩ hK
      have hi : i < (prT (xs.zip xs)).length := (List.getElem?_eq_some_iff.mp hd).1
      simp only [prT, List.length_map, List.length_zip, Nat.min_self] at hi
      simp only [prT, List.getElem?_map, Option.map_eq_some_iff] at hd
      obtain ⟨⟨x, y⟩, hxy, rfl⟩ := hd
      obtain ⟨e, hx⟩ := zip_self hxy
      simp only at e hx
      subst e
      unfold stepC
      refine ⟨[x, x], rfl, rfl, ?_⟩
      simp only [setAll, wipeR, wSs, wS, wSeq, wSkip, wRet, wRetN, wIf, wSet, wExp, wBrk, wCnt, wNever, wAsg, wPar, wSub, Bw.wE, wA, wB, wO, wCd, wLX, wIX, wAnd, wOr, Bw.wNot, wIte, asT, w1, w2, w1, wVar, wC, wTup, wLst, wMth, wMthl, wListOf, wL, wNew, wSlcL, wFor, iLx, iSq, wComp, wACons, wANil, wCall, wSlc, wNo, wSo, wChn, wBopN, CO.sem, BO.sem, F1.sem, FL.sem, OM.sem, gT, gSlot, start0, List.map_cons, List.map_nil, List.length_cons, List.length_nil, List.replicate_succ, List.replicate_zero, List.cons_append, List.nil_append, List.append_nil, List.getElem?_cons_zero, List.getElem?_cons_succ, List.set_cons_zero, List.set_cons_succ, Nat.sub_self, Nat.sub_zero, Nat.add_sub_cancel, Nat.reduceAdd, Nat.reduceSub, if_true, if_false, Bool.false_eq_true, Nat.zero_add, x_some, x_some1, x_bl, x_ix, x_len, x_eqStr, x_eqInt, x_eqBl, x_in, x_b2, x_i2, x_mul, x_addI, x_addT, x_int, x_abs, x_neg, at_0, at_1, at_2, at_3, at_m1, Bool.false_xor, Bool.true_xor]
      have h1 := ddps_mem hx
      have h2 := dszs_mem hx
      refine ⟨trivial, x, rfl, siDs_iff.1 (by simpa only [siD] using sd) x hx, by omega, by omega, by omega, by simp [size_line]; omega, ?_⟩
      exact hK _ _ ⟨rfl, by rw [List.replicate_succ']; simp⟩
    · rintro acc L' ⟨rfl, rfl⟩
      refine ⟨_, blsOf_map _, ?_⟩
      have : (List.replicate (prT (xs.zip xs)).length true).all id = true := by simp
      rw [this]; exact leaf
  | int i =>
    have ht : tyD L (.int i) = some "int" := rfl
    simp only [m__law_is, n__law_is, wSs, wS, wSeq, wSkip, wRet, wRetN, wIf, wSet, wExp, wBrk, wCnt, wNever, wAsg, wPar, wSub, Bw.wE, wA, wB, wO, wCd, wLX, wIX, wAnd, wOr, Bw.wNot, wIte, asT, w1, w2, w1, wVar, wC, wTup, wLst, wMth, wMthl, wListOf, wL, wNew, wSlcL, wFor, iLx, iSq, wComp, wACons, wANil, wCall, wSlc, wNo, wSo, wChn, wBopN, CO.sem, BO.sem, F1.sem, FL.sem, OM.sem, gT, gSlot, start0, List.map_cons, List.map_nil, List.length_cons, List.length_nil, List.replicate_succ, List.replicate_zero, List.cons_append, List.nil_append, List.append_nil, List.getElem?_cons_zero, List.getElem?_cons_succ, List.set_cons_zero, List.set_cons_succ, Nat.sub_self, Nat.sub_zero, Nat.add_sub_cancel, Nat.reduceAdd, Nat.reduceSub, if_true, if_false, Bool.false_eq_true, Nat.zero_add, x_some, x_some1, x_bl, x_ix, x_len, x_eqStr, x_eqInt, x_eqBl, x_in, x_b2, x_i2, x_mul, x_addI, x_addT, x_int, x_abs, x_neg, at_0, at_1, at_2, at_3, at_m1, Bool.false_xor, Bool.true_xor, x_isiT (Ts := ["tuple", "list"]) (by decide) isT2 ht, isT_int, x_isi (T := "bool") (by decide) ht, beq_self_eq_true]
    exact leaf
  | str s =>
    have ht : tyD L (.str s) = some "str" := rfl
    simp only [m__law_is, n__law_is, wSs, wS, wSeq, wSkip, wRet, wRetN, wIf, wSet, wExp, wBrk, wCnt, wNever, wAsg, wPar, wSub, Bw.wE, wA, wB, wO, wCd, wLX, wIX, wAnd, wOr, Bw.wNot, wIte, asT, w1, w2, w1, wVar, wC, wTup, wLst, wMth, wMthl, wListOf, wL, wNew, wSlcL, wFor, iLx, iSq, wComp, wACons, wANil, wCall, wSlc, wNo, wSo, wChn, wBopN, CO.sem, BO.sem, F1.sem, FL.sem, OM.sem, gT, gSlot, start0, List.map_cons, List.map_nil, List.length_cons, List.length_nil, List.replicate_succ, List.replicate_zero, List.cons_append, List.nil_append, List.append_nil, List.getElem?_cons_zero, List.getElem?_cons_succ, List.set_cons_zero, List.set_cons_succ, Nat.sub_self, Nat.sub_zero, Nat.add_sub_cancel, Nat.reduceAdd, Nat.reduceSub, if_true, if_false, Bool.false_eq_true, Nat.zero_add, x_some, x_some1, x_bl, x_ix, x_len, x_eqStr, x_eqInt, x_eqBl, x_in, x_b2, x_i2, x_mul, x_addI, x_addT, x_int, x_abs, x_neg, at_0, at_1, at_2, at_3, at_m1, Bool.false_xor, Bool.true_xor, x_isiT (Ts := ["tuple", "list"]) (by decide) isT2 ht, isT_str, x_isi (T := "bool") (by decide) ht, beq_self_eq_true]
    exact leaf
  | _ => exact sd.elim
/-! deep -/
def deepN : Nat → D
  | 0 => .tup []
  | n + 1 => .tup [deepN n]
def S_deep : DSp := fun ds L Q _ => ds = [] ∧ Q (deepN 40) L
theorem deep_si : ∀ n, siD (deepN n)
  | 0 => by simp only [deepN, siD, siDs]
  | n + 1 => by simp only [deepN, siD, siDs]; exact ⟨deep_si n, trivial⟩
theorem rangeD_len {a : Int} {n : Nat} : (rangeD a n).length = n := by simp [rangeD]
theorem w__law_deep {Γ : Nat → DSp} {ds : List D} {L : LH} {Q : Post} {E : XP} (c1 : clL L.length L) (c2 : clDs L.length ds) (h : S_deep ds L Q E) : wSs Γ m__law_deep (endsOf L.length Q) (start0 n__law_deep ds) L := by
  obtain ⟨rfl, q⟩ := h
  simp only [m__law_deep, n__law_deep, wSs, wS, wSeq, wSkip, wRet, wRetN, wIf, wSet, wExp, wBrk, wCnt, wNever, wAsg, wPar, wSub, Bw.wE, wA, wB, wO, wCd, wLX, wIX, wAnd, wOr, Bw.wNot, wIte, asT, w1, w2, w1, wVar, wC, wTup, wLst, wMth, wMthl, wListOf, wL, wNew, wSlcL, wFor, iLx, iSq, wComp, wACons, wANil, wCall, wSlc, wNo, wSo, wChn, wBopN, CO.sem, BO.sem, F1.sem, FL.sem, OM.sem, gT, gSlot, start0, List.map_cons, List.map_nil, List.length_cons, List.length_nil, List.replicate_succ, List.replicate_zero, List.cons_append, List.nil_append, List.append_nil, List.getElem?_cons_zero, List.getElem?_cons_succ, List.set_cons_zero, List.set_cons_succ, Nat.sub_self, Nat.sub_zero, Nat.add_sub_cancel, Nat.reduceAdd, Nat.reduceSub, if_true, if_false, Bool.false_eq_true, Nat.zero_add, x_some, x_some1, x_bl, x_ix, x_len, x_eqStr, x_eqInt, x_eqBl, x_in, x_b2, x_i2, x_mul, x_addI, x_addT, x_int, x_abs, x_neg, at_0, at_1, at_2, at_3, at_m1, Bool.false_xor, Bool.true_xor, iRange1]
  refine ⟨sz_small (by omega), 40, rfl, by decide, by decide, ?_⟩
  refine for_run (fun i ρ L' => L' = L ∧ ∃ h, ρ = [some (deepN i), h]) ⟨rfl, none, rfl⟩ (fun _ _ _ _ => trivial) ?_ ?_
  · rintro i d ρ L' K hd ⟨rfl, h, rfl⟩ hK
    simp only [wSs, wS, wSeq, wSkip, wRet, wRetN, wIf, wSet, wExp, wBrk, wCnt, wNever, wAsg, wPar, wSub, Bw.wE, wA, wB, wO, wCd, wLX, wIX, wAnd, wOr, Bw.wNot, wIte, asT, w1, w2, w1, wVar, wC, wTup, wLst, wMth, wMthl, wListOf, wL, wNew, wSlcL, wFor, iLx, iSq, wComp, wACons, wANil, wCall, wSlc, wNo, wSo, wChn, wBopN, CO.sem, BO.sem, F1.sem, FL.sem, OM.sem, gT, gSlot, start0, List.map_cons, List.map_nil, List.length_cons, List.length_nil, List.replicate_succ, List.replicate_zero, List.cons_append, List.nil_append, List.append_nil, List.getElem?_cons_zero, List.getElem?_cons_succ, List.set_cons_zero, List.set_cons_succ, Nat.sub_self, Nat.sub_zero, Nat.add_sub_cancel, Nat.reduceAdd, Nat.reduceSub, if_true, if_false, Bool.false_eq_true, Nat.zero_add, x_some, x_some1, x_bl, x_ix, x_len, x_eqStr, x_eqInt, x_eqBl, x_in, x_b2, x_i2, x_mul, x_addI, x_addT, x_int, x_abs, x_neg, at_0, at_1, at_2, at_3, at_m1, Bool.false_xor, Bool.true_xor]
    exact ⟨sz_small (by omega), hK _ _ ⟨rfl, _, rfl⟩⟩
  · rintro ρ L' ⟨rfl, h, rfl⟩
    simp only [wSs, wS, wSeq, wSkip, wRet, wRetN, wIf, wSet, wExp, wBrk, wCnt, wNever, wAsg, wPar, wSub, Bw.wE, wA, wB, wO, wCd, wLX, wIX, wAnd, wOr, Bw.wNot, wIte, asT, w1, w2, w1, wVar, wC, wTup, wLst, wMth, wMthl, wListOf, wL, wNew, wSlcL, wFor, iLx, iSq, wComp, wACons, wANil, wCall, wSlc, wNo, wSo, wChn, wBopN, CO.sem, BO.sem, F1.sem, FL.sem, OM.sem, gT, gSlot, start0, List.map_cons, List.map_nil, List.length_cons, List.length_nil, List.replicate_succ, List.replicate_zero, List.cons_append, List.nil_append, List.append_nil, List.getElem?_cons_zero, List.getElem?_cons_succ, List.set_cons_zero, List.set_cons_succ, Nat.sub_self, Nat.sub_zero, Nat.add_sub_cancel, Nat.reduceAdd, Nat.reduceSub, if_true, if_false, Bool.false_eq_true, Nat.zero_add, x_some, x_some1, x_bl, x_ix, x_len, x_eqStr, x_eqInt, x_eqBl, x_in, x_b2, x_i2, x_mul, x_addI, x_addT, x_int, x_abs, x_neg, at_0, at_1, at_2, at_3, at_m1, Bool.false_xor, Bool.true_xor]
    exact is_ret c1 (pure_cl (si_pure (deep_si _))) (by rw [rangeD_len]; exact q)
end K01
end
section
set_option linter.all false
set_option maxRecDepth 100000
set_option maxHeartbeats 4000000
namespace K01
open PySem Bw
def fz : Nat → Nat
  | 0 => 0
  | n + 1 => 4 + 3 * fz n
structure AK (n m : Nat) (d : D) : Prop where
  k : kdp n d
  b : below m d
  z : dsz d ≤ fz n
  d : ddp d ≤ 2 * n
theorem fz_pos {n : Nat} (h : 1 ≤ n) : 4 ≤ fz n := by
  cases n with
  | zero => omega
  | succ n => simp only [fz]; omega
theorem AK.up {n m : Nat} {d : D} (h : AK n m d) : AK (n + 1) m d := ⟨kdp_mono (by omega) h.k, h.b, by have := h.z; simp only [fz]; omega, by have := h.d; omega⟩
theorem below_of {m : Nat} {d : D} (f : Frm d) (hl : isLet d = false) (h : ∀ x ∈ innerD d, below m x) : below m d := fun i hi => by
  rw [nodesD_eq, letL, List.filterMap_cons, ltr_none hl] at hi
  obtain ⟨y, hy, e⟩ := List.mem_filterMap.mp hi
  obtain ⟨x, hx, hy⟩ := List.mem_flatMap.mp hy
  exact h x hx i (List.mem_filterMap.mpr ⟨y, hy, e⟩)
theorem dszs_bd {c : Nat} : ∀ {l : List D}, (∀ x ∈ l, dsz x ≤ c) → dszs l ≤ l.length * c
  | [], _ => by simp [dszs]
  | x :: l, h => by
    have := h x (by simp)
    have := dszs_bd (l := l) fun y hy => h y (by simp [hy])
    simp only [dszs, List.length_cons, Nat.succ_mul]; omega
theorem ak_of {n m : Nat} {d : D} (f : Frm d) (hl : isLet d = false) (h : ∀ x ∈ innerD d, AK n m x) (hz : dsz d ≤ fz (n + 1)) (hd : ddp d ≤ 2 * (n + 1)) : AK (n + 1) m d :=
  ⟨⟨f, fun x hx => (h x hx).k⟩, below_of f hl fun x hx => (h x hx).b, hz, hd⟩
theorem ak_num {n m : Nat} : AK (n + 1) m (.tup [.str "num"]) := ak_of .num (by decide) (by simp [i_num]) (by simp only [dsz, dszs, fz]; omega) (by simp only [ddp, ddps]; omega)
theorem ak_nil {n m : Nat} : AK (n + 1) m (.tup [.str "nil"]) := ak_of .nil (by decide) (by simp [i_nil]) (by simp only [dsz, dszs, fz]; omega) (by simp only [ddp, ddps]; omega)
theorem ak_letter {n m : Nat} {i : Int} (h0 : 0 ≤ i) (h1 : i < m) : AK (n + 1) m (.tup [.str "letter", .int i]) :=
  ⟨⟨.letter i h0, by simp [i_letter]⟩, fun j hj => by
    rw [nodesD_eq, letL, List.filterMap_cons, i_letter] at hj
    have : ltrI (.tup [.str "letter", .int i]) = some i := by simp [ltrI]
    rw [this] at hj; simp at hj; omega, by simp only [dsz, dszs, fz]; omega, by simp only [ddp, ddps]; omega⟩
theorem ak_row {n m : Nat} {ks : List D} (h1 : 1 ≤ ks.length) (h2 : ks.length ≤ 3) (h : ∀ x ∈ ks, AK n m x) : AK (n + 1) m (.tup [.str "row", .tup ks]) := by
  have a := dszs_bd (l := ks) (c := fz n) fun x hx => (h x hx).z
  have b := ddps_le (a := ks) (n := 2 * n) fun x hx => (h x hx).d
  have c : ks.length * fz n ≤ 3 * fz n := Nat.mul_le_mul_right _ h2
  exact ak_of (.row ks h1 (by omega)) (by simp only [isLet]; decide) (by rw [i_row]; exact h) (by simp only [dsz, dszs, fz]; omega) (by simp only [ddp, ddps]; omega)
theorem ak_data {n m : Nat} {i : Int} {ks : List D} (h0 : 0 ≤ i) (h2 : ks.length ≤ 2) (h : ∀ x ∈ ks, AK n m x) : AK (n + 1) m (.tup [.str "data", .int i, .tup ks]) := by
  have a := dszs_bd (l := ks) (c := fz n) fun x hx => (h x hx).z
  have b := ddps_le (a := ks) (n := 2 * n) fun x hx => (h x hx).d
  have c : ks.length * fz n ≤ 2 * fz n := Nat.mul_le_mul_right _ h2
  exact ak_of (.data i ks h0) (by simp only [isLet]; decide) (by rw [i_data]; exact h) (by simp only [dsz, dszs, fz]; omega) (by simp only [ddp, ddps]; omega)
theorem ak_fn {n m : Nat} {k : D} {ks : List D} (h1 : 1 ≤ ks.length) (h2 : ks.length ≤ 2) (h : ∀ x ∈ ks, AK n m x) (hk : AK n m k) : AK (n + 1) m (.tup [.str "fun", .tup ks, k]) := by
  have a := dszs_bd (l := ks) (c := fz n) fun x hx => (h x hx).z
  have b := ddps_le (a := ks) (n := 2 * n) fun x hx => (h x hx).d
  have c : ks.length * fz n ≤ 2 * fz n := Nat.mul_le_mul_right _ h2
  have e := hk.z
  have e2 := hk.d
  exact ak_of (.fn ks k h1 (by omega)) (by simp only [isLet]; decide) (by rw [i_fn]; exact fun x hx => (List.mem_append.mp hx).elim (h x) fun z => by rw [List.mem_singleton.mp z]; exact hk) (by simp only [dsz, dszs, fz]; omega) (by simp only [ddp, ddps]; omega)
theorem ak_box {n m : Nat} {k : D} (hk : AK n m k) : AK (n + 1) m (.tup [.str "box", k]) := by
  have e := hk.z
  have e2 := hk.d
  exact ak_of (.box k) (by simp only [isLet]; decide) (by rw [i_box]; exact fun x hx => by rw [List.mem_singleton.mp hx]; exact hk) (by simp only [dsz, dszs, fz]; omega) (by simp only [ddp, ddps]; omega)
def S_any (n : Nat) : DSp := fun ds L Q _ => ∃ (b g : Nat) (k : Int) (m : Nat), ds = [.loc b, .int k, .int m] ∧ Bag b g L ∧ 1 ≤ k ∧ k ≤ n ∧ m ≤ 1000 ∧ ∀ d L0, AK n m d → L0.length = L.length → BagX b g L L0 → Q d L0
def gam_any (n : Nat) : Nat → DSp
  | 0 => S_any n
  | 1 => S_pick
  | _ => S_some
/-- the children -/
theorem any_comp {n m b g : Nat} {k : Int} {w h : D} {o : Option D} {z : Option D} {L L' : LH} {c : Nat} {R : List D → LH → Prop} (bx : BagX b g L L') (hk : 1 ≤ k - 1) (hn : k - 1 ≤ n) (hm : m ≤ 1000) (hc : c ≤ 100)
    (hR : ∀ ks L2, ks.length = c → (∀ x ∈ ks, AK n m x) → BagX b g L L2 → R ks L2) :
    compL (gT (.one 5)) (wCd (gam_any n) .no) (Bw.wE (gam_any n) (.call 0 3 (.cons (.var 0) (.cons (.bin .sub (.var 1) (.cst (.int 1))) (.cons (.var 2) .nil))))) [some (.loc b), some (.int k), some (.int m), some w, o, none] (fun _ => True) (rangeD 0 c) [] L' R := by
  refine comp_run (fun i acc L2 => acc.length = i ∧ (∀ x ∈ acc, AK n m x) ∧ BagX b g L L2) ⟨rfl, by simp, bx⟩ (fun _ _ _ _ => trivial) ?_ ?_
  · rintro i d acc L2 K hd ⟨hl, ha, bx2⟩ hK
    have hi : i < c := by have := (List.getElem?_eq_some_iff.mp hd).1; rwa [rangeD_len] at this
    unfold stepC
    simp only [wipeR, wSs, wS, wSeq, wSkip, wRet, wRetN, wIf, wSet, wExp, wBrk, wCnt, wNever, wAsg, wPar, wSub, Bw.wE, wA, wB, wO, wCd, wLX, wIX, wAnd, wOr, Bw.wNot, wIte, asT, w1, w2, w1, wVar, wC, wTup, wLst, wMth, wMthl, wListOf, wL, wNew, wSlcL, wFor, iLx, iSq, wComp, wACons, wANil, wCall, wSlc, wNo, wSo, wChn, wBopN, CO.sem, BO.sem, F1.sem, FL.sem, OM.sem, gT, gSlot, start0, List.map_cons, List.map_nil, List.length_cons, List.length_nil, List.replicate_succ, List.replicate_zero, List.cons_append, List.nil_append, List.append_nil, List.getElem?_cons_zero, List.getElem?_cons_succ, List.set_cons_zero, List.set_cons_succ, Nat.sub_self, Nat.sub_zero, Nat.add_sub_cancel, Nat.reduceAdd, Nat.reduceSub, if_true, if_false, Bool.false_eq_true, Nat.zero_add, x_some, x_some1, x_bl, x_ix, x_len, x_eqStr, x_eqInt, x_eqBl, x_in, x_b2, x_i2, x_mul, x_addI, x_addT, x_int, x_abs, x_neg, at_0, at_1, at_2, at_3, at_m1, Bool.false_xor, Bool.true_xor]
    refine ⟨trivial, trivial, b, g, k - 1, m, rfl, bx2.bag, hk, hn, hm, fun x L3 ax hl3 bx3 => ⟨by rw [size_line]; omega, hK _ _ ⟨by simp [hl], fun y hy => ?_, bx2.trans bx3⟩⟩⟩
    rcases List.mem_append.mp hy with hy | hy
    · exact ha y hy
    · rw [List.mem_singleton.mp hy]; exact ax
  · rintro acc L2 ⟨hl, ha, bx2⟩
    rw [rangeD_len] at hl
    exact hR acc L2 hl ha bx2
theorem word9 {x : D} (h : x ∈ [D.str "num", D.str "nil", D.str "letter", D.str "row", D.str "data", D.str "fun", D.str "box", D.str "row", D.str "box"]) :
    x = .str "num" ∨ x = .str "nil" ∨ x = .str "letter" ∨ x = .str "row" ∨ x = .str "data" ∨ x = .str "fun" ∨ x = .str "box" := by
  simp only [List.mem_cons, List.not_mem_nil, or_false] at h
  rcases h with h | h | h | h | h | h | h | h | h <;> simp [h]
end K01
end
section
set_option linter.all false
set_option maxRecDepth 100000
set_option maxHeartbeats 4000000
namespace K01
open PySem Bw
theorem all_flat3 {a b c : Str} : [D.str a, D.str b, D.str c].all flatD = true := rfl
theorem in_three {h a b c : Str} : inD (.str h) [.str a, .str b, .str c] = (decide (h = a) || (decide (h = b) || decide (h = c))) := by
  simp only [inD, List.any_cons, List.any_nil, eqF, Bool.or_false]
  have e : ∀ x y : Str, (x == y) = decide (y = x) := fun x y => by
    by_cases z : y = x
    · subst z; simp
    · simp [z, Ne.symm z]
  rw [e, e, e]
theorem ak_pure {n m : Nat} {d : D} (h : AK n m d) : pureD d := si_pure (kindsi (kdp_kind h.k))
theorem w__law_any_kind {n : Nat} {ds : List D} {L : LH} {Q : Post} {E : XP} (c1 : clL L.length L) (c2 : clDs L.length ds) (h : S_any (n + 1) ds L Q E) : wSs (gam_any n) m__law_any_kind (endsOf L.length Q) (start0 n__law_any_kind ds) L := by
  obtain ⟨b, g, k, m, rfl, bg, hk, hn, hm, q⟩ := h
  obtain ⟨lb, lg⟩ := bg.lt
  have leaf : ∀ d L', AK (n + 1) m d → BagX b g L L' → (endsOf L.length Q).rt d L' := fun d L' a bx => retB c1 bg bx (pure_cl (ak_pure a)) fun L0 h1 h2 => q d L0 a h1 h2
  simp only [m__law_any_kind, n__law_any_kind, wSs, wS, wSeq, wSkip, wRet, wRetN, wIf, wSet, wExp, wBrk, wCnt, wNever, wAsg, wPar, wSub, Bw.wE, wA, wB, wO, wCd, wLX, wIX, wAnd, wOr, Bw.wNot, wIte, asT, w1, w2, w1, wVar, wC, wTup, wLst, wMth, wMthl, wListOf, wL, wNew, wSlcL, wFor, iLx, iSq, wComp, wACons, wANil, wCall, wSlc, wNo, wSo, wChn, wBopN, CO.sem, BO.sem, F1.sem, FL.sem, OM.sem, gT, gSlot, start0, List.map_cons, List.map_nil, List.length_cons, List.length_nil, List.replicate_succ, List.replicate_zero, List.cons_append, List.nil_append, List.append_nil, List.getElem?_cons_zero, List.getElem?_cons_succ, List.set_cons_zero, List.set_cons_succ, Nat.sub_self, Nat.sub_zero, Nat.add_sub_cancel, Nat.reduceAdd, Nat.reduceSub, if_true, if_false, Bool.false_eq_true, Nat.zero_add, x_some, x_some1, x_bl, x_ix, x_len, x_eqStr, x_eqInt, x_eqBl, x_in, x_b2, x_i2, x_mul, x_addI, x_addT, x_int, x_abs, x_neg, at_0, at_1, at_2, at_3, at_m1, Bool.false_xor, Bool.true_xor, iRange1, lTup]
  refine ⟨sz_small (by omega), trivial, b, g, L.length, _, rfl, bg.app, by omega, by omega, cell_last, by simp, by simp, fun x hx L1 hl1 bx1 => ?_⟩
  have bx : BagX b g L L1 := bg.xapp.trans bx1
  have i3 : ∀ (s : Str) (v : Bool) (R : Post), (decide (s = "num") || (decide (s = "nil") || decide (s = "letter"))) = v → R (.bl v) (L1 ++ [.lst [.str "num", .str "nil", .str "letter"]]) → pIn false (.str s) (.loc L1.length) (L1 ++ [.lst [.str "num", .str "nil", .str "letter"]]) R := fun s v R e r =>
    x_inL cell_last rfl all_flat3 (by rw [in_three, Bool.false_xor, e]; exact r)
  have bx2 : BagX b g L (L1 ++ [.lst [.str "num", .str "nil", .str "letter"]]) := bx.trans bx.bag.xapp
  have s1 : (1 : Nat) ≤ sizeLine := sz_small (by omega)
  have s2 : (2 : Nat) ≤ sizeLine := sz_small (by omega)
  have s3 : (3 : Nat) ≤ sizeLine := sz_small (by omega)
  have hx0 := hx
  clear hx bx1 hl1
  -- a leaf
  have small : ∀ (w : Str) (A B : Prop), (k < 2 → A) → (¬ k < 2 → B) → if decide (k < 2) = true then A else B := fun w A B ha hb => by
    by_cases e : k < 2
    · rw [if_pos (by simpa using e)]; exact ha e
    · rw [if_neg (by simpa using e)]; exact hb e
  rcases word9 hx0 with rfl | rfl | rfl | rfl | rfl | rfl | rfl
  · simp only [start0, List.map_cons, List.map_nil, List.length_cons, List.length_nil, List.replicate_succ, List.replicate_zero, List.cons_append, List.nil_append, List.append_nil, List.getElem?_cons_zero, List.getElem?_cons_succ, List.set_cons_zero, List.set_cons_succ, Nat.sub_self, Nat.sub_zero, Nat.add_sub_cancel, Nat.reduceAdd, Nat.reduceSub, if_true, if_false, Bool.false_eq_true, Nat.zero_add, x_some, x_some1, x_bl, x_ix, x_len, x_eqStr, x_eqInt, x_eqBl, x_in, x_b2, x_i2, x_mul, x_addI, x_addT, x_int, x_abs, x_neg, at_0, at_1, at_2, at_3, at_m1, Bool.false_xor, Bool.true_xor, e_num_num, e_num_nil, e_num_row, e_num_data, e_num_fun, e_num_letter, e_num_box, e_nil_num, e_nil_nil, e_nil_row, e_nil_data, e_nil_fun, e_nil_letter, e_nil_box, e_row_num, e_row_nil, e_row_row, e_row_data, e_row_fun, e_row_letter, e_row_box, e_data_num, e_data_nil, e_data_row, e_data_data, e_data_fun, e_data_letter, e_data_box, e_fun_num, e_fun_nil, e_fun_row, e_fun_data, e_fun_fun, e_fun_letter, e_fun_box, e_letter_num, e_letter_nil, e_letter_row, e_letter_data, e_letter_fun, e_letter_letter, e_letter_box, e_box_num, e_box_nil, e_box_row, e_box_data, e_box_fun, e_box_letter, e_box_box]
    refine small "" _ _ (fun _ => ⟨s1, leaf _ _ ak_num bx⟩) fun _ => ⟨s3, i3 _ true _ (by simp) ⟨_, rfl, ?_⟩⟩
    rw [if_pos rfl]; exact ⟨s1, leaf _ _ ak_num bx2⟩
  · simp only [start0, List.map_cons, List.map_nil, List.length_cons, List.length_nil, List.replicate_succ, List.replicate_zero, List.cons_append, List.nil_append, List.append_nil, List.getElem?_cons_zero, List.getElem?_cons_succ, List.set_cons_zero, List.set_cons_succ, Nat.sub_self, Nat.sub_zero, Nat.add_sub_cancel, Nat.reduceAdd, Nat.reduceSub, if_true, if_false, Bool.false_eq_true, Nat.zero_add, x_some, x_some1, x_bl, x_ix, x_len, x_eqStr, x_eqInt, x_eqBl, x_in, x_b2, x_i2, x_mul, x_addI, x_addT, x_int, x_abs, x_neg, at_0, at_1, at_2, at_3, at_m1, Bool.false_xor, Bool.true_xor, e_num_num, e_num_nil, e_num_row, e_num_data, e_num_fun, e_num_letter, e_num_box, e_nil_num, e_nil_nil, e_nil_row, e_nil_data, e_nil_fun, e_nil_letter, e_nil_box, e_row_num, e_row_nil, e_row_row, e_row_data, e_row_fun, e_row_letter, e_row_box, e_data_num, e_data_nil, e_data_row, e_data_data, e_data_fun, e_data_letter, e_data_box, e_fun_num, e_fun_nil, e_fun_row, e_fun_data, e_fun_fun, e_fun_letter, e_fun_box, e_letter_num, e_letter_nil, e_letter_row, e_letter_data, e_letter_fun, e_letter_letter, e_letter_box, e_box_num, e_box_nil, e_box_row, e_box_data, e_box_fun, e_box_letter, e_box_box]
    refine small "" _ _ (fun _ => ⟨s1, leaf _ _ ak_nil bx⟩) fun _ => ⟨s3, i3 _ true _ (by simp) ⟨_, rfl, ?_⟩⟩
    rw [if_pos rfl]; exact ⟨s1, leaf _ _ ak_nil bx2⟩
  · simp only [start0, List.map_cons, List.map_nil, List.length_cons, List.length_nil, List.replicate_succ, List.replicate_zero, List.cons_append, List.nil_append, List.append_nil, List.getElem?_cons_zero, List.getElem?_cons_succ, List.set_cons_zero, List.set_cons_succ, Nat.sub_self, Nat.sub_zero, Nat.add_sub_cancel, Nat.reduceAdd, Nat.reduceSub, if_true, if_false, Bool.false_eq_true, Nat.zero_add, x_some, x_some1, x_bl, x_ix, x_len, x_eqStr, x_eqInt, x_eqBl, x_in, x_b2, x_i2, x_mul, x_addI, x_addT, x_int, x_abs, x_neg, at_0, at_1, at_2, at_3, at_m1, Bool.false_xor, Bool.true_xor, e_num_num, e_num_nil, e_num_row, e_num_data, e_num_fun, e_num_letter, e_num_box, e_nil_num, e_nil_nil, e_nil_row, e_nil_data, e_nil_fun, e_nil_letter, e_nil_box, e_row_num, e_row_nil, e_row_row, e_row_data, e_row_fun, e_row_letter, e_row_box, e_data_num, e_data_nil, e_data_row, e_data_data, e_data_fun, e_data_letter, e_data_box, e_fun_num, e_fun_nil, e_fun_row, e_fun_data, e_fun_fun, e_fun_letter, e_fun_box, e_letter_num, e_letter_nil, e_letter_row, e_letter_data, e_letter_fun, e_letter_letter, e_letter_box, e_box_num, e_box_nil, e_box_row, e_box_data, e_box_fun, e_box_letter, e_box_box]
    by_cases e : (0 : Int) < m
    · rw [if_pos (by simpa using e)]
      refine ⟨trivial, b, g, m, rfl, bx.bag, e, by omega, fun r L2 h0 h1 _ bx3 => ⟨s2, leaf _ _ (ak_letter h0 h1) (bx.trans bx3)⟩⟩
    · rw [if_neg (by simpa using e)]
      refine small "" _ _ (fun _ => ⟨s1, leaf _ _ ak_num bx⟩) fun _ => ⟨s3, i3 _ true _ (by simp) ⟨_, rfl, ?_⟩⟩
      rw [if_pos rfl]; exact ⟨s1, leaf _ _ ak_num bx2⟩
  · simp only [start0, List.map_cons, List.map_nil, List.length_cons, List.length_nil, List.replicate_succ, List.replicate_zero, List.cons_append, List.nil_append, List.append_nil, List.getElem?_cons_zero, List.getElem?_cons_succ, List.set_cons_zero, List.set_cons_succ, Nat.sub_self, Nat.sub_zero, Nat.add_sub_cancel, Nat.reduceAdd, Nat.reduceSub, if_true, if_false, Bool.false_eq_true, Nat.zero_add, x_some, x_some1, x_bl, x_ix, x_len, x_eqStr, x_eqInt, x_eqBl, x_in, x_b2, x_i2, x_mul, x_addI, x_addT, x_int, x_abs, x_neg, at_0, at_1, at_2, at_3, at_m1, Bool.false_xor, Bool.true_xor, e_num_num, e_num_nil, e_num_row, e_num_data, e_num_fun, e_num_letter, e_num_box, e_nil_num, e_nil_nil, e_nil_row, e_nil_data, e_nil_fun, e_nil_letter, e_nil_box, e_row_num, e_row_nil, e_row_row, e_row_data, e_row_fun, e_row_letter, e_row_box, e_data_num, e_data_nil, e_data_row, e_data_data, e_data_fun, e_data_letter, e_data_box, e_fun_num, e_fun_nil, e_fun_row, e_fun_data, e_fun_fun, e_fun_letter, e_fun_box, e_letter_num, e_letter_nil, e_letter_row, e_letter_data, e_letter_fun, e_letter_letter, e_letter_box, e_box_num, e_box_nil, e_box_row, e_box_data, e_box_fun, e_box_letter, e_box_box]
    refine small "" _ _ (fun _ => ⟨s1, leaf _ _ ak_num bx⟩) fun hk2 => ⟨s3, i3 _ false _ (by decide) ⟨_, rfl, ?_⟩⟩
    rw [if_neg (by simp)]
    refine ⟨trivial, b, g, 3, rfl, bx2.bag, by decide, by decide, fun r L3 h0 h1 _ bx3 => ⟨_, rfl, by omega, by omega, ?_⟩⟩
    exact any_comp (c := (1 + r).toNat) (w := .str "row") (h := .non) (z := none) (bx2.trans bx3) (by omega) (by omega) hm (by omega) fun ks L4 hl ha bx4 => ⟨s2, leaf _ _ (ak_row (by omega) (by omega) ha) bx4⟩
  · simp only [start0, List.map_cons, List.map_nil, List.length_cons, List.length_nil, List.replicate_succ, List.replicate_zero, List.cons_append, List.nil_append, List.append_nil, List.getElem?_cons_zero, List.getElem?_cons_succ, List.set_cons_zero, List.set_cons_succ, Nat.sub_self, Nat.sub_zero, Nat.add_sub_cancel, Nat.reduceAdd, Nat.reduceSub, if_true, if_false, Bool.false_eq_true, Nat.zero_add, x_some, x_some1, x_bl, x_ix, x_len, x_eqStr, x_eqInt, x_eqBl, x_in, x_b2, x_i2, x_mul, x_addI, x_addT, x_int, x_abs, x_neg, at_0, at_1, at_2, at_3, at_m1, Bool.false_xor, Bool.true_xor, e_num_num, e_num_nil, e_num_row, e_num_data, e_num_fun, e_num_letter, e_num_box, e_nil_num, e_nil_nil, e_nil_row, e_nil_data, e_nil_fun, e_nil_letter, e_nil_box, e_row_num, e_row_nil, e_row_row, e_row_data, e_row_fun, e_row_letter, e_row_box, e_data_num, e_data_nil, e_data_row, e_data_data, e_data_fun, e_data_letter, e_data_box, e_fun_num, e_fun_nil, e_fun_row, e_fun_data, e_fun_fun, e_fun_letter, e_fun_box, e_letter_num, e_letter_nil, e_letter_row, e_letter_data, e_letter_fun, e_letter_letter, e_letter_box, e_box_num, e_box_nil, e_box_row, e_box_data, e_box_fun, e_box_letter, e_box_box]
    refine small "" _ _ (fun _ => ⟨s1, leaf _ _ ak_num bx⟩) fun hk2 => ⟨s3, i3 _ false _ (by decide) ⟨_, rfl, ?_⟩⟩
    rw [if_neg (by simp)]
    refine ⟨trivial, b, g, 3, rfl, bx2.bag, by decide, by decide, fun r L3 h0 h1 _ bx3 => ⟨_, rfl, by omega, by omega, ?_⟩⟩
    exact any_comp (c := r.toNat) (w := .str "data") (h := .non) (z := none) (bx2.trans bx3) (by omega) (by omega) hm (by omega) fun ks L4 hl ha bx4 => ⟨trivial, b, g, 7, rfl, bx4.bag, by decide, by decide, fun i L5 hi0 hi1 _ bx5 => ⟨s3, leaf _ _ (ak_data hi0 (by omega) ha) (bx4.trans bx5)⟩⟩
  · simp only [start0, List.map_cons, List.map_nil, List.length_cons, List.length_nil, List.replicate_succ, List.replicate_zero, List.cons_append, List.nil_append, List.append_nil, List.getElem?_cons_zero, List.getElem?_cons_succ, List.set_cons_zero, List.set_cons_succ, Nat.sub_self, Nat.sub_zero, Nat.add_sub_cancel, Nat.reduceAdd, Nat.reduceSub, if_true, if_false, Bool.false_eq_true, Nat.zero_add, x_some, x_some1, x_bl, x_ix, x_len, x_eqStr, x_eqInt, x_eqBl, x_in, x_b2, x_i2, x_mul, x_addI, x_addT, x_int, x_abs, x_neg, at_0, at_1, at_2, at_3, at_m1, Bool.false_xor, Bool.true_xor, e_num_num, e_num_nil, e_num_row, e_num_data, e_num_fun, e_num_letter, e_num_box, e_nil_num, e_nil_nil, e_nil_row, e_nil_data, e_nil_fun, e_nil_letter, e_nil_box, e_row_num, e_row_nil, e_row_row, e_row_data, e_row_fun, e_row_letter, e_row_box, e_data_num, e_data_nil, e_data_row, e_data_data, e_data_fun, e_data_letter, e_data_box, e_fun_num, e_fun_nil, e_fun_row, e_fun_data, e_fun_fun, e_fun_letter, e_fun_box, e_letter_num, e_letter_nil, e_letter_row, e_letter_data, e_letter_fun, e_letter_letter, e_letter_box, e_box_num, e_box_nil, e_box_row, e_box_data, e_box_fun, e_box_letter, e_box_box]
    refine small "" _ _ (fun _ => ⟨s1, leaf _ _ ak_num bx⟩) fun hk2 => ⟨s3, i3 _ false _ (by decide) ⟨_, rfl, ?_⟩⟩
    rw [if_neg (by simp)]
    refine ⟨trivial, b, g, 2, rfl, bx2.bag, by decide, by decide, fun r L3 h0 h1 _ bx3 => ⟨_, rfl, by omega, by omega, ?_⟩⟩
    exact any_comp (c := (1 + r).toNat) (w := .str "fun") (h := .non) (z := none) (bx2.trans bx3) (by omega) (by omega) hm (by omega) fun ks L4 hl ha bx4 => ⟨trivial, trivial, b, g, k - 1, m, rfl, bx4.bag, by omega, by omega, hm, fun x L5 ax _ bx5 => ⟨s3, leaf _ _ (ak_fn (by omega) (by omega) ha ax) (bx4.trans bx5)⟩⟩
  · simp only [start0, List.map_cons, List.map_nil, List.length_cons, List.length_nil, List.replicate_succ, List.replicate_zero, List.cons_append, List.nil_append, List.append_nil, List.getElem?_cons_zero, List.getElem?_cons_succ, List.set_cons_zero, List.set_cons_succ, Nat.sub_self, Nat.sub_zero, Nat.add_sub_cancel, Nat.reduceAdd, Nat.reduceSub, if_true, if_false, Bool.false_eq_true, Nat.zero_add, x_some, x_some1, x_bl, x_ix, x_len, x_eqStr, x_eqInt, x_eqBl, x_in, x_b2, x_i2, x_mul, x_addI, x_addT, x_int, x_abs, x_neg, at_0, at_1, at_2, at_3, at_m1, Bool.false_xor, Bool.true_xor, e_num_num, e_num_nil, e_num_row, e_num_data, e_num_fun, e_num_letter, e_num_box, e_nil_num, e_nil_nil, e_nil_row, e_nil_data, e_nil_fun, e_nil_letter, e_nil_box, e_row_num, e_row_nil, e_row_row, e_row_data, e_row_fun, e_row_letter, e_row_box, e_data_num, e_data_nil, e_data_row, e_data_data, e_data_fun, e_data_letter, e_data_box, e_fun_num, e_fun_nil, e_fun_row, e_fun_data, e_fun_fun, e_fun_letter, e_fun_box, e_letter_num, e_letter_nil, e_letter_row, e_letter_data, e_letter_fun, e_letter_letter, e_letter_box, e_box_num, e_box_nil, e_box_row, e_box_data, e_box_fun, e_box_letter, e_box_box]
    refine small "" _ _ (fun _ => ⟨s1, leaf _ _ ak_num bx⟩) fun hk2 => ⟨s3, i3 _ false _ (by decide) ⟨_, rfl, ?_⟩⟩
    rw [if_neg (by simp)]
    exact ⟨trivial, trivial, b, g, k - 1, m, rfl, bx2.bag, by omega, by omega, hm, fun x L5 ax _ bx5 => ⟨s2, leaf _ _ (ak_box ax) (bx2.trans bx5)⟩⟩
end K01
end
section
set_option linter.all false
set_option maxRecDepth 100000
set_option maxHeartbeats 4000000
namespace K01
open PySem Bw
def Her (R : D → Prop) : Prop := ∀ ds, R (.tup ds) ↔ ∀ x ∈ ds, R x
theorem her_cl {n : Nat} : Her (clD n) := fun ds => by rw [cl_tup, clDs_iff]
theorem her_ty {L : LH} : Her (tyA L) := fun ds => by simp only [tyA]; exact tyAs_iff
theorem her_si : Her siD := fun ds => by simp only [siD]; exact siDs_iff
theorem tyA_bag {b g : Nat} {L L' : LH} (bg : Bag b g L) (h : BagX b g L L') : ∀ {d : D}, tyA L d → tyA L' d := by
  obtain ⟨s, c, a, gs, e1, e2, _⟩ := bg.ex
  obtain ⟨s', c', a', gs', e3, e4, _⟩ := h.bag.ex
  have key : ∀ (d : D) (t : String), tyD L d = some t → tyD L' d = some t := fun d t hd => by
    cases d with
    | loc n =>
      simp only [tyD] at hd ⊢
      have hn : n < L.length := by
        rcases Nat.lt_or_ge n L.length with z | z
        · exact z
        · rw [List.getElem?_eq_none z] at hd; cases hd
      by_cases eb : n = b
      · subst eb; rw [e1] at hd; rw [e3]; exact hd
      by_cases eg : n = g
      · subst eg; rw [e2] at hd; rw [e4]; exact hd
      rw [h.oth n hn eb eg]; exact hd
    | _ => exact hd
  have go : ∀ (k : Nat) (d : D), dsz d ≤ k → tyA L d → tyA L' d := fun k => by
    induction k with
    | zero => intro d h; have := dsz_pos d; omega
    | succ k ih =>
      intro d h ty
      cases d with
      | tup ds =>
        simp only [tyA] at ty ⊢
        rw [tyAs_iff] at ty ⊢
        intro x hx
        exact ih x (by have := dszs_mem hx; simp [dsz] at h; omega) (ty x hx)
      | _ => simp only [tyA] at ty ⊢; obtain ⟨t, e⟩ := ty; exact ⟨t, key _ _ e⟩
  exact fun {d} => go _ d (Nat.le_refl _)
theorem sIx_to {n d : Nat} {a : Int} (h0 : 0 ≤ a) (h1 : a ≤ n) : HT.sIx n d (some a) = a.toNat := by
  have := HT.sIx_nat n d a.toNat
  rw [show ((a.toNat : Nat) : Int) = a by omega] at this
  rw [this]; omega
theorem cut_to {xs : List D} {a : Int} (h0 : 0 ≤ a) (h1 : a ≤ xs.length) : cutD xs none (some a) = xs.take a.toNat := by
  unfold cutD
  rw [sIx_to h0 h1, HT.sIx_none, List.drop_zero, Nat.sub_zero]
theorem cut_from {xs : List D} {a : Int} (h0 : 0 ≤ a) (h1 : a ≤ xs.length) : cutD xs (some a) none = xs.drop a.toNat := by
  unfold cutD
  rw [sIx_to h0 h1, HT.sIx_none]
  exact List.take_of_length_le (by simp)
theorem cut_mid {xs : List D} {a : Int} (h0 : 0 ≤ a) (h1 : a < xs.length) : cutD xs (some a) (some (a + 1)) = (xs.drop a.toNat).take 1 := by
  unfold cutD
  rw [sIx_to h0 (by omega), sIx_to (by omega) (by omega)]
  congr 1; omega
theorem dszs_take {xs : List D} {n : Nat} : dszs (xs.take n) + dszs (xs.drop n) = dszs xs := by rw [← dszs_app, List.take_append_drop]
theorem ddps_app : ∀ {a b : List D}, ddps (a ++ b) = max (ddps a) (ddps b)
  | [], b => by simp [ddps]
  | x :: a, b => by simp only [List.cons_append, ddps, ddps_app (a := a) (b := b)]; omega
theorem ddps_take {xs : List D} {n : Nat} : max (ddps (xs.take n)) (ddps (xs.drop n)) = ddps xs := by rw [← ddps_app, List.take_append_drop]
def S_ch (n : Nat) : DSp := fun ds L Q _ => ∃ (b g : Nat) (t o : D) (k : Int), ds = [.loc b, t, o, .int k] ∧ Bag b g L ∧ tyA L t ∧ 0 ≤ k ∧ k < n ∧ dsz t ≤ 400000 ∧
  ∀ d L0, (∀ R, Her R → R t → R o → R d) → dsz d ≤ 2 * dsz t + dsz o → ddp d ≤ ddp t + ddp o → L0.length = L.length → BagX b g L L0 → Q d L0
def gam_ch (n : Nat) : Nat → DSp
  | 0 => S_ch n
  | _ => S_pick
theorem w__law_changed {n : Nat} {ds : List D} {L : LH} {Q : Post} {E : XP} (c1 : clL L.length L) (c2 : clDs L.length ds) (h : S_ch (n + 1) ds L Q E) : wSs (gam_ch n) m__law_changed (endsOf L.length Q) (start0 n__law_changed ds) L := by
  obtain ⟨b, g, t, o, k, rfl, bg, ty, hk0, hk, hz, q⟩ := h
  obtain ⟨tt, ht⟩ := tyA_ty ty
  have leaf : ∀ d L', (∀ R, Her R → R t → R o → R d) → dsz d ≤ 2 * dsz t + dsz o → ddp d ≤ ddp t + ddp o → BagX b g L L' → (endsOf L.length Q).rt d L' := fun d L' h1 h2 h3 bx =>
    retB c1 bg bx (h1 _ her_cl c2.2.1 c2.2.2.1) fun L0 h4 h5 => q d L0 h1 h2 h3 h4 h5
  have hp := dsz_pos t
  have lo : ∀ L', BagX b g L L' → (endsOf L.length Q).rt o L' := fun L' bx => leaf o L' (fun R _ _ h => h) (by omega) (by omega) bx
  simp only [m__law_changed, n__law_changed, wSs, wS, wSeq, wSkip, wRet, wRetN, wIf, wSet, wExp, wBrk, wCnt, wNever, wAsg, wPar, wSub, Bw.wE, wA, wB, wO, wCd, wLX, wIX, wAnd, wOr, Bw.wNot, wIte, asT, w1, w2, w1, wVar, wC, wTup, wLst, wMth, wMthl, wListOf, wL, wNew, wSlcL, wFor, iLx, iSq, wComp, wACons, wANil, wCall, wSlc, wNo, wSo, wChn, wBopN, CO.sem, BO.sem, F1.sem, FL.sem, OM.sem, gT, gSlot, start0, List.map_cons, List.map_nil, List.length_cons, List.length_nil, List.replicate_succ, List.replicate_zero, List.cons_append, List.nil_append, List.append_nil, List.getElem?_cons_zero, List.getElem?_cons_succ, List.set_cons_zero, List.set_cons_succ, Nat.sub_self, Nat.sub_zero, Nat.add_sub_cancel, Nat.reduceAdd, Nat.reduceSub, if_true, if_false, Bool.false_eq_true, Nat.zero_add, x_some, x_some1, x_bl, x_ix, x_len, x_eqStr, x_eqInt, x_eqBl, x_in, x_b2, x_i2, x_mul, x_addI, x_addT, x_int, x_abs, x_neg, at_0, at_1, at_2, at_3, at_m1, Bool.false_xor, Bool.true_xor, x_isi (T := "tuple") (by decide) ht, tyD_tup ht, pSlT]
  cases t with
  | tup xs =>
    simp only [isTupD, Bool.not_true, start0, List.map_cons, List.map_nil, List.length_cons, List.length_nil, List.replicate_succ, List.replicate_zero, List.cons_append, List.nil_append, List.append_nil, List.getElem?_cons_zero, List.getElem?_cons_succ, List.set_cons_zero, List.set_cons_succ, Nat.sub_self, Nat.sub_zero, Nat.add_sub_cancel, Nat.reduceAdd, Nat.reduceSub, if_true, if_false, Bool.false_eq_true, Nat.zero_add, x_some, x_some1, x_bl, x_ix, x_len, x_eqStr, x_eqInt, x_eqBl, x_in, x_b2, x_i2, x_mul, x_addI, x_addT, x_int, x_abs, x_neg, at_0, at_1, at_2, at_3, at_m1, Bool.false_xor, Bool.true_xor]
    cases xs with
    | nil =>
      exact lo L bg.x
    | cons x r =>
      generalize hxs : (x :: r) = xs at *
      have hne : 0 < xs.length := by rw [← hxs]; simp
      have hsz := dszs_len xs
      simp only [dsz] at hz
      have hl0 : ((xs.length : Int) == 0) = false := by rw [beq_eq_false_iff_ne]; omega
      rw [hl0]
      simp only [Bool.false_eq_true, if_false]
      by_cases hk1 : k = 0
      · rw [if_pos (by simp [hk1])]; exact lo L bg.x
      rw [if_neg (by simp [hk1])]
      refine ⟨trivial, b, g, 5, rfl, bg, by decide, by decide, fun r1 L1 _ _ _ bx1 => ?_⟩
      refine x_eqInt.2 ⟨_, rfl, ?_⟩
      rw [Bool.false_xor]
      by_cases hr : r1 = 0
      · rw [if_pos (by simp [hr])]; exact lo L1 bx1
      rw [if_neg (by simp [hr])]
      refine ⟨trivial, b, g, xs.length, rfl, bx1.bag, by omega, by omega, fun a L2 ha0 ha1 _ bx2 => ?_⟩
      refine ⟨trivial, b, g, 12, rfl, bx2.bag, by decide, by decide, fun wy L3 _ _ _ bx3 => ?_⟩
      have bxx : BagX b g L L3 := bx1.trans (bx2.trans bx3)
      have e1 := cut_to (xs := xs) ha0 (by omega)
      have e2 := cut_from (xs := xs) (a := a + 1) (by omega) (by omega)
      have e3 := cut_from (xs := xs) ha0 (by omega)
      have e4 := cut_mid (xs := xs) ha0 ha1
      have hat : a.toNat < xs.length := by omega
      have d1 := dszs_take (xs := xs) (n := a.toNat)
      have d2 : xs.drop a.toNat = xs[a.toNat] :: xs.drop (a + 1).toNat := by rw [List.drop_eq_getElem_cons hat]; congr 2; omega
      have d3 : dszs (xs.drop a.toNat) = dsz xs[a.toNat] + dszs (xs.drop (a + 1).toNat) := by rw [d2]; rfl
      have p1 := ddps_take (xs := xs) (n := a.toNat)
      have p2 : ddps (xs.drop a.toNat) = max (ddp xs[a.toNat]) (ddps (xs.drop (a + 1).toNat)) := by rw [d2]; rfl
      have mt : ∀ y ∈ xs.take a.toNat, y ∈ xs := fun y hy => List.mem_of_mem_take hy
      have md : ∀ y ∈ xs.drop (a + 1).toNat, y ∈ xs := fun y hy => List.mem_of_mem_drop hy
      have md0 : ∀ y ∈ xs.drop a.toNat, y ∈ xs := fun y hy => List.mem_of_mem_drop hy
      simp only [wSs, wS, wSeq, wSkip, wRet, wRetN, wIf, wSet, wExp, wBrk, wCnt, wNever, wAsg, wPar, wSub, Bw.wE, wA, wB, wO, wCd, wLX, wIX, wAnd, wOr, Bw.wNot, wIte, asT, w1, w2, w1, wVar, wC, wTup, wLst, wMth, wMthl, wListOf, wL, wNew, wSlcL, wFor, iLx, iSq, wComp, wACons, wANil, wCall, wSlc, wNo, wSo, wChn, wBopN, CO.sem, BO.sem, F1.sem, FL.sem, OM.sem, gT, gSlot, start0, List.map_cons, List.map_nil, List.length_cons, List.length_nil, List.replicate_succ, List.replicate_zero, List.cons_append, List.nil_append, List.append_nil, List.getElem?_cons_zero, List.getElem?_cons_succ, List.set_cons_zero, List.set_cons_succ, Nat.sub_self, Nat.sub_zero, Nat.add_sub_cancel, Nat.reduceAdd, Nat.reduceSub, if_true, if_false, Bool.false_eq_true, Nat.zero_add, x_some, x_some1, x_bl, x_ix, x_len, x_eqStr, x_eqInt, x_eqBl, x_in, x_b2, x_i2, x_mul, x_addI, x_addT, x_int, x_abs, x_neg, at_0, at_1, at_2, at_3, at_m1, Bool.false_xor, Bool.true_xor, pSlT, e1, e2, e3, e4]
      have t1 : (xs.take a.toNat).length ≤ xs.length := by simp; omega
      have t2 : (xs.drop (a + 1).toNat).length ≤ xs.length := by simp
      have t3 : (xs.drop a.toNat).length ≤ xs.length := by simp
      by_cases w0 : wy = 0
      · rw [if_pos (by simp [w0])]
        refine ⟨_, rfl, _, rfl, ?_⟩
        simp only [e1, e2, x_addT]
        refine ⟨by rw [size_line]; omega, leaf _ _ (fun R hR h1 _ => ?_) ?_ ?_ bxx⟩
        · rw [hR] at h1 ⊢
          exact fun y hy => (List.mem_append.mp hy).elim (fun z => h1 y (mt y z)) fun z => h1 y (md y z)
        · simp only [dsz, dszs_app]; omega
        · simp only [ddp, ddps_app]; omega
      rw [if_neg (by simp [w0])]
      by_cases w1 : wy = 1
      · rw [if_pos (by simp [w1])]
        refine ⟨_, rfl, _, rfl, _, rfl, ?_⟩
        have e5 : (xs.drop a.toNat).take 1 = [xs[a.toNat]] := by rw [d2]; rfl
        simp only [e1, e4, x_addT, e5]
        refine ⟨by rw [size_line]; simp only [List.length_cons, List.length_nil]; omega, _, rfl, ?_⟩
        simp only [e3, x_addT]
        refine ⟨by rw [size_line]; simp only [List.length_append, List.length_cons, List.length_nil]; omega, leaf _ _ (fun R hR h1 _ => ?_) ?_ ?_ bxx⟩
        · rw [hR] at h1 ⊢
          refine fun y hy => ?_
          simp only [List.mem_append, List.mem_singleton] at hy
          rcases hy with (hy | rfl) | hy
          · exact h1 y (mt y hy)
          · exact h1 _ (List.getElem_mem hat)
          · exact h1 y (md0 y hy)
        · simp only [dsz, dszs_app, dszs]; omega
        · simp only [ddp, ddps_app, ddps]; omega
      rw [if_neg (by simp [w1])]
      refine ⟨_, rfl, ?_⟩
      simp only [e1]
      have hmx : xs[a.toNat] ∈ xs := List.getElem_mem hat
      have hdx := dszs_mem hmx
      refine ⟨xs[a.toNat], ?_, trivial, trivial, b, g, xs[a.toNat], o, k - 1, rfl, bxx.bag, tyA_bag bg bxx (her_ty xs |>.1 ty _ hmx), by omega, by omega, by omega, fun d L4 g1 g2 g3 _ bx4 => ?_⟩
      · have := Bw.atI_nat xs a.toNat
        rw [show ((a.toNat : Nat) : Int) = a by omega] at this
        rw [this, List.getElem?_eq_getElem hat]
      refine ⟨sz_small (by omega), by rw [size_line]; omega, _, rfl, ?_⟩
      simp only [e2, x_addT]
      refine ⟨by rw [size_line]; simp only [List.length_append, List.length_cons, List.length_nil]; omega, leaf _ _ (fun R hR h1 h2 => ?_) ?_ ?_ (bxx.trans bx4)⟩
      · have h1' := (hR xs).1 h1
        rw [hR]
        refine fun y hy => ?_
        simp only [List.mem_append, List.mem_singleton] at hy
        rcases hy with (hy | rfl) | hy
        · exact h1' y (mt y hy)
        · exact g1 R hR (h1' _ hmx) h2
        · exact h1' y (md y hy)
      · simp only [dsz, dszs_app, dszs]; omega
      · simp only [ddp, ddps_app, ddps]; omega
  | _ => exact lo L bg.x
end K01
end
section
set_option linter.all false
set_option maxRecDepth 100000
set_option maxHeartbeats 4000000
namespace K01
open PySem Bw
theorem x_addL {m n : Nat} {xs ys : List D} {L : LH} {Q : Post} (h1 : L[m]? = some (.lst xs)) (h2 : L[n]? = some (.lst ys)) (hz : xs.length + ys.length ≤ sizeLine) (q : Q (.loc L.length) (L ++ [.lst (xs ++ ys)])) : pAdd (.loc m) (.loc n) L Q := ⟨xs, ys, h1, h2, hz, q⟩
structure OD (L : LH) (x : D) : Prop where
  ty : tyA L x
  cl : clD L.length x
  z : dsz x ≤ 100
  d : ddp x ≤ 41
def S_odd : DSp := fun ds L Q _ => ∃ b g, ds = [.loc b] ∧ Bag b g L ∧ ∀ x L', BagX b g L L' → OD L' x → Q x L'
def gam_odd : Nat → DSp
  | 0 => S_some
  | _ => S_deep
theorem at_app {L G : LH} {i : Nat} : (L ++ G)[L.length + i]? = G[i]? := by
  rw [List.getElem?_append_right (by omega)]; congr 1; omega
theorem x_mulT {xs : List D} {k : Int} {L : LH} {Q : Post} : pMul (.tup xs) (.int k) L Q ↔ xs ≠ [] ∧ 2 ≤ k ∧ k ≤ 1000 ∧ xs.length ≤ 1000 ∧ Q (.tup (List.replicate k.toNat xs).flatten) L := Iff.rfl
theorem sl {n : Nat} (h : n ≤ 100000) : (n ≤ sizeLine) ↔ True := iff_true_intro (sz_small h)
theorem at_eq {L G : LH} {i n : Nat} {c : Cell} (e : n = L.length + i) (h : G[i]? = some c) : (L ++ G)[n]? = some c := by subst e; exact at_app.trans h
theorem w__law_odd {ds : List D} {L : LH} {Q : Post} {E : XP} (c1 : clL L.length L) (c2 : clDs L.length ds) (h : S_odd ds L Q E) : wSs gam_odd m__law_odd (endsOf L.length Q) (start0 n__law_odd ds) L := by
  obtain ⟨b, g, rfl, bg, q⟩ := h
  simp (disch := decide) only [m__law_odd, n__law_odd, wSs, wS, wSeq, wSkip, wRet, wRetN, wIf, wSet, wExp, wBrk, wCnt, wNever, wAsg, wPar, wSub, Bw.wE, wA, wB, wO, wCd, wLX, wIX, wAnd, wOr, Bw.wNot, wIte, asT, w1, w2, w1, wVar, wC, wTup, wLst, wMth, wMthl, wListOf, wL, wNew, wSlcL, wFor, iLx, iSq, wComp, wACons, wANil, wCall, wSlc, wNo, wSo, wChn, wBopN, CO.sem, BO.sem, F1.sem, FL.sem, OM.sem, gT, gSlot, start0, List.map_cons, List.map_nil, List.length_cons, List.length_nil, List.replicate_succ, List.replicate_zero, List.cons_append, List.nil_append, List.append_nil, List.getElem?_cons_zero, List.getElem?_cons_succ, List.set_cons_zero, List.set_cons_succ, Nat.sub_self, Nat.sub_zero, Nat.add_sub_cancel, Nat.reduceAdd, Nat.reduceSub, if_true, if_false, Bool.false_eq_true, Nat.zero_add, x_some, x_some1, x_bl, x_ix, x_len, x_eqStr, x_eqInt, x_eqBl, x_in, x_b2, x_i2, x_mul, x_addI, x_addT, x_int, x_abs, x_neg, at_0, at_1, at_2, at_3, at_m1, Bool.false_xor, Bool.true_xor, x_mulT, wDNew, List.append_assoc, List.length_append, sl, true_and, ne_eq, List.cons_ne_nil, not_false_eq_true, Int.reduceLE, Nat.reduceLeDiff]
  refine x_addL (at_eq (i := 2) (by omega) rfl) (at_eq (i := 4) (by omega) rfl) (sz_small (by simp)) ?_
  simp (disch := decide) only [start0, List.map_cons, List.map_nil, List.length_cons, List.length_nil, List.replicate_succ, List.replicate_zero, List.cons_append, List.nil_append, List.append_nil, List.getElem?_cons_zero, List.getElem?_cons_succ, List.set_cons_zero, List.set_cons_succ, Nat.sub_self, Nat.sub_zero, Nat.add_sub_cancel, Nat.reduceAdd, Nat.reduceSub, if_true, if_false, Bool.false_eq_true, Nat.zero_add, x_some, x_some1, x_bl, x_ix, x_len, x_eqStr, x_eqInt, x_eqBl, x_in, x_b2, x_i2, x_mul, x_addI, x_addT, x_int, x_abs, x_neg, at_0, at_1, at_2, at_3, at_m1, Bool.false_xor, Bool.true_xor, x_mulT, wDNew, List.append_assoc, List.length_append, sl, true_and, ne_eq, List.cons_ne_nil, not_false_eq_true, Int.reduceLE, Nat.reduceLeDiff]
  refine x_addL (at_eq (i := 5) (by omega) rfl) (at_eq (i := 6) (by omega) rfl) (sz_small (by simp)) ?_
  simp (disch := decide) only [start0, List.map_cons, List.map_nil, List.length_cons, List.length_nil, List.replicate_succ, List.replicate_zero, List.cons_append, List.nil_append, List.append_nil, List.getElem?_cons_zero, List.getElem?_cons_succ, List.set_cons_zero, List.set_cons_succ, Nat.sub_self, Nat.sub_zero, Nat.add_sub_cancel, Nat.reduceAdd, Nat.reduceSub, if_true, if_false, Bool.false_eq_true, Nat.zero_add, x_some, x_some1, x_bl, x_ix, x_len, x_eqStr, x_eqInt, x_eqBl, x_in, x_b2, x_i2, x_mul, x_addI, x_addT, x_int, x_abs, x_neg, at_0, at_1, at_2, at_3, at_m1, Bool.false_xor, Bool.true_xor, x_mulT, wDNew, List.append_assoc, List.length_append, sl, true_and, ne_eq, List.cons_ne_nil, not_false_eq_true, Int.reduceLE, Nat.reduceLeDiff]
  refine ⟨rfl, ?_⟩
  simp (disch := decide) only [start0, List.map_cons, List.map_nil, List.length_cons, List.length_nil, List.replicate_succ, List.replicate_zero, List.cons_append, List.nil_append, List.append_nil, List.getElem?_cons_zero, List.getElem?_cons_succ, List.set_cons_zero, List.set_cons_succ, Nat.sub_self, Nat.sub_zero, Nat.add_sub_cancel, Nat.reduceAdd, Nat.reduceSub, if_true, if_false, Bool.false_eq_true, Nat.zero_add, x_some, x_some1, x_bl, x_ix, x_len, x_eqStr, x_eqInt, x_eqBl, x_in, x_b2, x_i2, x_mul, x_addI, x_addT, x_int, x_abs, x_neg, at_0, at_1, at_2, at_3, at_m1, Bool.false_xor, Bool.true_xor, x_mulT, wDNew, List.append_assoc, List.length_append, sl, true_and, ne_eq, List.cons_ne_nil, not_false_eq_true, Int.reduceLE, Nat.reduceLeDiff]
  refine x_addL (at_eq (i := 7) (by omega) rfl) (at_eq (i := 9) (by omega) rfl) (sz_small (by simp)) ?_
  simp (disch := decide) only [start0, List.map_cons, List.map_nil, List.length_cons, List.length_nil, List.replicate_succ, List.replicate_zero, List.cons_append, List.nil_append, List.append_nil, List.getElem?_cons_zero, List.getElem?_cons_succ, List.set_cons_zero, List.set_cons_succ, Nat.sub_self, Nat.sub_zero, Nat.add_sub_cancel, Nat.reduceAdd, Nat.reduceSub, if_true, if_false, Bool.false_eq_true, Nat.zero_add, x_some, x_some1, x_bl, x_ix, x_len, x_eqStr, x_eqInt, x_eqBl, x_in, x_b2, x_i2, x_mul, x_addI, x_addT, x_int, x_abs, x_neg, at_0, at_1, at_2, at_3, at_m1, Bool.false_xor, Bool.true_xor, x_mulT, wDNew, List.append_assoc, List.length_append, sl, true_and, ne_eq, List.cons_ne_nil, not_false_eq_true, Int.reduceLE, Nat.reduceLeDiff]
  refine ⟨⟨by decide, by decide, by decide⟩, ?_⟩
  refine x_addL (at_eq (i := 10) (by omega) rfl) (at_eq (i := 11) (by omega) rfl) (sz_small (by simp)) ?_
  obtain ⟨lb, lg⟩ := bg.lt
  have key : ∀ (G : LH) (n : Nat) (xs : List D), n = L.length + 12 → G[12]? = some (.lst xs) → xs ≠ [] → xs.length ≤ 1000 → clL (L.length + G.length) G → (∀ x ∈ xs, OD (L ++ G) x) →
      gam_odd 0 [.loc b, .loc n] (L ++ G) (endsOf L.length Q).rt (fun _ _ => False) := fun G n xs e h1 h2 h3 h4 h5 => by
    subst e
    have bxG : BagX b g L (L ++ G) := bg.xapp
    have cG : clL (L ++ G).length (L ++ G) := fun c hc => by
      rw [List.length_append]
      exact (List.mem_append.mp hc).elim (fun z => clC_mono (by omega) (c1 c z)) (h4 c)
    refine ⟨b, g, _, xs, rfl, bxG.bag, by omega, by omega, at_app.trans h1, h2, by omega, fun x hx L0 hl bx => ?_⟩
    obtain ⟨L1, G1, e1, e2, e3, e4⟩ := bag_cut cG bxG.bag bx
    have : G1 = [] := by
      have := congrArg List.length e1
      rw [List.length_append, e2, hl] at this
      exact List.eq_nil_of_length_eq_zero (by omega)
    subst this
    rw [List.append_nil] at e1
    subst e1
    have ox := h5 x hx
    have od : OD L0 x := ⟨tyA_bag bxG.bag bx ox.ty, by rw [hl]; exact ox.cl, ox.z, ox.d⟩
    exact ⟨L0, [], by simp, by rw [hl, List.length_append]; omega, by rw [hl]; exact e3, od.cl, q x L0 (bxG.trans bx) od⟩
  simp only [List.append_assoc, List.cons_append, List.nil_append, List.length_append, List.length_cons, List.length_nil]
  refine key _ _ _ rfl rfl (by simp) (by simp) ?_ ?_
  · have dc : ∀ n, clD n (deepN 40) := fun n => pure_cl (si_pure (deep_si 40))
    simp only [clL, List.mem_cons, List.not_mem_nil, or_false, forall_eq_or_imp, forall_eq, List.length_cons, List.length_nil]
    simp only [clC, clDs, clD, dc, and_true, true_and, Int.reduceToNat, List.replicate_succ, List.replicate_zero, List.flatten_cons, List.flatten_nil, List.cons_append, List.nil_append, List.map_nil]
    omega
  · have pu : ∀ x : D, pureD x → dsz x ≤ 100 → ddp x ≤ 41 → ∀ L', OD L' x := fun x h1 h2 h3 L' => ⟨pure_ty h1, pure_cl h1, h2, h3⟩
    intro x hx
    simp only [List.mem_cons, List.not_mem_nil, or_false] at hx
    rcases hx with rfl | rfl | rfl | rfl | rfl | rfl | rfl | rfl | rfl | rfl | rfl | rfl | rfl | rfl | rfl | rfl | rfl | rfl | rfl | rfl | rfl | rfl | rfl | rfl | rfl | rfl | rfl | rfl | rfl | rfl | rfl
    all_goals first
      | exact pu _ (si_pure (deep_si 40)) (by decide) (by decide) _
      | exact pu _ (by simp [pureD, pureDs]) (by decide) (by decide) _
      | skip
    all_goals
      refine ⟨?_, ?_, by simp only [dsz, dszs]; omega, by simp only [ddp, ddps]; omega⟩
      · first
          | exact ⟨"list", by simp only [tyD]; rw [at_eq (i := 0) (by omega) rfl]⟩
          | exact ⟨"dict", by simp only [tyD]; rw [at_eq (i := 8) (by omega) rfl]⟩
          | (simp only [tyA, tyAs]; exact ⟨⟨_, rfl⟩, ⟨"list", by simp only [tyD]; rw [at_eq (i := 1) (by omega) rfl]⟩, trivial⟩)
          | (simp only [tyA, tyAs]; exact ⟨⟨_, rfl⟩, ⟨_, rfl⟩, ⟨"list", by simp only [tyD]; rw [at_eq (i := 3) (by omega) rfl]⟩, trivial⟩)
      · simp only [clD, clDs, List.length_append, List.length_cons, List.length_nil, and_true, true_and]
        omega
end K01
end
section
set_option linter.all false
set_option maxRecDepth 100000
set_option maxHeartbeats 4000000
namespace K01
open PySem Bw
theorem with_sz {d : D} (f : Frm d) {ks : List D} (h : ks.length = (innerD d).length) : dsz (withD d ks) + dszs (innerD d) = dsz d + dszs ks := by
  cases f with
  | num => rw [i_num] at h ⊢; have := List.eq_nil_of_length_eq_zero h; subst this; rfl
  | nil => rw [i_nil] at h ⊢; have := List.eq_nil_of_length_eq_zero h; subst this; rfl
  | row js h1 h2 => rw [i_row, wi_row]; simp only [dsz, dszs]; omega
  | data i js h1 => rw [i_data, wi_data]; simp only [dsz, dszs]; omega
  | fn js j h1 h2 =>
    rw [i_fn, List.length_append] at h
    obtain ⟨r, x, rfl, hr⟩ := len_last h
    rw [i_fn, wi_fn]; simp only [dsz, dszs, dszs_app]; omega
  | letter i h1 => rw [i_letter] at h ⊢; have := List.eq_nil_of_length_eq_zero h; subst this; rfl
  | box j =>
    obtain ⟨x, rfl⟩ := len_one h
    rw [i_box, wi_box]; simp only [dsz, dszs]; omega
theorem dszs_map {f : D → D} {B : Nat} : ∀ {l : List D}, (∀ x ∈ l, dsz (f x) ≤ dsz x * B) → dszs (l.map f) ≤ dszs l * B
  | [], _ => by simp [dszs]
  | x :: l, h => by
    have := h x (by simp)
    have := dszs_map (l := l) fun y hy => h y (by simp [hy])
    simp only [List.map_cons, dszs, Nat.add_mul]; omega
theorem put_sz {σ : List D} {B : Nat} (hB : 1 ≤ B) (hσ : ∀ x ∈ σ, dsz x ≤ B) : ∀ {n : Nat} {d : D}, kdp n d → below σ.length d → dsz (putD σ d) ≤ dsz d * B
  | 0, _, h, _ => h.elim
  | n + 1, d, ⟨f, h⟩, b => by
    have hp := dsz_pos d
    rcases let_cases f with ⟨i, rfl, h0⟩ | e
    · rw [put_letter]
      obtain ⟨x, hx, hm⟩ := get_of h0 (below_letter b)
      rw [hx]
      exact Nat.le_trans (hσ x hm) (Nat.le_mul_of_pos_left _ hp)
    · rw [put_other e]
      have h1 := with_sz f (ks := (innerD d).map (putD σ)) (by simp)
      have h2 := dszs_map (B := B) (f := putD σ) (l := innerD d) fun x hx => put_sz hB hσ (h x hx) (below_in b x hx)
      have h3 := inner_sz f
      have h4 : dszs (innerD d) ≤ dszs (innerD d) * B := Nat.le_mul_of_pos_right _ hB
      have h5 : dsz d * B = dszs (innerD d) * B + (dsz d - dszs (innerD d)) * B := by rw [← Nat.add_mul]; congr 1; omega
      have h6 : dsz d - dszs (innerD d) ≤ (dsz d - dszs (innerD d)) * B := Nat.le_mul_of_pos_right _ hB
      omega
theorem with_kind {d : D} (f : Frm d) {ks : List D} (h : ks.length = (innerD d).length) (hk : ∀ x ∈ ks, isKindD x = true) : isKindD (withD d ks) = true := by
  obtain ⟨f2, e⟩ := with_frm f h
  rw [isKindD_eq, form_of f2, e, Bool.true_and, List.all_eq_true]
  exact hk
theorem put_kind {σ : List D} (hσ : ∀ x ∈ σ, isKindD x = true) : ∀ {n : Nat} {d : D}, kdp n d → below σ.length d → isKindD (putD σ d) = true
  | 0, _, h, _ => h.elim
  | n + 1, d, ⟨f, h⟩, b => by
    rcases let_cases f with ⟨i, rfl, h0⟩ | e
    · rw [put_letter]
      obtain ⟨x, hx, hm⟩ := get_of h0 (below_letter b)
      rw [hx]; exact hσ x hm
    · rw [put_other e]
      refine with_kind f (by simp) fun y hy => ?_
      obtain ⟨x, hx, rfl⟩ := List.mem_map.mp hy
      exact put_kind hσ (h x hx) (below_in b x hx)
theorem with_ddp {d : D} (f : Frm d) {ks : List D} (h : ks.length = (innerD d).length) {c m : Nat} (hk : ∀ x ∈ ks, ddp x ≤ m) (hm : m + 2 ≤ c) (h2 : 2 ≤ c) : ddp (withD d ks) ≤ c := by
  have g := ddps_le hk
  cases f with
  | num => rw [wi_num]; simp only [ddp, ddps]; omega
  | nil => rw [wi_nil]; simp only [ddp, ddps]; omega
  | row js h1 h2 => rw [wi_row]; simp only [ddp, ddps]; omega
  | data i js h1 => rw [wi_data]; simp only [ddp, ddps]; omega
  | fn js j h1 h2 =>
    rw [i_fn, List.length_append] at h
    obtain ⟨r, x, rfl, hr⟩ := len_last h
    rw [ddps_app] at g
    simp only [ddps] at g
    rw [wi_fn]; simp only [ddp, ddps]; omega
  | letter i h1 => rw [wi_letter]; simp only [ddp, ddps]; omega
  | box j =>
    obtain ⟨x, rfl⟩ := len_one h
    have := hk x (by simp)
    rw [wi_box]; simp only [ddp, ddps]; omega
theorem put_ddp {σ : List D} {m : Nat} (hσ : ∀ x ∈ σ, ddp x ≤ m) : ∀ {n : Nat} {d : D}, kdp n d → below σ.length d → ddp (putD σ d) ≤ 2 * n + m
  | 0, _, h, _ => h.elim
  | n + 1, d, ⟨f, h⟩, b => by
    rcases let_cases f with ⟨i, rfl, h0⟩ | e
    · rw [put_letter]
      obtain ⟨x, hx, hm⟩ := get_of h0 (below_letter b)
      rw [hx]; have := hσ x hm; show ddp x ≤ _; omega
    · rw [put_other e]
      refine with_ddp f (by simp) (m := 2 * n + m) (fun y hy => ?_) (by omega) (by omega)
      obtain ⟨x, hx, rfl⟩ := List.mem_map.mp hy
      exact put_ddp hσ (h x hx) (below_in b x hx)
/-! no letters -/
mutual
def NL : D → Prop
  | .tup ds => NLs ds
  | .str s => s ≠ "letter"
  | _ => True
def NLs : List D → Prop
  | [] => True
  | d :: ds => NL d ∧ NLs ds
end
theorem NLs_iff : ∀ {ds : List D}, NLs ds ↔ ∀ d ∈ ds, NL d
  | [] => by simp [NLs]
  | d :: ds => by simp [NLs, NLs_iff (ds := ds)]
theorem her_nl : Her NL := fun ds => by simp only [NL]; exact NLs_iff
theorem nl_str {s : Str} (h : s ≠ "letter") : NL (.str s) := by simp only [NL]; exact h
theorem nl_int {i : Int} : NL (.int i) := by simp only [NL]
theorem with_nl {d : D} (f : Frm d) (e : isLet d = false) {ks : List D} (hk : ∀ x ∈ ks, NL x) (h : ks.length = (innerD d).length) : NL (withD d ks) := by
  cases f with
  | num => rw [wi_num, her_nl]; simp only [List.mem_cons, List.not_mem_nil, or_false, forall_eq]; exact nl_str (by decide)
  | nil => rw [wi_nil, her_nl]; simp only [List.mem_cons, List.not_mem_nil, or_false, forall_eq]; exact nl_str (by decide)
  | row js h1 h2 => rw [wi_row, her_nl]; simp only [List.mem_cons, List.not_mem_nil, or_false, forall_eq_or_imp, forall_eq]; exact ⟨nl_str (by decide), (her_nl ks).2 hk⟩
  | data i js h1 => rw [wi_data, her_nl]; simp only [List.mem_cons, List.not_mem_nil, or_false, forall_eq_or_imp, forall_eq]; exact ⟨nl_str (by decide), nl_int, (her_nl ks).2 hk⟩
  | fn js j h1 h2 =>
    rw [i_fn, List.length_append] at h
    obtain ⟨r, x, rfl, hr⟩ := len_last h
    rw [wi_fn, her_nl]; simp only [List.mem_cons, List.not_mem_nil, or_false, forall_eq_or_imp, forall_eq]; exact ⟨nl_str (by decide), (her_nl r).2 fun y hy => hk y (by simp [hy]), hk x (by simp)⟩
  | letter i h1 => exact absurd e (by simp [isLet])
  | box j =>
    obtain ⟨x, rfl⟩ := len_one h
    rw [wi_box, her_nl]; simp only [List.mem_cons, List.not_mem_nil, or_false, forall_eq_or_imp, forall_eq]; exact ⟨nl_str (by decide), hk x (by simp)⟩
theorem with_self {d : D} (f : Frm d) : withD d (innerD d) = d := by
  cases f with
  | fn js j _ _ => rw [i_fn, wi_fn]
  | box j => rw [i_box, wi_box]
  | _ => rfl
theorem put_nl {σ : List D} (hσ : ∀ x ∈ σ, NL x) : ∀ {n : Nat} {d : D}, kdp n d → below σ.length d → NL (putD σ d)
  | 0, _, h, _ => h.elim
  | n + 1, d, ⟨f, h⟩, b => by
    rcases let_cases f with ⟨i, rfl, h0⟩ | e
    · rw [put_letter]
      obtain ⟨x, hx, hm⟩ := get_of h0 (below_letter b)
      rw [hx]; exact hσ x hm
    · rw [put_other e]
      refine with_nl f e (fun y hy => ?_) (by simp)
      obtain ⟨x, hx, rfl⟩ := List.mem_map.mp hy
      exact put_nl hσ (h x hx) (below_in b x hx)
theorem ak_nl : ∀ {n : Nat} {d : D}, kdp n d → below 0 d → NL d
  | 0, _, h, _ => h.elim
  | n + 1, d, ⟨f, h⟩, b => by
    rcases let_cases f with ⟨i, rfl, h0⟩ | e
    · have := below_letter b; omega
    · rw [← with_self f]
      exact with_nl f e (fun x hx => ak_nl (h x hx) (below_in b x hx)) rfl
theorem nl_inner {d : D} (f : Frm d) (h : NL d) : ∀ x ∈ innerD d, NL x := by
  cases f with
  | num => simp [i_num]
  | nil => simp [i_nil]
  | row ks _ _ => rw [i_row]; rw [her_nl] at h; exact (her_nl ks).1 (h _ (by simp))
  | data i ks _ => rw [i_data]; rw [her_nl] at h; exact (her_nl ks).1 (h _ (by simp))
  | fn ks k _ _ =>
    rw [i_fn]; rw [her_nl] at h
    intro x hx
    rcases List.mem_append.mp hx with z | z
    · exact (her_nl ks).1 (h (.tup ks) (by simp)) x z
    · rw [List.mem_singleton.mp z]; exact h k (by simp)
  | letter i _ => simp [i_letter]
  | box k => rw [i_box]; rw [her_nl] at h; intro x hx; rw [List.mem_singleton.mp hx]; exact h k (by simp)
theorem nl_let {d : D} (h : NL d) : ltrI d = none := by
  unfold ltrI
  split
  · rename_i hh ii
    rw [her_nl] at h
    have := h (.str hh) (by simp)
    simp only [NL] at this
    rw [if_neg this]
  · rfl
theorem nl_none : ∀ (n : Nat) (d : D), dsz d ≤ n → isKindD d = true → NL d → letL (nodesD d) = []
  | 0, d, h, _, _ => by have := dsz_pos d; omega
  | n + 1, d, h, k, nl => by
    obtain ⟨f, ki⟩ := kind_inner k
    rw [nodesD_eq, letL, List.filterMap_cons, nl_let nl]
    simp only
    rw [List.filterMap_eq_nil_iff]
    intro y hy
    obtain ⟨x, hx, hy⟩ := List.mem_flatMap.mp hy
    have := nl_none n x (by have := innerD_sz d x hx; omega) (ki x hx) (nl_inner f nl x hx)
    exact List.filterMap_eq_nil_iff.mp this y hy
/-! what the filled kind gives back -/
theorem like_with {d : D} (f : Frm d) (e : isLet d = false) {ks : List D} (h : ks.length = (innerD d).length) : likeD d (withD d ks) = true := by
  have hi := (with_frm f h).2
  have hh : headS (withD d ks) = headS d := by
    cases f with
    | fn js j h1 h2 =>
      rw [i_fn, List.length_append] at h
      obtain ⟨r, x, rfl, hr⟩ := len_last h
      rfl
    | _ => rfl
  unfold likeD
  rw [hh, hi, h]
  simp only [beq_self_eq_true, Bool.true_and]
  cases f with
  | data i ks _ => rw [wi_data]; simp [sameI]
  | num => rw [show (headS (.tup [.str "num"]) == Str.ofString "data") = false by simp only [headS]; decide]; rfl
  | nil => rw [show (headS (.tup [.str "nil"]) == Str.ofString "data") = false by simp only [headS]; decide]; rfl
  | row ks _ _ => rw [show (headS (.tup [.str "row", .tup ks]) == Str.ofString "data") = false by simp only [headS]; decide]; rfl
  | fn ks k _ _ => rw [show (headS (.tup [.str "fun", .tup ks, k]) == Str.ofString "data") = false by simp only [headS]; decide]; rfl
  | letter i _ => rw [show (headS (.tup [.str "letter", .int i]) == Str.ofString "data") = false by simp only [headS]; decide]; rfl
  | box k => rw [show (headS (.tup [.str "box", k]) == Str.ofString "data") = false by simp only [headS]; decide]; rfl
theorem pairs_put {σ : List D} : ∀ {n : Nat} {d : D}, kdp n d → below σ.length d → ∃ ps, pairsP d (putD σ d) = some ps ∧ ∀ i x, (i, x) ∈ ps ↔ i ∈ letL (nodesD d) ∧ σ[i.toNat]? = some x
  | 0, _, h, _ => h.elim
  | n + 1, d, ⟨f, h⟩, b => by
    rcases let_cases f with ⟨i, rfl, h0⟩ | e
    · obtain ⟨x, hx, hm⟩ := get_of h0 (below_letter b)
      refine ⟨_, pairs_let, fun j y => ?_⟩
      rw [put_letter, hx, nodesD_eq, letL, List.filterMap_cons, i_letter]
      have : ltrI (.tup [.str "letter", .int i]) = some i := by simp [ltrI]
      rw [this]
      simp only [List.flatMap_nil, List.filterMap_nil, List.mem_singleton, Option.getD_some, Prod.mk.injEq]
      constructor
      · rintro ⟨rfl, rfl⟩; exact ⟨rfl, hx⟩
      · rintro ⟨rfl, h2⟩; rw [hx] at h2; cases h2; exact ⟨rfl, rfl⟩
    · have hl : ((innerD d).map (putD σ)).length = (innerD d).length := by simp
      rw [pairs_other e, put_other e, like_with f e hl, if_pos rfl, (with_frm f hl).2]
      have key : ∀ l : List D, (∀ x ∈ l, x ∈ innerD d) → ∃ ps, ocat ((l.zip (l.map (putD σ))).map fun (p : D × D) => pairsP p.1 p.2) = some ps ∧ ∀ i x, (i, x) ∈ ps ↔ i ∈ letL (l.flatMap nodesD) ∧ σ[i.toNat]? = some x := fun l => by
        induction l with
        | nil => intro _; exact ⟨[], rfl, fun i x => by simp [letL]⟩
        | cons x l ih =>
          intro hm
          obtain ⟨p2, e2, m2⟩ := ih fun y hy => hm y (by simp [hy])
          obtain ⟨p1, e1, m1⟩ := pairs_put (h x (hm x (by simp))) (below_in b x (hm x (by simp)))
          refine ⟨p1 ++ p2, ocat_cons.2 ⟨p1, p2, e1, e2, rfl⟩, fun i y => ?_⟩
          rw [List.mem_append, m1, m2, List.flatMap_cons]
          simp only [letL, List.filterMap_append, List.mem_append]
          constructor
          · rintro (⟨a, b⟩ | ⟨a, b⟩)
            · exact ⟨.inl a, b⟩
            · exact ⟨.inr a, b⟩
          · rintro ⟨a | a, b⟩
            · exact .inl ⟨a, b⟩
            · exact .inr ⟨a, b⟩
      obtain ⟨ps, e1, m1⟩ := key (innerD d) fun x hx => hx
      refine ⟨ps, e1, fun i x => ?_⟩
      rw [m1, nodesD_eq d, letL, letL, List.filterMap_cons, ltr_none e]
/-! dicts -/
theorem keys_len {k1 k2 : List (L2.Key × D)} {p1 p2 : PL} (h1 : IsMap k1 p1) (h2 : IsMap k2 p2) (e : ∀ x, x ∈ p1 ↔ x ∈ p2) : k1.length ≤ k2.length := by
  have := nodup_len (k1.map (·.1)) (k2.map (·.1)) h1.nd fun k hk => by
    obtain ⟨p, hp, rfl⟩ := List.mem_map.mp hk
    obtain ⟨i, hi⟩ := h1.inl p hp
    have a := (h1.val i p.2).1 (valD_mem h1.nd hp hi)
    have b := (h2.val i p.2).2 ((e _).1 a)
    rw [hi]
    refine Classical.byContradiction fun z => ?_
    rw [valD_none.2 fun q hq hqe => z (List.mem_map.mpr ⟨q, hq, hqe⟩)] at b
    cases b
  simpa using this
theorem eqKV_true {k2 : List (L2.Key × D)} {p1 p2 : PL} (h2 : IsMap k2 p2) (gd : Good p1) (e : ∀ x, x ∈ p1 ↔ x ∈ p2) : ∀ {k : List (L2.Key × D)}, (∀ q ∈ k, ∃ i, q.1 = .inl i ∧ (i, q.2) ∈ p1) → eqKV k2 k = some true
  | [], _ => rfl
  | q :: k, h => by
    obtain ⟨i, hi, hm⟩ := h q (by simp)
    obtain ⟨qk, qv⟩ := q
    simp only at hi hm
    subst hi
    have ih := eqKV_true h2 gd e (k := k) fun r hr => h r (by simp [hr])
    have hv := (h2.val i qv).2 ((e _).1 hm)
    obtain ⟨s1, d1⟩ := gd _ hm
    simp only [eqKV, hv, ih, eqDP_si s1 s1 d1]
    simp
theorem x_neDk {a b : Nat} {L : LH} {k1 k2 : List (L2.Key × D)} {p1 p2 : PL} {Q : Post} (ha : L[a]? = some (.dk k1)) (hb : L[b]? = some (.dk k2)) (h1 : IsMap k1 p1) (h2 : IsMap k2 p2) (gd : Good p1) (e : ∀ x, x ∈ p1 ↔ x ∈ p2) (q : Q (.bl false) L) : pEq true (.loc a) (.loc b) L Q := by
  refine .inr ⟨k1, k2, true, dk_loc ha, dk_loc hb, eqKV_true h2 gd e fun r hr => ?_, ?_⟩
  · obtain ⟨i, hi⟩ := h1.inl r hr
    exact ⟨i, hi, (h1.val i r.2).1 (valD_mem h1.nd hr hi)⟩
  · have l1 := keys_len h1 h2 e
    have l2 := keys_len h2 h1 fun x => (e x).symm
    have : k1.length = k2.length := by omega
    rw [this]; simpa using q
end K01
end
section
set_option linter.all false
set_option maxRecDepth 100000
set_option maxHeartbeats 4000000
namespace K01
open PySem Bw
def gam_law : Nat → DSp
  | 0 => S_is_kind
  | 1 => S_deep
  | 2 => S_flag
  | 3 => S_is_kind
  | 4 => S_ch 10
  | 5 => S_odd
  | 6 => S_matched
  | 7 => S_gw 6
  | 8 => S_pick
  | 9 => S_any 5
  | 10 => S_is 41
  | 11 => S_filled 6
  | 12 => S_rawz 6
  | 13 => S_letters2
  | 14 => S_letters
  | _ => S_bag
def S_law : DSp := fun ds L Q _ => ∃ (d : D) (ns : List Int), ds = [d] ∧ sqL L d = some (ns.map D.int) ∧ ns.length ≤ 63 ∧ ∀ L', Q (.bl true) L'
theorem let_nn {d : D} (k : isKindD d = true) : ∀ i ∈ letL (nodesD d), 0 ≤ i := fun i hi => by
  obtain ⟨x, hx, e⟩ := List.mem_filterMap.mp hi
  have f := (kind_inner (kind_nodes _ d (Nat.le_refl _) k x hx)).1
  rcases let_cases f with ⟨j, rfl, h0⟩ | e2
  · simp [ltrI] at e; omega
  · rw [ltr_none e2] at e; cases e
theorem pw_nodup : ∀ {l : List Int}, l.Pairwise (· < ·) → l.Nodup
  | [], _ => List.nodup_nil
  | x :: l, h => by
    obtain ⟨h1, h2⟩ := List.pairwise_cons.mp h
    exact List.nodup_cons.mpr ⟨fun z => by have := h1 x z; omega, pw_nodup h2⟩
theorem ak_lets {d : D} (h : AK 5 4 d) : (letL (nodesD d)).length + 1 < 4096 ∧ (letsD d).length < 64 := by
  have k := kdp_kind h.k
  have h1 := nodes_len _ d (Nat.le_refl _) k
  have h2 : (letL (nodesD d)).length ≤ (nodesD d).length := List.length_filterMap_le _ _
  have h3 := h.z
  simp only [fz] at h3
  refine ⟨by omega, ?_⟩
  have := nodup_len (letsD d) [0, 1, 2, 3] (pw_nodup pw_srt) fun i hi => by
    have hi := mem_srt.1 hi
    have a := let_nn k i hi
    have b := h.b i hi
    have : i = 0 ∨ i = 1 ∨ i = 2 ∨ i = 3 := by omega
    simpa using this
  simp at this; omega
theorem ret_law {L L' : LH} {Q : Post} {d : D} (c1 : clL L.length L) (hl : L.length ≤ L'.length) (ho : ∀ i, i < L.length → L'[i]? = L[i]?) (hd : clD L.length d) (q : Q d L) : (endsOf L.length Q).rt d L' := by
  have : L' = L ++ L'.drop L.length := by
    apply List.ext_getElem?
    intro i
    by_cases hi : i < L.length
    · rw [List.getElem?_append_left hi, ho i hi]
    · rw [List.getElem?_append_right (by omega), List.getElem?_drop]; congr 1; omega
  rw [this]
  exact is_retG c1 hd q
theorem law_comp {m b g c : Nat} {k : Int} {r : Rho} {L L' : LH} {R : List D → LH → Prop} (hb : r[1]? = some (some (.loc b))) (bx : BagX b g L L') (hk : 1 ≤ k) (hn : k ≤ 5) (hm : m ≤ 1000) (hc : c ≤ 100) (ht : 2 < r.length)
    (hR : ∀ ks L2, ks.length = c → (∀ x ∈ ks, AK 5 m x) → BagX b g L L2 → R ks L2) :
    compL (gT (.one 2)) (wCd gam_law .no) (Bw.wE gam_law (.call 9 3 (.cons (.var 1) (.cons (.cst (.int k)) (.cons (.cst (.int m)) .nil))))) (wipeR r [2]) (fun _ => True) (rangeD 0 c) [] L' R := by
  refine comp_run (fun i acc L2 => acc.length = i ∧ (∀ x ∈ acc, AK 5 m x) ∧ BagX b g L L2) ⟨rfl, by simp, bx⟩ (fun _ _ _ _ => trivial) ?_ ?_
  · rintro i d acc L2 K hd ⟨hl, ha, bx2⟩ hK
    have hi : i < c := by have := (List.getElem?_eq_some_iff.mp hd).1; rwa [rangeD_len] at this
    unfold stepC
    have h1 : ((r.set 2 none).set 2 (some d))[1]? = some (some (.loc b)) := by rw [List.set_set, List.getElem?_set_ne (by decide)]; exact hb
    simp only [wipeR, wSs, wS, wSeq, wSkip, wRet, wRetN, wIf, wSet, wExp, wBrk, wCnt, wNever, wAsg, wPar, wSub, Bw.wE, wA, wB, wO, wCd, wLX, wIX, wAnd, wOr, Bw.wNot, wIte, asT, w1, w2, w1, wVar, wC, wTup, wLst, wMth, wMthl, wListOf, wL, wNew, wSlcL, wFor, iLx, iSq, wComp, wACons, wANil, wCall, wSlc, wNo, wSo, wChn, wBopN, CO.sem, BO.sem, F1.sem, FL.sem, OM.sem, gT, gSlot, start0, List.map_cons, List.map_nil, List.length_cons, List.length_nil, List.replicate_succ, List.replicate_zero, List.cons_append, List.nil_append, List.append_nil, List.getElem?_cons_zero, List.getElem?_cons_succ, List.set_cons_zero, List.set_cons_succ, Nat.sub_self, Nat.sub_zero, Nat.add_sub_cancel, Nat.reduceAdd, Nat.reduceSub, if_true, if_false, Bool.false_eq_true, Nat.zero_add, x_some, x_some1, x_bl, x_ix, x_len, x_eqStr, x_eqInt, x_eqBl, x_in, x_b2, x_i2, x_mul, x_addI, x_addT, x_int, x_abs, x_neg, at_0, at_1, at_2, at_3, at_m1, Bool.false_xor, Bool.true_xor]
    refine ⟨_, h1, trivial, b, g, k, m, rfl, bx2.bag, hk, by simpa using hn, hm, fun x L3 ax hl3 bx3 => ⟨by rw [size_line]; omega, hK _ _ ⟨by simp [hl], fun y hy => ?_, bx2.trans bx3⟩⟩⟩
    rcases List.mem_append.mp hy with hy | hy
    · exact ha y hy
    · rw [List.mem_singleton.mp hy]; exact ax
  · rintro acc L2 ⟨hl, ha, bx2⟩
    rw [rangeD_len] at hl
    exact hR acc L2 hl ha bx2
theorem BagX.setx {b g n : Nat} {L L' : LH} {c : Cell} (h : BagX b g L L') (h1 : n ≠ b) (h2 : n ≠ g) (h3 : L.length ≤ n) : BagX b g L (L'.set n c) := by
  obtain ⟨s, k, a, gs, e1, e2, e3⟩ := h.bag.ex
  exact ⟨by simpa using h.len, ⟨h.bag.ne, s, k, a, gs, by rw [List.getElem?_set_ne h1]; exact e1, by rw [List.getElem?_set_ne h2]; exact e2, e3⟩, fun i hi e4 e5 => by rw [List.getElem?_set_ne (by omega)]; exact h.oth i hi e4 e5⟩
theorem si_ints : ∀ {l : List Int}, siDs (l.map D.int)
  | [] => trivial
  | _ :: l => ⟨by simp only [siD], si_ints (l := l)⟩
theorem ddps_ints : ∀ {l : List Int}, ddps (l.map D.int) = 0
  | [] => rfl
  | _ :: l => by simp only [List.map_cons, ddps, ddp, ddps_ints (l := l)]; rfl
theorem dszs_ints : ∀ {l : List Int}, dszs (l.map D.int) = l.length
  | [] => rfl
  | _ :: l => by simp only [List.map_cons, dszs, dsz, dszs_ints (l := l), List.length_cons]; omega
theorem fz5 : fz 5 = 484 := by decide
theorem below_up {m n : Nat} {d : D} (h : below m d) (e : m ≤ n) : below n d := fun i hi => by have := h i hi; omega
/-- a kind filled with kinds -/
structure PF (σ : List D) (d : D) : Prop where
  k : isKindD (putD σ d) = true
  z : dsz (putD σ d) ≤ 234256
  d : ddp (putD σ d) ≤ 20
theorem pf_of {m : Nat} {σ : List D} {d : D} (ak : AK 5 4 d) (hl : 4 ≤ σ.length) (hσ : ∀ x ∈ σ, AK 5 m x) : PF σ d := by
  have b := below_up ak.b hl
  refine ⟨put_kind (fun x hx => kdp_kind (hσ x hx).k) ak.k b, ?_, ?_⟩
  · have h1 := put_sz (B := 484) (by decide) (fun x hx => fz5 ▸ (hσ x hx).z) ak.k b
    have h2 := ak.z
    rw [fz5] at h2
    have h3 : dsz d * 484 ≤ 484 * 484 := Nat.mul_le_mul_right _ h2
    omega
  · have h1 := put_ddp (m := 10) (fun x hx => (hσ x hx).d) ak.k b
    omega
def m_tail : SXs := (.cons (.set 12 .dnew)
  (.cons (.set 8 (.ite (.call 7 3 (.cons (.var 3) (.cons (.var 11) (.cons (.var 12) .nil)))) (.var 12) (.cst .non)))
  (.cons (.ife (.cmp .ne (.call 6 2 (.cons (.var 3) (.cons (.var 11) .nil))) (.var 8))
  (.cons (.ret (.cst (.bl false)))
  .nil)
  .nil)
  (.cons (.for (.one 13) (.rng1 (.cst (.int 4)))
  (.cons (.set 15 (.call 4 4 (.cons (.var 1) (.cons (.var 3) (.cons (.call 5 1 (.cons (.var 1) .nil)) (.cons (.cst (.int 9)) .nil))))))
  (.cons (.ife (.not (.call 2 2 (.cons (.call 0 1 (.cons (.var 15) .nil)) (.cons (.call 3 1 (.cons (.var 15) .nil)) .nil))))
  (.cons (.ret (.cst (.bl false)))
  .nil)
  .nil)
  .nil)))
  .nil))))
def m_law2 : SXs := (.cons (.set 1 (.call 15 1 (.cons (.var 0) .nil)))
  (.cons (.for (.one 2) (.rng1 (.cst (.int 3)))
  (.cons (.set 3 (.call 9 3 (.cons (.var 1) (.cons (.bin .add (.cst (.int 1)) (.call 8 2 (.cons (.var 1) (.cons (.cst (.int 5)) .nil)))) (.cons (.cst (.int 4)) .nil)))))
  (.cons (.set 4 (.call 14 1 (.cons (.var 3) .nil)))
  (.cons (.ife (.bop false (.cons (.not (.call 2 2 (.cons (.call 0 1 (.cons (.var 3) .nil)) (.cons (.cst (.bl true)) .nil)))) (.cons (.not (.call 10 2 (.cons (.call 13 1 (.cons (.var 3) .nil)) (.cons (.var 4) .nil)))) .nil)))
  (.cons (.ret (.cst (.bl false)))
  .nil)
  .nil)
  (.cons (.set 5 (.fl .tuple (.comp (.one 2) (.call 9 3 (.cons (.var 1) (.cons (.cst (.int 3)) (.cons (.cst (.int 3)) .nil)))) (.rng1 (.bin .add (.cst (.int 4)) (.call 8 2 (.cons (.var 1) (.cons (.cst (.int 2)) .nil))))) .no [("_law_turn", 2)])))
  (.cons (.ife (.bop false (.cons (.not (.call 10 2 (.cons (.call 11 2 (.cons (.var 3) (.cons (.var 5) .nil))) (.cons (.call 12 2 (.cons (.var 3) (.cons (.var 5) .nil))) .nil)))) (.cons (.cmp .ne (.call 11 2 (.cons (.var 3) (.cons (.var 5) .nil))) (.call 12 2 (.cons (.var 3) (.cons (.var 5) .nil)))) .nil)))
  (.cons (.ret (.cst (.bl false)))
  .nil)
  .nil)
  (.cons (.set 6 (.fl .tuple (.comp (.one 2) (.call 9 3 (.cons (.var 1) (.cons (.cst (.int 3)) (.cons (.cst (.int 0)) .nil)))) (.rng1 (.cst (.int 4))) .no [("_law_turn", 2)])))
  (.cons (.set 7 (.call 12 2 (.cons (.var 3) (.cons (.var 6) .nil))))
  (.cons (.set 8 .dnew)
  (.cons (.for (.one 9) (.sq (.var 4))
  (.cons (.sub (.var 8) (.var 9) (.ix (.var 6) (.var 9)))
  .nil))
  (.cons (.set 10 (.call 6 2 (.cons (.var 3) (.cons (.var 7) .nil))))
  (.cons (.ife (.bop false (.cons (.not (.isi "dict" (.var 10))) (.cons (.cmp .ne (.var 10) (.var 8)) (.cons (.not (.call 10 2 (.cons (.call 11 2 (.cons (.var 3) (.cons (.var 6) .nil))) (.cons (.var 7) .nil)))) .nil))))
  (.cons (.ret (.cst (.bl false)))
  .nil)
  .nil)
  (.cons (.set 11 (.call 9 3 (.cons (.var 1) (.cons (.bin .add (.cst (.int 1)) (.call 8 2 (.cons (.var 1) (.cons (.cst (.int 4)) .nil)))) (.cons (.cst (.int 0)) .nil)))))
  (.cons (.ife (.cmp .eq (.call 8 2 (.cons (.var 1) (.cons (.cst (.int 2)) .nil))) (.cst (.int 0)))
  (.cons (.set 14 (.call 4 4 (.cons (.var 1) (.cons (.var 7) (.cons (.tup (.cons (.cst (.str "num")) .nil)) (.cons (.cst (.int 8)) .nil))))))
  (.cons (.set 11 (.ite (.call 3 1 (.cons (.var 14) .nil)) (.var 14) (.var 11)))
  .nil))
  .nil)
  m_tail))))))))))))))
  (.cons (.ret (.cmp .is (.call 0 1 (.cons (.call 1 0 .nil) .nil)) (.cst (.bl false))))
  .nil)))
theorem m_law_eq : m_law = m_law2 := rfl
/-- other, as the last part of a turn takes it -/
structure OK4 (o : D) : Prop where
  k : isKindD o = true
  z : dsz o ≤ 500000
  d : ddp o ≤ 60
  n : letL (nodesD o) = []
theorem w_tail {b g : Nat} {L1 L' : LH} {D' : DEnds} {y0 y2 y4 y5 y6 y7 y8 y9 y10 y12 y13 y14 y15 : Option D} {kd oth : D} (ak : AK 5 4 kd) (ok : OK4 oth) (bx : BagX b g L1 L')
    (hK : ∀ ρ'' L'', BagX b g L1 L'' → (∃ x2 x3 x4 x5 x6 x7 x8 x9 x10 x11 x12 x13 x14 x15, ρ'' = [y0, some (.loc b), x2, x3, x4, x5, x6, x7, x8, x9, x10, x11, x12, x13, x14, x15]) → D'.nx ρ'' L'') :
    wSs gam_law m_tail D' [y0, some (.loc b), y2, some kd, y4, y5, y6, y7, y8, y9, y10, some oth, y12, y13, y14, y15] L' := by
  have kk := kdp_kind ak.k
  have pk := ak_pure ak
  have zk : dsz kd ≤ 484 := by have := ak.z; rw [fz5] at this; exact this
  have k6 : kdp 6 kd := kdp_mono (by decide) ak.k
  have oz := ok.z
  have od := ok.d
  simp only [m_tail, wSs, wS, wSeq, wSkip, wRet, wRetN, wIf, wSet, wExp, wBrk, wCnt, wNever, wAsg, wPar, wSub, Bw.wE, wA, wB, wO, wCd, wLX, wIX, wAnd, wOr, Bw.wNot, wIte, asT, w1, w2, w1, wVar, wC, wTup, wLst, wMth, wMthl, wListOf, wL, wNew, wSlcL, wFor, iLx, iSq, wComp, wACons, wANil, wCall, wSlc, wNo, wSo, wChn, wBopN, CO.sem, BO.sem, F1.sem, FL.sem, OM.sem, gT, gSlot, start0, List.map_cons, List.map_nil, List.length_cons, List.length_nil, List.replicate_succ, List.replicate_zero, List.cons_append, List.nil_append, List.append_nil, List.getElem?_cons_zero, List.getElem?_cons_succ, List.set_cons_zero, List.set_cons_succ, Nat.sub_self, Nat.sub_zero, Nat.add_sub_cancel, Nat.reduceAdd, Nat.reduceSub, if_true, if_false, Bool.false_eq_true, Nat.zero_add, x_some, x_some1, x_bl, x_ix, x_len, x_eqStr, x_eqInt, x_eqBl, x_in, x_b2, x_i2, x_mul, x_addI, x_addT, x_int, x_abs, x_neg, at_0, at_1, at_2, at_3, at_m1, Bool.false_xor, Bool.true_xor, wDNew, iRange1]
  have last : ∀ (y8' : Option D) (L2 : LH), BagX b g L1 L2 → forL (gT (.one 13)) (wSs gam_law (.cons (.set 15 (.call 4 4 (.cons (.var 1) (.cons (.var 3) (.cons (.call 5 1 (.cons (.var 1) .nil)) (.cons (.cst (.int 9)) .nil))))))
      (.cons (.ife (.not (.call 2 2 (.cons (.call 0 1 (.cons (.var 15) .nil)) (.cons (.call 3 1 (.cons (.var 15) .nil)) .nil)))) (.cons (.ret (.cst (.bl false))) .nil) .nil) .nil))) (fun _ => True) (rangeD 0 (4 : Int).toNat) D'
      [y0, some (.loc b), y2, some kd, y4, y5, y6, y7, y8', y9, y10, some oth, some (.loc L'.length), y13, y14, y15] L2 := fun y8' L2 bx2 => by
    refine for_run (fun i ρ L3 => BagX b g L1 L3 ∧ ∃ z13 z15, ρ = [y0, some (.loc b), y2, some kd, y4, y5, y6, y7, y8', y9, y10, some oth, some (.loc L'.length), z13, y14, z15]) ⟨bx2, _, _, rfl⟩ (fun _ _ _ _ => trivial) ?_ ?_
    · rintro i x ρ L3 K _ ⟨bx3, z13, z15, rfl⟩ hK2
      simp only [wSs, wS, wSeq, wSkip, wRet, wRetN, wIf, wSet, wExp, wBrk, wCnt, wNever, wAsg, wPar, wSub, Bw.wE, wA, wB, wO, wCd, wLX, wIX, wAnd, wOr, Bw.wNot, wIte, asT, w1, w2, w1, wVar, wC, wTup, wLst, wMth, wMthl, wListOf, wL, wNew, wSlcL, wFor, iLx, iSq, wComp, wACons, wANil, wCall, wSlc, wNo, wSo, wChn, wBopN, CO.sem, BO.sem, F1.sem, FL.sem, OM.sem, gT, gSlot, start0, List.map_cons, List.map_nil, List.length_cons, List.length_nil, List.replicate_succ, List.replicate_zero, List.cons_append, List.nil_append, List.append_nil, List.getElem?_cons_zero, List.getElem?_cons_succ, List.set_cons_zero, List.set_cons_succ, Nat.sub_self, Nat.sub_zero, Nat.add_sub_cancel, Nat.reduceAdd, Nat.reduceSub, if_true, if_false, Bool.false_eq_true, Nat.zero_add, x_some, x_some1, x_bl, x_ix, x_len, x_eqStr, x_eqInt, x_eqBl, x_in, x_b2, x_i2, x_mul, x_addI, x_addT, x_int, x_abs, x_neg, at_0, at_1, at_2, at_3, at_m1, Bool.false_xor, Bool.true_xor]
      refine ⟨trivial, b, g, rfl, bx3.bag, fun o L4 bx4 oo => ⟨trivial, b, g, kd, o, 9, rfl, bx4.bag, pure_ty pk, by decide, by decide, by omega, fun th L5 hR hz hd _ bx5 => ?_⟩⟩
      have oz2 := oo.z
      have tt : tyA L5 th := hR _ her_ty (pure_ty pk) (tyA_bag bx4.bag bx5 oo.ty)
      refine ⟨trivial, th, rfl, tt, by omega, trivial, th, rfl, tt, by omega, trivial, _, _, rfl, _, rfl, ?_⟩
      rw [if_neg (by simp)]
      exact hK2 _ _ ⟨bx3.trans (bx4.trans bx5), _, _, rfl⟩
    · rintro ρ L3 ⟨bx3, z13, z15, rfl⟩
      exact hK _ _ bx3 ⟨_, _, _, _, _, _, _, _, _, _, _, _, _, _, rfl⟩
  refine ⟨trivial, kd, oth, L'.length, [], [], rfl, cell_last, k6, ok.k, ok.d, isMap_nil, (fun p hp => by simp at hp), by simp; omega, fun r kvs' h1 h2 h3 h4 => ⟨r, rfl, ?_⟩⟩
  rw [set_last]
  have bx2 : BagX b g L1 (L' ++ [.dk kvs']) := bx.trans bx.bag.xapp
  cases r with
  | true =>
    obtain ⟨ts, hts, im⟩ := h3 rfl
    rw [List.nil_append] at im
    have gts : Good ts := pairs_good _ kd _ (Nat.le_refl _) (kind_inner kk).1 ok.k (kind_inner kk).2 ok.d ts hts
    rw [if_pos rfl]
    refine ⟨trivial, kd, oth, rfl, kk, ok.k, by omega, ok.z, ok.d, ok.n, fun ps kvs2 hps im2 => ?_, fun hbad => absurd im.fn (hbad ts hts)⟩
    rw [hts] at hps; cases hps
    refine x_neDk cell_last (by rw [List.append_assoc]; exact cell_last1) im2 im gts (fun p => Iff.rfl) ⟨_, rfl, ?_⟩
    rw [if_neg (by simp)]
    exact ⟨_, rfl, by decide, by decide, last _ _ (bx2.trans bx2.bag.xapp)⟩
  | false =>
    rw [if_neg (by simp)]
    refine ⟨trivial, kd, oth, rfl, kk, ok.k, by omega, ok.z, ok.d, ok.n, fun ps kvs2 hps im2 => absurd im2.fn (by have := h4 rfl ps hps; rwa [List.nil_append] at this), fun hbad => ?_⟩
    refine x_eqP (p := .none) (q := .none) rfl rfl (by simp [PyData.depth]) ⟨_, rfl, ?_⟩
    rw [show (true ^^ PyData.eqv .none .none) = false from rfl, if_neg (by simp)]
    exact ⟨_, rfl, by decide, by decide, last _ _ bx2⟩
theorem w_law {ds : List D} {L : LH} {Q : Post} {E : XP} (c1 : clL L.length L) (c2 : clDs L.length ds) (h : S_law ds L Q E) : wSs gam_law m_law (endsOf L.length Q) (start0 n_law ds) L := by
  obtain ⟨d, ns, rfl, hs, hl, q⟩ := h
  rw [m_law_eq]
  simp only [m_law2, n_law, wSs, wS, wSeq, wSkip, wRet, wRetN, wIf, wSet, wExp, wBrk, wCnt, wNever, wAsg, wPar, wSub, Bw.wE, wA, wB, wO, wCd, wLX, wIX, wAnd, wOr, Bw.wNot, wIte, asT, w1, w2, w1, wVar, wC, wTup, wLst, wMth, wMthl, wListOf, wL, wNew, wSlcL, wFor, iLx, iSq, wComp, wACons, wANil, wCall, wSlc, wNo, wSo, wChn, wBopN, CO.sem, BO.sem, F1.sem, FL.sem, OM.sem, gT, gSlot, start0, List.map_cons, List.map_nil, List.length_cons, List.length_nil, List.replicate_succ, List.replicate_zero, List.cons_append, List.nil_append, List.append_nil, List.getElem?_cons_zero, List.getElem?_cons_succ, List.set_cons_zero, List.set_cons_succ, Nat.sub_self, Nat.sub_zero, Nat.add_sub_cancel, Nat.reduceAdd, Nat.reduceSub, if_true, if_false, Bool.false_eq_true, Nat.zero_add, x_some, x_some1, x_bl, x_ix, x_len, x_eqStr, x_eqInt, x_eqBl, x_in, x_b2, x_i2, x_mul, x_addI, x_addT, x_int, x_abs, x_neg, at_0, at_1, at_2, at_3, at_m1, Bool.false_xor, Bool.true_xor, iRange1, lTup, wDNew]
  refine ⟨trivial, d, ns, rfl, hs, hl, fun G bg hG => ⟨_, rfl, by decide, by decide, ?_⟩⟩
  generalize hb : L.length + 1 = b at *
  generalize hg : L.length = g at *
  generalize hL1 : L ++ G = L1 at *
  have hlen : L1.length = g + 2 := by rw [← hL1, List.length_append, hG, hg]
  refine for_run (fun i ρ L' => BagX b g L1 L' ∧ ∃ x2 x3 x4 x5 x6 x7 x8 x9 x10 x11 x12 x13 x14 x15, ρ = [some d, some (.loc b), x2, x3, x4, x5, x6, x7, x8, x9, x10, x11, x12, x13, x14, x15]) ⟨bg.x, _, _, _, _, _, _, _, _, _, _, _, _, _, _, rfl⟩ (fun _ _ _ _ => trivial) ?_ ?_
  · rintro i x ρ L' K _ ⟨bx, x2, x3, x4, x5, x6, x7, x8, x9, x10, x11, x12, x13, x14, x15, rfl⟩ hK
    simp only [wSs, wS, wSeq, wSkip, wRet, wRetN, wIf, wSet, wExp, wBrk, wCnt, wNever, wAsg, wPar, wSub, Bw.wE, wA, wB, wO, wCd, wLX, wIX, wAnd, wOr, Bw.wNot, wIte, asT, w1, w2, w1, wVar, wC, wTup, wLst, wMth, wMthl, wListOf, wL, wNew, wSlcL, wFor, iLx, iSq, wComp, wACons, wANil, wCall, wSlc, wNo, wSo, wChn, wBopN, CO.sem, BO.sem, F1.sem, FL.sem, OM.sem, gT, gSlot, start0, List.map_cons, List.map_nil, List.length_cons, List.length_nil, List.replicate_succ, List.replicate_zero, List.cons_append, List.nil_append, List.append_nil, List.getElem?_cons_zero, List.getElem?_cons_succ, List.set_cons_zero, List.set_cons_succ, Nat.sub_self, Nat.sub_zero, Nat.add_sub_cancel, Nat.reduceAdd, Nat.reduceSub, if_true, if_false, Bool.false_eq_true, Nat.zero_add, x_some, x_some1, x_bl, x_ix, x_len, x_eqStr, x_eqInt, x_eqBl, x_in, x_b2, x_i2, x_mul, x_addI, x_addT, x_int, x_abs, x_neg, at_0, at_1, at_2, at_3, at_m1, Bool.false_xor, Bool.true_xor, iRange1, lTup, wDNew]
    refine ⟨trivial, b, g, 5, rfl, bx.bag, by decide, by decide, fun r1 L2 h0 h1 _ bx1 => ⟨trivial, b, g, 1 + r1, 4, rfl, bx1.bag, by omega, by simp; omega, by decide, fun kd L3 ak _ bx3 => ?_⟩⟩
    have bx3' := bx.trans (bx1.trans bx3)
    clear bx1 bx3 bx
    have kk := kdp_kind ak.k
    have pk := ak_pure ak
    have zk : dsz kd ≤ 484 := by have := ak.z; simp only [fz] at this; omega
    obtain ⟨ll1, ll2⟩ := ak_lets ak
    refine ⟨trivial, kd, rfl, kk, pure_cl pk, by omega, ll1, ll2, trivial, kd, rfl, pure_ty pk, by omega, trivial, _, _, rfl, _, rfl, ?_⟩
    rw [kk]
    simp only [beq_self_eq_true, Bool.not_true, Bool.false_eq_true, if_false]
    refine ⟨trivial, kd, rfl, kk, pure_ty pk, pure_cl pk, by omega, ll1, ll2, trivial, _, rfl, by simp only [siD]; exact si_ints, by simp only [ddp, ddps_ints]; omega, by simp only [ddp, ddps_ints]; omega, by simp only [dsz, dszs_ints]; omega, _, rfl, ?_⟩
    rw [if_neg (by simp)]
    refine ⟨trivial, b, g, 2, rfl, bx3'.bag, by decide, by decide, fun r2 L4 h2 h3 _ bx4 => ⟨_, rfl, by omega, by omega, ?_⟩⟩
    refine law_comp (k := 3) (m := 3) (c := (4 + r2).toNat) rfl (bx3'.trans bx4) (by decide) (by decide) (by decide) (by omega) (by simp) fun σ L5 hσl hσ bx5 => ?_
    have pf := pf_of ak (by omega) hσ
    have bl : below σ.length kd := below_up ak.b (by omega)
    have k6 : kdp 6 kd := kdp_mono (by decide) ak.k
    have sfil : ∀ (ks : List D) (m : Nat), (∀ x ∈ ks, AK 5 m x) → ∀ x ∈ ks, isKindD x = true ∧ pureD x ∧ dsz x ≤ 1000000 := fun ks m h x hx => ⟨kdp_kind (h x hx).k, ak_pure (h x hx), by have := (h x hx).z; rw [fz5] at this; omega⟩
    have pz := pf.z
    have pd := pf.d
    refine ⟨trivial, kd, σ, rfl, k6, pk, bl, by omega, sfil σ 3 hσ, by omega, ll1, ll2, trivial, kd, σ, rfl, k6, bl, by omega, trivial, _, rfl, kindsi pf.k, by omega, by omega, by omega, _, rfl, ?_⟩
    rw [if_neg (by simp)]
    refine ⟨trivial, kd, σ, rfl, k6, pk, bl, by omega, sfil σ 3 hσ, by omega, ll1, ll2, trivial, kd, σ, rfl, k6, bl, by omega, x_eqsi (kindsi pf.k) (kindsi pf.k) (by omega) ⟨_, rfl, ?_⟩⟩
    rw [show (true ^^ decide (putD σ kd = putD σ kd)) = false by simp]
    rw [if_neg (by simp)]
    refine ⟨_, rfl, by decide, by decide, ?_⟩
    refine law_comp (k := 3) (m := 0) (c := 4) rfl bx5 (by decide) (by decide) (by decide) (by decide) (by simp) fun τ L6 hτl hτ bx6 => ?_
    have pw := pf_of ak (by omega) hτ
    have bw : below τ.length kd := below_up ak.b (by omega)
    have wz := pw.z
    have wd := pw.d
    refine ⟨trivial, kd, τ, rfl, k6, bw, by omega, ?_⟩
    clear bx5 bx4 bx3' hσ
    have nlW : NL (putD τ kd) := put_nl (fun x hx => ak_nl (hτ x hx).k (hτ x hx).b) ak.k bw
    have lW : letL (nodesD (putD τ kd)) = [] := nl_none _ _ (Nat.le_refl _) pw.k nlW
    obtain ⟨ps0, hps0, mps0⟩ := pairs_put (σ := τ) ak.k bw
    have gps0 : Good ps0 := pairs_good _ kd _ (Nat.le_refl _) (kind_inner kk).1 pw.k (kind_inner kk).2 (by omega) ps0 hps0
    have memD : ∀ (l : List Int), (∀ j ∈ l, j ∈ letsD kd) → ∀ i x, (i, x) ∈ (l.map fun j => (j, (τ[j.toNat]?).getD D.non)) ↔ i ∈ l ∧ τ[i.toNat]? = some x := fun l hl i x => by
      rw [List.mem_map]
      constructor
      · rintro ⟨j, hj, e⟩
        cases e
        have hj2 := mem_srt.1 (hl _ hj)
        obtain ⟨y, hy, _⟩ := get_of (let_nn kk _ hj2) (bw _ hj2)
        exact ⟨hj, by rw [hy]; rfl⟩
      · rintro ⟨hi, e⟩
        exact ⟨i, hi, by rw [e]; rfl⟩
    refine for_run (fun i ρ L' => ∃ kvs y9, L' = L6 ++ [.dk kvs] ∧ IsMap kvs (((letsD kd).take i).map fun j => (j, (τ[j.toNat]?).getD D.non)) ∧ kvs.length ≤ i ∧
        ρ = [some d, some (.loc b), some x, some kd, some (.tup ((letsD kd).map D.int)), some (.tup σ), some (.tup τ), some (putD τ kd), some (.loc L6.length), y9, x10, x11, x12, x13, x14, x15]) ⟨[], _, rfl, by simpa using isMap_nil, by simp, rfl⟩ (fun _ _ _ _ => trivial) ?_ ?_
    · rintro i y ρ L' K2 hy ⟨kvs, y9, rfl, im, hkl, rfl⟩ hK2
      rw [List.getElem?_map, Option.map_eq_some_iff] at hy
      obtain ⟨j, hj, rfl⟩ := hy
      have hjm : j ∈ letsD kd := List.mem_of_getElem? hj
      have hj2 := mem_srt.1 hjm
      obtain ⟨v, hv, hvm⟩ := get_of (let_nn kk _ hj2) (bw _ hj2)
      have hil : i < (letsD kd).length := (List.getElem?_eq_some_iff.mp hj).1
      simp only [wSs, wS, wSeq, wSkip, wRet, wRetN, wIf, wSet, wExp, wBrk, wCnt, wNever, wAsg, wPar, wSub, Bw.wE, wA, wB, wO, wCd, wLX, wIX, wAnd, wOr, Bw.wNot, wIte, asT, w1, w2, w1, wVar, wC, wTup, wLst, wMth, wMthl, wListOf, wL, wNew, wSlcL, wFor, iLx, iSq, wComp, wACons, wANil, wCall, wSlc, wNo, wSo, wChn, wBopN, CO.sem, BO.sem, F1.sem, FL.sem, OM.sem, gT, gSlot, start0, List.map_cons, List.map_nil, List.length_cons, List.length_nil, List.replicate_succ, List.replicate_zero, List.cons_append, List.nil_append, List.append_nil, List.getElem?_cons_zero, List.getElem?_cons_succ, List.set_cons_zero, List.set_cons_succ, Nat.sub_self, Nat.sub_zero, Nat.add_sub_cancel, Nat.reduceAdd, Nat.reduceSub, if_true, if_false, Bool.false_eq_true, Nat.zero_add, x_some, x_some1, x_bl, x_ix, x_len, x_eqStr, x_eqInt, x_eqBl, x_in, x_b2, x_i2, x_mul, x_addI, x_addT, x_int, x_abs, x_neg, at_0, at_1, at_2, at_3, at_m1, Bool.false_xor, Bool.true_xor]
      have hav : _root_.L2.atI τ j = some v := by
        have := Bw.atI_nat τ j.toNat
        rw [show ((j.toNat : Nat) : Int) = j by have := let_nn kk _ hj2; omega] at this
        rw [this, hv]
      refine ⟨v, hav, x_setDk cell_last (by rw [size_line]; omega) ?_⟩
      have hno : valD kvs (.inl j) = none := by
        cases e : valD kvs (.inl j) with
        | none => rfl
        | some z =>
          have h1 := (im.val j z).1 e
          have h2 := ((memD _ (fun k hk => List.mem_of_mem_take hk) j z).1 h1).1
          obtain ⟨t, ht, e2⟩ := List.mem_iff_getElem.mp h2
          rw [List.length_take] at ht
          rw [List.getElem_take] at e2
          have e3 : (letsD kd)[i] = j := (List.getElem?_eq_some_iff.mp hj).2
          have hil' : i < (srt (letL (nodesD kd))).length := hil
          have htl : t < (srt (letL (nodesD kd))).length := by omega
          have := (List.pairwise_iff_getElem.mp (pw_srt (l := letL (nodesD kd)))) t i htl hil' (by omega)
          have e2' : (srt (letL (nodesD kd)))[t]'htl = j := e2
          have e3' : (srt (letL (nodesD kd)))[i]'hil = j := e3
          omega
      rw [set_last]
      refine hK2 _ _ ⟨_, _, rfl, ?_, ?_, rfl⟩
      · rw [List.take_add_one, hj, Option.toList_some, List.map_append]
        have := im.put (v := v) hno
        simpa [hv] using this
      · rw [putD_new hno]; simp; omega
    · rintro ρ L' ⟨kvs, y9, rfl, im, hkl, rfl⟩
      rw [List.length_map, List.take_of_length_le (by simp)] at im
      have fn0 : Fn ps0 := fun i x y h1 h2 => by
        have a := ((mps0 i x).1 h1).2
        have b := ((mps0 i y).1 h2).2
        rw [a] at b; cases b; rfl
      simp only [wSs, wS, wSeq, wSkip, wRet, wRetN, wIf, wSet, wExp, wBrk, wCnt, wNever, wAsg, wPar, wSub, Bw.wE, wA, wB, wO, wCd, wLX, wIX, wAnd, wOr, Bw.wNot, wIte, asT, w1, w2, w1, wVar, wC, wTup, wLst, wMth, wMthl, wListOf, wL, wNew, wSlcL, wFor, iLx, iSq, wComp, wACons, wANil, wCall, wSlc, wNo, wSo, wChn, wBopN, CO.sem, BO.sem, F1.sem, FL.sem, OM.sem, gT, gSlot, start0, List.map_cons, List.map_nil, List.length_cons, List.length_nil, List.replicate_succ, List.replicate_zero, List.cons_append, List.nil_append, List.append_nil, List.getElem?_cons_zero, List.getElem?_cons_succ, List.set_cons_zero, List.set_cons_succ, Nat.sub_self, Nat.sub_zero, Nat.add_sub_cancel, Nat.reduceAdd, Nat.reduceSub, if_true, if_false, Bool.false_eq_true, Nat.zero_add, x_some, x_some1, x_bl, x_ix, x_len, x_eqStr, x_eqInt, x_eqBl, x_in, x_b2, x_i2, x_mul, x_addI, x_addT, x_int, x_abs, x_neg, at_0, at_1, at_2, at_3, at_m1, Bool.false_xor, Bool.true_xor, iRange1, lTup, wDNew]
      refine ⟨trivial, kd, putD τ kd, rfl, kk, pw.k, by omega, by omega, by omega, lW, fun ps kvs2 hps im2 => ?_, fun hbad => absurd fn0 (hbad ps0 hps0)⟩
      rw [hps0] at hps; cases hps
      have hdt : tyD (L6 ++ [Cell.dk kvs] ++ [Cell.dk kvs2]) (.loc (L6 ++ [Cell.dk kvs]).length) = some "dict" := by simp only [tyD, cell_last]
      have hdk : (L6 ++ [Cell.dk kvs] ++ [Cell.dk kvs2])[L6.length]? = some (.dk kvs) := by rw [List.append_assoc]; exact cell_last1
      have bx7 : BagX b g L1 (L6 ++ [Cell.dk kvs] ++ [Cell.dk kvs2]) := (bx6.trans bx6.bag.xapp).trans bx6.bag.app.xapp
      refine (x_isi (T := "dict") (by decide) hdt).2 ⟨_, rfl, ?_⟩
      rw [show isTy "dict" "dict" = true from rfl, if_neg (by simp)]
      refine x_neDk cell_last hdk im2 im gps0 (fun p => ?_) ⟨_, rfl, ?_⟩
      · obtain ⟨i, x⟩ := p
        rw [mps0, memD _ (fun j hj => hj)]
        exact ⟨fun ⟨a, b⟩ => ⟨mem_srt.2 a, b⟩, fun ⟨a, b⟩ => ⟨mem_srt.1 a, b⟩⟩
      rw [if_neg (by simp)]
      refine ⟨trivial, kd, τ, rfl, k6, pk, bw, by omega, sfil τ 0 hτ, by omega, ll1, ll2, trivial, _, rfl, kindsi pw.k, by omega, by omega, by omega, _, rfl, ?_⟩
      rw [if_neg (by simp)]
      generalize (L6 ++ [Cell.dk kvs] ++ [Cell.dk kvs2] : LH) = L7 at *
      refine ⟨trivial, b, g, 4, rfl, bx7.bag, by decide, by decide, fun r3 L8 h4 h5 _ bx8 => ⟨trivial, b, g, 1 + r3, 0, rfl, bx8.bag, by omega, by simp; omega, by decide, fun oth L9 ao _ bx9 => ?_⟩⟩
      refine ⟨trivial, b, g, 2, rfl, bx9.bag, by decide, by decide, fun r4 L10 h6 h7 _ bx10 => x_eqInt.2 ⟨_, rfl, ?_⟩⟩
      have bxA : BagX b g L1 L10 := bx7.trans (bx8.trans (bx9.trans bx10))
      have oko : OK4 oth := ⟨kdp_kind ao.k, by have := ao.z; rw [fz5] at this; omega, by have := ao.d; omega, nl_none _ _ (Nat.le_refl _) (kdp_kind ao.k) (ak_nl ao.k ao.b)⟩
      have hK3 : ∀ ρ'' L'', BagX b g L1 L'' → (∃ x2 x3 x4 x5 x6 x7 x8 x9 x10 x11 x12 x13 x14 x15, ρ'' = [some d, some (.loc b), x2, x3, x4, x5, x6, x7, x8, x9, x10, x11, x12, x13, x14, x15]) → K ρ'' L'' := fun ρ'' L'' h1 h2 => hK _ _ ⟨h1, h2⟩
      by_cases hr4 : r4 = 0
      · rw [if_pos (by simp [hr4])]
        refine ⟨sz_small (by omega), trivial, b, g, putD τ kd, .tup [.str "num"], 8, rfl, bxA.bag, pure_ty (si_pure (kindsi pw.k)), by decide, by decide, by omega, fun bent L11 hR hz hd _ bx11 => ?_⟩
        have sb : siD bent := hR _ her_si (kindsi pw.k) (by simp [siD, siDs])
        have nb : NL bent := hR _ her_nl nlW ((her_nl _).2 (by simp only [List.mem_cons, List.not_mem_nil, or_false, forall_eq]; exact nl_str (by decide)))
        have hz' : dsz bent ≤ 2 * dsz (putD τ kd) + 2 := hz
        have hd' : ddp bent ≤ ddp (putD τ kd) + 1 := hd
        refine ⟨trivial, bent, rfl, pure_ty (si_pure sb), by omega, _, rfl, ?_⟩
        have bxB := bxA.trans bx11
        cases hkb : isKindD bent with
        | true => rw [if_pos rfl]; exact w_tail ak ⟨hkb, by omega, by omega, nl_none _ _ (Nat.le_refl _) hkb nb⟩ bxB hK3
        | false => rw [if_neg (by simp)]; exact w_tail ak oko bxB hK3
      · rw [if_neg (by simp [hr4])]
        exact w_tail ak oko bxA hK3
  · rintro ρ L' ⟨bx, x2, x3, x4, x5, x6, x7, x8, x9, x10, x11, x12, x13, x14, x15, rfl⟩
    simp only [wSs, wS, wSeq, wSkip, wRet, wRetN, wIf, wSet, wExp, wBrk, wCnt, wNever, wAsg, wPar, wSub, Bw.wE, wA, wB, wO, wCd, wLX, wIX, wAnd, wOr, Bw.wNot, wIte, asT, w1, w2, w1, wVar, wC, wTup, wLst, wMth, wMthl, wListOf, wL, wNew, wSlcL, wFor, iLx, iSq, wComp, wACons, wANil, wCall, wSlc, wNo, wSo, wChn, wBopN, CO.sem, BO.sem, F1.sem, FL.sem, OM.sem, gT, gSlot, start0, List.map_cons, List.map_nil, List.length_cons, List.length_nil, List.replicate_succ, List.replicate_zero, List.cons_append, List.nil_append, List.append_nil, List.getElem?_cons_zero, List.getElem?_cons_succ, List.set_cons_zero, List.set_cons_succ, Nat.sub_self, Nat.sub_zero, Nat.add_sub_cancel, Nat.reduceAdd, Nat.reduceSub, if_true, if_false, Bool.false_eq_true, Nat.zero_add, x_some, x_some1, x_bl, x_ix, x_len, x_eqStr, x_eqInt, x_eqBl, x_in, x_b2, x_i2, x_mul, x_addI, x_addT, x_int, x_abs, x_neg, at_0, at_1, at_2, at_3, at_m1, Bool.false_xor, Bool.true_xor]
    have kf : isKindD (deepN 40) = false := by rw [isKindD_eq]; rfl
    have fin : (endsOf g Q).rt (.bl true) L' := by
      rw [← hg] at c1 ⊢
      refine ret_law c1 ?_ (fun i hi => ?_) cl_bl (q L)
      · have := bx.len; omega
      · rw [bx.oth i (by omega) (by omega) (by omega), ← hL1, List.getElem?_append_left hi]
    refine ⟨trivial, rfl, trivial, deepN 40, rfl, pure_ty (si_pure (deep_si 40)), by decide, ?_⟩
    rw [kf]
    exact fin
end K01
end
section
set_option linter.all false
set_option maxRecDepth 100000
set_option maxHeartbeats 4000000
namespace K01
open PySem Bw L2

def allBl : List Str := ["abs", "all", "any", "bool", "dict", "int", "isinstance", "len", "list", "range", "set", "sorted", "str", "sum", "tuple", "zip"]
theorem bl_of {mg : Str → Option Value} {l : List Str} (hb : ∀ y ∈ allBl, mg y = none) (h : (l.all fun y => allBl.any (beqS y)) = true) : ∀ y, l.any (beqS y) = true → mg y = none := fun y hy => by
  obtain ⟨z, hz, e⟩ := List.any_eq_true.mp hy
  have e := beqS_eq e
  subst e
  obtain ⟨u, hu, e⟩ := List.any_eq_true.mp (List.all_eq_true.mp h y hz)
  have e := beqS_eq e
  subst e
  exact hb y hu
section
variable {P : Program} {w : World} {K : PySem.W.Frag} {mg : Str → Option Value} {base : Heap}
theorem fnOk_never {k n : Nat} {f : Addr} {fd : FuncData} {ps : List Str} {S : DSp} (h : ∀ ds L Q E, ¬ S ds L Q E) : FnOk P w K mg base CX0 k f fd ps (spOf K mg n S) :=
  ⟨fun vs H Q E ⟨θ, ds, L, Q0, E0, _, _, _, hs, _⟩ => (h ds L Q0 E0 hs).elim, fun A outer s H args us vs Q E _ _ _ _ ⟨θ, ds, L, Q0, E0, _, _, _, hs, _⟩ => (h ds L Q0 E0 hs).elim⟩
theorem S_rawz_no {ds : List D} {L : LH} {Q : Post} {E : XP} (h : S_rawz 0 ds L Q E) : False := by obtain ⟨d, σ, _, hd, _⟩ := h; exact hd
theorem S_is_no {ds : List D} {L : LH} {Q : Post} {E : XP} (h : S_is 0 ds L Q E) : False := by obtain ⟨d, _, _, hd, _⟩ := h; omega
theorem S_any_no {ds : List D} {L : LH} {Q : Post} {E : XP} (h : S_any 0 ds L Q E) : False := by obtain ⟨b, g, k, m, _, _, h1, h2, _⟩ := h; omega
theorem S_ch_no {ds : List D} {L : LH} {Q : Post} {E : XP} (h : S_ch 0 ds L Q E) : False := by obtain ⟨b, g, t, o, k, _, _, _, h1, h2, _⟩ := h; omega
theorem S_gw_no {ds : List D} {L : LH} {Q : Post} {E : XP} (h : S_gw 0 ds L Q E) : False := by obtain ⟨k, c, f, kvs, ps0, _, _, h1, _⟩ := h; exact h1
theorem all_ok (hb : ∀ y ∈ allBl, mg y = none)
    {f_is_integer_ : Addr} {fd_is_integer : FuncData} (F_is_integer : FunD K "is_integer" "is_integer" (defArgs s_is_integer) (defBody s_is_integer) (defScope s_is_integer) [] [] f_is_integer_ fd_is_integer) (g_is_integer : mg "is_integer" = some (.ref f_is_integer_))
    {f_is_sized_ : Addr} {fd_is_sized : FuncData} (F_is_sized : FunD K "is_sized" "is_sized" (defArgs s_is_sized) (defBody s_is_sized) (defScope s_is_sized) [] [] f_is_sized_ fd_is_sized) (g_is_sized : mg "is_sized" = some (.ref f_is_sized_))
    {f_inner_of_ : Addr} {fd_inner_of : FuncData} (F_inner_of : FunD K "inner_of" "inner_of" (defArgs s_inner_of) (defBody s_inner_of) (defScope s_inner_of) [] [] f_inner_of_ fd_inner_of) (g_inner_of : mg "inner_of" = some (.ref f_inner_of_))
    {f_with_inner_ : Addr} {fd_with_inner : FuncData} (F_with_inner : FunD K "with_inner" "with_inner" (defArgs s_with_inner) (defBody s_with_inner) (defScope s_with_inner) [] [] f_with_inner_ fd_with_inner) (g_with_inner : mg "with_inner" = some (.ref f_with_inner_))
    {f__law_inner_ : Addr} {fd__law_inner : FuncData} (F__law_inner : FunD K "_law_inner" "_law_inner" (defArgs s__law_inner) (defBody s__law_inner) (defScope s__law_inner) [] [] f__law_inner_ fd__law_inner) (g__law_inner : mg "_law_inner" = some (.ref f__law_inner_))
    {f__law_is_int_ : Addr} {fd__law_is_int : FuncData} (F__law_is_int : FunD K "_law_is_int" "_law_is_int" (defArgs s__law_is_int) (defBody s__law_is_int) (defScope s__law_is_int) [] [] f__law_is_int_ fd__law_is_int) (g__law_is_int : mg "_law_is_int" = some (.ref f__law_is_int_))
    {f__law_is_flag_ : Addr} {fd__law_is_flag : FuncData} (F__law_is_flag : FunD K "_law_is_flag" "_law_is_flag" (defArgs s__law_is_flag) (defBody s__law_is_flag) (defScope s__law_is_flag) [] [] f__law_is_flag_ fd__law_is_flag) (g__law_is_flag : mg "_law_is_flag" = some (.ref f__law_is_flag_))
    {f__law_deep_ : Addr} {fd__law_deep : FuncData} (F__law_deep : FunD K "_law_deep" "_law_deep" (defArgs s__law_deep) (defBody s__law_deep) (defScope s__law_deep) [] [] f__law_deep_ fd__law_deep) (g__law_deep : mg "_law_deep" = some (.ref f__law_deep_))
    {f__law_bag_ : Addr} {fd__law_bag : FuncData} (F__law_bag : FunD K "_law_bag" "_law_bag" (defArgs s__law_bag) (defBody s__law_bag) (defScope s__law_bag) [] [] f__law_bag_ fd__law_bag) (g__law_bag : mg "_law_bag" = some (.ref f__law_bag_))
    {f__law_pick_ : Addr} {fd__law_pick : FuncData} (F__law_pick : FunD K "_law_pick" "_law_pick" (defArgs s__law_pick) (defBody s__law_pick) (defScope s__law_pick) [] [] f__law_pick_ fd__law_pick) (g__law_pick : mg "_law_pick" = some (.ref f__law_pick_))
    {f_has_form_ : Addr} {fd_has_form : FuncData} (F_has_form : FunD K "has_form" "has_form" (defArgs s_has_form) (defBody s_has_form) (defScope s_has_form) [] [] f_has_form_ fd_has_form) (g_has_form : mg "has_form" = some (.ref f_has_form_))
    {f__law_has_form_ : Addr} {fd__law_has_form : FuncData} (F__law_has_form : FunD K "_law_has_form" "_law_has_form" (defArgs s__law_has_form) (defBody s__law_has_form) (defScope s__law_has_form) [] [] f__law_has_form_ fd__law_has_form) (g__law_has_form : mg "_law_has_form" = some (.ref f__law_has_form_))
    {f_all_in_ : Addr} {fd_all_in : FuncData} (F_all_in : FunD K "all_in" "all_in" (defArgs s_all_in) (defBody s_all_in) (defScope s_all_in) [] [] f_all_in_ fd_all_in) (g_all_in : mg "all_in" = some (.ref f_all_in_))
    {f__law_all_in_ : Addr} {fd__law_all_in : FuncData} (F__law_all_in : FunD K "_law_all_in" "_law_all_in" (defArgs s__law_all_in) (defBody s__law_all_in) (defScope s__law_all_in) [] [] f__law_all_in_ fd__law_all_in) (g__law_all_in : mg "_law_all_in" = some (.ref f__law_all_in_))
    {f__law_some_ : Addr} {fd__law_some : FuncData} (F__law_some : FunD K "_law_some" "_law_some" (defArgs s__law_some) (defBody s__law_some) (defScope s__law_some) [] [] f__law_some_ fd__law_some) (g__law_some : mg "_law_some" = some (.ref f__law_some_))
    {f_is_like_ : Addr} {fd_is_like : FuncData} (F_is_like : FunD K "is_like" "is_like" (defArgs s_is_like) (defBody s_is_like) (defScope s_is_like) [] [] f_is_like_ fd_is_like) (g_is_like : mg "is_like" = some (.ref f_is_like_))
    {f_is_kind_ : Addr} {fd_is_kind : FuncData} (F_is_kind : FunD K "is_kind" "is_kind" (defArgs s_is_kind) (defBody s_is_kind) (defScope s_is_kind) [] [] f_is_kind_ fd_is_kind) (g_is_kind : mg "is_kind" = some (.ref f_is_kind_))
    {f__law_is_kind_ : Addr} {fd__law_is_kind : FuncData} (F__law_is_kind : FunD K "_law_is_kind" "_law_is_kind" (defArgs s__law_is_kind) (defBody s__law_is_kind) (defScope s__law_is_kind) [] [] f__law_is_kind_ fd__law_is_kind) (g__law_is_kind : mg "_law_is_kind" = some (.ref f__law_is_kind_))
    {f_letters_of_ : Addr} {fd_letters_of : FuncData} (F_letters_of : FunD K "letters_of" "letters_of" (defArgs s_letters_of) (defBody s_letters_of) (defScope s_letters_of) [] [] f_letters_of_ fd_letters_of) (g_letters_of : mg "letters_of" = some (.ref f_letters_of_))
    {f__law_letters_ : Addr} {fd__law_letters : FuncData} (F__law_letters : FunD K "_law_letters" "_law_letters" (defArgs s__law_letters) (defBody s__law_letters) (defScope s__law_letters) [] [] f__law_letters_ fd__law_letters) (g__law_letters : mg "_law_letters" = some (.ref f__law_letters_))
    {f_check_kind_ : Addr} {fd_check_kind : FuncData} (F_check_kind : FunD K "check_kind" "check_kind" (defArgs s_check_kind) (defBody s_check_kind) (defScope s_check_kind) [] [] f_check_kind_ fd_check_kind) (g_check_kind : mg "check_kind" = some (.ref f_check_kind_))
    {f_is_closed_ : Addr} {fd_is_closed : FuncData} (F_is_closed : FunD K "is_closed" "is_closed" (defArgs s_is_closed) (defBody s_is_closed) (defScope s_is_closed) [] [] f_is_closed_ fd_is_closed) (g_is_closed : mg "is_closed" = some (.ref f_is_closed_))
    {f_letters_in_ : Addr} {fd_letters_in : FuncData} (F_letters_in : FunD K "letters_in" "letters_in" (defArgs s_letters_in) (defBody s_letters_in) (defScope s_letters_in) [] [] f_letters_in_ fd_letters_in) (g_letters_in : mg "letters_in" = some (.ref f_letters_in_))
    {f_matched_ : Addr} {fd_matched : FuncData} (F_matched : FunD K "matched" "matched" (defArgs s_matched) (defBody s_matched) (defScope s_matched) [] [] f_matched_ fd_matched) (g_matched : mg "matched" = some (.ref f_matched_))
    {f_raw_filled_ : Addr} {fd_raw_filled : FuncData} (F_raw_filled : FunD K "raw_filled" "raw_filled" (defArgs s_raw_filled) (defBody s_raw_filled) (defScope s_raw_filled) [] [] f_raw_filled_ fd_raw_filled) (g_raw_filled : mg "raw_filled" = some (.ref f_raw_filled_))
    {f__law_put_ : Addr} {fd__law_put : FuncData} (F__law_put : FunD K "_law_put" "_law_put" (defArgs s__law_put) (defBody s__law_put) (defScope s__law_put) [] [] f__law_put_ fd__law_put) (g__law_put : mg "_law_put" = some (.ref f__law_put_))
    {f_filled_ : Addr} {fd_filled : FuncData} (F_filled : FunD K "filled" "filled" (defArgs s_filled) (defBody s_filled) (defScope s_filled) [] [] f_filled_ fd_filled) (g_filled : mg "filled" = some (.ref f_filled_))
    {f__law_is_ : Addr} {fd__law_is : FuncData} (F__law_is : FunD K "_law_is" "_law_is" (defArgs s__law_is) (defBody s__law_is) (defScope s__law_is) [] [] f__law_is_ fd__law_is) (g__law_is : mg "_law_is" = some (.ref f__law_is_))
    {f__law_any_kind_ : Addr} {fd__law_any_kind : FuncData} (F__law_any_kind : FunD K "_law_any_kind" "_law_any_kind" (defArgs s__law_any_kind) (defBody s__law_any_kind) (defScope s__law_any_kind) [] [] f__law_any_kind_ fd__law_any_kind) (g__law_any_kind : mg "_law_any_kind" = some (.ref f__law_any_kind_))
    {f__law_changed_ : Addr} {fd__law_changed : FuncData} (F__law_changed : FunD K "_law_changed" "_law_changed" (defArgs s__law_changed) (defBody s__law_changed) (defScope s__law_changed) [] [] f__law_changed_ fd__law_changed) (g__law_changed : mg "_law_changed" = some (.ref f__law_changed_))
    {f__law_goes_with_ : Addr} {fd__law_goes_with : FuncData} (F__law_goes_with : FunD K "_law_goes_with" "_law_goes_with" (defArgs s__law_goes_with) (defBody s__law_goes_with) (defScope s__law_goes_with) [] [] f__law_goes_with_ fd__law_goes_with) (g__law_goes_with : mg "_law_goes_with" = some (.ref f__law_goes_with_))
    {f__law_odd_ : Addr} {fd__law_odd : FuncData} (F__law_odd : FunD K "_law_odd" "_law_odd" (defArgs s__law_odd) (defBody s__law_odd) (defScope s__law_odd) [] [] f__law_odd_ fd__law_odd) (g__law_odd : mg "_law_odd" = some (.ref f__law_odd_))
    {f_law_ : Addr} {fd_law : FuncData} (F_law : FunD K "law" "law" (defArgs s_law) (defBody s_law) (defScope s_law) [] [] f_law_ fd_law) (g_law : mg "law" = some (.ref f_law_)) : FnOk P w K mg base CX0 100 f_law_ fd_law p_law (spOf K mg 1 S_law) := by
  have T_is_integer : FnT P w K mg base 1 "is_integer" 1 (S_is_integer) := fn_tell F_is_integer (fn_ok (k := 0) (Γ := (fun _ => S_is_integer)) F_is_integer f_is_integer rfl rfl k_is_integer (bl_of hb (by decide)) (fun y d h => (List.not_mem_nil h).elim) (fun i y n h => match i, h with | i + 0, h => by { have h' : (none : Option (Str × Nat)) = some (y, n) := h; cases h' }) (fun ds L Q E hl c1 c2 h => w_is_integer (E := E) c1 c2 h)) g_is_integer (fun _ _ _ _ _ _ us hl => match us, hl with | [_], _ => rfl)
  have T_is_sized : FnT P w K mg base 1 "is_sized" 3 (S_is_sized) := fn_tell F_is_sized (fn_ok (k := 0) (Γ := (fun _ => S_is_integer)) F_is_sized f_is_sized rfl rfl k_is_sized (bl_of hb (by decide)) (fun y d h => (List.not_mem_nil h).elim) (fun i y n h => match i, h with | i + 0, h => by { have h' : (none : Option (Str × Nat)) = some (y, n) := h; cases h' }) (fun ds L Q E hl c1 c2 h => w_is_sized (E := E) c1 c2 h)) g_is_sized (fun _ _ _ _ _ _ us hl => match us, hl with | [_, _, _], _ => rfl)
  have T_inner_of : FnT P w K mg base 1 "inner_of" 1 (S_inner_of) := fn_tell F_inner_of (fn_ok (k := 0) (Γ := (fun _ => S_is_integer)) F_inner_of f_inner_of rfl rfl k_inner_of (bl_of hb (by decide)) (fun y d h => (List.not_mem_nil h).elim) (fun i y n h => match i, h with | i + 0, h => by { have h' : (none : Option (Str × Nat)) = some (y, n) := h; cases h' }) (fun ds L Q E hl c1 c2 h => w_inner_of (E := E) c1 c2 h)) g_inner_of (fun _ _ _ _ _ _ us hl => match us, hl with | [_], _ => rfl)
  have T_with_inner : FnT P w K mg base 1 "with_inner" 2 (S_with) := fn_tell F_with_inner (fn_ok (k := 0) (Γ := (fun _ => S_is_integer)) F_with_inner f_with_inner rfl rfl k_with_inner (bl_of hb (by decide)) (fun y d h => (List.not_mem_nil h).elim) (fun i y n h => match i, h with | i + 0, h => by { have h' : (none : Option (Str × Nat)) = some (y, n) := h; cases h' }) (fun ds L Q E hl c1 c2 h => w_with_inner (E := E) c1 c2 h)) g_with_inner (fun _ _ _ _ _ _ us hl => match us, hl with | [_, _], _ => rfl)
  have T__law_inner : FnT P w K mg base 1 "_law_inner" 1 (S_inner_of) := fn_tell F__law_inner (fn_ok (k := 0) (Γ := (fun _ => S_is_integer)) F__law_inner f__law_inner rfl rfl k__law_inner (bl_of hb (by decide)) (fun y d h => (List.not_mem_nil h).elim) (fun i y n h => match i, h with | i + 0, h => by { have h' : (none : Option (Str × Nat)) = some (y, n) := h; cases h' }) (fun ds L Q E hl c1 c2 h => w_law_inner (E := E) c1 c2 h)) g__law_inner (fun _ _ _ _ _ _ us hl => match us, hl with | [_], _ => rfl)
  have T__law_is_int : FnT P w K mg base 1 "_law_is_int" 1 (S_is_integer) := fn_tell F__law_is_int (fn_ok (k := 0) (Γ := (fun _ => S_is_integer)) F__law_is_int f__law_is_int rfl rfl k__law_is_int (bl_of hb (by decide)) (fun y d h => (List.not_mem_nil h).elim) (fun i y n h => match i, h with | i + 0, h => by { have h' : (none : Option (Str × Nat)) = some (y, n) := h; cases h' }) (fun ds L Q E hl c1 c2 h => w__law_is_int (E := E) c1 c2 h)) g__law_is_int (fun _ _ _ _ _ _ us hl => match us, hl with | [_], _ => rfl)
  have T__law_is_flag : FnT P w K mg base 1 "_law_is_flag" 2 (S_flag) := fn_tell F__law_is_flag (fn_ok (k := 0) (Γ := (fun _ => S_is_integer)) F__law_is_flag f__law_is_flag rfl rfl k__law_is_flag (bl_of hb (by decide)) (fun y d h => (List.not_mem_nil h).elim) (fun i y n h => match i, h with | i + 0, h => by { have h' : (none : Option (Str × Nat)) = some (y, n) := h; cases h' }) (fun ds L Q E hl c1 c2 h => w__law_is_flag (E := E) c1 c2 h)) g__law_is_flag (fun _ _ _ _ _ _ us hl => match us, hl with | [_, _], _ => rfl)
  have T__law_deep : FnT P w K mg base 1 "_law_deep" 0 (S_deep) := fn_tell F__law_deep (fn_ok (k := 0) (Γ := (fun _ => S_is_integer)) F__law_deep f__law_deep rfl rfl k__law_deep (bl_of hb (by decide)) (fun y d h => (List.not_mem_nil h).elim) (fun i y n h => match i, h with | i + 0, h => by { have h' : (none : Option (Str × Nat)) = some (y, n) := h; cases h' }) (fun ds L Q E hl c1 c2 h => w__law_deep (E := E) c1 c2 h)) g__law_deep (fun _ _ _ _ _ _ us hl => match us, hl with | [], _ => rfl)
  have T__law_bag : FnT P w K mg base 1 "_law_bag" 1 (S_bag) := fn_tell F__law_bag (fn_ok (k := 0) (Γ := (fun _ => S_is_integer)) F__law_bag f__law_bag rfl rfl k__law_bag (bl_of hb (by decide)) (fun y d h => (List.not_mem_nil h).elim) (fun i y n h => match i, h with | i + 0, h => by { have h' : (none : Option (Str × Nat)) = some (y, n) := h; cases h' }) (fun ds L Q E hl c1 c2 h => w__law_bag (E := E) c1 c2 h)) g__law_bag (fun _ _ _ _ _ _ us hl => match us, hl with | [_], _ => rfl)
  have T__law_pick : FnT P w K mg base 1 "_law_pick" 2 (S_pick) := fn_tell F__law_pick (fn_ok (k := 0) (Γ := (fun _ => S_is_integer)) F__law_pick f__law_pick rfl rfl k__law_pick (bl_of hb (by decide)) (fun y d h => (List.not_mem_nil h).elim) (fun i y n h => match i, h with | i + 0, h => by { have h' : (none : Option (Str × Nat)) = some (y, n) := h; cases h' }) (fun ds L Q E hl c1 c2 h => w__law_pick (E := E) c1 c2 h)) g__law_pick (fun _ _ _ _ _ _ us hl => match us, hl with | [_, _], _ => rfl)
  have T_has_form : FnT P w K mg base 2 "has_form" 1 (S_has_form) := fn_tell F_has_form (fn_ok (k := 1) (Γ := gam_form) F_has_form f_has_form rfl rfl k_has_form (bl_of hb (by decide)) (fun y d h => (List.not_mem_nil h).elim) (fun i y n h => match i, h with | 0, h => by { have h' : some (("is_integer" : Str), 1) = some (y, n) := h; cases h'; exact T_is_integer.up (by decide) } | 1, h => by { have h' : some (("is_sized" : Str), 3) = some (y, n) := h; cases h'; exact T_is_sized.up (by decide) } | i + 2, h => by { have h' : (none : Option (Str × Nat)) = some (y, n) := h; cases h' }) (fun ds L Q E hl c1 c2 h => w_has_form (E := E) c1 c2 h)) g_has_form (fun _ _ _ _ _ _ us hl => match us, hl with | [_], _ => rfl)
  have T__law_has_form : FnT P w K mg base 2 "_law_has_form" 1 (S_has_form) := fn_tell F__law_has_form (fn_ok (k := 1) (Γ := gam_lform) F__law_has_form f__law_has_form rfl rfl k__law_has_form (bl_of hb (by decide)) (fun y d h => (List.not_mem_nil h).elim) (fun i y n h => match i, h with | 0, h => by { have h' : some (("_law_is_int" : Str), 1) = some (y, n) := h; cases h'; exact T__law_is_int.up (by decide) } | i + 1, h => by { have h' : (none : Option (Str × Nat)) = some (y, n) := h; cases h' }) (fun ds L Q E hl c1 c2 h => w__law_has_form (E := E) c1 c2 h)) g__law_has_form (fun _ _ _ _ _ _ us hl => match us, hl with | [_], _ => rfl)
  have T_all_in : FnT P w K mg base 2 "all_in" 1 (S_all_in) := fn_tell F_all_in (fn_ok (k := 1) (Γ := gam_all) F_all_in f_all_in rfl rfl k_all_in (bl_of hb (by decide)) (fun y d h => (List.not_mem_nil h).elim) (fun i y n h => match i, h with | 0, h => by { have h' : some (("inner_of" : Str), 1) = some (y, n) := h; cases h'; exact T_inner_of.up (by decide) } | i + 1, h => by { have h' : (none : Option (Str × Nat)) = some (y, n) := h; cases h' }) (fun ds L Q E hl c1 c2 h => w_all_in (E := E) c1 c2 h)) g_all_in (fun _ _ _ _ _ _ us hl => match us, hl with | [_], _ => rfl)
  have T__law_all_in : FnT P w K mg base 2 "_law_all_in" 1 (S_all_in) := fn_tell F__law_all_in (fn_ok (k := 1) (Γ := gam_all) F__law_all_in f__law_all_in rfl rfl k__law_all_in (bl_of hb (by decide)) (fun y d h => (List.not_mem_nil h).elim) (fun i y n h => match i, h with | 0, h => by { have h' : some (("_law_inner" : Str), 1) = some (y, n) := h; cases h'; exact T__law_inner.up (by decide) } | i + 1, h => by { have h' : (none : Option (Str × Nat)) = some (y, n) := h; cases h' }) (fun ds L Q E hl c1 c2 h => w__law_all_in (E := E) c1 c2 h)) g__law_all_in (fun _ _ _ _ _ _ us hl => match us, hl with | [_], _ => rfl)
  have T__law_some : FnT P w K mg base 2 "_law_some" 2 (S_some) := fn_tell F__law_some (fn_ok (k := 1) (Γ := gam_pk) F__law_some f__law_some rfl rfl k__law_some (bl_of hb (by decide)) (fun y d h => (List.not_mem_nil h).elim) (fun i y n h => match i, h with | 0, h => by { have h' : some (("_law_pick" : Str), 2) = some (y, n) := h; cases h'; exact T__law_pick.up (by decide) } | i + 1, h => by { have h' : (none : Option (Str × Nat)) = some (y, n) := h; cases h' }) (fun ds L Q E hl c1 c2 h => w__law_some (E := E) c1 c2 h)) g__law_some (fun _ _ _ _ _ _ us hl => match us, hl with | [_, _], _ => rfl)
  have T_is_like : FnT P w K mg base 2 "is_like" 2 (S_like) := fn_tell F_is_like (fn_ok (k := 1) (Γ := gam_one) F_is_like f_is_like rfl rfl k_is_like (bl_of hb (by decide)) (fun y d h => (List.not_mem_nil h).elim) (fun i y n h => match i, h with | 0, h => by { have h' : some (("inner_of" : Str), 1) = some (y, n) := h; cases h'; exact T_inner_of.up (by decide) } | i + 1, h => by { have h' : (none : Option (Str × Nat)) = some (y, n) := h; cases h' }) (fun ds L Q E hl c1 c2 h => w_is_like (E := E) c1 c2 h)) g_is_like (fun _ _ _ _ _ _ us hl => match us, hl with | [_, _], _ => rfl)
  have T_is_kind : FnT P w K mg base 3 "is_kind" 1 (S_is_kind) := fn_tell F_is_kind (fn_ok (k := 2) (Γ := gam_kind) F_is_kind f_is_kind rfl rfl k_is_kind (bl_of hb (by decide)) (fun y d h => (List.not_mem_nil h).elim) (fun i y n h => match i, h with | 0, h => by { have h' : some (("inner_of" : Str), 1) = some (y, n) := h; cases h'; exact T_inner_of.up (by decide) } | 1, h => by { have h' : some (("has_form" : Str), 1) = some (y, n) := h; cases h'; exact T_has_form.up (by decide) } | i + 2, h => by { have h' : (none : Option (Str × Nat)) = some (y, n) := h; cases h' }) (fun ds L Q E hl c1 c2 h => w_is_kind (E := E) c1 c2 h)) g_is_kind (fun _ _ _ _ _ _ us hl => match us, hl with | [_], _ => rfl)
  have T__law_is_kind : FnT P w K mg base 3 "_law_is_kind" 1 (S_is_kind) := fn_tell F__law_is_kind (fn_ok (k := 2) (Γ := gam_kind) F__law_is_kind f__law_is_kind rfl rfl k__law_is_kind (bl_of hb (by decide)) (fun y d h => (List.not_mem_nil h).elim) (fun i y n h => match i, h with | 0, h => by { have h' : some (("_law_inner" : Str), 1) = some (y, n) := h; cases h'; exact T__law_inner.up (by decide) } | 1, h => by { have h' : some (("_law_has_form" : Str), 1) = some (y, n) := h; cases h'; exact T__law_has_form.up (by decide) } | i + 2, h => by { have h' : (none : Option (Str × Nat)) = some (y, n) := h; cases h' }) (fun ds L Q E hl c1 c2 h => w__law_is_kind (E := E) c1 c2 h)) g__law_is_kind (fun _ _ _ _ _ _ us hl => match us, hl with | [_], _ => rfl)
  have T_letters_of : FnT P w K mg base 3 "letters_of" 1 (S_letters) := fn_tell F_letters_of (fn_ok (k := 2) (Γ := gam_let) F_letters_of f_letters_of rfl rfl k_letters_of (bl_of hb (by decide)) (fun y d h => (List.not_mem_nil h).elim) (fun i y n h => match i, h with | 0, h => by { have h' : some (("all_in" : Str), 1) = some (y, n) := h; cases h'; exact T_all_in.up (by decide) } | i + 1, h => by { have h' : (none : Option (Str × Nat)) = some (y, n) := h; cases h' }) (fun ds L Q E hl c1 c2 h => w_letters_of (E := E) c1 c2 h)) g_letters_of (fun _ _ _ _ _ _ us hl => match us, hl with | [_], _ => rfl)
  have T__law_letters : FnT P w K mg base 3 "_law_letters" 1 (S_letters) := fn_tell F__law_letters (fn_ok (k := 2) (Γ := gam_let) F__law_letters f__law_letters rfl rfl k__law_letters (bl_of hb (by decide)) (fun y d h => (List.not_mem_nil h).elim) (fun i y n h => match i, h with | 0, h => by { have h' : some (("_law_all_in" : Str), 1) = some (y, n) := h; cases h'; exact T__law_all_in.up (by decide) } | i + 1, h => by { have h' : (none : Option (Str × Nat)) = some (y, n) := h; cases h' }) (fun ds L Q E hl c1 c2 h => w__law_letters (E := E) c1 c2 h)) g__law_letters (fun _ _ _ _ _ _ us hl => match us, hl with | [_], _ => rfl)
  have T_check_kind : FnT P w K mg base 4 "check_kind" 1 (S_check) := fn_tell F_check_kind (fn_ok (k := 3) (Γ := gam_chk) F_check_kind f_check_kind rfl rfl k_check_kind (bl_of hb (by decide)) (fun y d h => (List.not_mem_nil h).elim) (fun i y n h => match i, h with | 0, h => by { have h' : some (("is_kind" : Str), 1) = some (y, n) := h; cases h'; exact T_is_kind.up (by decide) } | i + 1, h => by { have h' : (none : Option (Str × Nat)) = some (y, n) := h; cases h' }) (fun ds L Q E hl c1 c2 h => w_check_kind (E := E) c1 c2 h)) g_check_kind (fun _ _ _ _ _ _ us hl => match us, hl with | [_], _ => rfl)
  have T_is_closed : FnT P w K mg base 4 "is_closed" 1 (S_is_closed) := fn_tell F_is_closed (fn_ok (k := 3) (Γ := gam_cl) F_is_closed f_is_closed rfl rfl k_is_closed (bl_of hb (by decide)) (fun y d h => (List.not_mem_nil h).elim) (fun i y n h => match i, h with | 0, h => by { have h' : some (("letters_of" : Str), 1) = some (y, n) := h; cases h'; exact T_letters_of.up (by decide) } | i + 1, h => by { have h' : (none : Option (Str × Nat)) = some (y, n) := h; cases h' }) (fun ds L Q E hl c1 c2 h => w_is_closed (E := E) c1 c2 h)) g_is_closed (fun _ _ _ _ _ _ us hl => match us, hl with | [_], _ => rfl)
  have T_letters_in : FnT P w K mg base 5 "letters_in" 1 (S_letters2) := fn_tell F_letters_in (fn_ok (k := 4) (Γ := gam_li) F_letters_in f_letters_in rfl rfl k_letters_in (bl_of hb (by decide)) (fun y d h => (List.not_mem_nil h).elim) (fun i y n h => match i, h with | 0, h => by { have h' : some (("letters_of" : Str), 1) = some (y, n) := h; cases h'; exact T_letters_of.up (by decide) } | 1, h => by { have h' : some (("check_kind" : Str), 1) = some (y, n) := h; cases h'; exact T_check_kind.up (by decide) } | i + 2, h => by { have h' : (none : Option (Str × Nat)) = some (y, n) := h; cases h' }) (fun ds L Q E hl c1 c2 h => w_letters_in (E := E) c1 c2 h)) g_letters_in (fun _ _ _ _ _ _ us hl => match us, hl with | [_], _ => rfl)
  have T_matched : FnT P w K mg base 5 "matched" 2 (S_matched) := fn_tell F_matched (fn_ok (k := 4) (Γ := gam_mat) F_matched f_matched rfl rfl k_matched (bl_of hb (by decide)) (fun y d h => (List.not_mem_nil h).elim) (fun i y n h => match i, h with | 0, h => by { have h' : some (("is_like" : Str), 2) = some (y, n) := h; cases h'; exact T_is_like.up (by decide) } | 1, h => by { have h' : some (("inner_of" : Str), 1) = some (y, n) := h; cases h'; exact T_inner_of.up (by decide) } | 2, h => by { have h' : some (("is_closed" : Str), 1) = some (y, n) := h; cases h'; exact T_is_closed.up (by decide) } | 3, h => by { have h' : some (("is_kind" : Str), 1) = some (y, n) := h; cases h'; exact T_is_kind.up (by decide) } | 4, h => by { have h' : some (("check_kind" : Str), 1) = some (y, n) := h; cases h'; exact T_check_kind.up (by decide) } | i + 5, h => by { have h' : (none : Option (Str × Nat)) = some (y, n) := h; cases h' }) (fun ds L Q E hl c1 c2 h => w_matched (E := E) c1 c2 h)) g_matched (fun _ _ _ _ _ _ us hl => match us, hl with | [_, _], _ => rfl)
  have T_raw_filled : ∀ n, FnT P w K mg base (2 + n) "raw_filled" 2 (S_rawz n) := fun n => by
    induction n with
    | zero => exact fn_tell F_raw_filled (fnOk_never (ps := p_raw_filled) (fun ds L Q E h => S_rawz_no h)) g_raw_filled (fun _ _ _ _ _ _ us hl => match us, hl with | [_, _], _ => rfl)
    | succ n ih => exact fn_tell F_raw_filled (fn_ok (k := 2 + n) (Γ := gam_rawz n) F_raw_filled f_raw_filled rfl rfl k_raw_filled (bl_of hb (by decide)) (fun y d h => (List.not_mem_nil h).elim) (fun i y n h => match i, h with | 0, h => by { have h' : some (("with_inner" : Str), 2) = some (y, n) := h; cases h'; exact T_with_inner.up (by omega) } | 1, h => by { have h' : some (("raw_filled" : Str), 2) = some (y, n) := h; cases h'; exact ih } | 2, h => by { have h' : some (("inner_of" : Str), 1) = some (y, n) := h; cases h'; exact T_inner_of.up (by omega) } | i + 3, h => by { have h' : (none : Option (Str × Nat)) = some (y, n) := h; cases h' }) (fun ds L Q E hl c1 c2 h => w_raw_filled (E := E) c1 c2 h)) g_raw_filled (fun _ _ _ _ _ _ us hl => match us, hl with | [_, _], _ => rfl)
  have T__law_put : ∀ n, FnT P w K mg base (2 + n) "_law_put" 2 (S_rawz n) := fun n => by
    induction n with
    | zero => exact fn_tell F__law_put (fnOk_never (ps := p__law_put) (fun ds L Q E h => S_rawz_no h)) g__law_put (fun _ _ _ _ _ _ us hl => match us, hl with | [_, _], _ => rfl)
    | succ n ih => exact fn_tell F__law_put (fn_ok (k := 2 + n) (Γ := gam_put n) F__law_put f__law_put rfl rfl k__law_put (bl_of hb (by decide)) (fun y d h => (List.not_mem_nil h).elim) (fun i y n h => match i, h with | 0, h => by { have h' : some (("_law_put" : Str), 2) = some (y, n) := h; cases h'; exact ih } | 1, h => by { have h' : some (("_law_inner" : Str), 1) = some (y, n) := h; cases h'; exact T__law_inner.up (by omega) } | i + 2, h => by { have h' : (none : Option (Str × Nat)) = some (y, n) := h; cases h' }) (fun ds L Q E hl c1 c2 h => w__law_put (E := E) c1 c2 h)) g__law_put (fun _ _ _ _ _ _ us hl => match us, hl with | [_, _], _ => rfl)
  have T_filled : FnT P w K mg base 9 "filled" 2 (S_filled 6) := fn_tell F_filled (fn_ok (k := 8) (Γ := gam_fil 6) F_filled f_filled rfl rfl k_filled (bl_of hb (by decide)) (fun y d h => (List.not_mem_nil h).elim) (fun i y n h => match i, h with | 0, h => by { have h' : some (("raw_filled" : Str), 2) = some (y, n) := h; cases h'; exact (T_raw_filled 6).up (by decide) } | 1, h => by { have h' : some (("letters_of" : Str), 1) = some (y, n) := h; cases h'; exact T_letters_of.up (by decide) } | 2, h => by { have h' : some (("is_kind" : Str), 1) = some (y, n) := h; cases h'; exact T_is_kind.up (by decide) } | 3, h => by { have h' : some (("check_kind" : Str), 1) = some (y, n) := h; cases h'; exact T_check_kind.up (by decide) } | i + 4, h => by { have h' : (none : Option (Str × Nat)) = some (y, n) := h; cases h' }) (fun ds L Q E hl c1 c2 h => w_filled (E := E) c1 c2 h)) g_filled (fun _ _ _ _ _ _ us hl => match us, hl with | [_, _], _ => rfl)
  have T__law_is : ∀ n, FnT P w K mg base (1 + n) "_law_is" 2 (S_is n) := fun n => by
    induction n with
    | zero => exact fn_tell F__law_is (fnOk_never (ps := p__law_is) (fun ds L Q E h => S_is_no h)) g__law_is (fun _ _ _ _ _ _ us hl => match us, hl with | [_, _], _ => rfl)
    | succ n ih => exact fn_tell F__law_is (fn_ok (k := 1 + n) (Γ := gam_is n) F__law_is f__law_is rfl rfl k__law_is (bl_of hb (by decide)) (fun y d h => (List.not_mem_nil h).elim) (fun i y n h => match i, h with | 0, h => by { have h' : some (("_law_is" : Str), 2) = some (y, n) := h; cases h'; exact ih } | i + 1, h => by { have h' : (none : Option (Str × Nat)) = some (y, n) := h; cases h' }) (fun ds L Q E hl c1 c2 h => w__law_is (E := E) c1 c2 h)) g__law_is (fun _ _ _ _ _ _ us hl => match us, hl with | [_, _], _ => rfl)
  have T__law_any_kind : ∀ n, FnT P w K mg base (3 + n) "_law_any_kind" 3 (S_any n) := fun n => by
    induction n with
    | zero => exact fn_tell F__law_any_kind (fnOk_never (ps := p__law_any_kind) (fun ds L Q E h => S_any_no h)) g__law_any_kind (fun _ _ _ _ _ _ us hl => match us, hl with | [_, _, _], _ => rfl)
    | succ n ih => exact fn_tell F__law_any_kind (fn_ok (k := 3 + n) (Γ := gam_any n) F__law_any_kind f__law_any_kind rfl rfl k__law_any_kind (bl_of hb (by decide)) (fun y d h => (List.not_mem_nil h).elim) (fun i y n h => match i, h with | 0, h => by { have h' : some (("_law_any_kind" : Str), 3) = some (y, n) := h; cases h'; exact ih } | 1, h => by { have h' : some (("_law_pick" : Str), 2) = some (y, n) := h; cases h'; exact T__law_pick.up (by omega) } | 2, h => by { have h' : some (("_law_some" : Str), 2) = some (y, n) := h; cases h'; exact T__law_some.up (by omega) } | i + 3, h => by { have h' : (none : Option (Str × Nat)) = some (y, n) := h; cases h' }) (fun ds L Q E hl c1 c2 h => w__law_any_kind (E := E) c1 c2 h)) g__law_any_kind (fun _ _ _ _ _ _ us hl => match us, hl with | [_, _, _], _ => rfl)
  have T__law_changed : ∀ n, FnT P w K mg base (2 + n) "_law_changed" 4 (S_ch n) := fun n => by
    induction n with
    | zero => exact fn_tell F__law_changed (fnOk_never (ps := p__law_changed) (fun ds L Q E h => S_ch_no h)) g__law_changed (fun _ _ _ _ _ _ us hl => match us, hl with | [_, _, _, _], _ => rfl)
    | succ n ih => exact fn_tell F__law_changed (fn_ok (k := 2 + n) (Γ := gam_ch n) F__law_changed f__law_changed rfl rfl k__law_changed (bl_of hb (by decide)) (fun y d h => (List.not_mem_nil h).elim) (fun i y n h => match i, h with | 0, h => by { have h' : some (("_law_changed" : Str), 4) = some (y, n) := h; cases h'; exact ih } | 1, h => by { have h' : some (("_law_pick" : Str), 2) = some (y, n) := h; cases h'; exact T__law_pick.up (by omega) } | i + 2, h => by { have h' : (none : Option (Str × Nat)) = some (y, n) := h; cases h' }) (fun ds L Q E hl c1 c2 h => w__law_changed (E := E) c1 c2 h)) g__law_changed (fun _ _ _ _ _ _ us hl => match us, hl with | [_, _, _, _], _ => rfl)
  have T__law_goes_with : ∀ n, FnT P w K mg base (2 + n) "_law_goes_with" 3 (S_gw n) := fun n => by
    induction n with
    | zero => exact fn_tell F__law_goes_with (fnOk_never (ps := p__law_goes_with) (fun ds L Q E h => S_gw_no h)) g__law_goes_with (fun _ _ _ _ _ _ us hl => match us, hl with | [_, _, _], _ => rfl)
    | succ n ih => exact fn_tell F__law_goes_with (fn_ok (k := 2 + n) (Γ := gam_gw n) F__law_goes_with f__law_goes_with rfl rfl k__law_goes_with (bl_of hb (by decide)) (fun y d h => (List.not_mem_nil h).elim) (fun i y n h => match i, h with | 0, h => by { have h' : some (("_law_goes_with" : Str), 3) = some (y, n) := h; cases h'; exact ih } | 1, h => by { have h' : some (("_law_inner" : Str), 1) = some (y, n) := h; cases h'; exact T__law_inner.up (by omega) } | i + 2, h => by { have h' : (none : Option (Str × Nat)) = some (y, n) := h; cases h' }) (fun ds L Q E hl c1 c2 h => w__law_goes_with (E := E) c1 c2 h)) g__law_goes_with (fun _ _ _ _ _ _ us hl => match us, hl with | [_, _, _], _ => rfl)
  have T__law_odd : FnT P w K mg base 3 "_law_odd" 1 (S_odd) := fn_tell F__law_odd (fn_ok (k := 2) (Γ := gam_odd) F__law_odd f__law_odd rfl rfl k__law_odd (bl_of hb (by decide)) (fun y d h => (List.not_mem_nil h).elim) (fun i y n h => match i, h with | 0, h => by { have h' : some (("_law_some" : Str), 2) = some (y, n) := h; cases h'; exact T__law_some.up (by decide) } | 1, h => by { have h' : some (("_law_deep" : Str), 0) = some (y, n) := h; cases h'; exact T__law_deep.up (by decide) } | i + 2, h => by { have h' : (none : Option (Str × Nat)) = some (y, n) := h; cases h' }) (fun ds L Q E hl c1 c2 h => w__law_odd (E := E) c1 c2 h)) g__law_odd (fun _ _ _ _ _ _ us hl => match us, hl with | [_], _ => rfl)
  have G_law : FnOk P w K mg base CX0 43 f_law_ fd_law p_law (spOf K mg 1 S_law) := (fn_ok (k := 42) (Γ := gam_law) F_law f_law rfl rfl k_law (bl_of hb (by decide)) (fun y d h => (List.not_mem_nil h).elim) (fun i y n h => match i, h with | 0, h => by { have h' : some (("is_kind" : Str), 1) = some (y, n) := h; cases h'; exact T_is_kind.up (by decide) } | 1, h => by { have h' : some (("_law_deep" : Str), 0) = some (y, n) := h; cases h'; exact T__law_deep.up (by decide) } | 2, h => by { have h' : some (("_law_is_flag" : Str), 2) = some (y, n) := h; cases h'; exact T__law_is_flag.up (by decide) } | 3, h => by { have h' : some (("_law_is_kind" : Str), 1) = some (y, n) := h; cases h'; exact T__law_is_kind.up (by decide) } | 4, h => by { have h' : some (("_law_changed" : Str), 4) = some (y, n) := h; cases h'; exact (T__law_changed 10).up (by decide) } | 5, h => by { have h' : some (("_law_odd" : Str), 1) = some (y, n) := h; cases h'; exact T__law_odd.up (by decide) } | 6, h => by { have h' : some (("matched" : Str), 2) = some (y, n) := h; cases h'; exact T_matched.up (by decide) } | 7, h => by { have h' : some (("_law_goes_with" : Str), 3) = some (y, n) := h; cases h'; exact (T__law_goes_with 6).up (by decide) } | 8, h => by { have h' : some (("_law_pick" : Str), 2) = some (y, n) := h; cases h'; exact T__law_pick.up (by decide) } | 9, h => by { have h' : some (("_law_any_kind" : Str), 3) = some (y, n) := h; cases h'; exact (T__law_any_kind 5).up (by decide) } | 10, h => by { have h' : some (("_law_is" : Str), 2) = some (y, n) := h; cases h'; exact (T__law_is 41).up (by decide) } | 11, h => by { have h' : some (("filled" : Str), 2) = some (y, n) := h; cases h'; exact T_filled.up (by decide) } | 12, h => by { have h' : some (("_law_put" : Str), 2) = some (y, n) := h; cases h'; exact (T__law_put 6).up (by decide) } | 13, h => by { have h' : some (("letters_in" : Str), 1) = some (y, n) := h; cases h'; exact T_letters_in.up (by decide) } | 14, h => by { have h' : some (("_law_letters" : Str), 1) = some (y, n) := h; cases h'; exact T__law_letters.up (by decide) } | 15, h => by { have h' : some (("_law_bag" : Str), 1) = some (y, n) := h; cases h'; exact T__law_bag.up (by decide) } | i + 16, h => by { have h' : (none : Option (Str × Nat)) = some (y, n) := h; cases h' }) (fun ds L Q E hl c1 c2 h => w_law (E := E) c1 c2 h))
  exact G_law.mono (by decide)
end
end K01
end
section
set_option linter.all false
set_option maxRecDepth 100000
set_option maxHeartbeats 0
namespace K01
open PySem PySem.Spec PyProof.Rows Bw L2

def e_is_integer : He.DefD := ⟨("is_integer", none), "is_integer", "is_integer", defArgs s_is_integer, defBody s_is_integer, defScope s_is_integer, [], []⟩
def e_is_sized : He.DefD := ⟨("is_sized", none), "is_sized", "is_sized", defArgs s_is_sized, defBody s_is_sized, defScope s_is_sized, [], []⟩
def e_inner_of : He.DefD := ⟨("inner_of", none), "inner_of", "inner_of", defArgs s_inner_of, defBody s_inner_of, defScope s_inner_of, [], []⟩
def e_with_inner : He.DefD := ⟨("with_inner", none), "with_inner", "with_inner", defArgs s_with_inner, defBody s_with_inner, defScope s_with_inner, [], []⟩
def e__law_inner : He.DefD := ⟨("_law_inner", none), "_law_inner", "_law_inner", defArgs s__law_inner, defBody s__law_inner, defScope s__law_inner, [], []⟩
def e__law_is_int : He.DefD := ⟨("_law_is_int", none), "_law_is_int", "_law_is_int", defArgs s__law_is_int, defBody s__law_is_int, defScope s__law_is_int, [], []⟩
def e__law_is_flag : He.DefD := ⟨("_law_is_flag", none), "_law_is_flag", "_law_is_flag", defArgs s__law_is_flag, defBody s__law_is_flag, defScope s__law_is_flag, [], []⟩
def e__law_deep : He.DefD := ⟨("_law_deep", none), "_law_deep", "_law_deep", defArgs s__law_deep, defBody s__law_deep, defScope s__law_deep, [], []⟩
def e__law_bag : He.DefD := ⟨("_law_bag", none), "_law_bag", "_law_bag", defArgs s__law_bag, defBody s__law_bag, defScope s__law_bag, [], []⟩
def e__law_pick : He.DefD := ⟨("_law_pick", none), "_law_pick", "_law_pick", defArgs s__law_pick, defBody s__law_pick, defScope s__law_pick, [], []⟩
def e_has_form : He.DefD := ⟨("has_form", none), "has_form", "has_form", defArgs s_has_form, defBody s_has_form, defScope s_has_form, [], []⟩
def e__law_has_form : He.DefD := ⟨("_law_has_form", none), "_law_has_form", "_law_has_form", defArgs s__law_has_form, defBody s__law_has_form, defScope s__law_has_form, [], []⟩
def e_all_in : He.DefD := ⟨("all_in", none), "all_in", "all_in", defArgs s_all_in, defBody s_all_in, defScope s_all_in, [], []⟩
def e__law_all_in : He.DefD := ⟨("_law_all_in", none), "_law_all_in", "_law_all_in", defArgs s__law_all_in, defBody s__law_all_in, defScope s__law_all_in, [], []⟩
def e__law_some : He.DefD := ⟨("_law_some", none), "_law_some", "_law_some", defArgs s__law_some, defBody s__law_some, defScope s__law_some, [], []⟩
def e_is_like : He.DefD := ⟨("is_like", none), "is_like", "is_like", defArgs s_is_like, defBody s_is_like, defScope s_is_like, [], []⟩
def e_is_kind : He.DefD := ⟨("is_kind", none), "is_kind", "is_kind", defArgs s_is_kind, defBody s_is_kind, defScope s_is_kind, [], []⟩
def e__law_is_kind : He.DefD := ⟨("_law_is_kind", none), "_law_is_kind", "_law_is_kind", defArgs s__law_is_kind, defBody s__law_is_kind, defScope s__law_is_kind, [], []⟩
def e_letters_of : He.DefD := ⟨("letters_of", none), "letters_of", "letters_of", defArgs s_letters_of, defBody s_letters_of, defScope s_letters_of, [], []⟩
def e__law_letters : He.DefD := ⟨("_law_letters", none), "_law_letters", "_law_letters", defArgs s__law_letters, defBody s__law_letters, defScope s__law_letters, [], []⟩
def e_check_kind : He.DefD := ⟨("check_kind", none), "check_kind", "check_kind", defArgs s_check_kind, defBody s_check_kind, defScope s_check_kind, [], []⟩
def e_is_closed : He.DefD := ⟨("is_closed", none), "is_closed", "is_closed", defArgs s_is_closed, defBody s_is_closed, defScope s_is_closed, [], []⟩
def e_letters_in : He.DefD := ⟨("letters_in", none), "letters_in", "letters_in", defArgs s_letters_in, defBody s_letters_in, defScope s_letters_in, [], []⟩
def e_matched : He.DefD := ⟨("matched", none), "matched", "matched", defArgs s_matched, defBody s_matched, defScope s_matched, [], []⟩
def e_raw_filled : He.DefD := ⟨("raw_filled", none), "raw_filled", "raw_filled", defArgs s_raw_filled, defBody s_raw_filled, defScope s_raw_filled, [], []⟩
def e__law_put : He.DefD := ⟨("_law_put", none), "_law_put", "_law_put", defArgs s__law_put, defBody s__law_put, defScope s__law_put, [], []⟩
def e_filled : He.DefD := ⟨("filled", none), "filled", "filled", defArgs s_filled, defBody s_filled, defScope s_filled, [], []⟩
def e__law_is : He.DefD := ⟨("_law_is", none), "_law_is", "_law_is", defArgs s__law_is, defBody s__law_is, defScope s__law_is, [], []⟩
def e__law_any_kind : He.DefD := ⟨("_law_any_kind", none), "_law_any_kind", "_law_any_kind", defArgs s__law_any_kind, defBody s__law_any_kind, defScope s__law_any_kind, [], []⟩
def e__law_changed : He.DefD := ⟨("_law_changed", none), "_law_changed", "_law_changed", defArgs s__law_changed, defBody s__law_changed, defScope s__law_changed, [], []⟩
def e__law_goes_with : He.DefD := ⟨("_law_goes_with", none), "_law_goes_with", "_law_goes_with", defArgs s__law_goes_with, defBody s__law_goes_with, defScope s__law_goes_with, [], []⟩
def e__law_odd : He.DefD := ⟨("_law_odd", none), "_law_odd", "_law_odd", defArgs s__law_odd, defBody s__law_odd, defScope s__law_odd, [], []⟩
def e_law : He.DefD := ⟨("law", none), "law", "law", defArgs s_law, defBody s_law, defScope s_law, [], []⟩
def fn : List He.DefD := [e_is_integer, e_is_sized, e_inner_of, e_with_inner, e__law_inner, e__law_is_int, e__law_is_flag, e__law_deep, e__law_bag, e__law_pick, e_has_form, e__law_has_form, e_all_in, e__law_all_in, e__law_some, e_is_like, e_is_kind, e__law_is_kind, e_letters_of, e__law_letters, e_check_kind, e_is_closed, e_letters_in, e_matched, e_raw_filled, e__law_put, e_filled, e__law_is, e__law_any_kind, e__law_changed, e__law_goes_with, e__law_odd, e_law]
def fa : List He.Fa := [.glo "is_integer", .glo "is_sized", .glo "inner_of", .glo "with_inner", .glo "_law_inner", .glo "_law_is_int", .glo "_law_is_flag", .glo "_law_deep", .glo "_law_bag", .glo "_law_pick", .glo "has_form", .glo "_law_has_form", .glo "all_in", .glo "_law_all_in", .glo "_law_some", .glo "is_like", .glo "is_kind", .glo "_law_is_kind", .glo "letters_of", .glo "_law_letters", .glo "check_kind", .glo "is_closed", .glo "letters_in", .glo "matched", .glo "raw_filled", .glo "_law_put", .glo "filled", .glo "_law_is", .glo "_law_any_kind", .glo "_law_changed", .glo "_law_goes_with", .glo "_law_odd", .glo "law", .free "abs", .free "all", .free "any", .free "bool", .free "dict", .free "int", .free "isinstance", .free "len", .free "list", .free "range", .free "set", .free "sorted", .free "str", .free "sum", .free "tuple", .free "zip"]
abbrev R : PySem.W.OpenRow := PySem.W.OpenLaw.row PySem.Challenge.rw_barewords_k01_whole_kinds
abbrev hk : PySem.W.Hook := He.hookD 33 fa fn
def ob (s : PySem.W.SharedT) : He.AlD := He.obsDG 33 fa fn (HandSHeadRun.getT s)
theorem ob_eq (s : PySem.W.SharedT) : ob s = hk.obs s.abs := He.obsDG_eq (HandSHeadRun.getT_eq s)
def loose1 : List Str := ["is_integer", "is_sized", "inner_of", "with_inner", "_law_inner", "_law_is_int", "_law_is_flag", "_law_deep", "_law_bag", "_law_pick", "has_form", "_law_has_form", "all_in", "_law_all_in", "_law_some", "is_like", "is_kind", "_law_is_kind"]
def loose2 : List Str := ["letters_of", "_law_letters", "check_kind", "is_closed", "letters_in", "matched", "raw_filled", "_law_put", "filled", "_law_is", "_law_any_kind", "_law_changed", "_law_goes_with", "_law_odd", "WordsError", "NoKind", "NoKinds", "__name__"]
abbrev loose : List Str := loose1 ++ loose2
abbrev vw : Program := PySem.W.view R.prog [1, 2, 3, 5, 6, 8, 9, 10, 11, 12, 13, 14, 15, 16, 17, 18, 19, 20, 22, 23, 24, 25, 26, 27, 28, 29, 30, 31, 32, 33, 34, 35, 36, 37, 38, 39]
theorem run (w : World) : HandSHeadRun.RunEq R vw hk ob 4000 loose w := by
  intro os
  kernel_rfl
def spLaw (K : PySem.W.Frag) : Sp := fun vs H Q _ => ∃ (a : Addr) (ns : List Int), vs = [.ref a] ∧ ns.length ≤ 63 ∧ SqL K H a (ns.map V.int) ∧ ∀ H', Q (.bl true) H'
theorem reps_ints {K : PySem.W.Frag} {mg : Str → Option Value} {θ : List Addr} {H : Hp} : ∀ ns : List Int, Reps K mg θ H (ns.map D.int) (ns.map V.int)
  | [] => .nil
  | n :: ns => .cons (.int n) (reps_ints ns)
theorem hr_one {K : PySem.W.Frag} {mg : Str → Option Value} {H : Hp} {a : Addr} {c : Cell} (h : CellOk K mg [a] H c a) : HR K mg [a] [c] H := by
  refine ⟨rfl, fun n c' a' h1 h2 => ?_, fun i j b c1 c2 h1 h2 _ _ _ _ => ?_⟩
  · match n, h1, h2 with
    | 0, h1, h2 => cases h1; cases h2; exact h
    | n + 1, h1, _ => cases h1
  · match i, j, h1, h2 with
    | 0, 0, _, _ => rfl
    | 0, j + 1, _, h2 => cases h2
    | i + 1, _, h1, _ => cases h1
theorem hr_nil {K : PySem.W.Frag} {mg : Str → Option Value} {H : Hp} : HR K mg [] [] H :=
  ⟨rfl, (fun n c' a' h1 _ => by cases h1), (fun i j b c1 c2 _ _ h1 _ _ _ => by cases h1)⟩
theorem up_tt {K : PySem.W.Frag} {mg : Str → Option Value} {θ : List Addr} {H : Hp} {Q' : VK} (q : ∀ H', Q' (.bl true) H') : Up K mg θ H (fun d _ => d = .bl true) Q' := by
  intro v H' θ' d L' _ _ r e
  subst e
  cases r
  exact q H'
theorem upx_no {K : PySem.W.Frag} {mg : Str → Option Value} {θ : List Addr} {H : Hp} {E' : XK} : UpX K mg θ H (fun _ _ => False) E' := fun _ _ _ _ _ _ _ _ _ h => h.elim
theorem law_imp {K : PySem.W.Frag} {mg : Str → Option Value} (vs : List V) (H : Hp) (Q : VK) (E : XK) (h : spLaw K vs H Q E) : spOf K mg 1 S_law vs H Q E := by
  obtain ⟨a, ns, rfl, hn, hS, hQ⟩ := h
  rcases hS with hr | ⟨ob, its, n, h1, h2, h3, h4, h5, h6⟩
  · rcases hr with hr | ⟨ow, hr⟩
    · exact ⟨[a], [.loc 0], [.lst (ns.map D.int)], fun d _ => d = .bl true, fun _ _ => False, hr_one ⟨_, hr, reps_ints ns⟩, .cons (.loc rfl) .nil, rfl, ⟨.loc 0, ns, rfl, rfl, hn, fun _ => rfl⟩, up_tt hQ, upx_no⟩
    · exact ⟨[a], [.loc 0], [.ro (ns.map D.int)], fun d _ => d = .bl true, fun _ _ => False, hr_one ⟨_, _, hr, reps_ints ns⟩, .cons (.loc rfl) .nil, rfl, ⟨.loc 0, ns, rfl, rfl, hn, fun _ => rfl⟩, up_tt hQ, upx_no⟩
  · exact ⟨[], [.kl ns], [], fun d _ => d = .bl true, fun _ _ => False, hr_nil, .cons (.kl fun H' => .inr ⟨ob, its, n, h1, h2, h3, h4, h5, h6⟩) .nil, rfl, ⟨.kl ns, ns, rfl, rfl, hn, fun _ => rfl⟩, up_tt hQ, upx_no⟩
theorem facts {P : Program} {w : World} {K : PySem.W.Frag} {h : Heap} {mg : Str → Option Value} {f : Addr} (X : K.In h) (G : h.Ns mainGlobals mg) (hfa : mg ("law" : Str) = some (.ref f)) (c : He.SaysD fa fn K) :
    ∃ fd : FuncData, (∀ (s : Shared) (v : Value), BindsTo s fd ⟨[v], []⟩ [("_law_script", v)]) ∧ ∀ base : Heap, K.In base → base.Ns mainGlobals mg → FnOk P w K mg base CX0 100 f fd ["_law_script"] (spLaw K) := by
  obtain ⟨fd_is_integer, F_is_integer⟩ := c.def_ 0 (d := e_is_integer) rfl
  obtain ⟨fd_is_sized, F_is_sized⟩ := c.def_ 1 (d := e_is_sized) rfl
  obtain ⟨fd_inner_of, F_inner_of⟩ := c.def_ 2 (d := e_inner_of) rfl
  obtain ⟨fd_with_inner, F_with_inner⟩ := c.def_ 3 (d := e_with_inner) rfl
  obtain ⟨fd__law_inner, F__law_inner⟩ := c.def_ 4 (d := e__law_inner) rfl
  obtain ⟨fd__law_is_int, F__law_is_int⟩ := c.def_ 5 (d := e__law_is_int) rfl
  obtain ⟨fd__law_is_flag, F__law_is_flag⟩ := c.def_ 6 (d := e__law_is_flag) rfl
  obtain ⟨fd__law_deep, F__law_deep⟩ := c.def_ 7 (d := e__law_deep) rfl
  obtain ⟨fd__law_bag, F__law_bag⟩ := c.def_ 8 (d := e__law_bag) rfl
  obtain ⟨fd__law_pick, F__law_pick⟩ := c.def_ 9 (d := e__law_pick) rfl
  obtain ⟨fd_has_form, F_has_form⟩ := c.def_ 10 (d := e_has_form) rfl
  obtain ⟨fd__law_has_form, F__law_has_form⟩ := c.def_ 11 (d := e__law_has_form) rfl
  obtain ⟨fd_all_in, F_all_in⟩ := c.def_ 12 (d := e_all_in) rfl
  obtain ⟨fd__law_all_in, F__law_all_in⟩ := c.def_ 13 (d := e__law_all_in) rfl
  obtain ⟨fd__law_some, F__law_some⟩ := c.def_ 14 (d := e__law_some) rfl
  obtain ⟨fd_is_like, F_is_like⟩ := c.def_ 15 (d := e_is_like) rfl
  obtain ⟨fd_is_kind, F_is_kind⟩ := c.def_ 16 (d := e_is_kind) rfl
  obtain ⟨fd__law_is_kind, F__law_is_kind⟩ := c.def_ 17 (d := e__law_is_kind) rfl
  obtain ⟨fd_letters_of, F_letters_of⟩ := c.def_ 18 (d := e_letters_of) rfl
  obtain ⟨fd__law_letters, F__law_letters⟩ := c.def_ 19 (d := e__law_letters) rfl
  obtain ⟨fd_check_kind, F_check_kind⟩ := c.def_ 20 (d := e_check_kind) rfl
  obtain ⟨fd_is_closed, F_is_closed⟩ := c.def_ 21 (d := e_is_closed) rfl
  obtain ⟨fd_letters_in, F_letters_in⟩ := c.def_ 22 (d := e_letters_in) rfl
  obtain ⟨fd_matched, F_matched⟩ := c.def_ 23 (d := e_matched) rfl
  obtain ⟨fd_raw_filled, F_raw_filled⟩ := c.def_ 24 (d := e_raw_filled) rfl
  obtain ⟨fd__law_put, F__law_put⟩ := c.def_ 25 (d := e__law_put) rfl
  obtain ⟨fd_filled, F_filled⟩ := c.def_ 26 (d := e_filled) rfl
  obtain ⟨fd__law_is, F__law_is⟩ := c.def_ 27 (d := e__law_is) rfl
  obtain ⟨fd__law_any_kind, F__law_any_kind⟩ := c.def_ 28 (d := e__law_any_kind) rfl
  obtain ⟨fd__law_changed, F__law_changed⟩ := c.def_ 29 (d := e__law_changed) rfl
  obtain ⟨fd__law_goes_with, F__law_goes_with⟩ := c.def_ 30 (d := e__law_goes_with) rfl
  obtain ⟨fd__law_odd, F__law_odd⟩ := c.def_ 31 (d := e__law_odd) rfl
  obtain ⟨fd_law, F_law⟩ := c.def_ 32 (d := e_law) rfl
  have hb : ∀ y ∈ allBl, mg y = none := by
    intro y hy
    simp only [allBl, List.mem_cons, List.not_mem_nil, or_false] at hy
    rcases hy with rfl | rfl | rfl | rfl | rfl | rfl | rfl | rfl | rfl | rfl | rfl | rfl | rfl | rfl | rfl | rfl
    · exact He.free_ok X G (c.fact 33 (f := .free "abs") rfl)
    · exact He.free_ok X G (c.fact 34 (f := .free "all") rfl)
    · exact He.free_ok X G (c.fact 35 (f := .free "any") rfl)
    · exact He.free_ok X G (c.fact 36 (f := .free "bool") rfl)
    · exact He.free_ok X G (c.fact 37 (f := .free "dict") rfl)
    · exact He.free_ok X G (c.fact 38 (f := .free "int") rfl)
    · exact He.free_ok X G (c.fact 39 (f := .free "isinstance") rfl)
    · exact He.free_ok X G (c.fact 40 (f := .free "len") rfl)
    · exact He.free_ok X G (c.fact 41 (f := .free "list") rfl)
    · exact He.free_ok X G (c.fact 42 (f := .free "range") rfl)
    · exact He.free_ok X G (c.fact 43 (f := .free "set") rfl)
    · exact He.free_ok X G (c.fact 44 (f := .free "sorted") rfl)
    · exact He.free_ok X G (c.fact 45 (f := .free "str") rfl)
    · exact He.free_ok X G (c.fact 46 (f := .free "sum") rfl)
    · exact He.free_ok X G (c.fact 47 (f := .free "tuple") rfl)
    · exact He.free_ok X G (c.fact 48 (f := .free "zip") rfl)
  have e := hfa.symm.trans (He.glo_ok X G (c.fact 32 (f := .glo "law") rfl))
  cases e
  have b := FunD.bindsA (ps := ["_law_script"]) F_law fun _ _ _ _ _ _ us hl => match us, hl with | [_], _ => rfl
  refine ⟨fd_law, fun s v => b s [v] rfl, fun base _ _ => ?_⟩
  exact FnOk.imp (all_ok (P := P) (w := w) (base := base) hb F_is_integer (He.glo_ok X G (c.fact 0 (f := .glo "is_integer") rfl)) F_is_sized (He.glo_ok X G (c.fact 1 (f := .glo "is_sized") rfl)) F_inner_of (He.glo_ok X G (c.fact 2 (f := .glo "inner_of") rfl)) F_with_inner (He.glo_ok X G (c.fact 3 (f := .glo "with_inner") rfl)) F__law_inner (He.glo_ok X G (c.fact 4 (f := .glo "_law_inner") rfl)) F__law_is_int (He.glo_ok X G (c.fact 5 (f := .glo "_law_is_int") rfl)) F__law_is_flag (He.glo_ok X G (c.fact 6 (f := .glo "_law_is_flag") rfl)) F__law_deep (He.glo_ok X G (c.fact 7 (f := .glo "_law_deep") rfl)) F__law_bag (He.glo_ok X G (c.fact 8 (f := .glo "_law_bag") rfl)) F__law_pick (He.glo_ok X G (c.fact 9 (f := .glo "_law_pick") rfl)) F_has_form (He.glo_ok X G (c.fact 10 (f := .glo "has_form") rfl)) F__law_has_form (He.glo_ok X G (c.fact 11 (f := .glo "_law_has_form") rfl)) F_all_in (He.glo_ok X G (c.fact 12 (f := .glo "all_in") rfl)) F__law_all_in (He.glo_ok X G (c.fact 13 (f := .glo "_law_all_in") rfl)) F__law_some (He.glo_ok X G (c.fact 14 (f := .glo "_law_some") rfl)) F_is_like (He.glo_ok X G (c.fact 15 (f := .glo "is_like") rfl)) F_is_kind (He.glo_ok X G (c.fact 16 (f := .glo "is_kind") rfl)) F__law_is_kind (He.glo_ok X G (c.fact 17 (f := .glo "_law_is_kind") rfl)) F_letters_of (He.glo_ok X G (c.fact 18 (f := .glo "letters_of") rfl)) F__law_letters (He.glo_ok X G (c.fact 19 (f := .glo "_law_letters") rfl)) F_check_kind (He.glo_ok X G (c.fact 20 (f := .glo "check_kind") rfl)) F_is_closed (He.glo_ok X G (c.fact 21 (f := .glo "is_closed") rfl)) F_letters_in (He.glo_ok X G (c.fact 22 (f := .glo "letters_in") rfl)) F_matched (He.glo_ok X G (c.fact 23 (f := .glo "matched") rfl)) F_raw_filled (He.glo_ok X G (c.fact 24 (f := .glo "raw_filled") rfl)) F__law_put (He.glo_ok X G (c.fact 25 (f := .glo "_law_put") rfl)) F_filled (He.glo_ok X G (c.fact 26 (f := .glo "filled") rfl)) F__law_is (He.glo_ok X G (c.fact 27 (f := .glo "_law_is") rfl)) F__law_any_kind (He.glo_ok X G (c.fact 28 (f := .glo "_law_any_kind") rfl)) F__law_changed (He.glo_ok X G (c.fact 29 (f := .glo "_law_changed") rfl)) F__law_goes_with (He.glo_ok X G (c.fact 30 (f := .glo "_law_goes_with") rfl)) F__law_odd (He.glo_ok X G (c.fact 31 (f := .glo "_law_odd") rfl)) F_law (He.glo_ok X G (c.fact 32 (f := .glo "law") rfl))) law_imp
end K01
end
section
set_option linter.all false
set_option maxRecDepth 100000
set_option maxHeartbeats 0
open PySem PySem.W PySem.Calls PyProof.Rows
theorem PySem.Challenge.cw_barewords_k01_whole_kinds_holds : PySem.Challenge.rw_barewords_k01_whole_kinds.Holds := by
  w_on; o_law
  refine HandSHeadRun.head_any (r := OpenLaw.row PySem.Challenge.rw_barewords_k01_whole_kinds) (q := K01.vw) (H := K01.hk) (ob := K01.ob) (M := 4000) (loose := K01.loose) (d := HandSHeadRun.topDef (OpenLaw.row PySem.Challenge.rw_barewords_k01_whole_kinds).prog 39) (kwd := []) K01.ob_eq
    (by kernel_rfl) (fun s => by kernel_rfl) K01.run (by kernel_rfl) (by kernel_rfl) (by kernel_rfl) (by rfl) (by first | assumption | decide +kernel) (by decide +kernel) ⟨rfl, rfl, rfl, rfl, rfl, by decide +kernel⟩ ?hw ?hc
  case hw => w_witness2
  case hc =>
    refine L2.walk_ofE (l := PySem.Challenge.rw_barewords_k01_whole_kinds) (n := 63) (k := 100) (x := "_law_script") (CX := L2.CX0) rfl (by decide) (by kernel_rfl) ⟨rfl, by decide, by decide⟩ ?F (fun _ _ _ _ z => z)
    intro w mg fa h Y G hmg0
    obtain ⟨K, KX, c⟩ := Y
    have hmg : mg ("law" : PySem.Str) = some (.ref fa) := by
      have e : (HandSHeadRun.topDef (OpenLaw.row PySem.Challenge.rw_barewords_k01_whole_kinds).prog 39).name = ("law" : PySem.Str) := by kernel_rfl
      rw [← e]
      exact hmg0
    obtain ⟨fd, hb, hF⟩ := K01.facts (P := (PySem.Challenge.rw_barewords_k01_whole_kinds).prog) (w := w) KX G hmg c
    exact ⟨K, fd, K01.spLaw K, KX, hb, fun H a ns hl _ hS => ⟨a, ns, rfl, hl, hS, fun _ => rfl⟩, hF⟩
end
