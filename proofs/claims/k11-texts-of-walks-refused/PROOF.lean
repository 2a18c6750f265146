import PyProof.Rows.All
import Wide.All
import OpenK.AllK
import Wide.FinOn
import HandS.ForMost
import HandS.ForExc
import HandS.Wide
import HandS.IsInst
import HandS.Flow
import HandS.TryMany
import KE.KExcSuper
import HandS.ExcValue
import HandS.ExcField
import KE.KExcIs
import HandS.TupAny
import PyProof.StrOps2
import HandS.Codes
import KE.IntTextLaws
import HandS.More
import HandS.Replace
import PySem.Challenge.RW_nevercrossed_k11_texts_of_walks_refused
set_option Elab.async false
set_option linter.all false
set_option maxRecDepth 100000
set_option maxHeartbeats 2000000
namespace DL
open PySem L2

/-! weakest readings of the layer's judgements -/
def WE (X : Cx) (e : Expr) : TE := fun σ H Q => ∀ pins s, Inv X pins σ H s → wpAny (model X.prog X.w) X.A (eval e X.env) (EP X pins σ Q) X.xe s
def WT (X : Cx) (e : Expr) : TT := fun σ H Q => ∀ pins s, Inv X pins σ H s → wpAny (model X.prog X.w) X.A (isTrue e X.env (eval e X.env)) (TP X pins σ Q) X.xe s
def WW (X : Cx) (e : Expr) : TT := fun σ H Q => ∀ whole pins s, Inv X pins σ H s → wpAny (model X.prog X.w) X.A (isTrue e X.env whole) (TP X pins σ Q) X.xe s
def WA (X : Cx) (es : List Expr) : TA := fun σ H Q => ∀ pos pins s, Inv X pins σ H s → wpAny (model X.prog X.w) X.A (spliced (backTo pos (starEach es X.env))) (AP X pins σ Q) X.xe s
def WS (X : Cx) (st : Stmt) : TS := fun D σ H => ∀ pins s, Inv X pins σ H s → wpAny (model X.prog X.w) X.A (exec st X.env) (SP X pins D) X.xe s
def WB (X : Cx) (st : List Stmt) : TS := fun D σ H => ∀ pins s, Inv X pins σ H s → wpAny (model X.prog X.w) X.A (execs st X.env) (SP X pins D) X.xe s
section
variable {X : Cx} {e : Expr} {es : List Expr} {st : Stmt} {sts : List Stmt} {σ : L2.St} {H : Hp}
theorem pe_w : PE X e (WE X e) := ⟨fun pins s _ _ _ I h => h pins s I⟩
theorem pt_w : PT X e (WT X e) := ⟨fun pins s _ _ _ I h => h pins s I⟩
theorem pw_w : PW X e (WW X e) := ⟨fun wh pins s _ _ _ I h => h wh pins s I⟩
theorem pa_w : PA X es (WA X es) := ⟨fun pos pins s _ _ _ I h => h pos pins s I⟩
theorem ps_w : PS X st (WS X st) := ⟨fun pins s _ _ _ I h => h pins s I⟩
theorem pss_w : PSs X sts (WB X sts) := ⟨fun pins s _ _ _ I h => h pins s I⟩
theorem we_of {t : TE} (p : PE X e t) {Q : VK} (h : t σ H Q) : WE X e σ H Q := fun pins s I => p.run pins s σ H Q I h
theorem wt_of {t : TT} (p : PT X e t) {Q : Bool → Hp → Prop} (h : t σ H Q) : WT X e σ H Q := fun pins s I => p.run pins s σ H Q I h
theorem ww_of {t : TT} (p : PW X e t) {Q : Bool → Hp → Prop} (h : t σ H Q) : WW X e σ H Q := fun wh pins s I => p.run wh pins s σ H Q I h
theorem wa_of {t : TA} (p : PA X es t) {Q : List V → Hp → Prop} (h : t σ H Q) : WA X es σ H Q := fun pos pins s I => p.run pos pins s σ H Q I h
theorem ws_of {t : TS} (p : PS X st t) {D : Ends} (h : t D σ H) : WS X st D σ H := fun pins s I => p.run pins s σ H D I h
theorem wb_of {t : TS} (p : PSs X sts t) {D : Ends} (h : t D σ H) : WB X sts D σ H := fun pins s I => p.run pins s σ H D I h
theorem we_mono {Q Q' : VK} (h : WE X e σ H Q) (k : ∀ v H', Q v H' → Q' v H') : WE X e σ H Q' := fun pins s I => thn (h pins s I) fun u s' ⟨v, H', J, r, q⟩ => ⟨v, H', J, r, k v H' q⟩
theorem wt_mono {Q Q' : Bool → Hp → Prop} (h : WT X e σ H Q) (k : ∀ v H', Q v H' → Q' v H') : WT X e σ H Q' := fun pins s I => thn (h pins s I) fun u s' ⟨H', J, q⟩ => ⟨H', J, k u H' q⟩
theorem wa_mono {Q Q' : List V → Hp → Prop} (h : WA X es σ H Q) (k : ∀ v H', Q v H' → Q' v H') : WA X es σ H Q' := fun pos pins s I => thn (h pos pins s I) fun u s' ⟨v, H', J, r, q⟩ => ⟨v, H', J, r, k v H' q⟩
structure ELe (D D' : Ends) : Prop where
  nx : ∀ σ H, D.nx σ H → D'.nx σ H
  rt : ∀ v H, D.rt v H → D'.rt v H
  bk : ∀ σ H, D.bk σ H → D'.bk σ H
  ct : ∀ σ H, D.ct σ H → D'.ct σ H
theorem sp_mono {pins : List (Addr × Obj)} {D D' : Ends} (k : ELe D D') {f : Flow} {s : Shared} (h : SP X pins D f s) : SP X pins D' f s := by
  cases f with
  | next => obtain ⟨σ', H', J, q⟩ := h; exact ⟨σ', H', J, k.nx _ _ q⟩
  | brk => obtain ⟨σ', H', J, q⟩ := h; exact ⟨σ', H', J, k.bk _ _ q⟩
  | cont => obtain ⟨σ', H', J, q⟩ := h; exact ⟨σ', H', J, k.ct _ _ q⟩
  | ret u => obtain ⟨v, σ', H', J, r, q⟩ := h; exact ⟨v, σ', H', J, r, k.rt _ _ q⟩
theorem ws_mono {D D' : Ends} (h : WS X st D σ H) (k : ELe D D') : WS X st D' σ H := fun pins s I => thn (h pins s I) fun f s' q => sp_mono k q
theorem wb_mono {D D' : Ends} (h : WB X sts D σ H) (k : ELe D D') : WB X sts D' σ H := fun pins s I => thn (h pins s I) fun f s' q => sp_mono k q
end

/-! data -/
inductive D where
  | non | bl (b : Bool) | int (i : Int) | str (x : Str)
  | tup (xs : List D) | lst (xs : List D) | dct0 | obj (a : Addr) | ty (n : String) | scr (xs : List D) | exc (a d : Addr) (v : D) | exo (C a d : Addr) (v : D)
/-- an error held as a value: its class, its own dict -/
def ExV (C d a : Addr) : HO := .ext fun h => ∃ (oe : Obj) (vs : Array Value), h.get? a = some oe ∧ Zc (.ref C) (some d) oe ∧ oe.data = .fields vs
mutual
inductive DR (K : PySem.W.Frag) (B : Hp) : V → D → Prop
  | non : DR K B .non .non
  | bl (b : Bool) : DR K B (.bl b) (.bl b)
  | int (i : Int) : DR K B (.int i) (.int i)
  | str (x : Str) : DR K B (.str x) (.str x)
  | tup {a : Addr} {xs : List V} {ds : List D} : SqT K B a xs → DRs K B xs ds → DR K B (.ref a) (.tup ds)
  | lst {a : Addr} {xs : List V} {ds : List D} : B a = some (.lst xs) → DRs K B xs ds → DR K B (.ref a) (.lst ds)
  | dct0 {a : Addr} : B a = some (.dK []) → DR K B (.ref a) .dct0
  | obj (a : Addr) : DR K B (.ref a) (.obj a)
  | ty (n : String) : DR K B (.ty n) (.ty n)
  | exc (a : Addr) {d : Addr} {v : V} {dv : D} : B d = some (.xd [(PySem.Str.ofString "value", v)]) → DR K B v dv → DR K B (.ref a) (.exc a d dv)
  | exo (C a : Addr) {d : Addr} {v : V} {dv : D} : B a = some (ExV C d a) → B d = some (.xd [(PySem.Str.ofString "value", v)]) → DR K B v dv → DR K B (.ref a) (.exo C a d dv)
  | scr {a : Addr} {xs : List V} {ds : List D} : SqL K B a xs → DRs K B xs ds → DR K B (.ref a) (.scr ds)
inductive DRs (K : PySem.W.Frag) (B : Hp) : List V → List D → Prop
  | nil : DRs K B [] []
  | cons {v : V} {vs : List V} {d : D} {ds : List D} : DR K B v d → DRs K B vs ds → DRs K B (v :: vs) (d :: ds)
end
theorem same_rd {B B' : Hp} (s : Same B B') {a : Addr} {o : HO} (h : Rd B a o) : Rd B' a o := by
  rcases h with h | ⟨u, h⟩
  · exact .inl (s _ _ h)
  · exact .inr ⟨u, s _ _ h⟩
theorem same_T {K : PySem.W.Frag} {B B' : Hp} (s : Same B B') {a : Addr} {xs : List V} (h : SqT K B a xs) : SqT K B' a xs := by
  rcases h with h | h
  · exact .inl (same_rd s h)
  · exact .inr h
mutual
theorem DR.mono {K : PySem.W.Frag} {B B' : Hp} (s : Same B B') : ∀ {v : V} {d : D}, DR K B v d → DR K B' v d
  | _, _, .non => .non
  | _, _, .bl b => .bl b
  | _, _, .int i => .int i
  | _, _, .str x => .str x
  | _, _, .tup h r => .tup (same_T s h) (DRs.mono s r)
  | _, _, .lst h r => .lst (s _ _ h) (DRs.mono s r)
  | _, _, .dct0 h => .dct0 (s _ _ h)
  | _, _, .obj a => .obj a
  | _, _, .ty n => .ty n
  | _, _, .exc a h r => .exc a (s _ _ h) (DR.mono s r)
  | _, _, .exo C a g h r => .exo C a (s _ _ g) (s _ _ h) (DR.mono s r)
  | _, _, .scr h r => .scr (s.seq h) (DRs.mono s r)
theorem DRs.mono {K : PySem.W.Frag} {B B' : Hp} (s : Same B B') : ∀ {vs : List V} {ds : List D}, DRs K B vs ds → DRs K B' vs ds
  | _, _, .nil => .nil
  | _, _, .cons h r => .cons (DR.mono s h) (DRs.mono s r)
end
theorem DRs.length {K : PySem.W.Frag} {B : Hp} : ∀ {vs : List V} {ds : List D}, DRs K B vs ds → vs.length = ds.length
  | _, _, .nil => rfl
  | _, _, .cons _ r => by rw [List.length_cons, List.length_cons, DRs.length r]
theorem DRs.get {K : PySem.W.Frag} {B : Hp} : ∀ {vs : List V} {ds : List D}, DRs K B vs ds → ∀ {i : Nat} {d : D}, ds[i]? = some d → ∃ v, vs[i]? = some v ∧ DR K B v d
  | _, _, .nil, i, d, e => by simp at e
  | _, _, .cons h r, 0, d, e => by simp at e; subst e; exact ⟨_, rfl, h⟩
  | _, _, .cons h r, i + 1, d, e => by
    obtain ⟨v, e1, h1⟩ := DRs.get r (i := i) (d := d) (by simpa using e)
    exact ⟨v, by simpa using e1, h1⟩
theorem DRs.getV {K : PySem.W.Frag} {B : Hp} : ∀ {vs : List V} {ds : List D}, DRs K B vs ds → ∀ {i : Nat} {v : V}, vs[i]? = some v → ∃ d, ds[i]? = some d ∧ DR K B v d
  | _, _, .nil, i, d, e => by simp at e
  | _, _, .cons h r, 0, d, e => by simp at e; subst e; exact ⟨_, rfl, h⟩
  | _, _, .cons h r, i + 1, d, e => by
    obtain ⟨v, e1, h1⟩ := DRs.getV r (i := i) (v := d) (by simpa using e)
    exact ⟨v, by simpa using e1, h1⟩
theorem DRs.append {K : PySem.W.Frag} {B : Hp} : ∀ {vs ws : List V} {ds es : List D}, DRs K B vs ds → DRs K B ws es → DRs K B (vs ++ ws) (ds ++ es)
  | _, _, _, _, .nil, s => s
  | _, _, _, _, .cons h r, s => .cons h (DRs.append r s)
theorem DRs.one {K : PySem.W.Frag} {B : Hp} {v : V} {d : D} (h : DR K B v d) : DRs K B [v] [d] := .cons h .nil

/-! memory: what may change -/
inductive MO where
  | lst (ds : List D)
  | raw (o : HO)
abbrev Mem := Addr → Option MO
def MR (K : PySem.W.Frag) (B : Hp) (o : HO) : MO → Prop
  | .lst ds => ∃ xs, o = .lst xs ∧ DRs K B xs ds
  | .raw o' => o = o'
theorem MR.mono {K : PySem.W.Frag} {B B' : Hp} (s : Same B B') {o : HO} : ∀ {m : MO}, MR K B o m → MR K B' o m
  | .lst _, ⟨xs, e, r⟩ => ⟨xs, e, r.mono s⟩
  | .raw _, e => e
def updM (M : Mem) (a : Addr) (o : MO) : Mem := fun b => if b = a then some o else M b
theorem updM_same {M : Mem} {a : Addr} {o : MO} : updM M a o a = some o := if_pos rfl
theorem updM_ne {M : Mem} {a b : Addr} {o : MO} (h : b ≠ a) : updM M a o b = M b := if_neg h
theorem updM_updM {M : Mem} {a : Addr} {o u : MO} : updM (updM M a o) a u = updM M a u := by
  funext b; unfold updM; split <;> rfl
structure Is (K : PySem.W.Frag) (H B : Hp) (M : Mem) : Prop where
  sub : Same B H
  mem : ∀ a m, M a = some m → B a = none ∧ ∃ o, H a = some o ∧ MR K B o m
/-- memory may be forgotten -/
def MLe (M M' : Mem) : Prop := ∀ a m, M a = some m → M' a = some m
theorem MLe.refl (M : Mem) : MLe M M := fun _ _ h => h
theorem Is.less {K : PySem.W.Frag} {H B : Hp} {M M' : Mem} (h : Is K H B M') (l : MLe M M') : Is K H B M := ⟨h.sub, fun a m e => h.mem a m (l a m e)⟩
theorem Is.fresh {K : PySem.W.Frag} {H B : Hp} {M : Mem} (h : Is K H B M) {p : Addr} (e : H p = none) : B p = none ∧ M p = none := by
  refine ⟨h.sub.free e, ?_⟩
  cases q : M p with
  | none => rfl
  | some m =>
    obtain ⟨_, o, z, _⟩ := h.mem p m q
    rw [e] at z; cases z
theorem same_new {B : Hp} {p : Addr} {o : HO} (h : B p = none) : Same B (upd B p o) := fun a u e => by rw [upd_ne (ne_of_none e h)]; exact e
/-- a new thing that stays -/
theorem Is.keep {K : PySem.W.Frag} {H B : Hp} {M : Mem} (h : Is K H B M) {p : Addr} (e : H p = none) (o : HO) : Is K (upd H p o) (upd B p o) M := by
  obtain ⟨e1, e2⟩ := h.fresh e
  refine ⟨fun a u q => ?_, fun a m q => ?_⟩
  · by_cases z : a = p
    · subst z; rw [upd_same] at q ⊢; exact q
    · rw [upd_ne z] at q ⊢; exact h.sub _ _ q
  · obtain ⟨n, u, hu, r⟩ := h.mem a m q
    have z : a ≠ p := ne_of_none hu e
    exact ⟨by rw [upd_ne z]; exact n, u, by rw [upd_ne z]; exact hu, r.mono (same_new e1)⟩
/-- a new thing that may change -/
theorem Is.make {K : PySem.W.Frag} {H B : Hp} {M : Mem} (h : Is K H B M) {p : Addr} (e : H p = none) {o : HO} {m : MO} (r : MR K B o m) : Is K (upd H p o) B (updM M p m) := by
  obtain ⟨e1, e2⟩ := h.fresh e
  refine ⟨fun a u q => ?_, fun a m' q => ?_⟩
  · rw [upd_ne (ne_of_none q e1)]; exact h.sub _ _ q
  · by_cases z : a = p
    · subst z; rw [updM_same] at q; cases q; exact ⟨e1, o, upd_same, r⟩
    · rw [updM_ne z] at q
      obtain ⟨n, u, hu, r'⟩ := h.mem a m' q
      exact ⟨n, u, by rw [upd_ne z]; exact hu, r'⟩
/-- a thing of the memory is changed -/
theorem Is.write {K : PySem.W.Frag} {H B : Hp} {M : Mem} (h : Is K H B M) {p : Addr} {m0 : MO} (e : M p = some m0) {o : HO} {m : MO} (r : MR K B o m) : Is K (upd H p o) B (updM M p m) := by
  obtain ⟨e1, _, _, _⟩ := h.mem p m0 e
  refine ⟨fun a u q => ?_, fun a m' q => ?_⟩
  · rw [upd_ne (ne_of_none q e1)]; exact h.sub _ _ q
  · by_cases z : a = p
    · subst z; rw [updM_same] at q; cases q; exact ⟨e1, o, upd_same, r⟩
    · rw [updM_ne z] at q
      obtain ⟨n, u, hu, r'⟩ := h.mem a m' q
      exact ⟨n, u, by rw [upd_ne z]; exact hu, r'⟩
def delM (M : Mem) (a : Addr) : Mem := fun b => if b = a then none else M b
/-- a list of the memory changes no more: it is data -/
theorem Is.freeze {K : PySem.W.Frag} {H B : Hp} {M : Mem} (h : Is K H B M) {p : Addr} {ds : List D} (e : M p = some (.lst ds)) :
    ∃ B', Same B B' ∧ Is K H B' (delM M p) ∧ DR K B' (.ref p) (.lst ds) := by
  obtain ⟨e1, o, e2, xs, rfl, r⟩ := h.mem p _ e
  have s : Same B (upd B p (.lst xs)) := same_new e1
  refine ⟨upd B p (.lst xs), s, ⟨fun a u q => ?_, fun a m q => ?_⟩, .lst upd_same (r.mono s)⟩
  · by_cases z : a = p
    · subst z; rw [upd_same] at q; cases q; exact e2
    · rw [upd_ne z] at q; exact h.sub _ _ q
  · by_cases z : a = p
    · subst z; unfold delM at q; rw [if_pos rfl] at q; cases q
    · unfold delM at q; rw [if_neg z] at q
      obtain ⟨n, u, hu, r'⟩ := h.mem a m q
      exact ⟨by rw [upd_ne z]; exact n, u, hu, r'.mono s⟩
theorem delM_updM {M : Mem} {p : Addr} {o : MO} (e : M p = none) : delM (updM M p o) p = M := by
  funext b; unfold delM updM
  by_cases z : b = p
  · subst z; simp [e]
  · simp [z]

/-! slots -/
abbrev DSt := List (Option D)
structure SR (K : PySem.W.Frag) (B : Hp) (σ : L2.St) (δ : DSt) : Prop where
  len : σ.length = δ.length
  at_ : ∀ (i : Nat) (d : D), δ[i]? = some (some d) → ∃ v, σ[i]? = some (some v) ∧ DR K B v d
theorem SR.mono {K : PySem.W.Frag} {B B' : Hp} {σ : L2.St} {δ : DSt} (h : SR K B σ δ) (s : Same B B') : SR K B' σ δ :=
  ⟨h.len, fun i d e => let ⟨v, e1, r⟩ := h.at_ i d e; ⟨v, e1, r.mono s⟩⟩
theorem SR.set {K : PySem.W.Frag} {B : Hp} {σ : L2.St} {δ : DSt} (h : SR K B σ δ) (i : Nat) {v : V} {d : D} (r : DR K B v d) : SR K B (σ.set i (some v)) (δ.set i (some d)) := by
  refine ⟨by rw [List.length_set, List.length_set]; exact h.len, fun j e q => ?_⟩
  by_cases z : i = j
  · subst z
    by_cases hi : i < δ.length
    · rw [List.getElem?_set_self hi] at q; cases q
      exact ⟨v, List.getElem?_set_self (by rw [h.len]; exact hi), r⟩
    · rw [List.getElem?_eq_none (by rw [List.length_set]; omega)] at q; cases q
  · rw [List.getElem?_set_ne z] at q
    obtain ⟨u, e1, r1⟩ := h.at_ j e q
    exact ⟨u, by rw [List.getElem?_set_ne z]; exact e1, r1⟩
theorem SR.unset {K : PySem.W.Frag} {B : Hp} {σ : L2.St} {δ : DSt} (h : SR K B σ δ) (i : Nat) (o : Option V) : SR K B (σ.set i o) (δ.set i none) := by
  refine ⟨by rw [List.length_set, List.length_set]; exact h.len, fun j e q => ?_⟩
  by_cases z : i = j
  · subst z
    by_cases hi : i < δ.length
    · rw [List.getElem?_set_self hi] at q; cases q
    · rw [List.getElem?_eq_none (by rw [List.length_set]; omega)] at q; cases q
  · rw [List.getElem?_set_ne z] at q
    obtain ⟨u, e1, r1⟩ := h.at_ j e q
    exact ⟨u, by rw [List.getElem?_set_ne z]; exact e1, r1⟩

/-! errors: an own class at C, its field «value», the slots, the memory -/
abbrev DX := DSt → Addr → D → Mem → Prop
def XW (K : PySem.W.Frag) (B : Hp) (Ex : DX) : WX := fun cls dd σ H => ∃ (δ : DSt) (C d : Addr) (v : V) (dv : D) (B' : Hp) (M' : Mem),
  cls = .ref C ∧ dd = some d ∧ Same B B' ∧ Is K H B' M' ∧ SR K B' σ δ ∧ B' d = some (.xd [("value", v)]) ∧ DR K B' v dv ∧ Ex δ C dv M'
theorem XW.back {K : PySem.W.Frag} {B B' : Hp} (s : Same B B') {Ex : DX} {c : Value} {d : Option Addr} {σ : L2.St} {H : Hp} (h : XW K B' Ex c d σ H) : XW K B Ex c d σ H := by
  obtain ⟨δ, C, d, v, dv, B1, M', e1, e2, s1, r⟩ := h
  exact ⟨δ, C, d, v, dv, B1, M', e1, e2, s.trans s1, r⟩
structure Rx (X : Cx) (B : Hp) (Ex : DX) : Prop where
  tk : Takes X (XW X.K B Ex)
  po : PassesOwn (model X.prog X.w) X.A X.env X.xe
theorem Rx.mono {X : Cx} {B B' : Hp} {Ex : DX} (h : Rx X B Ex) (s : Same B B') : Rx X B' Ex := ⟨h.tk.imp fun _ _ _ _ q => q.back s, h.po⟩

/-! the judgements -/
abbrev DK := D → Mem → Prop
def VP (K : PySem.W.Frag) (B : Hp) (Q : DK) : VK := fun v H' => ∃ d B' M', Same B B' ∧ Is K H' B' M' ∧ DR K B' v d ∧ Q d M'
def BP (K : PySem.W.Frag) (B : Hp) (Q : Bool → Mem → Prop) : Bool → Hp → Prop := fun b H' => ∃ B' M', Same B B' ∧ Is K H' B' M' ∧ Q b M'
def LP (K : PySem.W.Frag) (B : Hp) (Q : List D → Mem → Prop) : List V → Hp → Prop := fun vs H' => ∃ ds B' M', Same B B' ∧ Is K H' B' M' ∧ DRs K B' vs ds ∧ Q ds M'
def NP (K : PySem.W.Frag) (B : Hp) (Q : DSt → Mem → Prop) : L2.St → Hp → Prop := fun σ H' => ∃ δ B' M', Same B B' ∧ Is K H' B' M' ∧ SR K B' σ δ ∧ Q δ M'
theorem VP.back {K : PySem.W.Frag} {B B' : Hp} (s : Same B B') {Q : DK} {v : V} {H : Hp} (h : VP K B' Q v H) : VP K B Q v H := let ⟨d, B1, M', s1, r⟩ := h; ⟨d, B1, M', s.trans s1, r⟩
theorem BP.back {K : PySem.W.Frag} {B B' : Hp} (s : Same B B') {Q : Bool → Mem → Prop} {v : Bool} {H : Hp} (h : BP K B' Q v H) : BP K B Q v H := let ⟨B1, M', s1, r⟩ := h; ⟨B1, M', s.trans s1, r⟩
theorem LP.back {K : PySem.W.Frag} {B B' : Hp} (s : Same B B') {Q : List D → Mem → Prop} {v : List V} {H : Hp} (h : LP K B' Q v H) : LP K B Q v H := let ⟨d, B1, M', s1, r⟩ := h; ⟨d, B1, M', s.trans s1, r⟩
theorem NP.back {K : PySem.W.Frag} {B B' : Hp} (s : Same B B') {Q : DSt → Mem → Prop} {v : L2.St} {H : Hp} (h : NP K B' Q v H) : NP K B Q v H := let ⟨d, B1, M', s1, r⟩ := h; ⟨d, B1, M', s.trans s1, r⟩
structure DEnds where
  nx : DSt → Mem → Prop
  rt : DK
  bk : DSt → Mem → Prop := fun _ _ => False
  ct : DSt → Mem → Prop := fun _ _ => False
def toE (K : PySem.W.Frag) (B : Hp) (E : DEnds) : Ends := { nx := NP K B E.nx, rt := VP K B E.rt, bk := NP K B E.bk, ct := NP K B E.ct }
theorem toE.back {K : PySem.W.Frag} {B B' : Hp} (s : Same B B') (E : DEnds) : ELe (toE K B' E) (toE K B E) := ⟨fun _ _ h => NP.back s h, fun _ _ h => VP.back s h, fun _ _ h => NP.back s h, fun _ _ h => NP.back s h⟩
def DE (X : Cx) (Ex : DX) (e : Expr) (δ : DSt) (M : Mem) (Q : DK) : Prop := ∀ (B : Hp) (σ : L2.St) (H : Hp), Rx X B Ex → Is X.K H B M → SR X.K B σ δ → WE X e σ H (VP X.K B Q)
def DT (X : Cx) (Ex : DX) (e : Expr) (δ : DSt) (M : Mem) (Q : Bool → Mem → Prop) : Prop := ∀ (B : Hp) (σ : L2.St) (H : Hp), Rx X B Ex → Is X.K H B M → SR X.K B σ δ → WT X e σ H (BP X.K B Q)
def DW (X : Cx) (Ex : DX) (e : Expr) (δ : DSt) (M : Mem) (Q : Bool → Mem → Prop) : Prop := ∀ (B : Hp) (σ : L2.St) (H : Hp), Rx X B Ex → Is X.K H B M → SR X.K B σ δ → WW X e σ H (BP X.K B Q)
def DA (X : Cx) (Ex : DX) (es : List Expr) (δ : DSt) (M : Mem) (Q : List D → Mem → Prop) : Prop := ∀ (B : Hp) (σ : L2.St) (H : Hp), Rx X B Ex → Is X.K H B M → SR X.K B σ δ → WA X es σ H (LP X.K B Q)
def DS (X : Cx) (Ex : DX) (st : Stmt) (δ : DSt) (M : Mem) (E : DEnds) : Prop := ∀ (B : Hp) (σ : L2.St) (H : Hp), Rx X B Ex → Is X.K H B M → SR X.K B σ δ → WS X st (toE X.K B E) σ H
def DB (X : Cx) (Ex : DX) (st : List Stmt) (δ : DSt) (M : Mem) (E : DEnds) : Prop := ∀ (B : Hp) (σ : L2.St) (H : Hp), Rx X B Ex → Is X.K H B M → SR X.K B σ δ → WB X st (toE X.K B E) σ H
end DL

set_option Elab.async false
set_option linter.all false
set_option maxRecDepth 100000
set_option maxHeartbeats 2000000
namespace DL
open PySem L2 PyProof.Rows

/-! operators by values, weakest -/
def R2W (X : Cx) (f : Value → Value → Sem Value) : R2 := fun x y H Q => ∀ pins s σ v u, Inv X pins σ H s → RelV x v → RelV y u → wpAny (model X.prog X.w) X.A (f v u) (EP X pins σ Q) X.xe s
theorem opr_w {X : Cx} {f : Value → Value → Sem Value} : OpR X f (R2W X f) := fun pins s σ H x y v u Q I rx ry h => h pins s σ v u I rx ry
theorem ep_mono {X : Cx} {pins : List (Addr × Obj)} {σ : L2.St} {Q Q' : VK} (k : ∀ v H, Q v H → Q' v H) {u : Value} {s : Shared} (h : EP X pins σ Q u s) : EP X pins σ Q' u s := let ⟨v, H', J, r, q⟩ := h; ⟨v, H', J, r, k _ _ q⟩
theorem r2w_mono {X : Cx} {f : Value → Value → Sem Value} {x y : V} {H : Hp} {Q Q' : VK} (h : R2W X f x y H Q) (k : ∀ v H, Q v H → Q' v H) : R2W X f x y H Q' := fun pins s σ v u I rx ry => thn (h pins s σ v u I rx ry) fun _ _ q => ep_mono k q
def R1W (X : Cx) (f : Value → Sem Value) : V → Hp → VK → Prop := fun x H Q => ∀ pins s σ v, Inv X pins σ H s → RelV x v → wpAny (model X.prog X.w) X.A (f v) (EP X pins σ Q) X.xe s
theorem unr_w {X : Cx} {f : Value → Sem Value} : UnR X f (R1W X f) := fun pins s σ H x v Q I rx h => h pins s σ v I rx
theorem r1w_mono {X : Cx} {f : Value → Sem Value} {x : V} {H : Hp} {Q Q' : VK} (h : R1W X f x H Q) (k : ∀ v H, Q v H → Q' v H) : R1W X f x H Q' := fun pins s σ v I rx => thn (h pins s σ v I rx) fun _ _ q => ep_mono k q
def CW (X : Cx) (f : Value) : List V → Hp → VK → Prop := fun xs H Q => ∀ pins s σ us, Inv X pins σ H s → Vals xs us → wpAny (model X.prog X.w) X.A (call f us) (EP X pins σ Q) X.xe s
theorem cr_w {X : Cx} {f : Value} : CallR X f (CW X f) := fun pins s σ H xs us Q I r h => h pins s σ us I r
theorem cw_mono {X : Cx} {f : Value} {xs : List V} {H : Hp} {Q Q' : VK} (h : CW X f xs H Q) (k : ∀ v H, Q v H → Q' v H) : CW X f xs H Q' := fun pins s σ us I r => thn (h pins s σ us I r) fun _ _ q => ep_mono k q
def MW (X : Cx) (id : String) : V → List V → Hp → VK → Prop := fun x xs H Q => ∀ pins s σ v us, Inv X pins σ H s → RelV x v → Vals xs us → wpAny (model X.prog X.w) X.A (call (.builtin id) (v :: us)) (EP X pins σ Q) X.xe s
theorem mt_w {X : Cx} {id : String} : MtR X id (MW X id) := fun pins s σ H x xs v us Q I rx r h => h pins s σ v us I rx r
theorem mw_mono {X : Cx} {id : String} {x : V} {xs : List V} {H : Hp} {Q Q' : VK} (h : MW X id x xs H Q) (k : ∀ v H, Q v H → Q' v H) : MW X id x xs H Q' := fun pins s σ v us I rx r => thn (h pins s σ v us I rx r) fun _ _ q => ep_mono k q
def IW (X : Cx) : R2 := fun x y H Q => ∀ (value slice : Expr) pins s σ v u, Inv X pins σ H s → RelV x v → RelV y u → subscripted slice false v u = operate [v, u] (getItem v u) → wpAny (model X.prog X.w) X.A (subscriptTail value slice v u) (EP X pins σ Q) X.xe s
theorem ix_w {X : Cx} : IxR X (IW X) := fun value slice pins s σ H x y v u Q I rx ry h hs => h value slice pins s σ v u I rx ry hs
theorem iw_mono {X : Cx} {x y : V} {H : Hp} {Q Q' : VK} (h : IW X x y H Q) (k : ∀ v H, Q v H → Q' v H) : IW X x y H Q' := fun a b pins s σ v u I rx ry e => thn (h a b pins s σ v u I rx ry e) fun _ _ q => ep_mono k q

/-! .. by data -/
def D2 (X : Cx) (f : Value → Value → Sem Value) (x y : D) (M : Mem) (Q : DK) : Prop := ∀ B H v w, Is X.K H B M → DR X.K B v x → DR X.K B w y → R2W X f v w H (VP X.K B Q)
def D1 (X : Cx) (f : Value → Sem Value) (x : D) (M : Mem) (Q : DK) : Prop := ∀ B H v, Is X.K H B M → DR X.K B v x → R1W X f v H (VP X.K B Q)
def DC (X : Cx) (f : Value) (ds : List D) (M : Mem) (Q : DK) : Prop := ∀ B H vs, Is X.K H B M → DRs X.K B vs ds → CW X f vs H (VP X.K B Q)
def DM (X : Cx) (id : String) (x : D) (ds : List D) (M : Mem) (Q : DK) : Prop := ∀ B H v vs, Is X.K H B M → DR X.K B v x → DRs X.K B vs ds → MW X id v vs H (VP X.K B Q)
def DI (X : Cx) (x y : D) (M : Mem) (Q : DK) : Prop := ∀ B H v w, Is X.K H B M → DR X.K B v x → DR X.K B w y → IW X v w H (VP X.K B Q)
theorem d2_of {X : Cx} {f : Value → Value → Sem Value} {r : R2} (ho : OpR X f r) {x y : D} {M : Mem} {Q : DK} (h : ∀ B H v w, Is X.K H B M → DR X.K B v x → DR X.K B w y → r v w H (VP X.K B Q)) : D2 X f x y M Q :=
  fun B H v w i a b pins s σ v' u I rx ry => ho pins s σ H v w v' u _ I rx ry (h B H v w i a b)
theorem d1_of {X : Cx} {f : Value → Sem Value} {r : V → Hp → VK → Prop} (ho : UnR X f r) {x : D} {M : Mem} {Q : DK} (h : ∀ B H v, Is X.K H B M → DR X.K B v x → r v H (VP X.K B Q)) : D1 X f x M Q :=
  fun B H v i a pins s σ v' I rx => ho pins s σ H v v' _ I rx (h B H v i a)
theorem dc_of {X : Cx} {f : Value} {r : List V → Hp → VK → Prop} (ho : CallR X f r) {xs : List D} {M : Mem} {Q : DK} (h : ∀ B H vs, Is X.K H B M → DRs X.K B vs xs → r vs H (VP X.K B Q)) : DC X f xs M Q :=
  fun B H vs i a pins s σ us I r => ho pins s σ H vs us _ I r (h B H vs i a)
theorem dm_of {X : Cx} {id : String} {r : V → List V → Hp → VK → Prop} (ho : MtR X id r) {x : D} {xs : List D} {M : Mem} {Q : DK} (h : ∀ B H v vs, Is X.K H B M → DR X.K B v x → DRs X.K B vs xs → r v vs H (VP X.K B Q)) : DM X id x xs M Q :=
  fun B H v vs i a b pins s σ v' us I rx r => ho pins s σ H v vs v' us _ I rx r (h B H v vs i a b)
theorem di_of {X : Cx} {r : R2} (ho : IxR X r) {x y : D} {M : Mem} {Q : DK} (h : ∀ B H v w, Is X.K H B M → DR X.K B v x → DR X.K B w y → r v w H (VP X.K B Q)) : DI X x y M Q :=
  fun B H v w i a b ve sl pins s σ v' u I rx ry e => ho ve sl pins s σ H v w v' u _ I rx ry (h B H v w i a b) e
theorem vp_now {K : PySem.W.Frag} {H B : Hp} {M : Mem} {Q : DK} {v : V} {d : D} (i : Is K H B M) (r : DR K B v d) (q : Q d M) : VP K B Q v H := ⟨d, B, M, Same.refl B, i, r, q⟩

section
variable {X : Cx} {Ex : DX} {δ : DSt} {M : Mem} {Q : DK} {a b c e : Expr} {es : List Expr} {pos : Pos}

/-! expressions -/
theorem de_mono {Q' : DK} (h : DE X Ex e δ M Q) (k : ∀ d M', Q d M' → Q' d M') : DE X Ex e δ M Q' := fun B σ H rx is sr =>
  we_mono (h B σ H rx is sr) fun v H' ⟨d, B', M', s, i, r, q⟩ => ⟨d, B', M', s, i, r, k d M' q⟩
theorem de_of {t : TE} (p : PE X e t) (h : ∀ B σ H, Is X.K H B M → SR X.K B σ δ → t σ H (VP X.K B Q)) : DE X Ex e δ M Q := fun B σ H _ is sr => we_of p (h B σ H is sr)
theorem de_var (i : Nat) {x : Str} {d : D} (hd : δ[i]? = some (some d)) (q : Q d M) (hN : X.N[i]? = some x := by rfl) (hv : Vis X.env.scope x := by first | exact Or.inl rfl | exact Or.inr (Or.inl rfl) | exact Or.inr (Or.inr rfl))
    (h1 : (x == ("__debug__" : Str)) = false := by decide) (h2 : (x == ("__classdict__" : Str)) = false := by decide) : DE X Ex (.Name x pos) δ M Q :=
  de_of (pe_var hN hv h1 h2) fun B σ H is sr => let ⟨v, e, r⟩ := sr.at_ i d hd; ⟨v, e, vp_now is r q⟩
theorem de_int {i : Int} {j} (q : Q (.int i) M) : DE X Ex (.Constant (.int i) j pos) δ M Q := de_of pe_int fun B σ H is sr => vp_now is (.int i) q
theorem de_bl {i : Bool} {j} (q : Q (.bl i) M) : DE X Ex (.Constant (.bool i) j pos) δ M Q := de_of pe_bl fun B σ H is sr => vp_now is (.bl i) q
theorem de_non {j} (q : Q .non M) : DE X Ex (.Constant .none j pos) δ M Q := de_of pe_non fun B σ H is sr => vp_now is .non q
theorem de_str {i : Str} {j} (q : Q (.str i) M) : DE X Ex (.Constant (.str i) j pos) δ M Q := de_of pe_str fun B σ H is sr => vp_now is (.str i) q
/-- a module's constant -/
theorem de_glob {x : Str} {v : V} {d : D} {u : Value} (hm : X.mg x = some u) (r : RelV v u) (hd : ∀ B, DR X.K B v d) (q : Q d M) (hg : Gl X x := by rfl) (h1 : (x == ("__debug__" : Str)) = false := by decide) : DE X Ex (.Name x pos) δ M Q :=
  de_of (pe_glob hg hm r h1) fun B σ H is sr => vp_now is (hd B) q
theorem de_bin {op : Operator} (h : DE X Ex a δ M fun x M1 => DE X Ex b δ M1 fun y M2 => D2 X (binaryOp op) x y M2 Q) : DE X Ex (.BinOp a op b pos) δ M Q := by
  intro B σ H rx is sr
  refine we_of (pe_op opr_w pe_w pe_w) ?_
  refine we_mono (h B σ H rx is sr) fun v H1 ⟨x, B1, M1, s1, is1, r1, h1⟩ => ?_
  refine we_mono (h1 B1 σ H1 (rx.mono s1) is1 (sr.mono s1)) fun w H2 ⟨y, B2, M2, s2, is2, r2, h2⟩ => ?_
  exact r2w_mono (h2 B2 H2 v w is2 (r1.mono s2) r2) fun _ _ q => VP.back (s1.trans s2) q
theorem de_cmp {op : CmpOp} (h : DE X Ex a δ M fun x M1 => DE X Ex b δ M1 fun y M2 => D2 X (compareOp op) x y M2 Q) (hm : behindInMarks op b = false := by first | exact nomark _ | rfl) : DE X Ex (.Compare a [op] [b] pos) δ M Q := by
  intro B σ H rx is sr
  refine we_of (pe_cmpR opr_w pe_w pe_w hm) ?_
  refine we_mono (h B σ H rx is sr) fun v H1 ⟨x, B1, M1, s1, is1, r1, h1⟩ => ?_
  refine we_mono (h1 B1 σ H1 (rx.mono s1) is1 (sr.mono s1)) fun w H2 ⟨y, B2, M2, s2, is2, r2, h2⟩ => ?_
  exact r2w_mono (h2 B2 H2 v w is2 (r1.mono s2) r2) fun _ _ q => VP.back (s1.trans s2) q
/-- a op b op c, the first answer a truth -/
theorem de_chain {op op' : CmpOp} (h : DE X Ex a δ M fun x M1 => DE X Ex b δ M1 fun y M2 => D2 X (compareOp op) x y M2 fun z M3 => ∃ k, z = .bl k ∧ (k = true → DE X Ex c δ M3 fun w M4 => D2 X (compareOp op') y w M4 Q) ∧ (k = false → Q (.bl false) M3))
    (hm : lastMarks [op, op'] [b, c] = false := by with_unfolding_all rfl) : DE X Ex (.Compare a [op, op'] [b, c] pos) δ M Q := by
  intro B σ H rx is sr
  refine we_of (pe_chain opr_w opr_w pe_w pe_w pe_w hm) ?_
  refine we_mono (h B σ H rx is sr) fun v H1 ⟨x, B1, M1, s1, is1, r1, h1⟩ => ?_
  refine we_mono (h1 B1 σ H1 (rx.mono s1) is1 (sr.mono s1)) fun w H2 ⟨y, B2, M2, s2, is2, r2, h2⟩ => ?_
  refine r2w_mono (h2 B2 H2 v w is2 (r1.mono s2) r2) fun z H3 ⟨d, B3, M3, s3, is3, r3, k, e, ht, hf⟩ => ?_
  subst e
  cases r3
  refine ⟨k, rfl, ?_⟩
  have s13 := (s1.trans s2).trans s3
  cases k with
  | false => exact iteF (VP.back s13 (vp_now is3 (.bl false) (hf rfl)))
  | true =>
    refine iteT ?_
    refine we_mono (ht rfl B3 σ H3 (rx.mono s13) is3 (sr.mono s13)) fun u H4 ⟨y4, B4, M4, s4, is4, r4, h4⟩ => ?_
    exact r2w_mono (h4 B4 H4 w u is4 ((r2.mono s3).mono s4) r4) fun _ _ q => VP.back (s13.trans s4) q
theorem de_un {op : UnaryOp} (h : DE X Ex a δ M fun x M1 => D1 X (unaryOp op) x M1 Q) : DE X Ex (.UnaryOp op a pos) δ M Q := by
  intro B σ H rx is sr
  refine we_of (pe_un unr_w pe_w) ?_
  refine we_mono (h B σ H rx is sr) fun v H1 ⟨x, B1, M1, s1, is1, r1, h1⟩ => ?_
  exact r1w_mono (h1 B1 H1 v is1 r1) fun _ _ q => VP.back s1 q
/-- not a, as a value, a truth -/
theorem de_not (h : DE X Ex a δ M fun x M1 => ∃ k, x = .bl k ∧ Q (.bl (!k)) M1) : DE X Ex (.UnaryOp .Not a pos) δ M Q := by
  intro B σ H rx is sr
  refine we_of (pe_not pe_w) ?_
  refine we_mono (h B σ H rx is sr) fun v H1 ⟨x, B1, M1, s1, is1, r1, k, e, q⟩ => ?_
  subst e; cases r1
  exact ⟨k, rfl, ⟨_, B1, M1, s1, is1, .bl _, q⟩⟩
theorem de_one {op} (h : DE X Ex a δ M Q) : DE X Ex (.BoolOp op [a] pos) δ M Q := fun B σ H rx is sr => we_of (pe_one pe_w) (h B σ H rx is sr)
theorem de_and {rest : List Expr} (h : DE X Ex a δ M fun x M1 => ∃ k, x = .bl k ∧ (k = true → DE X Ex (.BoolOp .And (b :: rest) pos) δ M1 Q) ∧ (k = false → Q (.bl false) M1)) : DE X Ex (.BoolOp .And (a :: b :: rest) pos) δ M Q := by
  intro B σ H rx is sr
  refine we_of (pe_and pe_w pe_w) ?_
  refine we_mono (h B σ H rx is sr) fun v H1 ⟨x, B1, M1, s1, is1, r1, k, e, ht, hf⟩ => ?_
  subst e; cases r1
  refine ⟨k, rfl, ?_⟩
  cases k with
  | false => exact iteF ⟨_, B1, M1, s1, is1, .bl _, hf rfl⟩
  | true => exact iteT (we_mono (ht rfl B1 σ H1 (rx.mono s1) is1 (sr.mono s1)) fun _ _ q => VP.back s1 q)
theorem de_or {rest : List Expr} (h : DE X Ex a δ M fun x M1 => ∃ k, x = .bl k ∧ (k = false → DE X Ex (.BoolOp .Or (b :: rest) pos) δ M1 Q) ∧ (k = true → Q (.bl true) M1)) : DE X Ex (.BoolOp .Or (a :: b :: rest) pos) δ M Q := by
  intro B σ H rx is sr
  refine we_of (pe_or pe_w pe_w) ?_
  refine we_mono (h B σ H rx is sr) fun v H1 ⟨x, B1, M1, s1, is1, r1, k, e, ht, hf⟩ => ?_
  subst e; cases r1
  refine ⟨k, rfl, ?_⟩
  cases k with
  | true => exact iteT ⟨_, B1, M1, s1, is1, .bl _, hf rfl⟩
  | false => exact iteF (we_mono (ht rfl B1 σ H1 (rx.mono s1) is1 (sr.mono s1)) fun _ _ q => VP.back s1 q)
theorem de_ifExp (h : DT X Ex c δ M fun k M1 => (k = true → DE X Ex a δ M1 Q) ∧ (k = false → DE X Ex b δ M1 Q)) : DE X Ex (.IfExp c a b pos) δ M Q := by
  intro B σ H rx is sr
  refine we_of (pe_ifExp pt_w pe_w pe_w) ?_
  refine wt_mono (h B σ H rx is sr) fun k H1 ⟨B1, M1, s1, is1, ht, hf⟩ => ?_
  cases k with
  | true => exact iteT (we_mono (ht rfl B1 σ H1 (rx.mono s1) is1 (sr.mono s1)) fun _ _ q => VP.back s1 q)
  | false => exact iteF (we_mono (hf rfl B1 σ H1 (rx.mono s1) is1 (sr.mono s1)) fun _ _ q => VP.back s1 q)

/-! arguments -/
theorem da_nil {Q : List D → Mem → Prop} (q : Q [] M) : DA X Ex [] δ M Q := fun B σ H rx is sr => wa_of pa_nil (show LP X.K B Q [] H from ⟨[], B, M, Same.refl B, is, .nil, q⟩)
theorem da_cons {Q : List D → Mem → Prop} (h : DE X Ex e δ M fun x M1 => DA X Ex es δ M1 fun xs M2 => Q (x :: xs) M2) (hs : starEach (e :: es) X.env = (false, eval e X.env) :: starEach es X.env := by rfl) : DA X Ex (e :: es) δ M Q := by
  intro B σ H rx is sr
  refine wa_of (pa_cons pe_w pa_w hs) ?_
  refine we_mono (h B σ H rx is sr) fun v H1 ⟨x, B1, M1, s1, is1, r1, h1⟩ => ?_
  refine wa_mono (h1 B1 σ H1 (rx.mono s1) is1 (sr.mono s1)) fun w H2 ⟨y, B2, M2, s2, is2, r2, h2⟩ => ?_
  exact ⟨x :: y, B2, M2, s1.trans s2, is2, .cons (r1.mono s2) r2, h2⟩
theorem de_tup {x1} (h : DA X Ex es δ M fun ds M1 => ds.length ≤ sizeLine ∧ Q (.tup ds) M1) : DE X Ex (.Tuple es x1 pos) δ M Q := by
  intro B σ H rx is sr
  refine we_of (pe_tup pa_w) ?_
  refine wa_mono (h B σ H rx is sr) fun vs H1 ⟨ds, B1, M1, s1, is1, r1, hz, q⟩ => ?_
  refine ⟨by rw [r1.length]; exact hz, fun p hp => ?_⟩
  have s2 : Same B1 (upd B1 p (.tup vs)) := same_new (is1.fresh hp).1
  exact ⟨.tup ds, upd B1 p (.tup vs), M1, s1.trans s2, is1.keep hp _, .tup (.inl (.inl upd_same)) (r1.mono s2), q⟩
/-- a list that will not change -/
theorem de_lst (h : DA X Ex es δ M fun ds M1 => ds.length ≤ sizeLine ∧ Q (.lst ds) M1) : DE X Ex (.List es pos) δ M Q := by
  intro B σ H rx is sr
  refine we_of (pe_lst pa_w) ?_
  refine wa_mono (h B σ H rx is sr) fun vs H1 ⟨ds, B1, M1, s1, is1, r1, hz, q⟩ => ?_
  refine ⟨by rw [r1.length]; exact hz, fun p hp => ?_⟩
  have s2 : Same B1 (upd B1 p (.lst vs)) := same_new (is1.fresh hp).1
  exact ⟨.lst ds, upd B1 p (.lst vs), M1, s1.trans s2, is1.keep hp _, .lst upd_same (r1.mono s2), q⟩
/-- a list that may change -/
theorem de_lstM (h : DA X Ex es δ M fun ds M1 => ds.length ≤ sizeLine ∧ ∀ p, M1 p = none → Q (.obj p) (updM M1 p (.lst ds))) : DE X Ex (.List es pos) δ M Q := by
  intro B σ H rx is sr
  refine we_of (pe_lst pa_w) ?_
  refine wa_mono (h B σ H rx is sr) fun vs H1 ⟨ds, B1, M1, s1, is1, r1, hz, q⟩ => ?_
  refine ⟨by rw [r1.length]; exact hz, fun p hp => ?_⟩
  exact ⟨.obj p, B1, updM M1 p (.lst ds), s1, is1.make hp ⟨vs, rfl, r1⟩, .obj p, q p (is1.fresh hp).2⟩
theorem de_ix (h : DE X Ex a δ M fun x M1 => DE X Ex b δ M1 fun y M2 => DI X x y M2 Q) (hs : PlainIx b := by exact fun _ _ => rfl) : DE X Ex (.Subscript a b pos) δ M Q := by
  intro B σ H rx is sr
  refine we_of (pe_ix ix_w pe_w pe_w hs) ?_
  refine we_mono (h B σ H rx is sr) fun v H1 ⟨x, B1, M1, s1, is1, r1, h1⟩ => ?_
  refine we_mono (h1 B1 σ H1 (rx.mono s1) is1 (sr.mono s1)) fun w H2 ⟨y, B2, M2, s2, is2, r2, h2⟩ => ?_
  exact iw_mono (h2 B2 H2 v w is2 (r1.mono s2) r2) fun _ _ q => VP.back (s1.trans s2) q
theorem de_callB {x : Str} {id : String} {p : Pos} (hm : X.mg x = none) (hv : bootBuiltins x = some (.builtin id)) (h : DA X Ex (e :: es) δ M fun ds M1 => DC X (.builtin id) ds M1 Q) (hg : Gl X x := by rfl) (hn : x ≠ "__name__" := by decide) (hdb : (x == ("__debug__" : Str)) = false := by decide)
    (he : starEach (e :: es) X.env = (false, eval e X.env) :: starEach es X.env := by rfl) (hpl : (backTo pos (starEach es X.env)).any (·.1) = false := by rfl) : DE X Ex (.Call (.Name x p) (e :: es) [] pos) δ M Q := by
  intro B σ H rx is sr
  refine we_of (pe_callB cr_w hg hm hv pa_w hn hdb he hpl) ?_
  refine wa_mono (h B σ H rx is sr) fun vs H1 ⟨ds, B1, M1, s1, is1, r1, h1⟩ => ?_
  exact cw_mono (h1 B1 H1 vs is1 r1) fun _ _ q => VP.back s1 q
theorem de_callTy {x : Str} {T : String} {p : Pos} (hm : X.mg x = none) (hv : bootBuiltins x = some (.type T)) (h : DA X Ex (e :: es) δ M fun ds M1 => DC X (.type T) ds M1 Q) (hg : Gl X x := by rfl) (hn : x ≠ "__name__" := by decide) (hdb : (x == ("__debug__" : Str)) = false := by decide)
    (he : starEach (e :: es) X.env = (false, eval e X.env) :: starEach es X.env := by rfl) (hpl : (backTo pos (starEach es X.env)).any (·.1) = false := by rfl) : DE X Ex (.Call (.Name x p) (e :: es) [] pos) δ M Q := by
  intro B σ H rx is sr
  refine we_of (pe_callTy cr_w hg hm hv pa_w hn hdb he hpl) ?_
  refine wa_mono (h B σ H rx is sr) fun vs H1 ⟨ds, B1, M1, s1, is1, r1, h1⟩ => ?_
  exact cw_mono (h1 B1 H1 vs is1 r1) fun _ _ q => VP.back s1 q
end
end DL

set_option Elab.async false
set_option linter.all false
set_option maxRecDepth 100000
set_option maxHeartbeats 2000000
namespace DL
open PySem L2 PyProof.Rows

/-! what may be read -/
def LstD (M : Mem) (d : D) (ds : List D) : Prop := d = .lst ds ∨ d = .scr ds ∨ ∃ a, d = .obj a ∧ M a = some (.lst ds)
theorem LstD.of {M : Mem} {ds : List D} : LstD M (.lst ds) ds := .inl rfl
theorem LstD.mut {M : Mem} {a : Addr} {ds : List D} (h : M a = some (.lst ds)) : LstD M (.obj a) ds := .inr (.inr ⟨a, rfl, h⟩)
theorem LstD.scr {M : Mem} {ds : List D} : LstD M (.scr ds) ds := .inr (.inl rfl)
theorem LstD.sq {K : PySem.W.Frag} {H B : Hp} {M : Mem} {v : V} {d : D} {ds : List D} (l : LstD M d ds) (i : Is K H B M) (r : DR K B v d) : ∃ a xs, v = .ref a ∧ SqL K H a xs ∧ DRs K B xs ds := by
  rcases l with rfl | rfl | ⟨a, rfl, h⟩
  · cases r with
    | lst h r => exact ⟨_, _, rfl, SqL.of (i.sub _ _ h), r⟩
  · cases r with
    | scr h r => exact ⟨_, _, rfl, i.sub.seq h, r⟩
  · obtain ⟨_, o, ho, xs, rfl, r'⟩ := i.mem a _ h
    cases r
    exact ⟨a, xs, rfl, SqL.of ho, r'⟩
theorem tup_sq {K : PySem.W.Frag} {H B : Hp} {M : Mem} {v : V} {ds : List D} (i : Is K H B M) (r : DR K B v (.tup ds)) : ∃ a xs, v = .ref a ∧ SqT K H a xs ∧ DRs K B xs ds := by
  cases r with
  | tup h r => exact ⟨_, _, rfl, same_T i.sub h, r⟩

/-! truth -/
def truD (M : Mem) : D → Bool → Prop
  | .non, k => k = false
  | .bl b, k => k = b
  | .int i, k => k = (i != 0)
  | .str y, k => y.length ≤ sizeLine ∧ k = ((y.length : Int) != 0)
  | .tup ds, k => k = !ds.isEmpty
  | .lst ds, k => k = !ds.isEmpty
  | .dct0, k => k = false
  | .obj a, k => ∃ ds, M a = some (.lst ds) ∧ k = !ds.isEmpty
  | .ty _, _ => False
  | .exc _ _ _, _ => False
  | .exo _ _ _ _, _ => False
  | .scr ds, k => k = !ds.isEmpty
theorem drs_empty {K : PySem.W.Frag} {B : Hp} {xs : List V} {ds : List D} (r : DRs K B xs ds) : (!ds.isEmpty) = !xs.isEmpty := by cases r <;> rfl
theorem truD_ok {K : PySem.W.Frag} {H B : Hp} {M : Mem} {v : V} {d : D} {k : Bool} (i : Is K H B M) (r : DR K B v d) (t : truD M d k) : TruV K v H k := by
  cases r with
  | non => exact t
  | bl b => exact t
  | int j => exact t
  | str x => exact t
  | tup h r => exact .inr (.inl ⟨_, same_T i.sub h, by rw [← drs_empty r]; exact t⟩)
  | lst h r => exact .inl ⟨_, SqL.of (i.sub _ _ h), by rw [← drs_empty r]; exact t⟩
  | ty n => exact t.elim
  | exc a h r => exact t.elim
  | exo C a g h r => exact t.elim
  | scr h r => exact .inl ⟨_, i.sub.seq h, by rw [← drs_empty r]; exact t⟩
  | dct0 h => exact .inr (.inr ⟨[], i.sub _ _ h, t⟩)
  | obj a =>
    obtain ⟨ds, h, e⟩ := t
    obtain ⟨a', xs, e', hs, r'⟩ := (LstD.mut h).sq i (.obj a)
    cases e'
    exact .inl ⟨_, hs, by rw [← drs_empty r']; exact e⟩

section
variable {X : Cx} {Ex : DX} {δ : DSt} {M : Mem} {Q : DK} {a b c e : Expr} {es : List Expr} {pos : Pos} {QT : Bool → Mem → Prop}
/-! tests -/
theorem dt_mono {Q' : Bool → Mem → Prop} (h : DT X Ex e δ M QT) (k : ∀ d M', QT d M' → Q' d M') : DT X Ex e δ M Q' := fun B σ H rx is sr =>
  wt_mono (h B σ H rx is sr) fun v H' ⟨B', M', s, i, q⟩ => ⟨B', M', s, i, k v M' q⟩
/-- by its value's truth -/
theorem dt_tru (h : DE X Ex e δ M fun d M1 => ∃ k, truD M1 d k ∧ QT k M1) (he : ∀ whole, isTrue e X.env whole = (do let v ← whole; standAt e.pos; holding [v] (truthy v)) := by intro _; rfl) : DT X Ex e δ M QT := by
  intro B σ H rx is sr
  refine wt_of (pt_truth pe_w he) ?_
  refine we_mono (h B σ H rx is sr) fun v H1 ⟨x, B1, M1, s1, is1, r1, k, t, q⟩ => ?_
  exact ⟨k, truD_ok is1 r1 t, ⟨B1, M1, s1, is1, q⟩⟩
theorem dt_cmp {op : CmpOp} (h : DE X Ex a δ M fun x M1 => DE X Ex b δ M1 fun y M2 => D2 X (compareOp op) x y M2 fun z M3 => ∃ k, z = .bl k ∧ QT k M3) (hm : behindInMarks op b = false := by first | exact nomark _ | rfl) : DT X Ex (.Compare a [op] [b] pos) δ M QT := by
  intro B σ H rx is sr
  refine wt_of (pt_cmpR opr_w pe_w pe_w hm) ?_
  refine we_mono (h B σ H rx is sr) fun v H1 ⟨x, B1, M1, s1, is1, r1, h1⟩ => ?_
  refine we_mono (h1 B1 σ H1 (rx.mono s1) is1 (sr.mono s1)) fun w H2 ⟨y, B2, M2, s2, is2, r2, h2⟩ => ?_
  refine r2w_mono (h2 B2 H2 v w is2 (r1.mono s2) r2) fun z H3 ⟨d, B3, M3, s3, is3, r3, k, e, q⟩ => ?_
  subst e; cases r3
  exact ⟨k, rfl, ⟨B3, M3, (s1.trans s2).trans s3, is3, q⟩⟩
theorem dt_chain {op op' : CmpOp} (h : DE X Ex a δ M fun x M1 => DE X Ex b δ M1 fun y M2 => D2 X (compareOp op) x y M2 fun z M3 => ∃ k, z = .bl k ∧ (k = true → DE X Ex c δ M3 fun w M4 => D2 X (compareOp op') y w M4 fun z M5 => ∃ k, z = .bl k ∧ QT k M5) ∧ (k = false → QT false M3))
    (hm : lastMarks [op, op'] [b, c] = false := by with_unfolding_all rfl) : DT X Ex (.Compare a [op, op'] [b, c] pos) δ M QT := by
  intro B σ H rx is sr
  refine wt_of (pt_chain opr_w opr_w pe_w pe_w pe_w hm) ?_
  refine we_mono (h B σ H rx is sr) fun v H1 ⟨x, B1, M1, s1, is1, r1, h1⟩ => ?_
  refine we_mono (h1 B1 σ H1 (rx.mono s1) is1 (sr.mono s1)) fun w H2 ⟨y, B2, M2, s2, is2, r2, h2⟩ => ?_
  refine r2w_mono (h2 B2 H2 v w is2 (r1.mono s2) r2) fun z H3 ⟨d, B3, M3, s3, is3, r3, k, e, ht, hf⟩ => ?_
  subst e
  cases r3
  refine ⟨k, rfl, ?_⟩
  have s13 := (s1.trans s2).trans s3
  cases k with
  | false => exact iteF ⟨false, rfl, ⟨B3, M3, s13, is3, hf rfl⟩⟩
  | true =>
    refine iteT ?_
    refine we_mono (ht rfl B3 σ H3 (rx.mono s13) is3 (sr.mono s13)) fun u H4 ⟨y4, B4, M4, s4, is4, r4, h4⟩ => ?_
    refine r2w_mono (h4 B4 H4 w u is4 ((r2.mono s3).mono s4) r4) fun z H5 ⟨d, B5, M5, s5, is5, r5, k, e, q⟩ => ?_
    subst e; cases r5
    exact ⟨k, rfl, ⟨B5, M5, (s13.trans s4).trans s5, is5, q⟩⟩
theorem dt_not (h : DT X Ex a δ M fun k M1 => QT (!k) M1) : DT X Ex (.UnaryOp .Not a pos) δ M QT := fun B σ H rx is sr =>
  wt_of (pt_not pt_w) (wt_mono (h B σ H rx is sr) fun k H1 ⟨B1, M1, s1, is1, q⟩ => ⟨B1, M1, s1, is1, q⟩)
theorem dt_w (h : DW X Ex e δ M QT) : DT X Ex e δ M QT := fun B σ H rx is sr => fun pins s I => h B σ H rx is sr _ pins s I
theorem dw_and1 (h : DT X Ex a δ M QT) : DW X Ex (.BoolOp .And [a] pos) δ M QT := fun B σ H rx is sr => ww_of (pw_and1 pt_w) (h B σ H rx is sr)
theorem dw_or1 (h : DT X Ex a δ M QT) : DW X Ex (.BoolOp .Or [a] pos) δ M QT := fun B σ H rx is sr => ww_of (pw_or1 pt_w) (h B σ H rx is sr)
theorem ww_mono {X : Cx} {e : Expr} {σ : L2.St} {H : Hp} {Q Q' : Bool → Hp → Prop} (h : WW X e σ H Q) (k : ∀ v H', Q v H' → Q' v H') : WW X e σ H Q' := fun wh pins s I => thn (h wh pins s I) fun u s' ⟨H', J, q⟩ => ⟨H', J, k u H' q⟩
theorem dw_and {rest : List Expr} (h : DT X Ex a δ M fun k M1 => (k = true → DW X Ex (.BoolOp .And (b :: rest) pos) δ M1 QT) ∧ (k = false → QT false M1)) : DW X Ex (.BoolOp .And (a :: b :: rest) pos) δ M QT := by
  intro B σ H rx is sr
  refine ww_of (pw_and pt_w pw_w) ?_
  refine wt_mono (h B σ H rx is sr) fun k H1 ⟨B1, M1, s1, is1, ht, hf⟩ => ?_
  cases k with
  | false => exact iteF ⟨B1, M1, s1, is1, hf rfl⟩
  | true => exact iteT (ww_mono (ht rfl B1 σ H1 (rx.mono s1) is1 (sr.mono s1)) fun _ _ q => BP.back s1 q)
theorem dw_or {rest : List Expr} (h : DT X Ex a δ M fun k M1 => (k = false → DW X Ex (.BoolOp .Or (b :: rest) pos) δ M1 QT) ∧ (k = true → QT true M1)) : DW X Ex (.BoolOp .Or (a :: b :: rest) pos) δ M QT := by
  intro B σ H rx is sr
  refine ww_of (pw_or pt_w pw_w) ?_
  refine wt_mono (h B σ H rx is sr) fun k H1 ⟨B1, M1, s1, is1, ht, hf⟩ => ?_
  cases k with
  | true => exact iteT ⟨B1, M1, s1, is1, hf rfl⟩
  | false => exact iteF (ww_mono (ht rfl B1 σ H1 (rx.mono s1) is1 (sr.mono s1)) fun _ _ q => BP.back s1 q)

/-! methods of built-in types -/
def TyD (T : String) (M : Mem) : D → Prop
  | .str _ => T = "str"
  | .int _ => T = "int"
  | .lst _ => T = "list"
  | .dct0 => T = "dict"
  | .obj a => T = "list" ∧ ∃ ds, M a = some (.lst ds)
  | _ => False
theorem TyD.ok {K : PySem.W.Frag} {H B : Hp} {M : Mem} {v : V} {d : D} {T : String} (i : Is K H B M) (r : DR K B v d) (t : TyD T M d) : tyV K T v H := by
  cases r with
  | str x => exact t
  | int x => exact t
  | lst h r => exact .inl ⟨t, _, SqL.of (i.sub _ _ h)⟩
  | dct0 h => exact .inr (.inr (.inl ⟨t, .inl ⟨_, i.sub _ _ h⟩⟩))
  | obj a =>
    obtain ⟨t, ds, h⟩ := t
    obtain ⟨a', xs, e', hs, r'⟩ := (LstD.mut h).sq i (.obj a)
    cases e'
    exact .inl ⟨t, _, hs⟩
  | _ => exact t.elim
theorem de_meth {name : Str} {apos cpos : Pos} {T id : String} (pa : PlainAttrs T) (slot : Slot T name id) (hty : typeOf (.builtin id) = pure (.type "method_descriptor"))
    (h : DE X Ex a δ M fun x M1 => TyD T M1 x ∧ DA X Ex (e :: es) δ M1 fun ds M2 => DM X id x ds M2 Q)
    (hbase : attributeBase a name X.env (eval a X.env) = eval a X.env := by rfl)
    (hfew : ((backTo cpos (starEach (e :: es) X.env)).all (fun x => !x.1) && (backToKw cpos (keywordEach [] X.env)).all (fun x => x.1.isSome)
      && decide ((e :: es).length + ([] : List Keyword).length + (if ([] : List Keyword).isEmpty then 0 else 1) < 30)) = true := by rfl)
    (hline : (apos.endLine == cpos.line) = true := by rfl) (hs : starEach (e :: es) X.env = (false, eval e X.env) :: starEach es X.env := by rfl) (hplain : (backTo cpos (starEach es X.env)).any (·.1) = false := by rfl) :
    DE X Ex (.Call (.Attribute a name apos) (e :: es) [] cpos) δ M Q := by
  intro B σ H rx is sr
  refine we_of (pe_bm pa slot hty mt_w pe_w pa_w hbase hfew hline hs hplain) ?_
  refine we_mono (h B σ H rx is sr) fun v H1 ⟨x, B1, M1, s1, is1, r1, t, h1⟩ => ?_
  refine ⟨t.ok is1 r1, ?_⟩
  refine wa_mono (h1 B1 σ H1 (rx.mono s1) is1 (sr.mono s1)) fun w H2 ⟨y, B2, M2, s2, is2, r2, h2⟩ => ?_
  exact mw_mono (h2 B2 H2 v w is2 (r1.mono s2) r2) fun _ _ q => VP.back (s1.trans s2) q
theorem de_meth0 {name : Str} {apos cpos : Pos} {T id : String} (pa : PlainAttrs T) (slot : Slot T name id) (hty : typeOf (.builtin id) = pure (.type "method_descriptor"))
    (h : DE X Ex a δ M fun x M1 => TyD T M1 x ∧ DM X id x [] M1 Q)
    (hbase : attributeBase a name X.env (eval a X.env) = eval a X.env := by rfl) (hline : (apos.endLine == cpos.line) = true := by rfl) :
    DE X Ex (.Call (.Attribute a name apos) [] [] cpos) δ M Q := by
  intro B σ H rx is sr
  refine we_of (pe_bm0 pa slot hty mt_w pe_w hbase hline) ?_
  refine we_mono (h B σ H rx is sr) fun v H1 ⟨x, B1, M1, s1, is1, r1, t, h1⟩ => ?_
  exact ⟨t.ok is1 r1, mw_mono (h1 B1 H1 v [] is1 r1 .nil) fun _ _ q => VP.back s1 q⟩

/-! slices -/
def SW (X : Cx) : V → Option Int → Option Int → Hp → VK → Prop := fun x lo hi H Q => ∀ pins s σ v vl vu sl, Inv X pins σ H s → RelV x v → s.heap.IsSliceOf sl vl vu .none → IsPart vl lo → IsPart vu hi →
    ∃ T id, typeLookup (.type T) "__getitem__" = pure (some (.builtin id)) ∧ s.TypeIs v T ∧ wpAny (model X.prog X.w) X.A (getItem v (.ref sl)) (EP X pins σ Q) X.xe s
theorem sl_w {X : Cx} : SlR X (SW X) := fun pins s σ H x v vl vu lo hi sl Q I rx h1 h2 h3 h => h pins s σ v vl vu sl I rx h1 h2 h3
theorem sw_mono {X : Cx} {x : V} {lo hi : Option Int} {H : Hp} {Q Q' : VK} (h : SW X x lo hi H Q) (k : ∀ v H, Q v H → Q' v H) : SW X x lo hi H Q' := fun pins s σ v vl vu sl I rx h1 h2 h3 =>
  let ⟨T, id, e1, e2, w⟩ := h pins s σ v vl vu sl I rx h1 h2 h3
  ⟨T, id, e1, e2, thn w fun _ _ q => ep_mono k q⟩
def DSl (X : Cx) (x : D) (lo hi : Option Int) (M : Mem) (Q : DK) : Prop := ∀ B H v, Is X.K H B M → DR X.K B v x → SW X v lo hi H (VP X.K B Q)
theorem dsl_of {r : V → Option Int → Option Int → Hp → VK → Prop} (ho : SlR X r) {x : D} {lo hi : Option Int} (h : ∀ B H v, Is X.K H B M → DR X.K B v x → r v lo hi H (VP X.K B Q)) : DSl X x lo hi M Q :=
  fun B H v i a pins s σ v' vl vu sl I rx h1 h2 h3 => ho pins s σ H v v' vl vu lo hi sl _ I rx h1 h2 h3 (h B H v i a)
/-- a part of a slice -/
def WO (X : Cx) (e : Option Expr) : TO := fun σ H Q => ∀ pins s, Inv X pins σ H s → wpAny (model X.prog X.w) X.A (evalPart e X.env) (fun u s' => ∃ o H', Inv X pins σ H' s' ∧ IsPart u o ∧ Q o H') X.xe s
theorem po_w {e : Option Expr} : PO X e (WO X e) := ⟨fun pins s σ H Q I h => h pins s I⟩
def DO (X : Cx) (Ex : DX) (e : Option Expr) (δ : DSt) (M : Mem) (Q : Option Int → Mem → Prop) : Prop := ∀ (B : Hp) (σ : L2.St) (H : Hp), Rx X B Ex → Is X.K H B M → SR X.K B σ δ → WO X e σ H fun o H' => ∃ B' M', Same B B' ∧ Is X.K H' B' M' ∧ Q o M'
theorem wo_of {e : Option Expr} {t : TO} (p : PO X e t) {σ : L2.St} {H : Hp} {Q : Option Int → Hp → Prop} (h : t σ H Q) : WO X e σ H Q := fun pins s I => p.run pins s σ H Q I h
theorem wo_mono {e : Option Expr} {σ : L2.St} {H : Hp} {Q Q' : Option Int → Hp → Prop} (h : WO X e σ H Q) (k : ∀ v H', Q v H' → Q' v H') : WO X e σ H Q' := fun pins s I => thn (h pins s I) fun u s' ⟨o, H', J, p, q⟩ => ⟨o, H', J, p, k o H' q⟩
theorem do_none {Q : Option Int → Mem → Prop} (q : Q none M) : DO X Ex none δ M Q := fun B σ H rx is sr => wo_of po_none (show ∃ B' M', _ from ⟨B, M, Same.refl B, is, q⟩)
theorem do_some {Q : Option Int → Mem → Prop} (h : DE X Ex e δ M fun d M1 => ∃ i, d = .int i ∧ Q (some i) M1) : DO X Ex (some e) δ M Q := fun B σ H rx is sr =>
  wo_of (po_some pe_w) (we_mono (h B σ H rx is sr) fun v H1 ⟨x, B1, M1, s1, is1, r1, i, ei, q⟩ => by
        subst ei; cases r1; exact ⟨i, rfl, B1, M1, s1, is1, q⟩)
theorem de_slice {lo hi : Option Expr} {p2 : Pos} (h : DE X Ex a δ M fun x M1 => DO X Ex lo δ M1 fun l M2 => DO X Ex hi δ M2 fun u M3 => DSl X x l u M3 Q) : DE X Ex (.Subscript a (.Slice lo hi none p2) pos) δ M Q := by
  intro B σ H rx is sr
  refine we_of (pe_slice sl_w pe_w po_w po_w) ?_
  refine we_mono (h B σ H rx is sr) fun v H1 ⟨x, B1, M1, s1, is1, r1, h1⟩ => ?_
  refine wo_mono (h1 B1 σ H1 (rx.mono s1) is1 (sr.mono s1)) fun l H2 ⟨B2, M2, s2, is2, h2⟩ => ?_
  have s12 := s1.trans s2
  refine wo_mono (h2 B2 σ H2 (rx.mono s12) is2 (sr.mono s12)) fun u H3 ⟨B3, M3, s3, is3, h3⟩ => ?_
  exact sw_mono (h3 B3 H3 v is3 ((r1.mono s2).mono s3)) fun _ _ q => VP.back (s12.trans s3) q

/-! statements -/
variable {E : DEnds} {st : Stmt} {sts : List Stmt}
structure DLe (E E' : DEnds) : Prop where
  nx : ∀ σ H, E.nx σ H → E'.nx σ H
  rt : ∀ v H, E.rt v H → E'.rt v H
  bk : ∀ σ H, E.bk σ H → E'.bk σ H
  ct : ∀ σ H, E.ct σ H → E'.ct σ H
theorem np_mono {K : PySem.W.Frag} {B : Hp} {Q Q' : DSt → Mem → Prop} {σ : L2.St} {H : Hp} (h : NP K B Q σ H) (k : ∀ δ M, Q δ M → Q' δ M) : NP K B Q' σ H := let ⟨δ, B', M', s, i, r, q⟩ := h; ⟨δ, B', M', s, i, r, k _ _ q⟩
theorem vp_mono {K : PySem.W.Frag} {B : Hp} {Q Q' : DK} {σ : V} {H : Hp} (h : VP K B Q σ H) (k : ∀ δ M, Q δ M → Q' δ M) : VP K B Q' σ H := let ⟨δ, B', M', s, i, r, q⟩ := h; ⟨δ, B', M', s, i, r, k _ _ q⟩
theorem toE_le {K : PySem.W.Frag} {B : Hp} {E E' : DEnds} (k : DLe E E') : ELe (toE K B E) (toE K B E') := ⟨fun _ _ h => np_mono h k.nx, fun _ _ h => vp_mono h k.rt, fun _ _ h => np_mono h k.bk, fun _ _ h => np_mono h k.ct⟩
theorem db_mono {E' : DEnds} (h : DB X Ex sts δ M E) (k : DLe E E') : DB X Ex sts δ M E' := fun B σ H rx is sr => wb_mono (h B σ H rx is sr) (toE_le k)
theorem ds_mono {E' : DEnds} (h : DS X Ex st δ M E) (k : DLe E E') : DS X Ex st δ M E' := fun B σ H rx is sr => ws_mono (h B σ H rx is sr) (toE_le k)
theorem np_now {K : PySem.W.Frag} {H B : Hp} {M : Mem} {Q : DSt → Mem → Prop} {σ : L2.St} {δ : DSt} (i : Is K H B M) (r : SR K B σ δ) (q : Q δ M) : NP K B Q σ H := ⟨δ, B, M, Same.refl B, i, r, q⟩
theorem db_nil (q : E.nx δ M) : DB X Ex [] δ M E := fun B σ H rx is sr => wb_of pss_nil (np_now is sr q)
theorem db_cons (h : DS X Ex st δ M { E with nx := fun δ' M' => DB X Ex sts δ' M' E }) : DB X Ex (st :: sts) δ M E := by
  intro B σ H rx is sr
  refine wb_of (pss_cons ps_w pss_w) ?_
  refine ws_mono (h B σ H rx is sr) ⟨fun σ' H' ⟨δ', B', M', s, i, r, q⟩ => ?_, fun _ _ h => h, fun _ _ h => h, fun _ _ h => h⟩
  exact wb_mono (q B' σ' H' (rx.mono s) i r) (toE.back s E)
theorem db_one (h : DS X Ex st δ M E) : DB X Ex [st] δ M E := fun B σ H rx is sr => wb_of (pss_one ps_w) (h B σ H rx is sr)
theorem ds_pass (q : E.nx δ M) : DS X Ex (.Pass pos) δ M E := fun B σ H rx is sr => ws_of ps_pass (np_now is sr q)
theorem ds_expr (h : DE X Ex e δ M fun _ M1 => E.nx δ M1) (hs : swapsWith e none pos.line X.env = pure false := by rfl) : DS X Ex (.Expr e pos) δ M E := fun B σ H rx is sr =>
  ws_of (ps_expr pe_w hs) (we_mono (h B σ H rx is sr) fun v H1 ⟨x, B1, M1, s1, is1, r1, q⟩ => ⟨δ, B1, M1, s1, is1, sr.mono s1, q⟩)
theorem ds_ret (h : DE X Ex e δ M E.rt) : DS X Ex (.Return (some e) pos) δ M E := fun B σ H rx is sr => ws_of (ps_ret pe_w) (h B σ H rx is sr)
theorem ds_retN (h : E.rt .non M) : DS X Ex (.Return none pos) δ M E := fun B σ H rx is sr => ws_of ps_retN (vp_now is .non h)
theorem ds_if {s1 s2 : List Stmt} (h : DT X Ex c δ M fun k M1 => (k = true → DB X Ex s1 δ M1 E) ∧ (k = false → DB X Ex s2 δ M1 E)) : DS X Ex (.If c s1 s2 pos) δ M E := by
  intro B σ H rx is sr
  refine ws_of (ps_if pt_w pss_w pss_w) ?_
  refine wt_mono (h B σ H rx is sr) fun k H1 ⟨B1, M1, s1, is1, ht, hf⟩ => ?_
  cases k with
  | true => exact iteT (wb_mono (ht rfl B1 σ H1 (rx.mono s1) is1 (sr.mono s1)) (toE.back s1 E))
  | false => exact iteF (wb_mono (hf rfl B1 σ H1 (rx.mono s1) is1 (sr.mono s1)) (toE.back s1 E))
theorem ds_never (h : False) : DS X Ex st δ M E := h.elim
theorem ds_set (i : Nat) {x : Str} {pos' : Pos} (hN : X.N.Nodup) (h : DE X Ex e δ M fun d M1 => E.nx (δ.set i (some d)) M1) (hi : X.N[i]? = some x := by rfl) (hx : Loc X.env.scope x := by first | exact Or.inl rfl | exact Or.inr rfl)
    (hs : swapsWith e (some (.Name x pos')) pos.line X.env = pure false := by rfl) (hf : X.fn x = true ∨ X.env.scope.names.lookup x = some .local := by first | exact .inl rfl | exact .inr rfl | assumption) : DS X Ex (.Assign [.Name x pos'] e pos) δ M E := fun B σ H rx is sr =>
  ws_of (ps_set hN hi hx pe_w hs hf) (we_mono (h B σ H rx is sr) fun v H1 ⟨d, B1, M1, s1, is1, r1, q⟩ => ⟨δ.set i (some d), B1, M1, s1, is1, (sr.mono s1).set i r1, q⟩)
/-- a, b = x, y -/
theorem ds_par (i j : Nat) {x y : Str} {px py pt : Pos} {kt k2 pt2} (hN : X.N.Nodup) (h : DA X Ex [a, b] δ M fun ds M1 => ∃ d d', ds = [d, d'] ∧ E.nx ((δ.set i (some d)).set j (some d')) M1) (hc : X.calm = true := by rfl) (hi : X.N[i]? = some x := by rfl) (hj : X.N[j]? = some y := by rfl) (hij : i ≠ j := by decide)
    (hx : X.env.scope.names.lookup x = some .local := by rfl) (hy : X.env.scope.names.lookup y = some .local := by rfl)
    (hw : swappedStores [.Tuple [.Name x px, .Name y py] kt pt] (.Tuple [a, b] k2 pt2) X.env = pure (some [x, y]) := by rfl)
    (hs : swapsWithSole [.Tuple [.Name x px, .Name y py] kt pt] (.Tuple [a, b] k2 pt2) pos.line X.env = pure false := by rfl) :
    DS X Ex (.Assign [.Tuple [.Name x px, .Name y py] kt pt] (.Tuple [a, b] k2 pt2) pos) δ M E := by
  intro B σ H rx is sr
  refine ws_of (ps_par hc hN hi hj hij hx hy pa_w hw hs) ?_
  refine wa_mono (h B σ H rx is sr) fun vs H1 ⟨ds, B1, M1, s1, is1, r1, d, d', e, q⟩ => ?_
  subst e
  cases r1 with
  | cons r1 r2 =>
    cases r2 with
    | cons r2 r3 =>
      cases r3
      exact ⟨_, _, rfl, _, B1, M1, s1, is1, ((sr.mono s1).set i r1).set j r2, q⟩
/-- names out of a tuple -/
inductive TgN (X : Cx) : List Expr → List Nat → Prop
  | nil : TgN X [] []
  | cons {x : Str} {p : Pos} {es : List Expr} {i : Nat} {is : List Nat} (hi : X.N[i]? = some x) (hx : Loc X.env.scope x) (hf : X.fn x = true ∨ X.env.scope.names.lookup x = some .local) (h : TgN X es is) : TgN X (.Name x p :: es) (i :: is)
def setAll : DSt → List Nat → List D → DSt
  | δ, i :: is, d :: ds => setAll (δ.set i (some d)) is ds
  | δ, _, _ => δ
end
end DL

set_option Elab.async false
set_option linter.all false
set_option maxRecDepth 100000
set_option maxHeartbeats 2000000
namespace DL
open PySem L2 PyProof.Rows
abbrev Ex0 : DX := fun _ _ _ _ => False
theorem xw0 {K : PySem.W.Frag} {B : Hp} {c : Value} {d : Option Addr} {σ : L2.St} {H : Hp} (h : XW K B Ex0 c d σ H) : False := by
  obtain ⟨_, _, _, _, _, _, _, _, _, _, _, _, _, _, z⟩ := h
  exact z
theorem rx0 {X : Cx} {B : Hp} (h : X.xe = fun _ _ => False) : Rx X B Ex0 := by
  refine ⟨takes0.imp fun _ _ _ _ q => xw0 q, ?_⟩
  rw [h]; exact PassesOwn.never

section
variable {X : Cx} {Ex : DX} {δ : DSt} {M : Mem} {Q : DK} {a b c e : Expr} {es : List Expr} {pos : Pos} {E : DEnds} {st : Stmt} {sts : List Stmt}
/-! unpacking -/
theorem ds_unpack2 (i j : Nat) {x y : Str} {px py pt : Pos} {kt} (hN : X.N.Nodup) (h : DE X Ex e δ M fun d M1 => ∃ d1 d2, d = .tup [d1, d2] ∧ E.nx ((δ.set i (some d1)).set j (some d2)) M1) (hc : X.calm = true := by rfl)
    (hi : X.N[i]? = some x := by rfl) (hj : X.N[j]? = some y := by rfl) (hx : Loc X.env.scope x := by first | exact Or.inl rfl | exact Or.inr rfl) (hy : Loc X.env.scope y := by first | exact Or.inl rfl | exact Or.inr rfl)
    (hfx : X.fn x = true ∨ X.env.scope.names.lookup x = some .local := by first | exact .inl rfl | exact .inr rfl) (hfy : X.fn y = true ∨ X.env.scope.names.lookup y = some .local := by first | exact .inl rfl | exact .inr rfl)
    (hs : swapsWithSole [.Tuple [.Name x px, .Name y py] kt pt] e pos.line X.env = pure false := by rfl) (hw : swappedStores [.Tuple [.Name x px, .Name y py] kt pt] e X.env = pure none := by rfl) :
    DS X Ex (.Assign [.Tuple [.Name x px, .Name y py] kt pt] e pos) δ M E := by
  intro B σ H rx is sr
  refine ws_of (ps_asg pe_w (pg_tup (n := 2) hc (pgs_cons (pg_name (i := i) hN hi hx hfx) (pgs_cons (pg_name (i := j) hN hj hy hfy) pgs_nil))) hs hw) ?_
  refine we_mono (h B σ H rx is sr) fun v H1 ⟨d, B1, M1, s1, is1, r1, d1, d2, e, q⟩ => ?_
  subst e
  obtain ⟨p, xs, rfl, hs, r⟩ := tup_sq is1 r1
  refine ⟨p, xs, rfl, hs, by rw [r.length]; rfl, ?_⟩
  cases r with
  | cons ra r =>
    cases r with
    | cons rb r =>
      cases r
      exact ⟨_, _, rfl, _, _, rfl, rfl, _, B1, M1, s1, is1, ((sr.mono s1).set i ra).set j rb, q⟩
theorem ds_unpack3 (i j k : Nat) {x y z : Str} {px py pz pt : Pos} {kt} (hN : X.N.Nodup) (h : DE X Ex e δ M fun d M1 => ∃ d1 d2 d3, d = .tup [d1, d2, d3] ∧ E.nx (((δ.set i (some d1)).set j (some d2)).set k (some d3)) M1) (hc : X.calm = true := by rfl)
    (hi : X.N[i]? = some x := by rfl) (hj : X.N[j]? = some y := by rfl) (hk : X.N[k]? = some z := by rfl) (hx : Loc X.env.scope x := by first | exact Or.inl rfl | exact Or.inr rfl) (hy : Loc X.env.scope y := by first | exact Or.inl rfl | exact Or.inr rfl) (hz : Loc X.env.scope z := by first | exact Or.inl rfl | exact Or.inr rfl)
    (hfx : X.fn x = true ∨ X.env.scope.names.lookup x = some .local := by first | exact .inl rfl | exact .inr rfl) (hfy : X.fn y = true ∨ X.env.scope.names.lookup y = some .local := by first | exact .inl rfl | exact .inr rfl) (hfz : X.fn z = true ∨ X.env.scope.names.lookup z = some .local := by first | exact .inl rfl | exact .inr rfl)
    (hs : swapsWithSole [.Tuple [.Name x px, .Name y py, .Name z pz] kt pt] e pos.line X.env = pure false := by rfl) (hw : swappedStores [.Tuple [.Name x px, .Name y py, .Name z pz] kt pt] e X.env = pure none := by rfl) :
    DS X Ex (.Assign [.Tuple [.Name x px, .Name y py, .Name z pz] kt pt] e pos) δ M E := by
  intro B σ H rx is sr
  refine ws_of (ps_asg pe_w (pg_tup (n := 3) hc (pgs_cons (pg_name (i := i) hN hi hx hfx) (pgs_cons (pg_name (i := j) hN hj hy hfy) (pgs_cons (pg_name (i := k) hN hk hz hfz) pgs_nil)))) hs hw) ?_
  refine we_mono (h B σ H rx is sr) fun v H1 ⟨d, B1, M1, s1, is1, r1, d1, d2, d3, e, q⟩ => ?_
  subst e
  obtain ⟨p, xs, rfl, hs, r⟩ := tup_sq is1 r1
  refine ⟨p, xs, rfl, hs, by rw [r.length]; rfl, ?_⟩
  cases r with
  | cons ra r =>
    cases r with
    | cons rb r =>
      cases r with
      | cons rc r =>
        cases r
        exact ⟨_, _, rfl, _, _, rfl, _, _, rfl, rfl, _, B1, M1, s1, is1, (((sr.mono s1).set i ra).set j rb).set k rc, q⟩
/-- xs[i] = e, xs a list of the memory -/
theorem ds_sub {o ix : Expr} {spos : Pos} (h : DE X Ex e δ M fun d M1 => DE X Ex o δ M1 fun x M2 => DE X Ex ix δ M2 fun y M3 => ∃ p ds i j, x = .obj p ∧ y = .int i ∧ M3 p = some (.lst ds) ∧ ixN ds.length i = some j ∧ E.nx δ (updM M3 p (.lst (ds.set j d))))
    (ha : ∀ v, assign (.Subscript o ix spos) X.env v = (do
      let ov ← holding [v] (eval o X.env)
      let iv ← holding [v, ov] (eval ix X.env)
      standAt spos
      holding [v, ov, iv] (setItem ov iv v)
      release [v, ov, iv] []) := by intro _; rfl)
    (hs : swapsWithSole [.Subscript o ix spos] e pos.line X.env = pure false := by rfl) (hw : swappedStores [.Subscript o ix spos] e X.env = pure none := by rfl)
    (h1 : (assignEach [.Subscript o ix spos] X.env).map (·.2) = [assign (.Subscript o ix spos) X.env] := by rfl) : DS X Ex (.Assign [.Subscript o ix spos] e pos) δ M E := by
  intro B σ H rx is sr
  refine ws_of (ps_asg pe_w (pg_sub pe_w pe_w set_list ha) hs hw h1) ?_
  refine we_mono (h B σ H rx is sr) fun v H1 ⟨d, B1, M1, s1, is1, r1, h1⟩ => ?_
  refine we_mono (h1 B1 σ H1 (rx.mono s1) is1 (sr.mono s1)) fun w H2 ⟨x, B2, M2, s2, is2, r2, h2⟩ => ?_
  have s12 := s1.trans s2
  refine we_mono (h2 B2 σ H2 (rx.mono s12) is2 (sr.mono s12)) fun u H3 ⟨y, B3, M3, s3, is3, r3, p, ds, i, j, ex, ey, hm, hj, q⟩ => ?_
  subst ex ey
  cases r3
  obtain ⟨_, oo, ho, xs, rfl, rr⟩ := is3.mem p _ hm
  have r2' := r2.mono s3
  cases r2'
  refine ⟨p, xs, i, j, rfl, rfl, ho, by rw [rr.length]; exact hj, ?_⟩
  refine ⟨δ, B3, _, s12.trans s3, is3.write hm (m := .lst (ds.set j d)) ⟨_, rfl, ?_⟩, sr.mono (s12.trans s3), q⟩
  have rd : DR X.K B3 v d := (r1.mono s2).mono s3
  have key : ∀ {xs : List V} {ds : List D} (j : Nat), DRs X.K B3 xs ds → DRs X.K B3 (xs.set j v) (ds.set j d) := by
    intro xs
    induction xs with
    | nil => intro ds j r; cases r; exact .nil
    | cons x xs ih =>
      intro ds j r
      cases r with
      | cons r1 r2 =>
        cases j with
        | zero => exact .cons rd r2
        | succ j => exact .cons r1 (ih j r2)
  exact key j rr

/-! what is walked -/
def WI (X : Cx) (tg iter : Expr) : TI := fun σ H R => ∀ pins s, Inv X pins σ H s → wpAny (model X.prog X.w) X.A (eval iter X.env) (fun v s1 => wpAny (model X.prog X.w) X.A (pyIter v) (PIE X pins σ tg R) X.xe s1) X.xe s
theorem pi_w {tg iter : Expr} : PI X tg iter (WI X tg iter) := ⟨fun pins s σ H R I h => h pins s I⟩
theorem wi_of {tg iter : Expr} {wi : TI} (p : PI X tg iter wi) {σ : L2.St} {H : Hp} {R : It → Hp → Prop} (h : wi σ H R) : WI X tg iter σ H R := fun pins s I => p.run pins s σ H R I h
theorem wi_mono {tg iter : Expr} {σ : L2.St} {H : Hp} {R R' : It → Hp → Prop} (h : WI X tg iter σ H R) (k : ∀ J H, R J H → R' J H) : WI X tg iter σ H R' := fun pins s I =>
  thn (h pins s I) fun v s1 w => thn w fun iv s2 ⟨it, fp, tn, J, H', e, I', T, t0, fo, r⟩ => ⟨it, fp, tn, J, H', e, I', T, t0, fo, k _ _ r⟩
structure Yields (K : PySem.W.Frag) (J : It) (B : Hp) (ds : List D) : Prop where
  go : ∀ i H, Same B H → i < ds.length → J.go i H
  yld : ∀ i H x H', Same B H → i < ds.length → J.yld i H x H' → H' = H ∧ ∃ d, ds[i]? = some d ∧ DR K B x d
  stop : ∀ H, Same B H → J.stop ds.length H
def DIt (X : Cx) (Ex : DX) (tg iter : Expr) (δ : DSt) (M : Mem) (R : List D → Mem → Prop) : Prop := ∀ (B : Hp) (σ : L2.St) (H : Hp), Rx X B Ex → Is X.K H B M → SR X.K B σ δ →
  WI X tg iter σ H fun J H1 => ∃ ds B1 M1, Same B B1 ∧ Is X.K H1 B1 M1 ∧ Yields X.K J B1 ds ∧ R ds M1
theorem yl_list {K : PySem.W.Frag} {B : Hp} {a : Addr} {xs : List V} {ds : List D} (h : SqL K B a xs) (r : DRs K B xs ds) : Yields K (Itl K a) B ds := by
  refine ⟨fun i H s hi => ?_, fun i H x H' s hi y => ?_, fun H s => ⟨xs, s.seq h, by rw [r.length]; exact Nat.le_refl _⟩⟩
  · have hi' : i < xs.length := by rw [r.length]; exact hi
    exact ⟨xs, xs[i], s.seq h, by simp [hi']⟩
  · obtain ⟨e, y⟩ := y
    obtain ⟨d, e1, r1⟩ := r.getV (y xs (s.seq h))
    exact ⟨e, d, e1, r1⟩
theorem yl_tup {K : PySem.W.Frag} {B : Hp} {a : Addr} {xs : List V} {ds : List D} (h : SqT K B a xs) (r : DRs K B xs ds) : Yields K (Itt K a) B ds := by
  refine ⟨fun i H s hi => ?_, fun i H x H' s hi y => ?_, fun H s => ⟨xs, same_T s h, by rw [r.length]; exact Nat.le_refl _⟩⟩
  · have hi' : i < xs.length := by rw [r.length]; exact hi
    exact ⟨xs, xs[i], same_T s h, by simp [hi']⟩
  · obtain ⟨e, y⟩ := y
    obtain ⟨d, e1, r1⟩ := r.getV (y xs (same_T s h))
    exact ⟨e, d, e1, r1⟩
theorem dit_list {tg iter : Expr} {R : List D → Mem → Prop} (h : DE X Ex iter δ M fun d M1 => ∃ ds, d = .lst ds ∧ R ds M1) : DIt X Ex tg iter δ M R := by
  intro B σ H rx is sr
  refine wi_of (pi_list pe_w) ?_
  refine we_mono (h B σ H rx is sr) fun v H1 ⟨d, B1, M1, s1, is1, r1, ds, e, q⟩ => ?_
  subst e
  cases r1 with
  | lst hs r => exact ⟨_, rfl, ⟨_, SqL.of (is1.sub _ _ hs)⟩, ds, B1, M1, s1, is1, yl_list (SqL.of hs) r, q⟩
theorem dit_tup {tg iter : Expr} {R : List D → Mem → Prop} (h : DE X Ex iter δ M fun d M1 => ∃ ds, d = .tup ds ∧ R ds M1) : DIt X Ex tg iter δ M R := by
  intro B σ H rx is sr
  refine wi_of (pi_tup pe_w) ?_
  refine we_mono (h B σ H rx is sr) fun v H1 ⟨d, B1, M1, s1, is1, r1, ds, e, q⟩ => ?_
  subst e
  cases r1 with
  | tup hs r => exact ⟨_, rfl, ⟨_, same_T is1.sub hs⟩, ds, B1, M1, s1, is1, yl_tup hs r, q⟩
def signs (x : Str) : List D := x.cps.toList.map fun c => .str ⟨#[c]⟩
theorem dit_str {tg iter : Expr} {R : List D → Mem → Prop} (h : DE X Ex iter δ M fun d M1 => ∃ x, d = .str x ∧ R (signs x) M1) : DIt X Ex tg iter δ M R := by
  intro B σ H rx is sr
  refine wi_of (pi_str pe_w) ?_
  refine we_mono (h B σ H rx is sr) fun v H1 ⟨d, B1, M1, s1, is1, r1, x, e, q⟩ => ?_
  subst e
  cases r1
  have hl : (signs x).length = x.cps.size := by unfold signs; simp
  refine ⟨x, rfl, signs x, B1, M1, s1, is1, ⟨fun i H s hi => (by rw [hl] at hi; exact hi), fun i H y H' s hi ⟨e, c, ec, ev⟩ => ?_, fun H s => (by rw [hl]; exact Nat.le_refl _)⟩, q⟩
  refine ⟨e, .str ⟨#[c]⟩, ?_, ?_⟩
  · unfold signs
    rw [List.getElem?_map, Array.getElem?_toList, ec]; rfl
  · rw [ev]; exact .str _
def rngL (lo : Int) (n : Nat) : List D := (List.range n).map fun k => .int (lo + (k : Nat))
theorem rngL_len (lo : Int) (n : Nat) : (rngL lo n).length = n := by unfold rngL; simp
theorem rngL_get {lo : Int} {n k : Nat} {d : D} (h : (rngL lo n)[k]? = some d) : k < n ∧ d = .int (lo + (k : Nat)) := by
  unfold rngL at h
  rw [List.getElem?_map] at h
  cases e : (List.range n)[k]? with
  | none => rw [e] at h; cases h
  | some j =>
    rw [e] at h
    obtain ⟨h1, h2⟩ := List.getElem?_eq_some_iff.mp e
    rw [List.getElem_range] at h2
    rw [List.length_range] at h1
    subst h2
    exact ⟨h1, (Option.some.inj h).symm⟩
theorem dit_range1 {tg : Expr} {p : Pos} {R : List D → Mem → Prop} (hm : X.mg "range" = none) (h : DE X Ex a δ M fun d M1 => ∃ n : Int, d = .int n ∧ -(2 ^ 62) ≤ n ∧ n < 2 ^ 62 ∧ R (rngL 0 n.toNat) M1) (hg : Gl X "range" := by rfl) (hs : starEach [a] X.env = [(false, eval a X.env)] := by rfl) :
    DIt X Ex tg (.Call (.Name "range" p) [a] [] pos) δ M R := by
  intro B σ H rx is sr
  refine wi_of (pi_range1 hg hm (pa_cons pe_w pa_nil hs) hs) ?_
  refine we_mono (h B σ H rx is sr) fun v H1 ⟨d, B1, M1, s1, is1, r1, n, e, h1, h2, q⟩ => ?_
  subst e
  cases r1
  refine ⟨n, rfl, h1, h2, rngL 0 n.toNat, B1, M1, s1, is1, ⟨fun i H s hi => (by rw [rngL_len] at hi; exact hi), fun i H y H' s hi ⟨e, ev⟩ => ?_, fun H s => (by rw [rngL_len]; exact Nat.le_refl _)⟩, q⟩
  rw [rngL_len] at hi
  refine ⟨e, .int (0 + (i : Nat)), ?_, ?_⟩
  · unfold rngL
    rw [List.getElem?_map, List.getElem?_range hi]; rfl
  · rw [ev]; exact .int _
/-- for x in .. -/
theorem ds_for (i : Nat) {x : Str} {px : Pos} {iter : Expr} {body : List Stmt} (I : Nat → DSt → Mem → Prop) (hN : X.N.Nodup)
    (h : DIt X Ex (.Name x px) iter δ M fun ds M1 => I 0 δ M1 ∧ (∀ k d δ' M', ds[k]? = some d → I k δ' M' → DB X Ex body (δ'.set i (some d)) M' { E with nx := I (k + 1), ct := I (k + 1), bk := E.nx }) ∧ ∀ δ' M', I ds.length δ' M' → E.nx δ' M')
    (hc : X.calm = true := by rfl) (hi : X.N[i]? = some x := by rfl) (hx : Loc X.env.scope x := by first | exact Or.inl rfl | exact Or.inr rfl) (hf : X.fn x = true ∨ X.env.scope.names.lookup x = some .local := by first | exact .inl rfl | exact .inr rfl)
    (hs : ∀ v, foldedSetIterable iter X.env v = pure v := by intro _; rfl) :
    DS X Ex (.For (.Name x px) iter body [] pos) δ M E := by
  intro B σ H rx is sr
  refine ws_of (ps_for rx.po hc pi_w (pg_name (i := i) hN hi hx hf) pss_w hs) ?_
  refine wi_mono (h B σ H rx is sr) fun J H1 ⟨ds, B1, M1, s1, is1, yl, h0, ht, he⟩ => ?_
  refine ⟨fun k m σ' H' => m = ds.length - k ∧ k ≤ ds.length ∧ ∃ δ' B' M', Same B1 B' ∧ Is X.K H' B' M' ∧ SR X.K B' σ' δ' ∧ I k δ' M', ⟨ds.length, by simp, Nat.zero_le _, δ, B1, M1, Same.refl B1, is1, sr.mono s1, h0⟩, ?_⟩
  rintro k m σ' H' ⟨rfl, hk, δ', B', M', s', is', sr', hI⟩
  have s1' : Same B1 H' := s'.trans is'.sub
  by_cases hlt : k < ds.length
  · refine .inr ⟨yl.go k H' s1' hlt, fun σ2 H2 => ∃ δ2 B2 M2, Same B1 B2 ∧ Is X.K H2 B2 M2 ∧ SR X.K B2 σ2 δ2 ∧ I (k + 1) δ2 M2, fun σ2 H2 q => ⟨ds.length - (k + 1), by omega, rfl, hlt, q⟩, fun v H2 y => ?_⟩
    obtain ⟨e, d, ed, rd⟩ := yl.yld k H' v H2 s1' hlt y
    subst e
    refine wb_mono (ht k d δ' M' ed hI B' _ H2 (rx.mono (s1.trans s')) is' (sr'.set i (rd.mono s'))) ⟨fun σ3 H3 ⟨δ3, B3, M3, s3, q⟩ => ⟨δ3, B3, M3, s'.trans s3, q⟩, fun v H3 q => VP.back (s1.trans s') q, fun σ3 H3 q => NP.back (s1.trans s') q, fun σ3 H3 ⟨δ3, B3, M3, s3, q⟩ => ⟨δ3, B3, M3, s'.trans s3, q⟩⟩
  · have e : k = ds.length := by omega
    subst e
    exact .inl ⟨yl.stop H' s1', δ', B', M', s1.trans s', is', sr', he δ' M' hI⟩
end
end DL

set_option Elab.async false
set_option linter.all false
set_option maxRecDepth 100000
set_option maxHeartbeats 2000000
namespace DL
open PySem L2 PyProof.Rows

/-! defs by their promises over data -/
abbrev DXK := Addr → D → Mem → Prop
abbrev DSp := List D → Mem → DK → DXK → Prop
def XE1 (K : PySem.W.Frag) (B : Hp) (x : DXK) : XK := fun cls dd H => ∃ (C d : Addr) (v : V) (dv : D) (B' : Hp) (M' : Mem),
  cls = .ref C ∧ dd = some d ∧ Same B B' ∧ Is K H B' M' ∧ B' d = some (.xd [("value", v)]) ∧ DR K B' v dv ∧ x C dv M'
def spOf (K : PySem.W.Frag) (p : DSp) : Sp := fun vs H Q E => ∃ (ds : List D) (B : Hp) (M : Mem) (q : DK) (x : DXK), DRs K B vs ds ∧ Is K H B M ∧ p ds M q x ∧ (∀ v H', VP K B q v H' → Q v H') ∧ ∀ c d H', XE1 K B x c d H' → E c d H'
structure DFun (P : Program) (w : World) (K : PySem.W.Frag) (mg : Str → Option Value) (base : Heap) (k : Nat) (name : Str) (p : DSp) : Prop where
  ex : ∃ (f : Addr) (fd : FuncData) (ps : List Str), mg name = some (.ref f) ∧ PySem.W.keepIn K (.ref f) = true ∧ Binds K fd ps [] ∧ FnOk P w K mg base (L2.CX P w) k f fd ps (spOf K p)
section
variable {X : Cx} {Ex : DX} {δ : DSt} {M : Mem} {Q : DK} {a b c e : Expr} {es : List Expr} {pos : Pos} {E : DEnds} {st : Stmt} {sts : List Stmt}
theorem de_call {k : Nat} {name : Str} {p : DSp} {pn : Pos} (F : DFun X.prog X.w X.K X.mg X.base k name p) (hr : Room k X.A) (h : DA X Ex (e :: es) δ M fun ds M1 => p ds M1 Q (fun C d M' => Ex δ C d M')) (hg : Gl X name := by rfl)
    (hdb : (name == ("__debug__" : Str)) = false := by decide) (he : starEach (e :: es) X.env = (false, eval e X.env) :: starEach es X.env := by rfl) (hpl : (backTo pos (starEach es X.env)).any (·.1) = false := by rfl) :
    DE X Ex (.Call (.Name name pn) (e :: es) [] pos) δ M Q := by
  obtain ⟨f, fd, ps, hm, hk, hb, G⟩ := F.ex
  intro B σ H rx is sr
  refine we_of (pe_callS G hr hg hm hk hb (fun σ => passAt rx.tk σ) pa_w hdb he hpl) ?_
  refine wa_mono (h B σ H rx is sr) fun vs H1 ⟨ds, B1, M1, s1, is1, r1, h1⟩ => ?_
  refine ⟨ds, B1, M1, Q, _, r1, is1, h1, fun v H' q => VP.back s1 q, fun c d H' q => ?_⟩
  obtain ⟨C, d', v, dv, B', M', e1, e2, s', i', hx, rv, z⟩ := q
  exact ⟨δ, C, d', v, dv, B', M', e1, e2, s1.trans s', i', sr.mono (s1.trans s'), hx, rv, z⟩
end
def startD (N : List Str) (ds : List D) : DSt := ds.map some ++ List.replicate (N.length - ds.length) none
theorem start_sr {K : PySem.W.Frag} {B : Hp} {N : List Str} {vs : List V} {ds : List D} (r : DRs K B vs ds) : SR K B (start N vs) (startD N ds) := by
  have key : ∀ {vs : List V} {ds : List D} (n : Nat), DRs K B vs ds → SR K B (vs.map some ++ List.replicate n none) (ds.map some ++ List.replicate n none) := by
    intro vs
    induction vs with
    | nil =>
      intro ds n r
      cases r
      refine ⟨by simp, fun i d e => ?_⟩
      simp only [List.map_nil, List.nil_append] at e
      rw [List.getElem?_replicate] at e
      split at e <;> cases e
    | cons v vs ih =>
      intro ds n r
      cases r with
      | cons r1 r2 =>
        obtain ⟨l, q⟩ := ih n r2
        refine ⟨by simpa using l, fun i d e => ?_⟩
        cases i with
        | zero =>
          simp at e
          subst e
          exact ⟨v, by simp, r1⟩
        | succ i =>
          obtain ⟨u, e1, r'⟩ := q i d (by simpa using e)
          exact ⟨u, by simpa using e1, r'⟩
  have hl := r.length
  unfold startD
  rw [← hl]
  exact key _ r
theorem dfun_of {P : Program} {w : World} {K : PySem.W.Frag} {mg : Str → Option Value} {base : Heap} {x qual : Str} {st : Stmt} {f : Addr} {fd : FuncData} {N ps : List Str} {k : Nat} {p : DSp}
    (F : Fun K x qual st f fd) (hm : mg x = some (.ref f)) (hb : Binds K fd ps []) (S : FnScope N ps (defScope st)) (len : ∀ ds M q x, p ds M q x → ds.length = ps.length)
    (body : ∀ (cdv : Value) (A : Around) (outer : List Env) (s : Shared) (H : Hp) (E : XK), Room k (A.deeper (envOfC qual (defScope st) s.heap.objs.size f cdv)) → ∀ (ds : List D) (M : Mem) (q : DK) (x : DXK), p ds M q x →
      DB (cxOf (L2.CX P w) P w K mg base N qual (defScope st) f cdv A outer s H E) (fun _ C d M' => x C d M') (defBody st) (startD N ds) M { nx := fun _ M' => q .non M', rt := q }) : DFun P w K mg base (k + 1) x p := by
  refine ⟨f, fd, ps, hm, F.kp, hb, F.okX S (fun vs H Q E h => ?_) fun cdv A outer s H vs Q E hr h => ?_⟩
  · obtain ⟨ds, B, M, q, x, r, is, hp, _⟩ := h
    rw [r.length]; exact len ds M q x hp
  · obtain ⟨ds, B, M, q, x, r, is, hp, hq, hx⟩ := h
    refine ⟨_, pss_w, ?_⟩
    have tk : Takes (cxOf (L2.CX P w) P w K mg base N qual (defScope st) f cdv A outer s H E) (fun cls d _ H => E cls d H) := takes_of rfl rfl rfl rfl
    have rx : Rx (cxOf (L2.CX P w) P w K mg base N qual (defScope st) f cdv A outer s H E) B (fun _ C d M' => x C d M') := by
      refine ⟨tk.imp fun c d σ H' z => ?_, passes_of rfl⟩
      obtain ⟨δ, C, d', v, dv, B', M', e1, e2, s', i', _, hx', rv, z⟩ := z
      exact hx _ _ _ ⟨C, d', v, dv, B', M', e1, e2, s', i', hx', rv, z⟩
    exact wb_mono (body cdv A outer s H E hr ds M q x hp B _ H rx is (start_sr r)) ⟨fun σ' H' ⟨δ, B', M', s', i', r', z⟩ => hq _ _ ⟨.non, B', M', s', i', .non, z⟩, fun v H' z => hq v H' z, fun σ' H' z => (by obtain ⟨_, _, _, _, _, _, z⟩ := z; exact z), fun σ' H' z => (by obtain ⟨_, _, _, _, _, _, z⟩ := z; exact z)⟩

/-! comprehensions -/
section
variable {X : Cx} {Ex : DX} {δ : DSt} {M : Mem} {Q : DK} {pos : Pos}
theorem wipe1 (σ : L2.St) (i : Nat) (v : Option V) : wipe ((wipe σ [i]).set i v) [i] = wipe σ [i] := by
  show ((σ.set i none).set i v).set i none = σ.set i none
  rw [List.set_set, List.set_set]
theorem sr_wipe {K : PySem.W.Frag} {B : Hp} {σ : L2.St} {i : Nat} {v : V} {d : D} (sr : SR K B σ δ) (r : DR K B v d) : SR K B ((wipe σ [i]).set i (some v)) (δ.set i (some d)) := by
  have h : SR K B ((wipe σ [i]).set i (some v)) ((δ.set i none).set i (some d)) := (sr.unset i none).set i r
  have e : (δ.set i none).set i (some d) = δ.set i (some d) := List.set_set ..
  rw [e] at h
  exact h
/-- one for, no test: the turn's promise speaks of the memory with the new list in it, at p -/
def LcTurn (X : Cx) (scope : Scope) (elt : Expr) (i : Nat) (δ : DSt) (p : Addr) (ds : List D) (I : Nat → List D → Mem → Prop) : Prop :=
  ∀ k d acc M', ds[k]? = some d → M' p = none → acc.length ≤ k → I k acc M' → ∀ s H C cl fp, DE (X.blk s H scope (compEnvC scope cl C X.env) fp) Ex0 elt (δ.set i (some d)) (updM M' p (.lst acc)) fun y M3 => ∃ M4, M4 p = none ∧ M3 = updM M4 p (.lst acc) ∧ I (k + 1) (acc ++ [y]) M4
def LcTurnIf (X : Cx) (scope : Scope) (elt c : Expr) (i : Nat) (δ : DSt) (p : Addr) (ds : List D) (I : Nat → List D → Mem → Prop) : Prop :=
  ∀ k d acc M', ds[k]? = some d → M' p = none → acc.length ≤ k → I k acc M' → ∀ s H C cl fp, DT (X.blk s H scope (compEnvC scope cl C X.env) fp) Ex0 c (δ.set i (some d)) (updM M' p (.lst acc)) fun b M2 =>
    (b = true → ∀ s H C cl fp, DE (X.blk s H scope (compEnvC scope cl C X.env) fp) Ex0 elt (δ.set i (some d)) M2 fun y M3 => ∃ M4, M4 p = none ∧ M3 = updM M4 p (.lst acc) ∧ I (k + 1) (acc ++ [y]) M4) ∧
    (b = false → ∃ M4, M4 p = none ∧ M2 = updM M4 p (.lst acc) ∧ I (k + 1) acc M4)
def LcR (ds : List D) (M1 : Mem) (Q : DK) (T : Addr → (Nat → List D → Mem → Prop) → Prop) : Prop := ds.length ≤ sizeLine ∧ ∀ p, M1 p = none → ∃ I : Nat → List D → Mem → Prop, I 0 [] M1 ∧ T p I ∧ ∀ acc M', M' p = none → acc.length ≤ ds.length → I ds.length acc M' → Q (.lst acc) M'
theorem lc_core1 (i : Nat) {x : Str} {px : Pos} {iter : Expr} {tt : TT} {te : TE} {T : List D → Addr → (Nat → List D → Mem → Prop) → Prop} {B : Hp} {σ : L2.St} {H : Hp} (is : Is X.K H B M) (sr : SR X.K B σ δ)
    (h : WI X (.Name x px) iter σ H fun J H1 => ∃ ds B1 M1, Same B B1 ∧ Is X.K H1 B1 M1 ∧ Yields X.K J B1 ds ∧ LcR ds M1 Q (T ds))
    (hT : ∀ (ds : List D) (p : Addr) (I : Nat → List D → Mem → Prop), T ds p I → ∀ (k : Nat) (d : D) (acc : List D) (M' : Mem) (B' : Hp) (H' : Hp) (σ2 : L2.St), ds[k]? = some d → M' p = none → acc.length ≤ k → I k acc M' → Is X.K H' B' (updM M' p (.lst acc)) → SR X.K B' σ2 (δ.set i (some d)) →
      tt σ2 H' fun b H3 => if b = true then te σ2 H3 fun y H4 => ∃ (yd : D) (B4 : Hp) (M4 : Mem), Same B' B4 ∧ M4 p = none ∧ Is X.K H4 B4 (updM M4 p (.lst acc)) ∧ DR X.K B4 y yd ∧ I (k + 1) (acc ++ [yd]) M4
        else ∃ (B4 : Hp) (M4 : Mem), Same B' B4 ∧ M4 p = none ∧ Is X.K H3 B4 (updM M4 p (.lst acc)) ∧ I (k + 1) acc M4)
    (mt : ∀ σ H Q Q', (∀ b H1, Q b H1 → Q' b H1) → tt σ H Q → tt σ H Q') (me : ∀ σ H (Q Q' : VK), (∀ b H1, Q b H1 → Q' b H1) → te σ H Q → te σ H Q') :
    tLc (WI X (.Name x px) iter) (gName i) tt te [i] σ H (VP X.K B Q) := by
  refine wi_mono h fun J H1 ⟨ds, B1, M1, s1, is1, yl, hz, h1⟩ => ?_
  intro p hp
  obtain ⟨b1, m1⟩ := is1.fresh hp
  obtain ⟨I, i0, it, ie⟩ := h1 p m1
  refine ⟨fun k m H' => m = ds.length - k ∧ k ≤ ds.length ∧ ∃ acc B' M', Same B1 B' ∧ M' p = none ∧ acc.length ≤ k ∧ Is X.K H' B' (updM M' p (.lst acc)) ∧ I k acc M',
    ⟨ds.length, by simp, Nat.zero_le _, [], B1, M1, Same.refl B1, m1, Nat.le_refl _, is1.make hp ⟨[], rfl, .nil⟩, i0⟩, ?_⟩
  rintro k m H' ⟨rfl, hk, acc, B', M', s', mp, al, is', hI⟩
  have s1' : Same B1 H' := s'.trans is'.sub
  by_cases hlt : k < ds.length
  · refine .inr ⟨yl.go k H' s1' hlt, fun H2 => ∃ acc B2 M2, Same B1 B2 ∧ M2 p = none ∧ acc.length ≤ k + 1 ∧ Is X.K H2 B2 (updM M2 p (.lst acc)) ∧ I (k + 1) acc M2, fun H2 q => ⟨ds.length - (k + 1), by omega, rfl, hlt, q⟩, fun v H2 y => ?_⟩
    obtain ⟨e, d, ed, rd⟩ := yl.yld k H' v H2 s1' hlt y
    subst e
    refine ⟨wipe1 σ i _, ?_⟩
    have sr2 : SR X.K B' ((wipe σ [i]).set i (some v)) (δ.set i (some d)) := sr_wipe (sr.mono (s1.trans s')) (rd.mono s')
    refine mt _ _ _ _ ?_ (hT ds p I it k d acc M' B' H2 _ ed mp al hI is' sr2)
    intro b H3 q
    cases b with
    | false =>
      obtain ⟨B4, M4, s4, m4, i4, j4⟩ := q
      exact ⟨acc, B4, M4, s'.trans s4, m4, by omega, i4, j4⟩
    | true =>
      refine me _ _ _ _ ?_ q
      intro y4 H4 ⟨yd, B4, M4, s4, m4, i4, r4, j4⟩
      obtain ⟨_, oo, ho, xs, rfl, rr⟩ := i4.mem p _ updM_same
      have lx : xs.length = acc.length := rr.length
      refine ⟨xs, ho, by omega, acc ++ [yd], B4, M4, s'.trans s4, m4, by rw [List.length_append, List.length_singleton]; omega, ?_, j4⟩
      have w := i4.write updM_same (o := .lst (xs ++ [y4])) (m := .lst (acc ++ [yd])) ⟨_, rfl, rr.append (.one r4)⟩
      rw [updM_updM] at w
      exact w
  · have e : k = ds.length := by omega
    subst e
    refine .inl ⟨yl.stop H' s1', ?_⟩
    obtain ⟨B2, s2, i2, r2⟩ := is'.freeze updM_same
    rw [delM_updM mp] at i2
    exact ⟨.lst acc, B2, M', (s1.trans s').trans s2, i2, r2, ie acc M' mp al hI⟩
/-- [elt for x in iter] -/
theorem de_lc (i : Nat) {x : Str} {px : Pos} {elt iter : Expr} {scope : Scope} {N ps : List Str} {sc : Scope} (F : FnScope N ps sc)
    (h : DIt X Ex (.Name x px) iter δ M fun ds M1 => LcR ds M1 Q fun p I => LcTurn X scope elt i δ p ds I) (ok : blkC N sc scope [(x, i)] = true := by decide +kernel)
    (hi : N[i]? = some x := by rfl) (hx : ∀ cl C, (compEnvC scope cl C X.env).scope.names.lookup x = some .local := by intro _ _; rfl) (hXN : X.N = N := by rfl) (hXs : X.env.scope = sc := by rfl)
    (hc : X.calm = true := by rfl) (hs : ∀ x, foldedSetIterable iter X.env x = pure x := by intro _; rfl) :
    DE X Ex (.ListComp elt [⟨.Name x px, iter, [], 0⟩] scope pos) δ M Q := by
  intro B σ H rx is sr
  have hN : X.N.Nodup := by rw [hXN]; exact F.nd
  have hi' : X.N[i]? = some x := by rw [hXN]; exact hi
  have ok' : blkC X.N X.env.scope scope [(x, i)] = true := by rw [hXN, hXs]; exact ok
  have hg : ∀ (s : Shared) (H : Hp) (C : Addr) (cl : List (Str × Addr)) (fp : List Addr), PG (X.blk s H scope (compEnvC scope cl C X.env) fp) (.Name x px) (gName i) := fun _ _ C cl _ => pg_name hN hi' (Or.inl (hx cl C)) (Or.inr (hx cl C))
  let te : TE := fun σ H' Q => ∀ s H C cl fp, WE (X.blk s H scope (compEnvC scope cl C X.env) fp) elt σ H' Q
  refine we_of (pe_lc (te := te) (own := [(x, i)]) hc hN pi_w (blkOk_by ok') hg (fun _ _ _ _ _ => pts_nil) (fun s H C cl fp => ⟨fun pins s' σ H' Q I h => h s H C cl fp pins s' I⟩) hs) ?_
  refine lc_core1 (T := fun ds p I => LcTurn X scope elt i δ p ds I) i is sr (h B σ H rx is sr) ?_ (fun σ H Q Q' k q => k _ _ q) (fun σ H Q Q' k q s H0 C cl fp => we_mono (q s H0 C cl fp) k)
  intro ds p I hT k d acc M' B' H' σ2 ed mp al hI is' sr2
  unfold tYes
  refine iteT ?_
  intro s H0 C cl fp
  refine we_mono (hT k d acc M' ed mp al hI s H0 C cl fp B' σ2 H' (rx0 rfl) is' sr2) fun v H4 ⟨y, B4, M3, s4, i4, r4, M4, m4, e, j4⟩ => ?_
  subst e
  exact ⟨y, B4, M4, s4, m4, i4, r4, j4⟩
/-- [elt for x in iter if c] -/
theorem de_lcIf (i : Nat) {x : Str} {px : Pos} {elt iter c : Expr} {scope : Scope} {N ps : List Str} {sc : Scope} (F : FnScope N ps sc)
    (h : DIt X Ex (.Name x px) iter δ M fun ds M1 => LcR ds M1 Q fun p I => LcTurnIf X scope elt c i δ p ds I) (ok : blkC N sc scope [(x, i)] = true := by decide +kernel)
    (hi : N[i]? = some x := by rfl) (hx : ∀ cl C, (compEnvC scope cl C X.env).scope.names.lookup x = some .local := by intro _ _; rfl) (hXN : X.N = N := by rfl) (hXs : X.env.scope = sc := by rfl)
    (hc : X.calm = true := by rfl) (hs : ∀ x, foldedSetIterable iter X.env x = pure x := by intro _; rfl) :
    DE X Ex (.ListComp elt [⟨.Name x px, iter, [c], 0⟩] scope pos) δ M Q := by
  intro B σ H rx is sr
  have hN : X.N.Nodup := by rw [hXN]; exact F.nd
  have hi' : X.N[i]? = some x := by rw [hXN]; exact hi
  have ok' : blkC X.N X.env.scope scope [(x, i)] = true := by rw [hXN, hXs]; exact ok
  have hg : ∀ (s : Shared) (H : Hp) (C : Addr) (cl : List (Str × Addr)) (fp : List Addr), PG (X.blk s H scope (compEnvC scope cl C X.env) fp) (.Name x px) (gName i) := fun _ _ C cl _ => pg_name hN hi' (Or.inl (hx cl C)) (Or.inr (hx cl C))
  let te : TE := fun σ H' Q => ∀ s H C cl fp, WE (X.blk s H scope (compEnvC scope cl C X.env) fp) elt σ H' Q
  let tt : TT := fun σ H' Q => ∀ s H C cl fp, WT (X.blk s H scope (compEnvC scope cl C X.env) fp) c σ H' Q
  refine we_of (pe_lc (te := te) (tt := tt) (own := [(x, i)]) hc hN pi_w (blkOk_by ok') hg (fun s H C cl fp => pts_one ⟨fun pins s' σ H' Q I h => h s H C cl fp pins s' I⟩) (fun s H C cl fp => ⟨fun pins s' σ H' Q I h => h s H C cl fp pins s' I⟩) hs) ?_
  refine lc_core1 (T := fun ds p I => LcTurnIf X scope elt c i δ p ds I) i is sr (h B σ H rx is sr) ?_ (fun σ H Q Q' k q s H0 C cl fp => wt_mono (q s H0 C cl fp) k) (fun σ H Q Q' k q s H0 C cl fp => we_mono (q s H0 C cl fp) k)
  intro ds p I hT k d acc M' B' H' σ2 ed mp al hI is' sr2
  intro s H0 C cl fp
  refine wt_mono (hT k d acc M' ed mp al hI s H0 C cl fp B' σ2 H' (rx0 rfl) is' sr2) fun b H3 ⟨B3, M3, s3, i3, ht, hf⟩ => ?_
  cases b with
  | true =>
    refine iteT ?_
    intro s H0 C cl fp
    refine we_mono (ht rfl s H0 C cl fp B3 σ2 H3 (rx0 rfl) i3 (sr2.mono s3)) fun v H4 ⟨y, B4, M3, s4, i4, r4, M4, m4, e, j4⟩ => ?_
    subst e
    exact ⟨y, B4, M4, s3.trans s4, m4, i4, r4, j4⟩
  | false =>
    refine iteF ?_
    obtain ⟨M4, m4, e, j4⟩ := hf rfl
    subst e
    exact ⟨B3, M4, s3, m4, i3, j4⟩
/-- name = [elt for x in iter] -/
theorem ds_setLc (j i : Nat) {x y : Str} {px py spos : Pos} {elt iter : Expr} {scope : Scope} {E : DEnds} {N ps : List Str} {sc : Scope} (F : FnScope N ps sc)
    (h : DIt X Ex (.Name x px) iter δ M fun ds M1 => LcR ds M1 (fun d M' => E.nx (δ.set j (some d)) M') fun p I => LcTurn X scope elt i δ p ds I) (ok : blkC N sc scope [(x, i)] = true := by decide +kernel)
    (hsw : swapsWith (.ListComp elt [⟨.Name x px, iter, [], 0⟩] scope pos) (some (.Name y py)) spos.line X.env = pure true := by exact sw_true rfl rfl rfl (by decide +kernel))
    (hi : N[i]? = some x := by rfl) (hx : ∀ cl C, (compEnvC scope cl C X.env).scope.names.lookup x = some .local := by intro _ _; rfl) (hXN : X.N = N := by rfl) (hXs : X.env.scope = sc := by rfl)
    (hc : X.calm = true := by rfl) (hy : X.N[j]? = some y := by rfl) (hyl : X.env.scope.names.lookup y = some .local := by rfl) (hs : ∀ x, foldedSetIterable iter X.env x = pure x := by intro _; rfl) :
    DS X Ex (.Assign [.Name y py] (.ListComp elt [⟨.Name x px, iter, [], 0⟩] scope pos) spos) δ M E := by
  intro B σ H rx is sr
  have hN : X.N.Nodup := by rw [hXN]; exact F.nd
  have hi' : X.N[i]? = some x := by rw [hXN]; exact hi
  have ok' : blkC X.N X.env.scope scope [(x, i)] = true := by rw [hXN, hXs]; exact ok
  have hg : ∀ (s : Shared) (H : Hp) (C : Addr) (cl : List (Str × Addr)) (fp : List Addr), PG (X.blk s H scope (compEnvC scope cl C X.env) fp) (.Name x px) (gName i) := fun _ _ C cl _ => pg_name hN hi' (Or.inl (hx cl C)) (Or.inr (hx cl C))
  let te : TE := fun σ H' Q => ∀ s H C cl fp, WE (X.blk s H scope (compEnvC scope cl C X.env) fp) elt σ H' Q
  refine ws_of (ps_setLc (te := te) (own := [(x, i)]) hc hN hy hyl hsw pi_w (blkOk_by ok') hg (fun _ _ _ _ _ => pts_nil) (fun s H C cl fp => ⟨fun pins s' σ H' Q I h => h s H C cl fp pins s' I⟩) hs) ?_
  have key := lc_core1 (te := te) (tt := tYes) (T := fun ds p I => LcTurn X scope elt i δ p ds I) i is sr (h B σ H rx is sr) (by
    intro ds p I hT k d acc M' B' H' σ2 ed mp al hI is' sr2
    unfold tYes
    refine iteT ?_
    intro s H0 C cl fp
    refine we_mono (hT k d acc M' ed mp al hI s H0 C cl fp B' σ2 H' (rx0 rfl) is' sr2) fun v H4 ⟨y, B4, M3, s4, i4, r4, M4, m4, e, j4⟩ => ?_
    subst e
    exact ⟨y, B4, M4, s4, m4, i4, r4, j4⟩) (fun σ H Q Q' k q => k _ _ q) (fun σ H Q Q' k q s H0 C cl fp => we_mono (q s H0 C cl fp) k)
  refine wi_mono key fun J H1 q D hD => ?_
  obtain ⟨W, w0, wt⟩ := q D hD
  refine ⟨W, w0, fun i' m H' w => ?_⟩
  rcases wt i' m H' w with ⟨st, d, B1, M1, s1, i1, r1, q1⟩ | r
  · exact .inl ⟨st, _, B1, M1, s1, i1, (sr.mono s1).set j r1, q1⟩
  · exact .inr r
theorem ds_setLcIf (j i : Nat) {x y : Str} {px py spos : Pos} {elt iter c : Expr} {scope : Scope} {E : DEnds} {N ps : List Str} {sc : Scope} (F : FnScope N ps sc)
    (h : DIt X Ex (.Name x px) iter δ M fun ds M1 => LcR ds M1 (fun d M' => E.nx (δ.set j (some d)) M') fun p I => LcTurnIf X scope elt c i δ p ds I) (ok : blkC N sc scope [(x, i)] = true := by decide +kernel)
    (hsw : swapsWith (.ListComp elt [⟨.Name x px, iter, [c], 0⟩] scope pos) (some (.Name y py)) spos.line X.env = pure true := by exact sw_true rfl rfl rfl (by decide +kernel))
    (hi : N[i]? = some x := by rfl) (hx : ∀ cl C, (compEnvC scope cl C X.env).scope.names.lookup x = some .local := by intro _ _; rfl) (hXN : X.N = N := by rfl) (hXs : X.env.scope = sc := by rfl)
    (hc : X.calm = true := by rfl) (hy : X.N[j]? = some y := by rfl) (hyl : X.env.scope.names.lookup y = some .local := by rfl) (hs : ∀ x, foldedSetIterable iter X.env x = pure x := by intro _; rfl) :
    DS X Ex (.Assign [.Name y py] (.ListComp elt [⟨.Name x px, iter, [c], 0⟩] scope pos) spos) δ M E := by
  intro B σ H rx is sr
  have hN : X.N.Nodup := by rw [hXN]; exact F.nd
  have hi' : X.N[i]? = some x := by rw [hXN]; exact hi
  have ok' : blkC X.N X.env.scope scope [(x, i)] = true := by rw [hXN, hXs]; exact ok
  have hg : ∀ (s : Shared) (H : Hp) (C : Addr) (cl : List (Str × Addr)) (fp : List Addr), PG (X.blk s H scope (compEnvC scope cl C X.env) fp) (.Name x px) (gName i) := fun _ _ C cl _ => pg_name hN hi' (Or.inl (hx cl C)) (Or.inr (hx cl C))
  let te : TE := fun σ H' Q => ∀ s H C cl fp, WE (X.blk s H scope (compEnvC scope cl C X.env) fp) elt σ H' Q
  let tt : TT := fun σ H' Q => ∀ s H C cl fp, WT (X.blk s H scope (compEnvC scope cl C X.env) fp) c σ H' Q
  refine ws_of (ps_setLc (te := te) (tt := tt) (own := [(x, i)]) hc hN hy hyl hsw pi_w (blkOk_by ok') hg (fun s H C cl fp => pts_one ⟨fun pins s' σ H' Q I h => h s H C cl fp pins s' I⟩) (fun s H C cl fp => ⟨fun pins s' σ H' Q I h => h s H C cl fp pins s' I⟩) hs) ?_
  have key := lc_core1 (te := te) (tt := tt) (T := fun ds p I => LcTurnIf X scope elt c i δ p ds I) i is sr (h B σ H rx is sr) (by
    intro ds p I hT k d acc M' B' H' σ2 ed mp al hI is' sr2
    intro s H0 C cl fp
    refine wt_mono (hT k d acc M' ed mp al hI s H0 C cl fp B' σ2 H' (rx0 rfl) is' sr2) fun b H3 ⟨B3, M3, s3, i3, ht, hf⟩ => ?_
    cases b with
    | true =>
      refine iteT ?_
      intro s H0 C cl fp
      refine we_mono (ht rfl s H0 C cl fp B3 σ2 H3 (rx0 rfl) i3 (sr2.mono s3)) fun v H4 ⟨y, B4, M3, s4, i4, r4, M4, m4, e, j4⟩ => ?_
      subst e
      exact ⟨y, B4, M4, s3.trans s4, m4, i4, r4, j4⟩
    | false =>
      refine iteF ?_
      obtain ⟨M4, m4, e, j4⟩ := hf rfl
      subst e
      exact ⟨B3, M4, s3, m4, i3, j4⟩) (fun σ H Q Q' k q s H0 C cl fp => wt_mono (q s H0 C cl fp) k) (fun σ H Q Q' k q s H0 C cl fp => we_mono (q s H0 C cl fp) k)
  refine wi_mono key fun J H1 q D hD => ?_
  obtain ⟨W, w0, wt⟩ := q D hD
  refine ⟨W, w0, fun i' m H' w => ?_⟩
  rcases wt i' m H' w with ⟨st, d, B1, M1, s1, i1, r1, q1⟩ | r
  · exact .inl ⟨st, _, B1, M1, s1, i1, (sr.mono s1).set j r1, q1⟩
  · exact .inr r
end
end DL

set_option Elab.async false
set_option linter.all false
set_option maxRecDepth 100000
set_option maxHeartbeats 2000000
/-! The package's errors: one base class over ValueError with an own __init__ that says super().__init__(text) and stores «value»; classes over it. -/
namespace NX
open PySem PySem.W PySem.Calls PyProof.Rows PySem.HandSPX

def nArgs (p1 p2 : Pos) : Arguments := { posonlyargs := [], args := [{ arg := "self", annotation := none, pos := p1 }, { arg := "value", annotation := none, pos := p2 }], vararg := none, kwonlyargs := [], kw_defaults := [], kwarg := none, defaults := [] }
def nBody (msg : Str) : List Stmt :=
  [.Expr (.Call (.Attribute (.Call (.Name "super" ⟨5, 8, 5, 13⟩) [] [] ⟨5, 8, 5, 15⟩) "__init__" ⟨5, 8, 5, 24⟩) [.Constant (.str msg) 0 ⟨5, 25, 5, 55⟩] [] ⟨5, 8, 5, 56⟩) ⟨5, 8, 5, 56⟩,
   .Assign [.Attribute (.Name "self" ⟨6, 8, 6, 12⟩) "value" ⟨6, 8, 6, 18⟩] (.Name "value" ⟨6, 21, 6, 26⟩) ⟨6, 8, 6, 26⟩]
def nScope : Scope := { kind := .function, names := [(PySem.Str.ofString "self", .local), (PySem.Str.ofString "value", .local), (PySem.Str.ofString "__class__", .free), (PySem.Str.ofString "super", .globalImplicit)], isGenerator := false, isCoroutine := false, more := [] }

/-- what the written part says of the base class at D and its __init__ at fI -/
structure NBase (prog : Program) (K : Frag) (mg : Str → Option Value) (D fI : Addr) : Prop where
  fn : ∃ (cc cda : Addr) (oc : Value) (od : Option Addr) (kV doc pm : Value) (an : Option Addr) (ct : Value) (osl : Array (Option Value)) (msg : Str) (a1 a2 : Pos) (ccl : Value) (cdd : Option Addr) (vs : Array Value) (ccs : Array (Option Value)) (file : Str) (tf : Tok) (cl : Value) (cld : Option Addr) (csl : Array (Option Value)),
    K.lookup fI = some ⟨oc, od, .func (ksFn "__init__" "NevercrossedError.__init__" (nArgs a1 a2) (nBody msg) nScope .none kV doc pm an (.ref cda) ct cc), osl⟩ ∧
    codeIn K (.ref cda) "NevercrossedError.__init__" = true ∧ K.lookup cda = some ⟨ccl, cdd, .fields vs, ccs⟩ ∧ vs[2]? = some (.str file tf) ∧ ((prog.main.file : Str) == file) = true ∧
    K.lookup cc = some ⟨cl, cld, .cell (some (.ref D)), csl⟩
  cls : ∃ cdD, clsIn K D = some cdD
  sup : mg "super" = none
  top : (prog.main.scope.names.lookup ("super" : Str)).isSome = false
  opq : nsIn K cStatics "thirdparty.any" = some none
  tI : typeIn K (.ref fI) = some (.type "function")
/-- .. of a class at C over it -/
structure NCls (K : Frag) (D fI C : Addr) : Prop where
  cls : ∃ nm q N bs bm sn sub ab col dd k0 k1 k2 k3 k5, K.lookup C = some (excClassObj nm q C N bs bm true sn sub ab col dd k0 k1 k2 k3 k5 "ValueError.__new__") ∧ refsVE bm = true
  sa : findIn K (.ref C) "__setattr__" = some (some (.builtin "object.__setattr__"))
  ga : findIn K (.ref C) "__getattribute__" = some (some (.builtin "BaseException.__getattribute__"))
  gg : findIn K (.ref C) "__getattr__" = some none
  nv : findIn K (.ref C) "value" = some none
  iC : findIn K (.ref C) "__init__" = some (some (.ref fI))
  mr : mroIn K C (.ref D) = some true
  si : ks_superIn K C D "__init__" = some (some (.builtin "ValueError.__init__"))
  sv : subIn K (.ref C) (.type "ValueError") = some true
  kC : keepIn K (.ref C) = true
  exC : subIn K (.ref C) (.type "BaseException") = some true
  tyC : typeIn K (.ref C) = some (.type "type")
  hdC : hasDictIn K C = true
theorem one_line (v : Value) : [v].length ≤ sizeLine := by
  rw [sizeLine_eq]; exact (by decide : 1 ≤ 16777216)

/-- what __init__ leaves of a fresh exception at x -/
structure InitEnd (h h' : Heap) (x C dx : Addr) (v : Value) : Prop where
  keep : ∀ b o, b ≠ x → h.get? b = some o → h'.get? b = some o
  obj : ∃ t1, h'.get? x = some { cls := .ref C, dict := some dx, data := .fields #[.ref t1, .none, .none, .none, .bool false, .none] }
  dbig : h.objs.size ≤ dx
  dne : dx ≠ x
  ns : h'.Ns1 dx (fun y => if y = "value" then some v else none)
structure OwnMade (h h' : Heap) (e C d : Addr) (v : Value) : Prop where
  keep : ∀ b o, h.get? b = some o → h'.get? b = some o
  new : h.objs.size ≤ e
  obj : ∃ t1, h'.get? e = some { cls := .ref C, dict := some d, data := .fields #[.ref t1, .none, .none, .none, .bool false, .none] }
  dbig : h.objs.size ≤ d
  dne : d ≠ e
  ns : h'.Ns1 d (fun y => if y = "value" then some v else none)
section
variable {prog : Program} {w : World} {A : Around} {E : Value → Shared → Prop} {R : Result → Shared → Prop} {s : Shared} {K : Frag} {mg : Str → Option Value} {D fI C : Addr} {base : Heap}
theorem ldN {M : Model} {env : Env} {m : Str → Option Value} {x : Str} {pos : Pos} {v : Value} {Q : Value → Shared → Prop} (hn : s.heap.Ns env.locals m) (hv : m x = some v) (h : Q v s)
    (hk : env.scope.kind = .function := by rfl) (hl : env.kindOf x = some .local := by rfl) (hd : (x == ("__debug__" : Str)) = false := by decide) :
    wpAny M A (eval (.Name x pos) env) Q E s := wpAny_Name (wpAny_loadName_local hk hl hn hv h) hd
theorem nx_init (T : NBase prog K mg D fI) (G : NCls K D fI C) {x t0 : Addr} {v : Value} (Md : L2.Mod K mg base) (kb : ∀ b o, base.get? b = some o → s.heap.get? b = some o) (hx : s.heap.get? x = some (excO C t0)) (hnx : K.lookup x = none) (hroom : A.depth < recursionLimit)
    (hq : ∀ h' tk dx, InitEnd s.heap h' x C dx v → R (.ok (.ret .none)) { s with heap := h', toks := tk }) :
    codeAny (model prog w) A (.call (.ref fI) ⟨[.ref x, v], []⟩) R s := by
  obtain ⟨cc, cda, oc, od, kV, doc, pm, an, ct, osl, msg, a1, a2, ccl, cdd, vs, ccs, file, tf, cl, cld, csl, ho, hcd, hcode, hvs, hfile, hcell⟩ := T.fn
  obtain ⟨nm, q, N, bs, bm, sn, sub, ab, col, dd, k0, k1, k2, k3, k5, hC, hbm⟩ := G.cls
  obtain ⟨cdD, hD⟩ := T.cls
  have X : K.In s.heap := Md.kin.keeps kb
  have hcl : clsIn K C = some { name := nm, bases := bs, mro := .ref C :: bm, ns := N, qualname := q, hasDict := true, slotNames := sn, subclasses := sub, abstract := ab, collection := col, hasDel := false } := by unfold clsIn; rw [hC] <;> rfl
  refine ks_codeAny_call_defAt (fd := ksFn "__init__" "NevercrossedError.__init__" (nArgs a1 a2) (nBody msg) nScope .none kV doc pm an (.ref cda) ct cc) (body := nBody msg)
    (binds := [("self", .ref x), ("value", v)]) hroom (X _ _ ho) rfl (Md.nolimit.keeps kb) (codeRec_of X hcd) rfl (BindsTo.of_eq (by first | rfl | with_unfolding_all rfl)) (show ∀ y ∈ nScope.names, y.2 ≠ .cell by decide) (fun y hy => (List.mem_cons.mp hy).elim (fun z => z ▸ rfl) fun hy => (List.mem_cons.mp hy).elim (fun z => z ▸ rfl) fun hy => nomatch hy) (fun h₁ hns k₁ => ?_)
  have X₁ : K.In h₁ := X.keeps k₁
  have hx₁ : h₁.get? x = some (excO C t0) := k₁ _ _ hx
  have kb₁ : ∀ b o, base.get? b = some o → h₁.get? b = some o := fun b o e => k₁ b o (kb b o e)
  obtain ⟨oD, hD1, hD2⟩ : ∃ oD, h₁.get? D = some oD ∧ oD.data = .cls cdD := by
    unfold clsIn at hD
    split at hD
    · rename_i c d cd' sl ho
      cases hD
      exact ⟨_, X₁ _ _ ho, rfl⟩
    · cases hD
  obtain ⟨mb, hb1, hb2⟩ := Md.blt
  have hnL : x ≠ s.heap.objs.size := Nat.ne_of_lt (Heap.lt_size hx)
  have hIn : InstAt h₁ x (excO C t0) C none := ⟨hx₁, rfl, rfl, trivial⟩
  have hxC : x ≠ C := ks_ne X₁ hIn hcl
  -- super().__init__(..)
  refine ks_wpAt_execs_cons ?_
  refine ks_wpAt_Expr_any ?_
  refine ks_wpAt_MethodCall ?_
  refine ks_wpAt_super_base (f := fI) (cc := cda) rfl rfl (by decide) rfl (X₁ _ _ ho) rfl rfl rfl (X₁ _ _ hcode) rfl hvs hfile T.top ?_
  refine ks_loadName_global rfl rfl (loadGlobal_builtin (Md.glob.keeps kb₁) T.sup (hb1.keeps kb₁) ((hb2 "super" (by decide)).trans (by decide +kernel)) ⟨rfl, ?_⟩)
  refine wpAny_loadName_free rfl rfl rfl ⟨_, X₁ _ _ hcell, rfl⟩ ?_
  refine wpAny_loadName_local rfl rfl hns (v := .ref x) rfl ?_
  refine ks_wpAny_isType_cls hD1 hD2 ⟨rfl, ?_⟩
  refine ks_wpAny_call_super hD1 hD2 hx₁ rfl (fun c e => by cases e) (looks_mroIn X₁ G.mr) (fun h₂ e₂ k₂ => ?_)
  have X₂ : K.In h₂ := X₁.keeps k₂
  have hx₂ := k₂ _ _ hx₁
  have hsi : alongIn K "__init__" (((Value.ref C :: bm).dropWhile (· != .ref D)).drop 1) = some (some (.builtin "ValueError.__init__")) := by
    have z := G.si
    unfold ks_superIn at z
    rw [hcl] at z
    exact z
  have hI2 : InstAt h₂ x (excO C t0) C none := ⟨hx₂, rfl, rfl, trivial⟩
  refine kxs_getMethod kxs_ValueError e₂ (looks_opaque X₂ T.opq) (l₀ := .ref C :: bm) (fun A Q E s k q => wpAny_bind ((looks_clsIn X₂ hcl) A _ E s k (wpAny_pure q))) rfl X₂ hsi (hI2.type.andThen (looks_subIn X₂ G.sv)) hxC (by decide) ?_
  have k₃ : ∀ b o, h₂.get? b = some o → (h₂.push (kxs_mw "ValueError.__init__" x)).get? b = some o := fun b o e => Heap.get?_push_of_some _ e
  have hu : (h₂.push (kxs_mw "ValueError.__init__" x)).get? h₂.objs.size = some (kxs_mw "ValueError.__init__" x) := Heap.get?_push_at rfl rfl
  refine kxs_callWith (i := "ValueError.__init__") (x := x) rfl ?_
  have he : ∀ env : Env, starEach [Expr.Constant (Const.str msg) 0 ⟨5, 25, 5, 55⟩] env = (false, eval (Expr.Constant (Const.str msg) 0 ⟨5, 25, 5, 55⟩) env) :: starEach [] env := fun _ => rfl
  rw [he]
  refine evalArgs_plain ?_
  refine Calls.spliced_cons ?_
  show wpAny _ _ (eval (Expr.Constant (Const.str msg) 0 ⟨5, 25, 5, 55⟩) _) _ _ _
  refine Calls.Constant_str ?_
  refine Calls.spliced_nil ⟨hu, ?_⟩
  have hx₃ := k₃ _ _ hx₂
  have hC₃ := k₃ _ _ (X₂ _ _ hC)
  refine wpAny_call (codeAny_of_tree ?_)
  show wpAny _ _ (callAny (.ref h₂.objs.size) ⟨_, []⟩) _ _ _
  simp only [callAny]
  refine wpAny_bind (wpAny_load hu ?_)
  simp only [kxs_mw, show (Value.type "method-wrapper" == Value.type "method" || Value.type "method-wrapper" == Value.type "builtin_function_or_method" || Value.type "method-wrapper" == Value.type "method-wrapper") = true by decide, if_true]
  refine KFB.if_so (by decide) ?_
  refine wpAny_bind (check_bound_init F.excBase_ValueError.toExcCallFacts hC₃ hx₃ rfl ?_)
  refine wpAny_bind (wpAny_pure (wpAny_pure ?_))
  refine ⟨plainId_quiet F.excBase_ValueError.init.plain _, codeAny_builtin F.excBase_ValueError.initEntry ?_⟩
  refine exc_init_tree (cls := .ref C) (t0 := t0) (dv := none) (c2 := .none) (c3 := .none) (b4 := .bool false) hx₃ (one_line _) fun h₄ k₄ e₄ t₄ => ?_
  -- self.value = value
  have kk : ∀ b o, b ≠ x → s.heap.get? b = some o → h₄.get? b = some o := fun b o hb e => k₄ b o hb (k₃ b o (k₂ b o (k₁ b o e)))
  have X₄ : K.In h₄ := fun a o e => kk a o (fun z => by rw [z, hnx] at e; cases e) (X _ _ e)
  obtain ⟨oL, esL, epL, hL, rL⟩ := hns
  have hns₄ : h₄.Ns s.heap.objs.size (fun y => List.lookup y [(PySem.Str.ofString "self", Value.ref x), (PySem.Str.ofString "value", v)].reverse) := ⟨oL, esL, epL, k₄ _ _ hnL.symm (k₃ _ _ (k₂ _ _ hL)), rL⟩
  refine ks_wpAt_execs_cons ?_
  refine ks_wpAt_Assign_Attr ?_
  refine wpAt_of_wpAny (ldN hns₄ (v := v) rfl (ldN hns₄ (v := .ref x) rfl ?_))
  refine set_plain X₄ (ox := excO C (h₂.push (kxs_mw "ValueError.__init__" x)).objs.size) (od := none) ⟨e₄, rfl, rfl, trivial⟩ G.sa ?_
  refine exc_osa X₄ e₄ hcl (show refsVE (.ref C :: bm) = true from hbm) rfl G.nv (fun h₅ tk₅ dx k₅ dn dne hx₅ hn₅ => ?_)
  refine wpAt_of_wpAny (wpAny_execs_nil ?_)
  have z : s.heap.objs.size ≤ h₄.objs.size := by
    have y := Heap.lt_size (show h₄.get? s.heap.objs.size = some oL from k₄ _ _ hnL.symm (k₃ _ _ (k₂ _ _ hL)))
    exact Nat.le_of_lt y
  exact hq h₅ tk₅ dx ⟨fun b o hb e => k₅ b o hb (kk b o hb e), ⟨_, hx₅⟩, Nat.le_trans z dn, dne, hn₅⟩
theorem nx_made (T : NBase prog K mg D fI) (G : NCls K D fI C) {v : Value} (Md : L2.Mod K mg base) (kb : ∀ b o, base.get? b = some o → s.heap.get? b = some o) (hroom : A.depth + 1 < recursionLimit)
    (hq : ∀ h' tk e d, OwnMade s.heap h' e C d v → R (.ok (.ret (.ref e))) { s with heap := h', toks := tk }) :
    codeAny (model prog w) A (.call (.ref C) ⟨[v], []⟩) R s := by
  obtain ⟨nm, q, N, bs, bm, sn, sub, ab, col, dd, k0, k1, k2, k3, k5, hC, hbm⟩ := G.cls
  obtain ⟨hp, g, dr, tk, os⟩ := s
  have X : K.In hp := Md.kin.keeps kb
  have k : ∀ b o, hp.get? b = some o → ((hp.push (kdv_tup [v])).push (excO C hp.objs.size)).get? b = some o := fun b o e => Heap.get?_push_of_some _ (Heap.get?_push_of_some _ e)
  have hget : ((hp.push (kdv_tup [v])).push (excO C hp.objs.size)).get? (hp.objs.size + 1) = some (excO C hp.objs.size) := by heap_get
  have hnx : K.lookup (hp.objs.size + 1) = none := by
    cases e : K.lookup (hp.objs.size + 1) with
    | none => rfl
    | some o =>
      have z : hp.get? (hp.objs.size + 1) = some o := X _ _ e
      exact absurd (Nat.lt_of_succ_lt (Heap.lt_size z)) (Nat.lt_irrefl _)
  refine call_own F.excBase_ValueError (fun X => refsVE_contains X bm hbm) (X _ _ hC) (looks_findIn X G.iC) (fun self => bind_fn X self T.tI) (one_line v) ?_
  refine nx_init (s := ⟨(hp.push (kdv_tup [v])).push (excO C hp.objs.size), g, dr, tk, os⟩) T G Md (fun b o e => k b o (kb b o e)) hget hnx ?_ fun h' tk' dx ⟨k', hx, dn, dne, hns⟩ => ?_
  · show A.depth + 1 < recursionLimit
    exact hroom
  · have old : ∀ b o, hp.get? b = some o → h'.get? b = some o := fun b o e => k' b o (Nat.ne_of_lt (Nat.lt_succ_of_lt (Heap.lt_size e))) (k b o e)
    have z : hp.objs.size + 1 + 1 ≤ dx := by
      have q := dn
      rw [Heap.size_push, Heap.size_push] at q
      exact q
    exact ⟨rfl, hq h' tk' (hp.objs.size + 1) dx ⟨old, Nat.le_succ _, hx, Nat.le_trans (Nat.le_trans (Nat.le_succ _) (Nat.le_succ _)) z, dne, hns⟩⟩
end
end NX

namespace DL
open PySem L2 PyProof.Rows NX
theorem relO_value {v : V} {v' : Value} (r : RelV v v') (f : Str) : RelO (List.lookup f [(("value" : Str), v)]) (if f = "value" then some v' else none) := by
  by_cases h : f = "value"
  · subst h
    have e : List.lookup ("value" : Str) [(("value" : Str), v)] = some v := by simp [List.lookup]
    rw [if_pos rfl, e]; exact r
  · have e : List.lookup f [(("value" : Str), v)] = none := by
      have e1 : (f == ("value" : Str)) = false := by simpa using h
      simp [List.lookup, e1]
    rw [if_neg h, e]; trivial
section
variable {X : Cx} {D0 fI C : Addr} {x : Str}
/-- X(e), to be raised -/
def tMkN (C : Addr) (ta : TA) : L2.St → Hp → XK → Prop := fun σ H Q => ta σ H fun vs H1 => ∃ v, vs = [v] ∧ ∀ d, H1 d = none → Q (.ref C) (some d) (upd H1 d (.xd [(("value" : Str), v)]))
theorem pmk_n {a : Expr} {ta : TA} {p pos : Pos} {k : Nat} (T : NBase X.prog X.K X.mg D0 fI) (G : NCls X.K D0 fI C) (gC : X.mg x = some (.ref C)) (hr : Room k X.A) (ha : PA X [a] ta) (hg : Gl X x := by rfl) (hdb : (x == ("__debug__" : Str)) = false := by decide)
    (he : starEach (a :: []) X.env = (false, eval a X.env) :: starEach [] X.env := by rfl) (hpl : (backTo pos (starEach [] X.env)).any (·.1) = false := by rfl) :
    PMk X (.Call (.Name x p) [a] [] pos) (tMkN C ta) := by
  intro pins s σ H Q I h
  refine wpAny_Call_Name_kw (ld_glob I hg gC ?_ hdb)
  refine PySem.W.callWith_K (h₀ := X.base) I.ok.mod.kin G.kC (thn (ha.run pos pins s σ H _ I h) fun us s1 hh => ?_) he hpl
  obtain ⟨vs, H1, I1, r1, v, ev, q1⟩ := hh
  subst ev
  refine ⟨I1.kIn, ?_⟩
  cases r1 with
  | cons rv rn =>
    rename_i v' us'
    cases rn
    show wpAny _ _ (call (.ref C) [v']) _ _ _
    have md := I1.mod
    have bk := I1.bk
    obtain ⟨hp, g, dr, tk, os⟩ := s1
    refine wpAny_call (nx_made T G md bk (by have := hr.dp; omega) fun h' tk' e d M => ?_)
    show MkP X pins σ Q (.ref e) ⟨h', g, dr, tk', os⟩
    obtain ⟨t1, hoe⟩ := M.obj
    obtain ⟨G', g1, g2⟩ := restrict h' fun b => decide (b ≠ e)
    have gk : ∀ b, b ≠ e → G'.get? b = h'.get? b := fun b hb => g1 b (decide_eq_true hb)
    have ge : G'.get? e = none := g2 e (by simp)
    have old : ∀ b o, hp.get? b = some o → G'.get? b = some o := fun b o q => (gk b (Nat.ne_of_lt (Nat.lt_of_lt_of_le (Heap.lt_size q) M.new))).trans (M.keep b o q)
    have ob : ObjOk X.prog X.w (upd H1 d (.xd [(("value" : Str), v)])) G' d (.xd [(("value" : Str), v)]) := ⟨_, M.ns.at (fun o q => (gk d M.dne).trans q), fun f => relO_value rv f⟩
    have J : Inv X pins σ (upd H1 d (.xd [(("value" : Str), v)])) ⟨G', g, dr, tk', os⟩ := I1.laid (t' := tk') old M.dbig ob
    refine ⟨e, _, _, ⟨G', g, dr, tk', os⟩, _, .ref C, some d, rfl, J, fun b o q => ?_, ge, hoe, ⟨rfl, rfl⟩, rfl, rfl, ?_, rfl, I1.bare, raises_own G.exC G.tyC, q1 d (I1.hok.fresh M.dbig)⟩
    · by_cases hb : b = e
      · have q' : G'.get? b = some o := q
        rw [hb, ge] at q'; cases q'
      · exact (gk b hb).symm.trans q
    · rw [upd_ne (Ne.symm M.dne)]
      exact I1.hok.fresh M.new
/-- X(e), held as a value -/
theorem pe_mkN {a : Expr} {ta : TA} {p pos : Pos} {k : Nat} (T : NBase X.prog X.K X.mg D0 fI) (G : NCls X.K D0 fI C) (gC : X.mg x = some (.ref C)) (hr : Room k X.A) (ha : PA X [a] ta) (hg : Gl X x := by rfl) (hdb : (x == ("__debug__" : Str)) = false := by decide)
    (he : starEach (a :: []) X.env = (false, eval a X.env) :: starEach [] X.env := by rfl) (hpl : (backTo pos (starEach [] X.env)).any (·.1) = false := by rfl) :
    PE X (.Call (.Name x p) [a] [] pos) (fun σ H Q => ta σ H fun vs H1 => ∃ v, vs = [v] ∧ ∀ d e, H1 d = none → (upd H1 d (.xd [(("value" : Str), v)])) e = none → Q (.ref e) (upd (upd H1 d (.xd [(("value" : Str), v)])) e (ExV C d e))) := by
  refine ⟨fun pins s σ H Q I h => ?_⟩
  refine wpAny_Call_Name_kw (ld_glob I hg gC ?_ hdb)
  refine PySem.W.callWith_K (h₀ := X.base) I.ok.mod.kin G.kC (thn (ha.run pos pins s σ H _ I h) fun us s1 hh => ?_) he hpl
  obtain ⟨vs, H1, I1, r1, v, ev, q1⟩ := hh
  subst ev
  refine ⟨I1.kIn, ?_⟩
  cases r1 with
  | cons rv rn =>
    rename_i v' us'
    cases rn
    show wpAny _ _ (call (.ref C) [v']) _ _ _
    have md := I1.mod
    have bk := I1.bk
    obtain ⟨hp, g, dr, tk, os⟩ := s1
    refine wpAny_call (nx_made T G md bk (by have := hr.dp; omega) fun h' tk' e d M => ?_)
    show EP X pins σ Q (.ref e) ⟨h', g, dr, tk', os⟩
    obtain ⟨t1, hoe⟩ := M.obj
    obtain ⟨G', g1, g2⟩ := restrict h' fun b => decide (b ≠ e)
    have gk : ∀ b, b ≠ e → G'.get? b = h'.get? b := fun b hb => g1 b (decide_eq_true hb)
    have ge : G'.get? e = none := g2 e (by simp)
    have old : ∀ b o, hp.get? b = some o → G'.get? b = some o := fun b o q => (gk b (Nat.ne_of_lt (Nat.lt_of_lt_of_le (Heap.lt_size q) M.new))).trans (M.keep b o q)
    have ob : ObjOk X.prog X.w (upd H1 d (.xd [(("value" : Str), v)])) G' d (.xd [(("value" : Str), v)]) := ⟨_, M.ns.at (fun o q => (gk d M.dne).trans q), fun f => relO_value rv f⟩
    have J : Inv X pins σ (upd H1 d (.xd [(("value" : Str), v)])) ⟨G', g, dr, tk', os⟩ := I1.laid (t' := tk') old M.dbig ob
    have ue : (upd H1 d (.xd [(("value" : Str), v)])) e = none := by
      rw [upd_ne (Ne.symm M.dne)]
      exact I1.hok.fresh M.new
    have kk : ∀ b u, G'.get? b = some u → h'.get? b = some u := fun b o q => by
      by_cases hb : b = e
      · rw [hb, ge] at q; cases q
      · exact (gk b hb).symm.trans q
    have J2 := J.laidN (t' := tk') (a := e) (o := ExV C d e) kk ge ue ⟨⟨_, _, hoe, ⟨rfl, rfl⟩, rfl⟩, ⟨_, hoe⟩, fun h1 h2 ⟨o, vs, q1, q2⟩ k => ⟨o, vs, k o q1, q2⟩⟩
    exact ⟨.ref e, _, J2, rfl, q1 d e (I1.hok.fresh M.dbig) ue⟩
variable {Ex : DX} {δ : DSt} {M : Mem} {e : Expr} {E : DEnds} {pos : Pos}
/-- raise X(e) -/
theorem ds_raise {k : Nat} {p cpos : Pos} (T : NBase X.prog X.K X.mg D0 fI) (G : NCls X.K D0 fI C) (gC : X.mg x = some (.ref C)) (hr : Room k X.A) (h : DE X Ex e δ M fun d M1 => Ex δ C d M1) (hc : X.calm = true := by rfl) (hg : Gl X x := by rfl) (hdb : (x == ("__debug__" : Str)) = false := by decide)
    (he : starEach (e :: []) X.env = (false, eval e X.env) :: starEach [] X.env := by rfl) (hpl : (backTo cpos (starEach [] X.env)).any (·.1) = false := by rfl) :
    DS X Ex (.Raise (some (.Call (.Name x p) [e] [] cpos)) none pos) δ M E := by
  intro B σ H rx is sr
  refine ws_of (ps_raise hc rx.tk (pmk_n T G gC hr (pa_cons pe_w pa_nil he) hg hdb he hpl)) ?_
  refine we_mono (h B σ H rx is sr) fun v H1 ⟨d, B1, M1, s1, is1, r1, q⟩ => ?_
  refine ⟨v, rfl, fun a ha => ?_⟩
  have s2 : Same B1 (upd B1 a (.xd [(("value" : Str), v)])) := same_new (is1.fresh ha).1
  exact ⟨δ, C, a, v, d, _, M1, rfl, rfl, s1.trans s2, is1.keep ha _, sr.mono (s1.trans s2), upd_same, r1.mono s2, q⟩
/-- X(e), held as a value -/
theorem de_mkN {Q : DK} {k : Nat} {p : Pos} (T : NBase X.prog X.K X.mg D0 fI) (G : NCls X.K D0 fI C) (gC : X.mg x = some (.ref C)) (hr : Room k X.A) (h : DE X Ex e δ M fun d M1 => ∀ a dd, Q (.exo C a dd d) M1) (hg : Gl X x := by rfl) (hdb : (x == ("__debug__" : Str)) = false := by decide)
    (he : starEach (e :: []) X.env = (false, eval e X.env) :: starEach [] X.env := by rfl) (hpl : (backTo pos (starEach [] X.env)).any (·.1) = false := by rfl) :
    DE X Ex (.Call (.Name x p) [e] [] pos) δ M Q := by
  intro B σ H rx is sr
  refine we_of (pe_mkN T G gC hr (pa_cons pe_w pa_nil he) hg hdb he hpl) ?_
  refine we_mono (h B σ H rx is sr) fun v H1 ⟨d, B1, M1, s1, is1, r1, q⟩ => ?_
  refine ⟨v, rfl, fun dd a hd ha => ?_⟩
  have s2 : Same B1 (upd B1 dd (.xd [(("value" : Str), v)])) := same_new (is1.fresh hd).1
  have is2 := is1.keep hd (.xd [(("value" : Str), v)])
  have s3 : Same (upd B1 dd (.xd [(("value" : Str), v)])) (upd (upd B1 dd (.xd [(("value" : Str), v)])) a (ExV C dd a)) := same_new (is2.fresh ha).1
  exact ⟨.exo C a dd d, _, M1, (s1.trans s2).trans s3, is2.keep ha _, .exo C a upd_same (s3 _ _ upd_same) ((r1.mono s2).mono s3), q a dd⟩
end
end DL

set_option Elab.async false
set_option linter.all false
set_option maxRecDepth 100000
set_option maxHeartbeats 2000000
namespace DL
open PySem L2 PyProof.Rows NX
section
variable {X : Cx} {D0 fI C : Addr} {x : Str} {Ex : DX} {δ : DSt} {M : Mem} {e : Expr} {E : DEnds} {pos : Pos} {Q : DK}
/-- what a suite's end is to the try's: the error's name is gone -/
def sEnds (i : Nat) (E : DEnds) : DEnds := { nx := fun δ M => E.nx (δ.set i none) M, rt := E.rt, bk := fun δ M => E.bk (δ.set i none) M, ct := fun δ M => E.ct (δ.set i none) M }
theorem sEnds_le {K : PySem.W.Frag} {B B' : Hp} (s : Same B B') (i : Nat) (E : DEnds) : ELe (toE K B' (sEnds i E)) { nx := fun σ' H' => (toE K B E).nx (σ'.set i none) H', rt := (toE K B E).rt, bk := fun σ' H' => (toE K B E).bk (σ'.set i none) H', ct := fun σ' H' => (toE K B E).ct (σ'.set i none) H' } :=
  ⟨fun σ' H' ⟨δ, B1, M1, s1, i1, r1, q⟩ => ⟨δ.set i none, B1, M1, s.trans s1, i1, r1.unset i none, q⟩, fun v H' q => VP.back s q,
   fun σ' H' ⟨δ, B1, M1, s1, i1, r1, q⟩ => ⟨δ.set i none, B1, M1, s.trans s1, i1, r1.unset i none, q⟩, fun σ' H' ⟨δ, B1, M1, s1, i1, r1, q⟩ => ⟨δ.set i none, B1, M1, s.trans s1, i1, r1.unset i none, q⟩⟩
/-- what is wished of an error in the body of try .. except x as n -/
def ExAs (X : Cx) (Ex : DX) (Cc : Addr) (i : Nat) (suite : List Stmt) (E : DEnds) : DX := fun δ C d M => ∃ b, PySem.W.exmOne X.K (.ref C) (.ref Cc) = some b ∧
  (b = true → ∀ (a : Addr) (oe : Obj) (dd : Addr) (pn : List (Addr × Obj)), Zc (.ref C) (some dd) oe → (∃ vs, oe.data = .fields vs) → DB (X.suite a ((a, oe) :: pn)) Ex0 suite (δ.set i (some (.exc a dd d))) M (sEnds i E)) ∧ (b = false → Ex δ C d M)
theorem ds_try1 (i : Nat) {n : Str} {body suite : List Stmt} {b₀ : Stmt} {np pos' : Pos} {Cc : Addr} (hN : X.N.Nodup) (gC : X.mg x = some (.ref Cc))
    (h : ∀ pn xe, DB (X.tr pn xe) (ExAs X Ex Cc i (b₀ :: suite) E) body δ M E)
    (hi : X.N[i]? = some n := by rfl) (hln : X.env.kindOf n = some .local := by rfl) (hg : Gl X x := by rfl) (hdb : (x == ("__debug__" : Str)) = false := by decide)
    (hs : X.stack = X.env :: X.outer := by rfl) (hf : X.env.frame = some X.env.locals := by rfl) :
    DS X Ex (.Try body [.ExceptHandler (some (.Name x np)) (some n) (b₀ :: suite) pos'] [] [] pos) δ M E := by
  intro B σ H rx is sr
  refine ws_of (ps_try_as (i := i) (c := .ref Cc) (Wout := XW X.K B Ex)
    (tb := fun W D σ H => ∀ pn xe, Takes (X.tr pn xe) W → PassesOwn (model X.prog X.w) X.A X.env xe → WB (X.tr pn xe) body D σ H)
    (ts := fun a cls d D σ H => ∀ oe pn, Zc cls d oe → (∃ vs, oe.data = .fields vs) → WB (X.suite a ((a, oe) :: pn)) (b₀ :: suite) D σ H)
    hs hf hN hi hln ⟨hg, hdb, .inl gC⟩ rx.tk (fun W pn xe tk po => ⟨fun pins s σ H D I q => q pn xe tk po pins s I⟩) (fun a oe cls d pn hz hv => ⟨fun pins s σ H D I q => q oe pn hz hv pins s I⟩)) ?_
  intro pn xe tk po
  refine h pn xe B σ H ⟨tk.imp fun cls d σ' H' z => ?_, po⟩ is sr
  obtain ⟨δ', C, dd, v, dv, B', M', e1, e2, s', i', r', hx, rv, b, hb, ht, hf'⟩ := z
  subst e1 e2
  refine ⟨b, hb, fun eb a ha oe pn' hz hv => ?_, fun eb => ⟨δ', C, dd, v, dv, B', M', rfl, rfl, s', i', r', hx, rv, hf' eb⟩⟩
  exact wb_mono (ht eb a oe dd pn' hz hv B' _ H' (rx0 rfl) i' (r'.set i (.exc a hx rv))) (sEnds_le s' i E)
/-- n.value in the suite -/
theorem de_excval {a dd : Addr} {oe : Obj} {pn : List (Addr × Obj)} {dv : D} (G : NCls X.K D0 fI C) (hz : Zc (.ref C) (some dd) oe) (hv : ∃ vs, oe.data = .fields vs)
    (h : DE (X.suite a ((a, oe) :: pn)) Ex e δ M fun d M1 => d = .exc a dd dv ∧ Q dv M1) (hb : attributeBase e "value" X.env (eval e X.env) = eval e X.env := by rfl) :
    DE (X.suite a ((a, oe) :: pn)) Ex (.Attribute e "value" pos) δ M Q := by
  intro B σ H rx is sr
  refine we_of (pe_xf (C := C) ⟨G.ga, G.gg, G.exC, G.hdC⟩ G.nv hz hv pe_w hb) ?_
  refine we_mono (h B σ H rx is sr) fun v H1 ⟨x, B1, M1, s1, is1, r1, e, q⟩ => ?_
  subst e
  cases r1 with
  | exc _ hx rv =>
    refine ⟨rfl, rfl, dd, _, _, rfl, is1.sub _ _ hx, ?_, ⟨_, B1, M1, s1, is1, rv, q⟩⟩
    simp [List.lookup]
end
end DL
namespace DL
open PySem L2 PyProof.Rows NX
/-- what isinstance asks of an error's class -/
structure NIs (K : PySem.W.Frag) (C : Addr) : Prop where
  cl : (PySem.W.clsIn K C).isSome = true
  ha : PySem.W.findIn K (.ref C) "__class__" = some (some (.builtin "object.__class__"))
  hn : PySem.W.specialIn K (.builtin "object.__class__") "__get__" = some (some (.builtin "getset_descriptor.__get__"))
  ht : PySem.W.takesIn K (.builtin "object.__class__") = some true
  hm : PySem.W.mroIn K C (.type "object") = some true
theorem dc_isiX {X : Cx} {D0 fI C a d : Addr} {v : D} {u : Value} {c : D} {b : Bool} {M : Mem} {Q : DK} (G : NCls X.K D0 fI C) (N : NIs X.K C) (hc : ∀ B cv, DR X.K B cv c → ∀ w, RelV cv w → w = u) (hk : PySem.W.kitOne X.K (.ref C) u = some b) (q : Q (.bl b) M) :
    DC X (.builtin "isinstance") [.exo C a d v, c] M Q := by
  intro B H vs is r pins s σ us I rv
  cases r with
  | cons r1 r2 =>
    cases r2 with
    | cons r2 r3 =>
      cases r3
      cases r1 with
      | exo _ _ hx hd hv =>
        cases rv with
        | cons q1 q2 =>
          cases q2 with
          | cons q2 q3 =>
            cases q3
            have e := hc B _ r2 _ q2
            subst e
            cases q1
            obtain ⟨⟨oe, fs, ho, hz, hdat⟩, _, _⟩ := I.hok a _ (is.sub _ _ hx)
            obtain ⟨mA, hns, _⟩ := (show ObjOk X.prog X.w H s.heap d (.xd _) from I.hok d _ (is.sub _ _ hd))
            obtain ⟨od, hod, _⟩ := lookIn_ns hns
            have J : PySem.W.InstAt s.heap a oe C (some od) := ⟨ho, hz.1, by unfold PySem.W.notCls; rw [hdat] <;> rfl, by rw [hz.2]; exact hod⟩
            exact PySem.W.kia_one (PySem.W.kitx_exc N.cl G.ga G.gg G.exC N.ha N.hn N.ht N.hm) I.kIn J hk (fun z => nomatch z) fun tk => ⟨.bl b, H, I.tok tk, rfl, vp_now is (.bl b) q⟩
end DL

set_option Elab.async false
set_option linter.all false
set_option maxRecDepth 100000
set_option maxHeartbeats 2000000
namespace DL
open PySem L2 PyProof.Rows NX
section
variable {X : Cx} {M : Mem} {Q : DK} {i j : Int} {x y : Str}
/-! whole numbers -/
theorem d2_I {f : Value → Value → Sem Value} {C : Int → Int → Prop} {g : Int → Int → V} {d : D} (ho : OpR X f (rI C g)) (hd : ∀ B, DR X.K B (g i j) d) (hc : C i j) (q : Q d M) : D2 X f (.int i) (.int j) M Q :=
  d2_of ho fun B H v w is r1 r2 => by cases r1; cases r2; exact ⟨i, j, rfl, rfl, hc, vp_now is (hd B) q⟩
theorem d2_I0 {f : Value → Value → Sem Value} {g : Int → Int → V} {d : D} (ho : OpR X f (rI0 g)) (hd : ∀ B, DR X.K B (g i j) d) (q : Q d M) : D2 X f (.int i) (.int j) M Q :=
  d2_of ho fun B H v w is r1 r2 => by cases r1; cases r2; exact ⟨i, j, rfl, rfl, vp_now is (hd B) q⟩
theorem d2_addI (q : Q (.int (i + j)) M) : D2 X (binaryOp .Add) (.int i) (.int j) M Q := d2_I0 op_add (fun B => .int _) q
theorem d2_subI (q : Q (.int (i - j)) M) : D2 X (binaryOp .Sub) (.int i) (.int j) M Q := d2_I0 op_sub (fun B => .int _) q
theorem d2_mulI (hc : CMul i j) (q : Q (.int (i * j)) M) : D2 X (binaryOp .Mult) (.int i) (.int j) M Q := d2_I op_mul (fun B => .int _) hc q
theorem d2_modI (hc : 0 < j) (q : Q (.int (i % j)) M) : D2 X (binaryOp .Mod) (.int i) (.int j) M Q := d2_I op_mod (fun B => .int _) hc q
theorem d2_divI (hc : CDiv i j) (q : Q (.int (i / j)) M) : D2 X (binaryOp .FloorDiv) (.int i) (.int j) M Q := d2_I op_fdiv (fun B => .int _) hc q
theorem d2_powI (hc : CPow i j) (q : Q (.int (i ^ j.toNat)) M) : D2 X (binaryOp .Pow) (.int i) (.int j) M Q := d2_I op_pow (fun B => .int _) hc q
theorem d2_ltI (q : Q (.bl (decide (i < j))) M) : D2 X (compareOp .Lt) (.int i) (.int j) M Q := d2_I0 op_lt (fun B => .bl _) q
theorem d2_leI (q : Q (.bl (decide (i ≤ j))) M) : D2 X (compareOp .LtE) (.int i) (.int j) M Q := d2_I0 op_le (fun B => .bl _) q
theorem d2_gtI (q : Q (.bl (decide (j < i))) M) : D2 X (compareOp .Gt) (.int i) (.int j) M Q := d2_I0 op_gt (fun B => .bl _) q
theorem d2_geI (q : Q (.bl (decide (j ≤ i))) M) : D2 X (compareOp .GtE) (.int i) (.int j) M Q := d2_I0 op_ge (fun B => .bl _) q
theorem d2_eqI (q : Q (.bl (decide (i = j))) M) : D2 X (compareOp .Eq) (.int i) (.int j) M Q :=
  d2_of op_eq fun B H v w is r1 r2 => by
    cases r1; cases r2
    refine ⟨rfl, vp_now is (.bl _) ?_⟩
    have e : decide (V.int i = V.int j) = decide (i = j) := decide_eq_decide.mpr ⟨fun h => V.int.inj h, fun h => by rw [h]⟩
    rw [e]; exact q
theorem d2_neI (q : Q (.bl (!decide (i = j))) M) : D2 X (compareOp .NotEq) (.int i) (.int j) M Q :=
  d2_of op_ne fun B H v w is r1 r2 => by
    cases r1; cases r2
    refine ⟨rfl, vp_now is (.bl _) ?_⟩
    have e : decide (V.int i = V.int j) = decide (i = j) := decide_eq_decide.mpr ⟨fun h => V.int.inj h, fun h => by rw [h]⟩
    rw [e]; exact q
theorem d1_neg (q : Q (.int (-i)) M) : D1 X (unaryOp .USub) (.int i) M Q := d1_of un_neg fun B H v is r => by cases r; exact ⟨i, rfl, vp_now is (.int _) q⟩
/-! texts -/
theorem d2_eqS (q : Q (.bl (decide (x = y))) M) : D2 X (compareOp .Eq) (.str x) (.str y) M Q :=
  d2_of op_eq fun B H v w is r1 r2 => by
    cases r1; cases r2
    refine ⟨rfl, vp_now is (.bl _) ?_⟩
    have e : decide (V.str x = V.str y) = decide (x = y) := decide_eq_decide.mpr ⟨fun h => V.str.inj h, fun h => by rw [h]⟩
    rw [e]; exact q
theorem d2_neS (q : Q (.bl (!decide (x = y))) M) : D2 X (compareOp .NotEq) (.str x) (.str y) M Q :=
  d2_of op_ne fun B H v w is r1 r2 => by
    cases r1; cases r2
    refine ⟨rfl, vp_now is (.bl _) ?_⟩
    have e : decide (V.str x = V.str y) = decide (x = y) := decide_eq_decide.mpr ⟨fun h => V.str.inj h, fun h => by rw [h]⟩
    rw [e]; exact q
theorem d2_addS (hc : x.length + y.length ≤ sizeLine) (q : Q (.str (x ++ y)) M) : D2 X (binaryOp .Add) (.str x) (.str y) M Q :=
  d2_of op_add_str fun B H v w is r1 r2 => by cases r1; cases r2; exact ⟨x, y, rfl, rfl, hc, vp_now is (.str _) q⟩
def repS (x : Str) (n : Nat) : Str := ⟨(List.replicate n x.cps).foldl (· ++ ·) #[]⟩
theorem d2_inS {c : Nat} (q : Q (.bl (decide (c ∈ y.cps.toList))) M) : D2 X (compareOp .In) (.str ⟨#[c]⟩) (.str y) M Q :=
  d2_of op_in_sign fun B H v w is r1 r2 => by cases r1; cases r2; exact ⟨c, y, rfl, rfl, vp_now is (.bl _) q⟩
theorem d2_notinS {c : Nat} (q : Q (.bl (!decide (c ∈ y.cps.toList))) M) : D2 X (compareOp .NotIn) (.str ⟨#[c]⟩) (.str y) M Q :=
  d2_of op_notIn_sign fun B H v w is r1 r2 => by cases r1; cases r2; exact ⟨c, y, rfl, rfl, vp_now is (.bl _) q⟩
theorem di_str {c : Nat} (hz : x.length ≤ sizeLine) (h : atI x.cps.toList i = some c) (q : Q (.str ⟨#[c]⟩) M) : DI X (.str x) (.int i) M Q :=
  di_of ix_str fun B H v w is r1 r2 => by cases r1; cases r2; exact ⟨x, i, c, rfl, rfl, hz, h, vp_now is (.str _) q⟩
theorem dsl_str {lo hi : Option Int} (hz : x.length ≤ sizeLine) (q : Q (.str (cutS x lo hi)) M) : DSl X (.str x) lo hi M Q :=
  dsl_of sl_str fun B H v is r => by cases r; exact ⟨x, rfl, hz, vp_now is (.str _) q⟩
theorem dc_lenS (hz : x.length ≤ sizeLine) (q : Q (.int x.length) M) : DC X (.builtin "len") [.str x] M Q :=
  dc_of call_len fun B H vs is r => by
    cases r with
    | cons r1 r2 => cases r1; cases r2; exact ⟨_, _, rfl, ⟨hz, rfl⟩, vp_now is (.int _) q⟩
theorem dc_strI (hz : i.natAbs.log2 < 1920) (q : Q (.str (toString i)) M) : DC X (.type "str") [.int i] M Q :=
  dc_of call_str_int fun B H vs is r => by
    cases r with
    | cons r1 r2 => cases r1; cases r2; exact ⟨_, rfl, hz, vp_now is (.str _) q⟩
theorem dc_intI (q : Q (.int i) M) : DC X (.type "int") [.int i] M Q :=
  dc_of call_int1 fun B H vs is r => by
    cases r with
    | cons r1 r2 => cases r1; cases r2; exact .inl ⟨_, rfl, vp_now is (.int _) q⟩
theorem dc_intB {b : Bool} (q : Q (.int (if b then 1 else 0)) M) : DC X (.type "int") [.bl b] M Q :=
  dc_of call_int1 fun B H vs is r => by
    cases r with
    | cons r1 r2 => cases r1; cases r2; exact .inr ⟨_, rfl, vp_now is (.int _) q⟩
theorem dc_intS {n : Int} (hn : PySem.intText? x = some n) (hz : x.length ≤ 640) (q : Q (.int n) M) : DC X (.type "int") [.str x] M Q :=
  dc_of call_int_str fun B H vs is r => by
    cases r with
    | cons r1 r2 => cases r1; cases r2; exact ⟨_, _, rfl, hn, hz, vp_now is (.int _) q⟩
theorem dc_abs (q : Q (.int (if i < 0 then -i else i)) M) : DC X (.builtin "abs") [.int i] M Q :=
  dc_of call_abs fun B H vs is r => by
    cases r with
    | cons r1 r2 => cases r1; cases r2; exact ⟨_, rfl, vp_now is (.int _) q⟩
theorem dc_max2 (hc : X.calm = true) (q : Q (.int (if j > i then j else i)) M) : DC X (.builtin "max") [.int i, .int j] M Q :=
  dc_of (call_max2 hc) fun B H vs is r => by
    cases r with
    | cons r1 r2 =>
      cases r2 with
      | cons r2 r3 => cases r1; cases r2; cases r3; exact ⟨_, _, rfl, vp_now is (.int _) q⟩
theorem dc_min2 (hc : X.calm = true) (q : Q (.int (if j < i then j else i)) M) : DC X (.builtin "min") [.int i, .int j] M Q :=
  dc_of (call_min2 hc) fun B H vs is r => by
    cases r with
    | cons r1 r2 =>
      cases r2 with
      | cons r2 r3 => cases r1; cases r2; cases r3; exact ⟨_, _, rfl, vp_now is (.int _) q⟩
/-! lists and tuples -/
theorem atI_dr {K : PySem.W.Frag} {B : Hp} {xs : List V} {ds : List D} {d : D} (r : DRs K B xs ds) (h : atI ds i = some d) : ∃ v, atI xs i = some v ∧ DR K B v d := by
  unfold atI at h ⊢
  rw [r.length]
  cases e : ixN ds.length i with
  | none => rw [e] at h; cases h
  | some k =>
    rw [e] at h
    obtain ⟨v, e1, r1⟩ := r.get (i := k) (d := d) h
    exact ⟨v, e1, r1⟩
theorem di_lst {l d : D} {ds : List D} (hl : LstD M l ds) (h : atI ds i = some d) (q : Q d M) : DI X l (.int i) M Q :=
  di_of ix_list fun B H v w is r1 r2 => by
    obtain ⟨a, xs, rfl, hs, r⟩ := hl.sq is r1
    obtain ⟨u, e1, ru⟩ := atI_dr r h
    cases r2
    exact ⟨a, xs, i, u, rfl, rfl, hs, e1, vp_now is ru q⟩
theorem di_tup {d : D} {ds : List D} (h : atI ds i = some d) (q : Q d M) : DI X (.tup ds) (.int i) M Q :=
  di_of ix_tup fun B H v w is r1 r2 => by
    obtain ⟨a, xs, rfl, hs, r⟩ := tup_sq is r1
    obtain ⟨u, e1, ru⟩ := atI_dr r h
    cases r2
    exact ⟨a, xs, i, u, rfl, rfl, hs, e1, vp_now is ru q⟩
theorem dc_lenL {l : D} {ds : List D} (hl : LstD M l ds) (q : Q (.int ds.length) M) : DC X (.builtin "len") [l] M Q :=
  dc_of call_len fun B H vs is r => by
    cases r with
    | cons r1 r2 =>
      cases r2
      obtain ⟨a, xs, rfl, hs, r⟩ := hl.sq is r1
      exact ⟨_, ds.length, rfl, .inl ⟨xs, hs, r.length.symm⟩, vp_now is (.int _) q⟩
theorem dc_lenT {ds : List D} (q : Q (.int ds.length) M) : DC X (.builtin "len") [.tup ds] M Q :=
  dc_of call_len fun B H vs is r => by
    cases r with
    | cons r1 r2 =>
      cases r2
      obtain ⟨a, xs, rfl, hs, r⟩ := tup_sq is r1
      exact ⟨_, ds.length, rfl, .inr ⟨xs, hs, r.length.symm⟩, vp_now is (.int _) q⟩
theorem d2_addL {ds es : List D} (hz : ds.length + es.length ≤ sizeLine) (q : Q (.lst (ds ++ es)) M) : D2 X (binaryOp .Add) (.lst ds) (.lst es) M Q :=
  d2_of op_cat fun B H v w is r1 r2 => by
    cases r1 with
    | lst h1 r1 =>
      cases r2 with
      | lst h2 r2 =>
        refine ⟨_, _, _, _, rfl, rfl, is.sub _ _ h1, is.sub _ _ h2, by rw [r1.length, r2.length]; exact hz, fun p hp => ?_⟩
        exact ⟨_, _, M, same_new (is.fresh hp).1, is.keep hp _, .lst upd_same ((r1.append r2).mono (same_new (is.fresh hp).1)), q⟩
theorem d2_addT {ds es : List D} (hz : ds.length + es.length ≤ sizeLine) (q : Q (.tup (ds ++ es)) M) : D2 X (binaryOp .Add) (.tup ds) (.tup es) M Q :=
  d2_of op_catA fun B H v w is r1 r2 => by
    have r1' := r1
    have r2' := r2
    obtain ⟨a, xs, rfl, h1, r1⟩ := tup_sq is r1
    obtain ⟨b, ys, rfl, h2, r2⟩ := tup_sq is r2
    refine ⟨a, b, xs, ys, rfl, rfl, h1, h2, by rw [r1.length, r2.length]; exact hz, fun e => ?_, fun e1 e2 => ?_, fun e1 e2 p hp => ?_⟩
    · subst e; cases r1; exact vp_now is r2' q
    · subst e2; cases r2; rw [List.append_nil] at q; exact vp_now is r1' q
    · have s2 := same_new (o := HO.tup (xs ++ ys)) (is.fresh hp).1
      exact ⟨_, _, M, s2, is.keep hp _, .tup (.inl (.inl upd_same)) ((r1.append r2).mono s2), q⟩
def cutD {α : Type} (xs : List α) (lo hi : Option Int) : List α := (xs.drop (HT.sIx xs.length 0 lo)).take (HT.sIx xs.length xs.length hi - HT.sIx xs.length 0 lo)
theorem drs_drop {K : PySem.W.Frag} {B : Hp} : ∀ {xs : List V} {ds : List D} (n : Nat), DRs K B xs ds → DRs K B (xs.drop n) (ds.drop n)
  | _, _, 0, r => r
  | _, _, _ + 1, .nil => .nil
  | _, _, n + 1, .cons _ r => drs_drop n r
theorem drs_take {K : PySem.W.Frag} {B : Hp} : ∀ {xs : List V} {ds : List D} (n : Nat), DRs K B xs ds → DRs K B (xs.take n) (ds.take n)
  | _, _, 0, _ => .nil
  | _, _, _ + 1, .nil => .nil
  | _, _, n + 1, .cons h r => .cons h (drs_take n r)
theorem drs_cut {K : PySem.W.Frag} {B : Hp} {xs : List V} {ds : List D} (lo hi : Option Int) (r : DRs K B xs ds) : DRs K B (cutV xs lo hi) (cutD ds lo hi) := by
  unfold cutV cutD
  rw [r.length]
  exact drs_take _ (drs_drop _ r)
theorem cut_whole {α : Type} {xs : List α} {lo hi : Option Int} (h : HT.sIx xs.length 0 lo = 0 ∧ HT.sIx xs.length xs.length hi = xs.length) : cutD xs lo hi = xs := by
  unfold cutD
  rw [h.1, h.2]
  simp
theorem dsl_tup {ds : List D} {lo hi : Option Int} (q : Q (.tup (cutD ds lo hi)) M) : DSl X (.tup ds) lo hi M Q :=
  dsl_of sl_tupA fun B H v is r1 => by
    have r1' := r1
    obtain ⟨a, xs, rfl, h1, r1⟩ := tup_sq is r1
    refine ⟨a, xs, rfl, h1, fun e => ?_, fun e p hp => ?_⟩
    · rw [r1.length] at e
      rw [cut_whole e] at q
      exact vp_now is r1' q
    · have s2 := same_new (o := HO.tup (cutV xs lo hi)) (is.fresh hp).1
      exact ⟨_, _, M, s2, is.keep hp _, .tup (.inl (.inl upd_same)) ((drs_cut lo hi r1).mono s2), q⟩
theorem dsl_lst {l : D} {ds : List D} {lo hi : Option Int} (hl : LstD M l ds) (q : Q (.lst (cutD ds lo hi)) M) : DSl X l lo hi M Q :=
  dsl_of sl_list fun B H v is r1 => by
    obtain ⟨a, xs, rfl, h1, r1⟩ := hl.sq is r1
    refine ⟨a, xs, rfl, h1, fun p hp => ?_⟩
    have s2 := same_new (o := HO.lst (cutV xs lo hi)) (is.fresh hp).1
    exact ⟨_, _, M, s2, is.keep hp _, .lst upd_same ((drs_cut lo hi r1).mono s2), q⟩
theorem dc_tuple {l : D} {ds : List D} (hl : LstD M l ds) (q : Q (.tup ds) M) : DC X (.type "tuple") [l] M Q :=
  dc_of call_tuple_of fun B H vs is r => by
    cases r with
    | cons r1 r2 =>
      cases r2
      obtain ⟨a, xs, rfl, hs, r⟩ := hl.sq is r1
      refine ⟨a, xs, rfl, .inl ⟨hs, fun p hp => ?_⟩⟩
      have s2 := same_new (o := HO.tup xs) (is.fresh hp).1
      exact ⟨_, _, M, s2, is.keep hp _, .tup (.inl (.inl upd_same)) (r.mono s2), q⟩
theorem dc_listT {ds : List D} (q : Q (.lst ds) M) : DC X (.type "list") [.tup ds] M Q :=
  dc_of call_list_of fun B H vs is r => by
    cases r with
    | cons r1 r2 =>
      cases r2
      obtain ⟨a, xs, rfl, hs, r⟩ := tup_sq is r1
      refine ⟨a, xs, rfl, .inr hs, fun p hp => ?_⟩
      have s2 := same_new (o := HO.lst xs) (is.fresh hp).1
      exact ⟨_, _, M, s2, is.keep hp _, .lst upd_same (r.mono s2), q⟩
theorem dm_append {p : Addr} {ds : List D} {d : D} (hm : M p = some (.lst ds)) (hz : ds.length < sizeLine) (q : Q .non (updM M p (.lst (ds ++ [d])))) : DM X "list.append" (.obj p) [d] M Q :=
  dm_of mt_append fun B H v vs is r1 r2 => by
    cases r2 with
    | cons r2 r3 =>
      cases r3; cases r1
      obtain ⟨_, o, ho, xs, rfl, r⟩ := is.mem p _ hm
      refine ⟨p, xs, _, rfl, rfl, ho, by rw [r.length]; exact hz, ?_⟩
      exact ⟨.non, B, _, Same.refl B, is.write hm (m := .lst (ds ++ [d])) ⟨_, rfl, r.append (.one r2)⟩, .non, q⟩
/-! methods of texts -/
theorem strs_dr {K : PySem.W.Frag} {B : Hp} : ∀ ys : List Str, DRs K B (ys.map V.str) (ys.map D.str)
  | [] => .nil
  | y :: ys => .cons (.str y) (strs_dr ys)
theorem dr_strs {K : PySem.W.Frag} {B : Hp} : ∀ {xs : List V} (ys : List Str), DRs K B xs (ys.map D.str) → xs = ys.map V.str
  | _, [], r => by cases r; rfl
  | _, y :: ys, r => by
    cases r with
    | cons r1 r2 => cases r1; rw [dr_strs ys r2]; rfl
theorem dm_split (hy : (y.length == 0) = false) (hz : x.length + 2 ≤ sizeLine) (q : Q (.lst ((Txt.split x y).map .str)) M) : DM X "str.split" (.str x) [.str y] M Q :=
  dm_of mt_split fun B H v vs is r1 r2 => by
    cases r2 with
    | cons r2 r3 =>
      cases r3; cases r1; cases r2
      refine ⟨x, y, rfl, rfl, hy, hz, fun p hp => ?_⟩
      have s2 := same_new (o := HO.lst ((Txt.split x y).map V.str)) (is.fresh hp).1
      exact ⟨_, _, M, s2, is.keep hp _, .lst upd_same ((strs_dr _).mono s2), q⟩
theorem dm_partition (hy : (y.length == 0) = false) (hz : x.length ≤ sizeLine) (q : Q (.tup [.str (Txt.partition x y).1, .str (Txt.partition x y).2.1, .str (Txt.partition x y).2.2]) M) : DM X "str.partition" (.str x) [.str y] M Q :=
  dm_of mt_partition fun B H v vs is r1 r2 => by
    cases r2 with
    | cons r2 r3 =>
      cases r3; cases r1; cases r2
      refine ⟨x, y, rfl, rfl, hy, hz, fun p hp => ?_⟩
      have s2 := same_new (o := HO.tup [.str (Txt.partition x y).1, .str (Txt.partition x y).2.1, .str (Txt.partition x y).2.2]) (is.fresh hp).1
      exact ⟨_, _, M, s2, is.keep hp _, .tup (.inl (.inl upd_same)) (.cons (.str _) (.cons (.str _) (.cons (.str _) .nil))), q⟩
theorem dm_startswith (q : Q (.bl (Txt.startswith x y)) M) : DM X "str.startswith" (.str x) [.str y] M Q :=
  dm_of mt_startswith fun B H v vs is r1 r2 => by
    cases r2 with
    | cons r2 r3 => cases r3; cases r1; cases r2; exact ⟨x, y, rfl, rfl, vp_now is (.bl _) q⟩
theorem dm_join {l : D} {ys : List Str} (hl : LstD M l (ys.map .str)) (hz : (ys.map (·.length)).sum + ys.length * x.length ≤ 16777216) (q : Q (.str (Txt.join x ys)) M) : DM X "str.join" (.str x) [l] M Q :=
  dm_of mt_join fun B H v vs is r1 r2 => by
    cases r2 with
    | cons r2 r3 =>
      cases r3; cases r1
      obtain ⟨a, xs, rfl, hs, r⟩ := hl.sq is r2
      have e := dr_strs ys r
      subst e
      exact ⟨x, a, ys, rfl, rfl, .inl hs, hz, vp_now is (.str _) q⟩
/-! all of a list of truths -/
theorem dr_bls {K : PySem.W.Frag} {B : Hp} : ∀ {xs : List V} (bs : List Bool), DRs K B xs (bs.map D.bl) → xs = bs.map V.bl
  | _, [], r => by cases r; rfl
  | _, y :: ys, r => by
    cases r with
    | cons r1 r2 => cases r1; rw [dr_bls ys r2]; rfl
theorem dc_all {l : D} {bs : List Bool} (hc : X.calm = true) (hl : LstD M l (bs.map .bl)) (q : Q (.bl (bs.all id)) M) : DC X (.builtin "all") [l] M Q :=
  dc_of (cr_all hc) fun B H vs is r => by
    cases r with
    | cons r1 r2 =>
      cases r2
      obtain ⟨a, xs, rfl, hs, r⟩ := hl.sq is r1
      have e := dr_bls bs r
      subst e
      exact ⟨a, bs, rfl, hs, vp_now is (.bl _) q⟩
/-! is None -/
def isNon : D → Bool
  | .non => true
  | _ => false
theorem isNon_dr {K : PySem.W.Frag} {B : Hp} {v : V} {d : D} (r : DR K B v d) : decide (v = .non) = isNon d := by
  cases r <;> first | rfl | (refine decide_eq_false ?_; intro h; cases h)
theorem d2_isN {d : D} (q : Q (.bl (isNon d)) M) : D2 X (compareOp .Is) d .non M Q :=
  d2_of op_isN fun B H v w is r1 r2 => by
    cases r2
    refine ⟨rfl, vp_now is (.bl _) ?_⟩
    rw [isNon_dr r1]; exact q
theorem d2_notN {d : D} (q : Q (.bl (!isNon d)) M) : D2 X (compareOp .IsNot) d .non M Q :=
  d2_of op_notN fun B H v w is r1 r2 => by
    cases r2
    refine ⟨rfl, vp_now is (.bl _) ?_⟩
    rw [isNon_dr r1]; exact q
/-! isinstance of a built-in class -/
def tyName (M : Mem) : D → String → Prop
  | .non, T => T = "NoneType"
  | .bl _, T => T = "bool"
  | .int _, T => T = "int"
  | .str _, T => T = "str"
  | .tup _, T => T = "tuple"
  | .lst _, T => T = "list"
  | .dct0, T => T = "dict"
  | .obj a, T => T = "list" ∧ ∃ ds, M a = some (.lst ds)
  | _, _ => False
theorem tyName_ok {K : PySem.W.Frag} {H B : Hp} {v : V} {d : D} {T : String} (is : Is K H B M) (r : DR K B v d) (t : tyName M d T) : TyX K H v (.type T) := by
  cases r with
  | non => cases t; exact .base .non
  | bl b => cases t; exact .base (.bl b)
  | int i => cases t; exact .base (.int i)
  | str x => cases t; exact .base (.str x)
  | tup h r =>
    cases t
    rcases same_T is.sub h with (h | ⟨o, h⟩) | ⟨o, its, n, h1, h2, _⟩
    · exact .base (.tup h)
    · exact .fTuple h
    · exact .kTuple h1 h2
  | lst h r => cases t; exact .base (.lst (is.sub _ _ h))
  | dct0 h => cases t; exact .base (.dK (is.sub _ _ h))
  | obj a =>
    obtain ⟨rfl, ds, h⟩ := t
    obtain ⟨_, o, ho, xs, rfl, r⟩ := is.mem a _ h
    exact .base (.lst ho)
  | _ => exact t.elim
theorem dc_isi {d : D} {T T' : String} {b : Bool} (t : tyName M d T) (hk : kitB T T' = some b) (q : Q (.bl b) M) : DC X (.builtin "isinstance") [d, .ty T'] M Q :=
  dc_of call_isi fun B H vs is r => by
    cases r with
    | cons r1 r2 =>
      cases r2 with
      | cons r2 r3 =>
        cases r3; cases r2
        exact ⟨_, _, _, _, b, rfl, .ty T', tyName_ok is r1 t, kit_ty hk, vp_now is (.bl _) q⟩
/-- a built-in class by its name, as a value -/
theorem de_tyN {Ex : DX} {δ : DSt} {n : Str} {T : String} {pos : Pos} (hm : X.mg n = none) (hv : bootBuiltins n = some (.type T)) (q : Q (.ty T) M) (hg : Gl X n := by rfl) (hn : n ≠ "__name__" := by decide) (hd : (n == ("__debug__" : Str)) = false := by decide) : DE X Ex (.Name n pos) δ M Q :=
  de_of (pe_bltn (v := .ty T) hg hm hv rfl hn hd) fun B σ H is sr => vp_now is (.ty T) q
end

/-! isinstance(d, T) as a truth of the data -/
def Plain (M : Mem) (d : D) : Prop := ∃ T, tyName M d T
theorem Plain.non {M : Mem} : Plain M .non := ⟨_, rfl⟩
theorem Plain.bl {M : Mem} {b : Bool} : Plain M (.bl b) := ⟨_, rfl⟩
theorem Plain.int {M : Mem} {i : Int} : Plain M (.int i) := ⟨_, rfl⟩
theorem Plain.str {M : Mem} {i : Str} : Plain M (.str i) := ⟨_, rfl⟩
theorem Plain.tup {M : Mem} {i : List D} : Plain M (.tup i) := ⟨_, rfl⟩
theorem Plain.lst {M : Mem} {i : List D} : Plain M (.lst i) := ⟨_, rfl⟩
theorem Plain.dct0 {M : Mem} : Plain M .dct0 := ⟨_, rfl⟩
def isIntB : D → Bool
  | .int _ => true
  | .bl _ => true
  | _ => false
def isBl : D → Bool
  | .bl _ => true
  | _ => false
def isStr : D → Bool
  | .str _ => true
  | _ => false
def isTup : D → Bool
  | .tup _ => true
  | _ => false
def isLst : D → Bool
  | .lst _ => true
  | .obj _ => true
  | _ => false
theorem isi_int {X : Cx} {M : Mem} {d : D} {Q : DK} (p : Plain M d) (q : Q (.bl (isIntB d)) M) : DC X (.builtin "isinstance") [d, .ty "int"] M Q := by
  obtain ⟨T, t⟩ := p
  cases d with
  | non => cases t; exact dc_isi (T := "NoneType") (b := isIntB .non) rfl (by decide +kernel) q
  | bl b => cases t; exact dc_isi (T := "bool") (b := isIntB (.bl true)) rfl (by decide +kernel) q
  | int b => cases t; exact dc_isi (T := "int") (b := isIntB (.int 0)) rfl (by decide +kernel) q
  | str b => cases t; exact dc_isi (T := "str") (b := isIntB (.str "")) rfl (by decide +kernel) q
  | tup b => cases t; exact dc_isi (T := "tuple") (b := isIntB (.tup [])) rfl (by decide +kernel) q
  | lst b => cases t; exact dc_isi (T := "list") (b := isIntB (.lst [])) rfl (by decide +kernel) q
  | dct0 => cases t; exact dc_isi (T := "dict") (b := isIntB .dct0) rfl (by decide +kernel) q
  | obj a => obtain ⟨rfl, h⟩ := t; exact dc_isi (T := "list") (b := isIntB (.lst [])) ⟨rfl, h⟩ (by decide +kernel) q
  | ty n => exact t.elim
  | scr n => exact t.elim
  | exc a b c => exact t.elim
  | exo a b c d => exact t.elim
theorem isi_bool {X : Cx} {M : Mem} {d : D} {Q : DK} (p : Plain M d) (q : Q (.bl (isBl d)) M) : DC X (.builtin "isinstance") [d, .ty "bool"] M Q := by
  obtain ⟨T, t⟩ := p
  cases d with
  | non => cases t; exact dc_isi (T := "NoneType") (b := isBl .non) rfl (by decide +kernel) q
  | bl b => cases t; exact dc_isi (T := "bool") (b := isBl (.bl true)) rfl (by decide +kernel) q
  | int b => cases t; exact dc_isi (T := "int") (b := isBl (.int 0)) rfl (by decide +kernel) q
  | str b => cases t; exact dc_isi (T := "str") (b := isBl (.str "")) rfl (by decide +kernel) q
  | tup b => cases t; exact dc_isi (T := "tuple") (b := isBl (.tup [])) rfl (by decide +kernel) q
  | lst b => cases t; exact dc_isi (T := "list") (b := isBl (.lst [])) rfl (by decide +kernel) q
  | dct0 => cases t; exact dc_isi (T := "dict") (b := isBl .dct0) rfl (by decide +kernel) q
  | obj a => obtain ⟨rfl, h⟩ := t; exact dc_isi (T := "list") (b := isBl (.lst [])) ⟨rfl, h⟩ (by decide +kernel) q
  | ty n => exact t.elim
  | scr n => exact t.elim
  | exc a b c => exact t.elim
  | exo a b c d => exact t.elim
theorem isi_str {X : Cx} {M : Mem} {d : D} {Q : DK} (p : Plain M d) (q : Q (.bl (isStr d)) M) : DC X (.builtin "isinstance") [d, .ty "str"] M Q := by
  obtain ⟨T, t⟩ := p
  cases d with
  | non => cases t; exact dc_isi (T := "NoneType") (b := isStr .non) rfl (by decide +kernel) q
  | bl b => cases t; exact dc_isi (T := "bool") (b := isStr (.bl true)) rfl (by decide +kernel) q
  | int b => cases t; exact dc_isi (T := "int") (b := isStr (.int 0)) rfl (by decide +kernel) q
  | str b => cases t; exact dc_isi (T := "str") (b := isStr (.str "")) rfl (by decide +kernel) q
  | tup b => cases t; exact dc_isi (T := "tuple") (b := isStr (.tup [])) rfl (by decide +kernel) q
  | lst b => cases t; exact dc_isi (T := "list") (b := isStr (.lst [])) rfl (by decide +kernel) q
  | dct0 => cases t; exact dc_isi (T := "dict") (b := isStr .dct0) rfl (by decide +kernel) q
  | obj a => obtain ⟨rfl, h⟩ := t; exact dc_isi (T := "list") (b := isStr (.lst [])) ⟨rfl, h⟩ (by decide +kernel) q
  | ty n => exact t.elim
  | scr n => exact t.elim
  | exc a b c => exact t.elim
  | exo a b c d => exact t.elim
theorem isi_tuple {X : Cx} {M : Mem} {d : D} {Q : DK} (p : Plain M d) (q : Q (.bl (isTup d)) M) : DC X (.builtin "isinstance") [d, .ty "tuple"] M Q := by
  obtain ⟨T, t⟩ := p
  cases d with
  | non => cases t; exact dc_isi (T := "NoneType") (b := isTup .non) rfl (by decide +kernel) q
  | bl b => cases t; exact dc_isi (T := "bool") (b := isTup (.bl true)) rfl (by decide +kernel) q
  | int b => cases t; exact dc_isi (T := "int") (b := isTup (.int 0)) rfl (by decide +kernel) q
  | str b => cases t; exact dc_isi (T := "str") (b := isTup (.str "")) rfl (by decide +kernel) q
  | tup b => cases t; exact dc_isi (T := "tuple") (b := isTup (.tup [])) rfl (by decide +kernel) q
  | lst b => cases t; exact dc_isi (T := "list") (b := isTup (.lst [])) rfl (by decide +kernel) q
  | dct0 => cases t; exact dc_isi (T := "dict") (b := isTup .dct0) rfl (by decide +kernel) q
  | obj a => obtain ⟨rfl, h⟩ := t; exact dc_isi (T := "list") (b := isTup (.lst [])) ⟨rfl, h⟩ (by decide +kernel) q
  | ty n => exact t.elim
  | scr n => exact t.elim
  | exc a b c => exact t.elim
  | exo a b c d => exact t.elim
theorem isi_list {X : Cx} {M : Mem} {d : D} {Q : DK} (p : Plain M d) (q : Q (.bl (isLst d)) M) : DC X (.builtin "isinstance") [d, .ty "list"] M Q := by
  obtain ⟨T, t⟩ := p
  cases d with
  | non => cases t; exact dc_isi (T := "NoneType") (b := isLst .non) rfl (by decide +kernel) q
  | bl b => cases t; exact dc_isi (T := "bool") (b := isLst (.bl true)) rfl (by decide +kernel) q
  | int b => cases t; exact dc_isi (T := "int") (b := isLst (.int 0)) rfl (by decide +kernel) q
  | str b => cases t; exact dc_isi (T := "str") (b := isLst (.str "")) rfl (by decide +kernel) q
  | tup b => cases t; exact dc_isi (T := "tuple") (b := isLst (.tup [])) rfl (by decide +kernel) q
  | lst b => cases t; exact dc_isi (T := "list") (b := isLst (.lst [])) rfl (by decide +kernel) q
  | dct0 => cases t; exact dc_isi (T := "dict") (b := isLst .dct0) rfl (by decide +kernel) q
  | obj a => obtain ⟨rfl, h⟩ := t; exact dc_isi (T := "list") (b := isLst (.lst [])) ⟨rfl, h⟩ (by decide +kernel) q
  | ty n => exact t.elim
  | scr n => exact t.elim
  | exc a b c => exact t.elim
  | exo a b c d => exact t.elim
theorem bb_len : bootBuiltins "len" = some (.builtin "len") := by decide +kernel
theorem bb_isinstance : bootBuiltins "isinstance" = some (.builtin "isinstance") := by decide +kernel
theorem bb_abs : bootBuiltins "abs" = some (.builtin "abs") := by decide +kernel
theorem bb_all : bootBuiltins "all" = some (.builtin "all") := by decide +kernel
theorem bb_any : bootBuiltins "any" = some (.builtin "any") := by decide +kernel
theorem bb_max : bootBuiltins "max" = some (.builtin "max") := by decide +kernel
theorem bb_min : bootBuiltins "min" = some (.builtin "min") := by decide +kernel
theorem bb_repr : bootBuiltins "repr" = some (.builtin "repr") := by decide +kernel
theorem bb_sorted : bootBuiltins "sorted" = some (.builtin "sorted") := by decide +kernel
theorem bb_sum : bootBuiltins "sum" = some (.builtin "sum") := by decide +kernel
theorem bt_int : bootBuiltins "int" = some (.type "int") := by decide +kernel
theorem bt_bool : bootBuiltins "bool" = some (.type "bool") := by decide +kernel
theorem bt_str : bootBuiltins "str" = some (.type "str") := by decide +kernel
theorem bt_tuple : bootBuiltins "tuple" = some (.type "tuple") := by decide +kernel
theorem bt_list : bootBuiltins "list" = some (.type "list") := by decide +kernel
theorem bt_dict : bootBuiltins "dict" = some (.type "dict") := by decide +kernel
theorem bt_set : bootBuiltins "set" = some (.type "set") := by decide +kernel
theorem bt_range : bootBuiltins "range" = some (.type "range") := by decide +kernel
end DL

set_option Elab.async false
set_option linter.all false
set_option maxRecDepth 100000
set_option maxHeartbeats 2000000
namespace DL
open PySem L2 PyProof.Rows NX SX
section
variable {X : Cx} {Ex : DX} {δ : DSt} {M : Mem} {Q : DK} {e : Expr} {pos : Pos}
/-- less memory is told -/
theorem de_less {M0 : Mem} {Q0 : DK} (h : DE X Ex e δ M fun d M' => MLe M0 M' ∧ Q d M0) : DE X Ex e δ M Q := fun B σ H rx is sr =>
  we_mono (h B σ H rx is sr) fun v H' ⟨d, B', M', s, i, r, l, q⟩ => ⟨d, B', M0, s, i.less l, r, q⟩
theorem mle_new {M : Mem} {p : Addr} {o : MO} (h : M p = none) : MLe M (updM M p o) := fun a m e => by
  rw [updM_ne (fun z => by rw [z, h] at e; cases e)]; exact e
theorem mle_trans {M M1 M2 : Mem} (a : MLe M M1) (b : MLe M1 M2) : MLe M M2 := fun x m h => b x m (a x m h)
/-- a comprehension that changes nothing -/
theorem lcr_map {ds : List D} {scope : Scope} {elt : Expr} {i : Nat} (f : D → D) (hz : ds.length ≤ sizeLine)
    (ht : ∀ d, d ∈ ds → ∀ M', MLe M M' → ∀ s H C cl fp, DE (X.blk s H scope (compEnvC scope cl C X.env) fp) Ex0 elt (δ.set i (some d)) M' fun y M3 => y = f d ∧ M3 = M')
    (q : Q (.lst (ds.map f)) M) : LcR ds M Q fun p I => LcTurn X scope elt i δ p ds I := by
  refine ⟨hz, fun p hp => ⟨fun k acc M' => M' = M ∧ acc = (ds.take k).map f, ⟨rfl, rfl⟩, ?_, ?_⟩⟩
  · intro k d acc M' hd hm hl ⟨e1, e2⟩ s H C cl fp
    subst e1
    refine de_mono (ht d (List.mem_of_getElem? hd) _ (mle_new hm) s H C cl fp) ?_
    rintro y M3 ⟨rfl, rfl⟩
    refine ⟨M', hm, rfl, rfl, ?_⟩
    rw [e2, List.take_add_one, hd, List.map_append]; rfl
  · rintro acc M' _ _ ⟨rfl, rfl⟩
    rw [List.take_length]; exact q
theorem signs_mem {x : Str} {d : D} (h : d ∈ signs x) : ∃ c, c ∈ x.cps.toList ∧ d = .str ⟨#[c]⟩ := by
  unfold signs at h
  obtain ⟨c, hc, e⟩ := List.mem_map.mp h
  exact ⟨c, hc, e.symm⟩
theorem signs_len (x : Str) : (signs x).length = x.length := by unfold signs Str.length; simp
end
/-- a function of one sign -/
def on1 (g : Nat → Bool) : D → D
  | .str s => match s.cps.toList with
    | [c] => .bl (g c)
    | _ => .bl false
  | _ => .bl false
theorem on1_one (g : Nat → Bool) (c : Nat) : on1 g (.str ⟨#[c]⟩) = .bl (g c) := rfl
theorem on1_signs (g : Nat → Bool) (cs : List Nat) : (signs (S cs)).map (on1 g) = (cs.map g).map D.bl := by
  unfold signs
  show ((cs.map fun c => D.str ⟨#[c]⟩).map (on1 g)) = _
  rw [List.map_map, List.map_map]
  rfl
theorem starts1 (cs : List Nat) (c : Nat) : Txt.startswith (S cs) (S [c]) = decide (cs.head? = some c) := by
  cases cs with
  | nil => rfl
  | cons a r =>
    have h1 : (S (a :: r)).cps.extract 0 (0 + (S [c]).length) = #[a] := by
      apply Array.ext'
      rw [Array.toList_extract]
      show List.extract (a :: r) 0 1 = [a]
      simp [List.extract]
    have h2 : decide (0 + (S [c]).length ≤ (S (a :: r)).length) = true := by
      rw [S_len, S_len]; simp
    unfold Txt.startswith Builtin.Str.subAt
    rw [h1, h2, Bool.true_and]
    show ((#[a] : Array Nat) == #[c]) = _
    by_cases e : a = c
    · subst e; simp
    · simp [e]
end DL

set_option Elab.async false
set_option linter.all false
set_option maxRecDepth 100000
set_option maxHeartbeats 2000000
namespace DL
open PySem L2 PyProof.Rows NX SX
/-! flat data in a list or tuple -/
def flatD : D → Bool
  | .non => true
  | .bl _ => true
  | .int _ => true
  | .str _ => true
  | _ => false
def eqF : D → D → Bool
  | .non, .non => true
  | .bl a, .bl b => a == b
  | .bl a, .int b => (if a then 1 else 0) == b
  | .int a, .bl b => a == (if b then 1 else 0)
  | .int a, .int b => a == b
  | .str a, .str b => a == b
  | _, _ => false
def inF (x : D) (ds : List D) : Bool := ds.any fun y => eqF y x
theorem flat_V {K : PySem.W.Frag} {B : Hp} {v : V} {d : D} (r : DR K B v d) (h : flatD d = true) : flatV v = true := by cases r <;> first | rfl | cases h
theorem eqF_V {K : PySem.W.Frag} {B : Hp} {v u : V} {d e : D} (r : DR K B v d) (q : DR K B u e) (h : flatD d = true) (h' : flatD e = true) : eqV v u = eqF d e := by
  cases r <;> first | (cases h; done) | (cases q <;> first | rfl | (cases h'; done))
theorem flats_V {K : PySem.W.Frag} {B : Hp} : ∀ {vs : List V} {ds : List D}, DRs K B vs ds → ds.all flatD = true → vs.all flatV = true
  | _, _, .nil, _ => rfl
  | _, _, .cons r t, h => by
    rw [List.all_cons, Bool.and_eq_true] at h
    rw [List.all_cons, flat_V r h.1, flats_V t h.2]; rfl
theorem inF_V {K : PySem.W.Frag} {B : Hp} {u : V} {e : D} (q : DR K B u e) (h' : flatD e = true) : ∀ {vs : List V} {ds : List D}, DRs K B vs ds → ds.all flatD = true → inV u vs = inF e ds
  | _, _, .nil, _ => rfl
  | _, _, .cons r t, h => by
    rw [List.all_cons, Bool.and_eq_true] at h
    have ih := inF_V q h' t h.2
    unfold inV inF at ih ⊢
    rw [List.any_cons, List.any_cons, eqF_V r q h.1 h', ih]
section
variable {X : Cx} {M : Mem} {Q : DK}
theorem d2_inL {x l : D} {ds : List D} (hl : LstD M l ds) (fx : flatD x = true) (fs : ds.all flatD = true) (q : Q (.bl (inF x ds)) M) : D2 X (compareOp .In) x l M Q :=
  d2_of op_in_seq fun B H v w is r1 r2 => by
    obtain ⟨a, xs, rfl, hs, r⟩ := hl.sq is r2
    refine ⟨a, xs, rfl, .inl hs, flat_V r1 fx, flats_V r fs, vp_now is (.bl _) ?_⟩
    rw [inF_V r1 fx r fs]; exact q
theorem inF_strs (x : Str) : ∀ ys : List Str, inF (.str x) (ys.map .str) = decide (x ∈ ys)
  | [] => by simp [inF]
  | y :: ys => by
    have ih := inF_strs x ys
    unfold inF at ih ⊢
    rw [List.map_cons, List.any_cons, ih]
    show ((y == x) || decide (x ∈ ys)) = _
    by_cases e : y = x
    · subst e; simp
    · have e' : ¬ x = y := fun z => e z.symm
      simp [e, e']
theorem flat_strs : ∀ ys : List Str, (ys.map D.str).all flatD = true
  | [] => rfl
  | _ :: ys => by rw [List.map_cons, List.all_cons, flat_strs ys]; rfl
end
/-! whole data -/
mutual
def pureD : D → Bool
  | .non => true
  | .bl _ => true
  | .int _ => true
  | .str _ => true
  | .tup ds => pureDs ds
  | .lst ds => pureDs ds
  | _ => false
def pureDs : List D → Bool
  | [] => true
  | d :: ds => pureD d && pureDs ds
end
mutual
def pyD : D → PyData
  | .non => .none
  | .bl b => .bool b
  | .int i => .int i
  | .str x => .str x
  | .tup ds => .tuple (pyDs ds)
  | .lst ds => .list (pyDs ds)
  | _ => .none
def pyDs : List D → List PyData
  | [] => []
  | d :: ds => pyD d :: pyDs ds
end
mutual
theorem dp_of {K : PySem.W.Frag} {H B : Hp} (s : Same B H) : ∀ {v : V} {d : D}, DR K B v d → pureD d = true → Dp K H v (pyD d)
  | _, _, .non, _ => by unfold pyD; exact .non
  | _, _, .bl b, _ => by unfold pyD; exact .bl b
  | _, _, .int i, _ => by unfold pyD; exact .int i
  | _, _, .str x, _ => by unfold pyD; exact .str x
  | _, _, .tup h r, hp => by unfold pyD; exact .tup (same_T s h) (dps_of s r (by unfold pureD at hp; exact hp))
  | _, _, .lst h r, hp => by unfold pyD; exact .lst (SqL.of (s _ _ h)) (dps_of s r (by unfold pureD at hp; exact hp))
  | _, _, .dct0 h, hp => by unfold pureD at hp; cases hp
  | _, _, .obj a, hp => by unfold pureD at hp; cases hp
  | _, _, .ty a, hp => by unfold pureD at hp; cases hp
  | _, _, .exc a _ _, hp => by unfold pureD at hp; cases hp
  | _, _, .exo a _ _ _ _, hp => by unfold pureD at hp; cases hp
  | _, _, .scr _ _, hp => by unfold pureD at hp; cases hp
theorem dps_of {K : PySem.W.Frag} {H B : Hp} (s : Same B H) : ∀ {vs : List V} {ds : List D}, DRs K B vs ds → pureDs ds = true → DpAll K H vs (pyDs ds)
  | _, _, .nil, _ => by unfold pyDs; exact .nil
  | _, _, .cons r t, hp => by
    unfold pureDs at hp
    rw [Bool.and_eq_true] at hp
    unfold pyDs
    exact .cons (dp_of s r hp.1) (dps_of s t hp.2)
end
section
variable {X : Cx} {M : Mem} {Q : DK}
theorem d2_neD {x y : D} (hu : X.A.units + 64 < cLine) (px : pureD x = true) (py : pureD y = true) (sx : SeqAt.shaped (pyD x) = true) (sy : SeqAt.shaped (pyD y) = true) (q : Q (.bl (!PyData.eqv (pyD x) (pyD y))) M) : D2 X (compareOp .NotEq) x y M Q :=
  d2_of (op_neD hu) fun B H v w is r1 r2 => ⟨_, _, dp_of is.sub r1 px, dp_of is.sub r2 py, sx, sy, vp_now is (.bl _) q⟩
theorem d2_eqD {x y : D} (hu : X.A.units + 64 < cLine) (px : pureD x = true) (py : pureD y = true) (sx : SeqAt.shaped (pyD x) = true) (sy : SeqAt.shaped (pyD y) = true) (q : Q (.bl (PyData.eqv (pyD x) (pyD y))) M) : D2 X (compareOp .Eq) x y M Q :=
  d2_of (op_eqD hu) fun B H v w is r1 r2 => ⟨_, _, dp_of is.sub r1 px, dp_of is.sub r2 py, sx, sy, vp_now is (.bl _) q⟩
/-- x != x -/
theorem d2_neSame {x : D} (hu : X.A.units + 64 < cLine) (px : pureD x = true) (sx : SeqAt.shaped (pyD x) = true) (q : Q (.bl false) M) : D2 X (compareOp .NotEq) x x M Q := by
  refine d2_neD hu px px sx sx ?_
  rw [SeqAt.eqv_refl _ (SeqAt.canLay_of_shaped sx)]; exact q
theorem d2_eqSame {x : D} (hu : X.A.units + 64 < cLine) (px : pureD x = true) (sx : SeqAt.shaped (pyD x) = true) (q : Q (.bl true) M) : D2 X (compareOp .Eq) x x M Q := by
  refine d2_eqD hu px px sx sx ?_
  rw [SeqAt.eqv_refl _ (SeqAt.canLay_of_shaped sx)]; exact q
/-- 'abc'.index(c) -/
theorem dm_index {x : Str} {c i : Nat} {rest : List Nat} (h : Builtin.Str.occurrences x ⟨#[c]⟩ 0 x.length 1 = i :: rest) (q : Q (.int i) M) : DM X "str.index" (.str x) [.str ⟨#[c]⟩] M Q :=
  dm_of mt_sindex fun B H v vs is r1 r2 => by
    cases r2 with
    | cons r2 r3 => cases r3; cases r1; cases r2; exact ⟨x, _, i, rest, rfl, rfl, h, vp_now is (.int _) q⟩
theorem foldl_app (y : Array Nat) : ∀ (n : Nat) (acc : Array Nat), ((List.replicate n y).foldl (· ++ ·) acc).toList = acc.toList ++ (List.replicate n y.toList).flatten
  | 0, acc => by simp
  | n + 1, acc => by
    rw [List.replicate_succ, List.foldl_cons, foldl_app y n, Array.toList_append, List.replicate_succ, List.flatten_cons, List.append_assoc]
theorem repS_tl (x : Str) (n : Nat) : (repS x n).cps.toList = (List.replicate n x.cps.toList).flatten := by
  unfold repS
  rw [foldl_app]; simp
theorem repS_len (x : Str) (n : Nat) : (repS x n).length = n * x.length := by
  have e : (repS x n).length = (repS x n).cps.toList.length := by unfold Str.length; simp
  rw [e, repS_tl, List.length_flatten, List.map_replicate, List.sum_replicate_nat]
  unfold Str.length; simp
/-- text * n -/
theorem d2_mulS {x : Str} {n : Int} (h1 : 1 < n) (h2 : n < 10000) (h3 : 0 < x.length) (h4 : x.length ≤ 1000) (q : Q (.str (repS x n.toNat)) M) : D2 X (binaryOp .Mult) (.str x) (.int n) M Q := by
  intro B H v w is r1 r2 pins s σ v' u I rx ry
  cases r1; cases r2
  obtain ⟨t, rfl⟩ := rx
  obtain ⟨t', rfl⟩ := ry
  have hmul : x.length * n.toNat ≤ 1000 * 10000 := Nat.mul_le_mul h4 (by omega)
  have hlen : (x.length == 0) = false := beq_eq_false_iff_ne.mpr (by omega)
  refine PySem.P.mul_str ?_ (fun _ _ => ?_) (fun _ _ => ?_) ?_
  · rw [decide_eq_false (by omega : ¬ n < -(2 ^ 63 : Int)), decide_eq_false (by omega : ¬ n ≥ 2 ^ 63)]; rfl
  · have : (x.length : Int) ≤ 1000 := by omega
    have h5 : (2 ^ 63 - 1 : Int) / n ≥ (2 ^ 63 - 1) / 10000 := by
      have := Int.ediv_le_ediv (c := 1) (by omega) (show (1 : Int) ≤ 1 by omega)
      exact (Int.le_ediv_iff_mul_le (by omega)).mpr (by
        have e : (2 ^ 63 - 1 : Int) / 10000 = 922337203685477 := by decide
        rw [e]; omega)
    have e : (2 ^ 63 - 1 : Int) / 10000 = 922337203685477 := by decide
    rw [e] at h5
    omega
  · unfold Builtin.Str.tooLong
    exact decide_eq_false (by rw [sizeLine_eq]; omega)
  · rw [if_neg (by omega), if_neg (by rw [hlen, beq_eq_false_iff_ne.mpr (by omega : n ≠ 1)]; simp)]
    refine ⟨?_, .str _, H, I.tok _, ⟨_, rfl⟩, vp_now is (.str _) q⟩
    show (repS x n.toNat).length ≤ sizeLine
    rw [repS_len, sizeLine_eq, Nat.mul_comm]; omega
/-- text * 0 -/
theorem d2_mulS0 {x : Str} (q : Q (.str "") M) : D2 X (binaryOp .Mult) (.str x) (.int 0) M Q := by
  intro B H v w is r1 r2 pins s σ v' u I rx ry
  cases r1; cases r2
  obtain ⟨t, rfl⟩ := rx
  obtain ⟨t', rfl⟩ := ry
  exact PySem.P.mul_str_none (by decide) (by decide) ⟨.str Str.empty, H, I.tok _, ⟨_, rfl⟩, vp_now is (.str _) q⟩
theorem d2_mulS1 {x : Str} (hx : 0 < x.length) (q : Q (.str x) M) : D2 X (binaryOp .Mult) (.str x) (.int 1) M Q := by
  intro B H v w is r1 r2 pins s σ v' u I rx ry
  cases r1; cases r2
  obtain ⟨t, rfl⟩ := rx
  obtain ⟨t', rfl⟩ := ry
  refine PySem.P.mul_str (by decide) (fun _ h => by simp at h) (fun _ h => by simp at h) ?_
  rw [if_neg (by decide), if_pos (by simp)]
  exact ⟨.str x, H, I, ⟨_, rfl⟩, vp_now is (.str _) q⟩
end
end DL

set_option Elab.async false
set_option linter.all false
set_option maxRecDepth 100000
set_option maxHeartbeats 2000000
namespace K11
open PySem L2 PyProof.Rows NX DL
def top (i : Nat) : Stmt := PySem.Challenge.pw_nevercrossed_k11_texts_of_walks_refused.main.body.getD i (.Pass ⟨0, 0, 0, 0⟩)
/-- the def st stands under its name -/
structure FAt (K : PySem.W.Frag) (mg : Str → Option Value) (x : Str) (st : Stmt) : Prop where
  ex : ∃ f fd, mg x = some (.ref f) ∧ Fun K x x st f fd
def dirs : List Nat := [114, 117, 108, 100]
def dxc (c : Nat) : Int := if c = 114 then 1 else if c = 108 then -1 else 0
def dyc (c : Nat) : Int := if c = 117 then 1 else if c = 100 then -1 else 0
/-- the module's names -/
structure Txt (w : World) (K : PySem.W.Frag) (mg : Str → Option Value) : Prop where
  isinstance : mg "isinstance" = none
  int : mg "int" = none
  bool : mg "bool" = none
  tuple : mg "tuple" = none
  str : mg "str" = none
  len : mg "len" = none
  greatest : ∃ t, mg "GREATEST" = some (.int 30 t)
  directions : ∃ t, mg "DIRECTIONS" = some (.str "ruld" t)
  digits : ∃ t, mg "DIGITS" = some (.str "0123456789" t)
  most : ∃ t, mg "MOST_POINTS" = some (.int 401 t)
  steps : ∃ aS, mg "STEPS" = some (.ref aS) ∧ ∀ c ∈ dirs, ∃ t, KDct K w aS ⟨#[c]⟩ (.ref t) ∧ ∀ B, SqT K B t [.int (dxc c), .int (dyc c)]
  all : mg "all" = none
  range : mg "range" = none
  max : mg "max" = none
  min : mg "min" = none
section
variable {P : Program} {w : World} {K : PySem.W.Frag} {mg : Str → Option Value} {base : Heap}
def isInt : D → Bool
  | .int _ => true
  | _ => false
def spIsInt : DSp := fun ds M q _ => ∃ d, ds = [d] ∧ Plain M d ∧ q (.bl (isInt d)) M
theorem sc_isint : FnScope ["value"] ["value"] (defScope (top 9)) := ⟨rfl, rfl, rfl, by decide +kernel, rfl, by decide +kernel, by decide +kernel⟩
theorem ok_isint (T : Txt w K mg) (F : FAt K mg "is_integer" (top 9)) : DFun P w K mg base 1 "is_integer" spIsInt := by
  obtain ⟨f, fd, hm, F⟩ := F.ex
  refine dfun_of F hm (F.binds (ps := ["value"]) fun _ _ _ _ _ _ us hl => match us, hl with | [_], _ => rfl) sc_isint (fun ds M q x h => ?_) fun cdv A outer s H E hr ds M q x h => ?_
  · obtain ⟨d, rfl, _⟩ := h; rfl
  · obtain ⟨d, rfl, p, hq⟩ := h
    refine db_one (ds_ret (de_and ?_))
    refine de_callB T.isinstance bb_isinstance (da_cons (de_var 0 rfl (da_cons (de_tyN T.int bt_int (da_nil ?_)))))
    refine isi_int p ?_
    refine ⟨_, rfl, fun h => ?_, fun h => ?_⟩
    · refine de_one (de_not ?_)
      refine de_callB T.isinstance bb_isinstance (da_cons (de_var 0 rfl (da_cons (de_tyN T.bool bt_bool (da_nil ?_)))))
      refine isi_bool p ⟨_, rfl, ?_⟩
      cases d <;> first | exact hq | cases h
    · cases d <;> first | exact hq | cases h
end
end K11

set_option Elab.async false
set_option linter.all false
set_option maxRecDepth 100000
set_option maxHeartbeats 2000000
namespace K11
open PySem L2 PyProof.Rows NX DL
section
variable {P : Program} {w : World} {K : PySem.W.Frag} {mg : Str → Option Value} {base : Heap}
theorem notF {b : Bool} (h : (!b) = false) : b = true := by cases b <;> first | rfl | cases h
theorem notT {b : Bool} (h : (!b) = true) : b = false := by cases b <;> first | rfl | cases h
theorem isInt_ex {d : D} (h : isInt d = true) : ∃ i, d = .int i := by cases d <;> first | exact ⟨_, rfl⟩ | cases h
theorem isTup_ex {d : D} (h : isTup d = true) : ∃ i, d = .tup i := by cases d <;> first | exact ⟨_, rfl⟩ | cases h
theorem isStr_ex {d : D} (h : isStr d = true) : ∃ i, d = .str i := by cases d <;> first | exact ⟨_, rfl⟩ | cases h
def pairD (g : Int) : D → Bool
  | .tup [.int a, .int b] => (decide (0 ≤ a) && decide (a ≤ g)) && (decide (0 ≤ b) && decide (b ≤ g))
  | _ => false
theorem pairD_ex {g : Int} {d : D} (h : pairD g d = true) : ∃ a b, d = .tup [.int a, .int b] ∧ 0 ≤ a ∧ a ≤ g ∧ 0 ≤ b ∧ b ≤ g := by
  unfold pairD at h
  split at h
  · rename_i a b
    simp only [Bool.and_eq_true, decide_eq_true_eq] at h
    exact ⟨a, b, rfl, h.1.1, h.1.2, h.2.1, h.2.2⟩
  · cases h
theorem pairD_no {g : Int} {d : D} (h : ∀ a b, d ≠ .tup [.int a, .int b]) : pairD g d = false := by
  cases e : pairD g d with
  | false => rfl
  | true => obtain ⟨a, b, z, _⟩ := pairD_ex e; exact absurd z (h a b)
def Plain1 (M : Mem) (d : D) : Prop := Plain M d ∧ ∀ es, d = .tup es → ∀ e ∈ es, Plain M e
def spIsPair : DSp := fun ds M q _ => ∃ d g, ds = [d, .int g] ∧ Plain1 M d ∧ q (.bl (pairD g d)) M
theorem sc_ispair : FnScope ["value", "greatest", "one", "other"] ["value", "greatest"] (defScope (top 10)) := ⟨rfl, rfl, rfl, by decide +kernel, rfl, by decide +kernel, by decide +kernel⟩
theorem ok_ispair (T : Txt w K mg) (GI : DFun P w K mg base 1 "is_integer" spIsInt) (F : FAt K mg "is_pair" (top 10)) : DFun P w K mg base 2 "is_pair" spIsPair := by
  obtain ⟨f, fd, hm, F⟩ := F.ex
  refine dfun_of F hm (F.binds (ps := ["value", "greatest"]) fun _ _ _ _ _ _ us hl => match us, hl with | [_, _], _ => rfl) sc_ispair (fun ds M q x h => ?_) fun cdv A outer s H E hr ds M q x h => ?_
  · obtain ⟨d, g, rfl, _⟩ := h; rfl
  · obtain ⟨d, g, rfl, ⟨p, p2⟩, hq⟩ := h
    refine db_cons (ds_if (dt_w (dw_or (dt_not (dt_tru ?_)))))
    refine de_callB T.isinstance bb_isinstance (da_cons (de_var 0 rfl (da_cons (de_tyN T.tuple bt_tuple (da_nil (isi_tuple p ?_))))))
    refine ⟨_, rfl, fun h => ?_, fun h => ⟨fun _ => db_one (ds_ret (de_bl ?_)), fun h => nomatch h⟩⟩
    · obtain ⟨es, rfl⟩ := isTup_ex (notF h)
      refine dw_or1 (dt_cmp ?_)
      refine de_callB T.len bb_len (da_cons (de_var 0 rfl (da_nil (dc_lenT ?_))))
      refine de_int (d2_neI ⟨_, rfl, fun h2 => db_one (ds_ret (de_bl ?_)), fun h2 => db_nil ?_⟩)
      · have h3 : ¬ (es.length : Int) = 2 := by simpa using h2
        rw [pairD_no (fun a b z => h3 (by cases z; rfl))] at hq; exact hq
      · have h3 : (es.length : Int) = 2 := by simpa using h2
        match es, h3 with
        | [a, b], _ =>
          have pa : Plain M a := p2 _ rfl a (by simp)
          have pb : Plain M b := p2 _ rfl b (by simp)
          refine db_cons (ds_unpack2 2 3 sc_ispair.nd (de_var 0 rfl ⟨a, b, rfl, ?_⟩))
          refine db_cons (ds_if (dt_w (dw_or (dt_not (dt_tru ?_)))))
          refine de_call GI hr (da_cons (de_var 2 rfl (da_nil ⟨a, rfl, pa, ⟨_, rfl, fun hA => ?_, fun hA => ⟨fun _ => db_one (ds_ret (de_bl ?_)), fun h => nomatch h⟩⟩⟩)))
          · refine dw_or1 (dt_not (dt_tru ?_))
            refine de_call GI hr (da_cons (de_var 3 rfl (da_nil ⟨b, rfl, pb, ⟨_, rfl, fun hB => db_one (ds_ret (de_bl ?_)), fun hB => db_nil ?_⟩⟩)))
            · rw [pairD_no (fun c d z => by cases z; exact absurd hB Bool.false_ne_true)] at hq; exact hq
            · obtain ⟨a, rfl⟩ := isInt_ex (notF hA)
              obtain ⟨b, rfl⟩ := isInt_ex (notF hB)
              refine db_one (ds_ret (de_and ?_))
              refine de_chain (de_int (de_var 2 rfl (d2_leI ⟨_, rfl, fun h3 => de_var 1 rfl (d2_leI ?_), fun h3 => ?_⟩)))
              · refine ⟨_, rfl, fun h4 => de_one ?_, fun h4 => ?_⟩
                · refine de_chain (de_int (de_var 3 rfl (d2_leI ⟨_, rfl, fun h5 => de_var 1 rfl (d2_leI ?_), fun h5 => ?_⟩)))
                  · show q (.bl (decide (b ≤ g))) M
                    have e : pairD g (.tup [.int a, .int b]) = decide (b ≤ g) := by
                      show ((decide (0 ≤ a) && decide (a ≤ g)) && (decide (0 ≤ b) && decide (b ≤ g))) = _
                      rw [h3, h4, h5]; simp
                    rw [← e]; exact hq
                  · have e : pairD g (.tup [.int a, .int b]) = false := by
                      show ((decide (0 ≤ a) && decide (a ≤ g)) && (decide (0 ≤ b) && decide (b ≤ g))) = _
                      rw [h5]; simp
                    rw [e] at hq; exact hq
                · have e : pairD g (.tup [.int a, .int b]) = false := by
                    show ((decide (0 ≤ a) && decide (a ≤ g)) && (decide (0 ≤ b) && decide (b ≤ g))) = _
                    rw [h4]; simp
                  rw [e] at hq; exact hq
              · refine ⟨_, rfl, (fun h4 => nomatch h4), fun h4 => ?_⟩
                have e : pairD g (.tup [.int a, .int b]) = false := by
                  show ((decide (0 ≤ a) && decide (a ≤ g)) && (decide (0 ≤ b) && decide (b ≤ g))) = _
                  rw [h3]; simp
                rw [e] at hq; exact hq
          · rw [pairD_no (fun c d z => by cases z; exact absurd hA Bool.false_ne_true)] at hq; exact hq
    · rw [pairD_no (fun c d z => by cases z; exact absurd h Bool.false_ne_true)] at hq; exact hq
def spIsPoint : DSp := fun ds M q _ => ∃ d, ds = [d] ∧ Plain1 M d ∧ q (.bl (pairD 30 d)) M
theorem sc_ispoint : FnScope ["value"] ["value"] (defScope (top 11)) := ⟨rfl, rfl, rfl, by decide +kernel, rfl, by decide +kernel, by decide +kernel⟩
theorem ok_ispoint (T : Txt w K mg) (GP : DFun P w K mg base 2 "is_pair" spIsPair) (F : FAt K mg "is_point" (top 11)) : DFun P w K mg base 3 "is_point" spIsPoint := by
  obtain ⟨f, fd, hm, F⟩ := F.ex
  refine dfun_of F hm (F.binds (ps := ["value"]) fun _ _ _ _ _ _ us hl => match us, hl with | [_], _ => rfl) sc_ispoint (fun ds M q x h => ?_) fun cdv A outer s H E hr ds M q x h => ?_
  · obtain ⟨d, rfl, _⟩ := h; rfl
  · obtain ⟨d, rfl, p, hq⟩ := h
    obtain ⟨t, ht⟩ := T.greatest
    exact db_one (ds_ret (de_call GP hr (da_cons (de_var 0 rfl (da_cons (de_glob (v := .int 30) ht ⟨t, rfl⟩ (fun _ => .int 30) (da_nil ⟨d, 30, rfl, p, hq⟩)))))))
end
end K11

set_option Elab.async false
set_option linter.all false
set_option maxRecDepth 100000
set_option maxHeartbeats 2000000
namespace K11
open PySem L2 PyProof.Rows NX DL SX
section
variable {P : Program} {w : World} {K : PySem.W.Frag} {mg : Str → Option Value} {base : Heap} {D0 fI CP CD CB : Addr}
/-- the errors' classes -/
structure Errs (P : Program) (K : PySem.W.Frag) (mg : Str → Option Value) (D0 fI CP CD CB : Addr) : Prop where
  base : NBase P K mg D0 fI
  nP : NCls K D0 fI CP
  gP : mg "InvalidPoint" = some (.ref CP)
  nD : NCls K D0 fI CD
  gD : mg "InvalidDirection" = some (.ref CD)
  nB : NCls K D0 fI CB
  gB : mg "BadText" = some (.ref CB)
def dirD : D → Bool
  | .str s => match s.cps.toList with
    | [c] => decide (c ∈ dirs)
    | _ => false
  | _ => false
theorem szN {n : Nat} (h : n ≤ 100) : n ≤ sizeLine := Nat.le_trans h (by rw [sizeLine_eq]; decide)
theorem one_sign {s : Str} (h : (s.length : Int) = 1) : ∃ c, s = ⟨#[c]⟩ := by
  obtain ⟨a⟩ := s
  obtain ⟨l⟩ := a
  match l, h with
  | [c], _ => exact ⟨c, rfl⟩
  | [], h => exact absurd h (by decide)
  | a :: b :: r, h =>
    have e : (Str.length ⟨⟨a :: b :: r⟩⟩ : Int) = (r.length + 1 + 1 : Nat) := rfl
    rw [e] at h
    omega
theorem ruld_dirs : ("ruld" : Str).cps.toList = dirs := by decide +kernel
def ShortS (d : D) : Prop := ∀ s, d = .str s → s.length ≤ sizeLine
def spIsDir : DSp := fun ds M q _ => ∃ d, ds = [d] ∧ Plain M d ∧ ShortS d ∧ q (.bl (dirD d)) M
theorem sc_isdir : FnScope ["value"] ["value"] (defScope (top 12)) := ⟨rfl, rfl, rfl, by decide +kernel, rfl, by decide +kernel, by decide +kernel⟩
theorem dirD_one (c : Nat) : dirD (.str ⟨#[c]⟩) = decide (c ∈ dirs) := rfl
theorem dirD_no {d : D} (h : ∀ c, d ≠ .str ⟨#[c]⟩) : dirD d = false := by
  cases d with
  | str s =>
    obtain ⟨⟨l⟩⟩ := s
    match l with
    | [c] => exact absurd rfl (h c)
    | [] => rfl
    | a :: b :: r => rfl
  | _ => rfl
theorem ok_isdir (T : Txt w K mg) (F : FAt K mg "is_direction" (top 12)) : DFun P w K mg base 1 "is_direction" spIsDir := by
  obtain ⟨f, fd, hm, F⟩ := F.ex
  refine dfun_of F hm (F.binds (ps := ["value"]) fun _ _ _ _ _ _ us hl => match us, hl with | [_], _ => rfl) sc_isdir (fun ds M q x h => ?_) fun cdv A outer s H E hr ds M q x h => ?_
  · obtain ⟨d, rfl, _⟩ := h; rfl
  · obtain ⟨d, rfl, p, hz, hq⟩ := h
    obtain ⟨t, ht⟩ := T.directions
    refine db_one (ds_ret (de_and ?_))
    refine de_callB T.isinstance bb_isinstance (da_cons (de_var 0 rfl (da_cons (de_tyN T.str bt_str (da_nil (isi_str p ⟨_, rfl, fun h => ?_, fun h => ?_⟩))))))
    · obtain ⟨s, rfl⟩ := isStr_ex h
      refine de_and (de_cmp (de_callB T.len bb_len (da_cons (de_var 0 rfl (da_nil (dc_lenS (hz s rfl) ?_))))))
      refine de_int (d2_eqI ⟨_, rfl, fun h2 => de_one (de_cmp (de_var 0 rfl ?_)), fun h2 => ?_⟩)
      · obtain ⟨c, rfl⟩ := one_sign (of_decide_eq_true h2)
        refine de_glob (v := .str "ruld") ht ⟨t, rfl⟩ (fun _ => .str _) (d2_inS ?_)
        rw [ruld_dirs]; exact hq
      · rw [dirD_no (fun c z => by cases z; exact absurd rfl (of_decide_eq_false h2))] at hq; exact hq
    · rw [dirD_no (fun c z => by cases z; exact absurd h Bool.noConfusion)] at hq; exact hq
def mvd (x y : Int) (c : Nat) : D := .tup [.int (x + dxc c), .int (y + dyc c)]
def spMoved : DSp := fun ds M q _ => ∃ x y c, ds = [.tup [.int x, .int y], .str ⟨#[c]⟩] ∧ c ∈ dirs ∧ q (mvd x y c) M
theorem sc_moved : FnScope ["point", "direction", "step"] ["point", "direction"] (defScope (top 13)) := ⟨rfl, rfl, rfl, by decide +kernel, rfl, by decide +kernel, by decide +kernel⟩
theorem di_kd {X : Cx} {a t : Addr} {z : Str} {d : D} {M : Mem} {Q : DK} (h : KDct X.K X.w a z (.ref t)) (r : ∀ B, DR X.K B (.ref t) d) (q : Q d M) : DI X (.obj a) (.str z) M Q :=
  di_of ix_kdict fun B H v w is r1 r2 => by cases r1; cases r2; exact ⟨a, z, .ref t, rfl, rfl, h, vp_now is (r B) q⟩
theorem ok_moved (T : Txt w K mg) (F : FAt K mg "moved" (top 13)) : DFun P w K mg base 1 "moved" spMoved := by
  obtain ⟨f, fd, hm, F⟩ := F.ex
  refine dfun_of F hm (F.binds (ps := ["point", "direction"]) fun _ _ _ _ _ _ us hl => match us, hl with | [_, _], _ => rfl) sc_moved (fun ds M q x h => ?_) fun cdv A outer s H E hr ds M q x h => ?_
  · obtain ⟨_, _, c, rfl, _⟩ := h; rfl
  · obtain ⟨x, y, c, rfl, hc, hq⟩ := h
    obtain ⟨aS, hS, hT⟩ := T.steps
    obtain ⟨t, hk, ht⟩ := hT c hc
    refine db_cons (ds_set 2 sc_moved.nd (de_ix (de_glob (v := .ref aS) (d := .obj aS) hS rfl (fun _ => .obj aS) (de_var 1 rfl (di_kd (d := .tup [.int (dxc c), .int (dyc c)]) hk (fun B => .tup (ht B) (.cons (.int _) (.cons (.int _) .nil))) ?_)))))
    refine db_one (ds_ret (de_tup (da_cons (de_bin (de_ix (de_var 0 rfl (de_int (di_tup rfl ?_)))))))) 
    refine de_ix (de_var 2 rfl (de_int (di_tup rfl (d2_addI ?_))))
    refine da_cons (de_bin (de_ix (de_var 0 rfl (de_int (di_tup rfl (de_ix (de_var 2 rfl (de_int (di_tup rfl (d2_addI (da_nil ⟨szN (by decide : 2 ≤ 100), hq⟩))))))))))) 
def besD (x y : Int) (c : Nat) : D := if pairD 30 (mvd x y c) = true then mvd x y c else .non
def spBeside (CP CD : Addr) : DSp := fun ds M q x => ∃ p d, ds = [p, d] ∧ Plain1 M p ∧ Plain M d ∧ ShortS d ∧ (pairD 30 p = false → x CP p M) ∧ (pairD 30 p = true → dirD d = false → x CD d M) ∧
  ∀ a b c, p = .tup [.int a, .int b] → d = .str ⟨#[c]⟩ → pairD 30 p = true → c ∈ dirs → q (besD a b c) M
theorem sc_beside : FnScope ["point", "direction", "other"] ["point", "direction"] (defScope (top 14)) := ⟨rfl, rfl, rfl, by decide +kernel, rfl, by decide +kernel, by decide +kernel⟩
theorem plain1_pair {M : Mem} {x y : Int} : Plain1 M (.tup [.int x, .int y]) := ⟨.tup, fun es e z hz => by cases e; exact (List.mem_cons.mp hz).elim (fun y => y ▸ .int) fun hz => (List.mem_cons.mp hz).elim (fun y => y ▸ .int) fun hz => nomatch hz⟩
theorem dirD_ex {d : D} (h : dirD d = true) : ∃ c, d = .str ⟨#[c]⟩ ∧ c ∈ dirs := by
  cases d with
  | str s =>
    obtain ⟨⟨l⟩⟩ := s
    match l, h with
    | [c], h => exact ⟨c, rfl, of_decide_eq_true h⟩
  | _ => cases h
theorem ok_beside (T : Txt w K mg) (R : Errs P K mg D0 fI CP CD CB) (GP : DFun P w K mg base 3 "is_point" spIsPoint) (GD : DFun P w K mg base 1 "is_direction" spIsDir) (GM : DFun P w K mg base 1 "moved" spMoved) (F : FAt K mg "beside" (top 14)) : DFun P w K mg base 4 "beside" (spBeside CP CD) := by
  obtain ⟨f, fd, hm, F⟩ := F.ex
  refine dfun_of F hm (F.binds (ps := ["point", "direction"]) fun _ _ _ _ _ _ us hl => match us, hl with | [_, _], _ => rfl) sc_beside (fun ds M q x h => ?_) fun cdv A outer s H E hr ds M q x h => ?_
  · obtain ⟨_, _, rfl, _⟩ := h; rfl
  · obtain ⟨p, d, rfl, p1, p2, hz, h1, h2, h3⟩ := h
    have hr1 : Room 1 _ := hr.mono (by decide)
    refine db_cons (ds_if (dt_not (dt_tru (de_call GP hr (da_cons (de_var 0 rfl (da_nil ⟨p, rfl, p1, ⟨_, rfl, fun k => db_one (ds_raise R.base R.nP R.gP hr (de_var 0 rfl (h1 (notT k)))), fun k => db_nil ?_⟩⟩)))))))
    have k1 := notF k
    refine db_cons (ds_if (dt_not (dt_tru (de_call GD hr1 (da_cons (de_var 1 rfl (da_nil ⟨d, rfl, p2, hz, ⟨_, rfl, fun kk => db_one (ds_raise R.base R.nD R.gD hr (de_var 1 rfl (h2 k1 (notT kk)))), fun kk => db_nil ?_⟩⟩)))))))
    obtain ⟨a, b, rfl, ha, hb, hc, hd⟩ := pairD_ex k1
    obtain ⟨c, rfl, hc⟩ := dirD_ex (notF kk)
    have hq := h3 a b c rfl rfl k1 hc
    refine db_cons (ds_set 2 sc_beside.nd (de_call GM hr1 (da_cons (de_var 0 rfl (da_cons (de_var 1 rfl (da_nil ⟨a, b, c, rfl, hc, ?_⟩)))))))
    refine db_one (ds_ret (de_ifExp (dt_tru (de_call GP hr (da_cons (de_var 2 rfl (da_nil ⟨_, rfl, plain1_pair, ⟨_, rfl, fun k => de_var 2 rfl ?_, fun k => de_non ?_⟩⟩)))))))
    · unfold besD at hq; rw [if_pos k] at hq; exact hq
    · unfold besD at hq; rw [if_neg (by rw [k]; exact Bool.false_ne_true)] at hq; exact hq
end
end K11

set_option Elab.async false
set_option linter.all false
set_option maxRecDepth 100000
set_option maxHeartbeats 2000000
namespace K11
open PySem L2 PyProof.Rows NX DL SX
section
variable {P : Program} {w : World} {K : PySem.W.Frag} {mg : Str → Option Value} {base : Heap} {D0 fI CP CD CB : Addr}
def digs : List Nat := [48, 49, 50, 51, 52, 53, 54, 55, 56, 57]
theorem digits_digs : ("0123456789" : Str).cps.toList = digs := by decide +kernel
theorem zero_S : ("0" : Str) = S [48] := by decide +kernel
def numOk (cs : List Nat) : Bool := decide (0 < cs.length) && (decide (cs.length < 4) && cs.all (fun c => decide (c ∈ digs)))
def numD (cs : List Nat) : D := if numOk cs = true then (if cs = [48] ∨ ¬ cs.head? = some 48 then .int (NumText.digitsVal cs) else .non) else .non
def spNum : DSp := fun ds M q _ => ∃ cs, ds = [.str (S cs)] ∧ cs.length ≤ 100000 ∧ q (numD cs) M
theorem sc_num : FnScope ["word", "sign"] ["word"] (defScope (top 18)) := ⟨rfl, rfl, rfl, by decide +kernel, rfl, by decide +kernel, by decide +kernel⟩
theorem szK {n : Nat} (h : n ≤ 100000) : n ≤ sizeLine := Nat.le_trans h (by rw [sizeLine_eq]; decide)
theorem dig_range {c : Nat} (h : c ∈ digs) : 48 ≤ c ∧ c ≤ 57 := by
  unfold digs at h
  simp only [List.mem_cons, List.not_mem_nil, or_false] at h
  omega
theorem ok_num (T : Txt w K mg) (F : FAt K mg "number_of" (top 18)) : DFun P w K mg base 1 "number_of" spNum := by
  obtain ⟨f, fd, hm, F⟩ := F.ex
  refine dfun_of F hm (F.binds (ps := ["word"]) fun _ _ _ _ _ _ us hl => match us, hl with | [_], _ => rfl) sc_num (fun ds M q x h => ?_) fun cdv A outer s H E hr ds M q x h => ?_
  · obtain ⟨d, rfl, _⟩ := h; rfl
  · obtain ⟨cs, rfl, hl, hq⟩ := h
    obtain ⟨t, ht⟩ := T.digits
    have hz : (S cs).length ≤ sizeLine := by rw [S_len]; exact szK hl
    have no : numOk cs = false → q .non M := fun h => by unfold numD at hq; rw [if_neg (by rw [h]; exact Bool.false_ne_true)] at hq; exact hq
    refine db_cons (ds_if (dt_w (dw_or (dt_not (dt_chain (de_int ?_))))))
    refine de_callB T.len bb_len (da_cons (de_var 0 rfl (da_nil (dc_lenS hz ?_))))
    refine d2_ltI ⟨_, rfl, fun h1 => ?_, fun h1 => ⟨(fun h => nomatch h), fun _ => ⟨fun _ => db_one (ds_ret (de_non (no ?_))), fun h => nomatch h⟩⟩⟩
    refine de_int (d2_ltI ⟨_, rfl, fun h2 => ?_, fun h2 => ⟨fun _ => db_one (ds_ret (de_non (no ?_))), fun h => nomatch h⟩⟩)
    · have h1' : (0 : Int) < (S cs).length := of_decide_eq_true h1
      have h2' : ((S cs).length : Int) < 4 := of_decide_eq_true (notF h2)
      rw [S_len] at h1' h2'
      refine dw_or1 (dt_not (dt_tru (de_callB T.all bb_all (da_cons ?_))))
      refine de_lc 1 sc_num (dit_str (de_var 0 rfl ⟨S cs, rfl, lcr_map (on1 fun c => decide (c ∈ digs)) (by rw [signs_len]; exact hz) (fun d hd M' hM s H C cl fp => ?_) ?_⟩))
      · obtain ⟨c, _, rfl⟩ := signs_mem hd
        refine de_cmp (de_var 1 rfl (de_glob (v := .str "0123456789") ht ⟨t, rfl⟩ (fun _ => .str _) (d2_inS ⟨?_, rfl⟩)))
        rw [digits_digs]; rfl
      · refine da_nil (dc_all rfl (bs := cs.map fun c => decide (c ∈ digs)) (.inl (by rw [on1_signs])) ⟨_, rfl, fun h3 => db_one (ds_ret (de_non (no ?_))), fun h3 => db_nil ?_⟩)
        · have h3' := notT h3
          unfold numOk
          have e : cs.all (fun c => decide (c ∈ digs)) = false := by rw [← h3', List.all_map]; rfl
          rw [e]; simp
        · have h3' := notF h3
          have e : cs.all (fun c => decide (c ∈ digs)) = true := by rw [← h3', List.all_map]; rfl
          have ok : numOk cs = true := by
            unfold numOk
            rw [e, decide_eq_true (by omega : 0 < cs.length), decide_eq_true (by omega : cs.length < 4)]; rfl
          have hi : intText? (S cs) = some ((NumText.digitsVal cs : Nat) : Int) := int_S (List.all_eq_true.mpr fun c hc => by
            have := dig_range (of_decide_eq_true (List.all_eq_true.mp e c hc))
            rw [decide_eq_true this.1, decide_eq_true this.2]; rfl) (fun z => by rw [z] at h1'; exact absurd h1' (by decide)) (by omega)
          unfold numD at hq
          rw [if_pos ok] at hq
          have int640 : (S cs).length ≤ 640 := by rw [S_len]; omega
          refine db_one (ds_ret (de_ifExp (dt_w (dw_or (dt_cmp (de_var 0 rfl (de_str (d2_eqS ⟨_, rfl, fun h4 => ?_, fun h4 => ⟨fun _ => ?_, fun h => nomatch h⟩⟩))))))))
          · refine dw_or1 (dt_not (dt_tru (de_meth PySem.F.plainAttrs_str PySem.F.slot_str_startswith PySem.F.type_str_startswith (de_var 0 rfl ⟨rfl, da_cons (de_str (da_nil (dm_startswith ⟨_, rfl, fun h5 => ?_, fun h5 => ?_⟩)))⟩))))
            · have h5' := notT h5
              rw [zero_S, starts1] at h5'
              rw [if_pos (.inr (of_decide_eq_false h5'))] at hq
              exact de_callTy T.int bt_int (da_cons (de_var 0 rfl (da_nil (dc_intS hi int640 hq))))
            · have h5' := notF h5
              rw [zero_S, starts1] at h5'
              have h4' : ¬ S cs = S [48] := by rw [← zero_S]; exact of_decide_eq_false h4
              rw [if_neg (fun z => z.elim (fun z => h4' (by rw [z])) fun z => z (of_decide_eq_true h5'))] at hq
              exact de_non hq
          · have h4' : S cs = "0" := of_decide_eq_true h4
            rw [zero_S] at h4'
            rw [if_pos (.inl (S_inj h4'))] at hq
            exact de_callTy T.int bt_int (da_cons (de_var 0 rfl (da_nil (dc_intS hi int640 hq))))
    · have h2' := of_decide_eq_false (notT h2)
      rw [S_len] at h2'
      unfold numOk
      rw [decide_eq_false (by omega : ¬ cs.length < 4)]; simp
    · have h1' := of_decide_eq_false h1
      rw [S_len] at h1'
      unfold numOk
      rw [decide_eq_false (by omega : ¬ 0 < cs.length)]; rfl
def stepsB (cs : List Nat) : Bool := decide (cs ≠ []) && cs.all (fun c => decide (c ∈ dirs))
def spSteps : DSp := fun ds M q _ => ∃ cs, ds = [.str (S cs)] ∧ cs.length ≤ 100000 ∧ q (.bl (stepsB cs)) M
theorem sc_steps : FnScope ["word", "sign"] ["word"] (defScope (top 20)) := ⟨rfl, rfl, rfl, by decide +kernel, rfl, by decide +kernel, by decide +kernel⟩
theorem empty_S : ("" : Str) = S [] := by decide +kernel
theorem short1 {c : Nat} : ShortS (.str ⟨#[c]⟩) := fun s e => by cases e; exact szN (by decide : 1 ≤ 100)
theorem ok_steps (T : Txt w K mg) (GD : DFun P w K mg base 1 "is_direction" spIsDir) (F : FAt K mg "is_steps" (top 20)) : DFun P w K mg base 2 "is_steps" spSteps := by
  obtain ⟨f, fd, hm, F⟩ := F.ex
  refine dfun_of F hm (F.binds (ps := ["word"]) fun _ _ _ _ _ _ us hl => match us, hl with | [_], _ => rfl) sc_steps (fun ds M q x h => ?_) fun cdv A outer s H E hr ds M q x h => ?_
  · obtain ⟨d, rfl, _⟩ := h; rfl
  · obtain ⟨cs, rfl, hl, hq⟩ := h
    have hz : (S cs).length ≤ sizeLine := by rw [S_len]; exact szK hl
    refine db_one (ds_ret (de_and (de_cmp (de_var 0 rfl (de_str (d2_neS ⟨_, rfl, fun h1 => ?_, fun h1 => ?_⟩))))))
    · refine de_one (de_callB T.all bb_all (da_cons ?_))
      refine de_lc 1 sc_steps (dit_str (de_var 0 rfl ⟨S cs, rfl, lcr_map (on1 fun c => decide (c ∈ dirs)) (by rw [signs_len]; exact hz) (fun d hd M' hM s H C cl fp => ?_) ?_⟩))
      · obtain ⟨c, _, rfl⟩ := signs_mem hd
        exact de_call GD hr (da_cons (de_var 1 rfl (da_nil ⟨_, rfl, .str, short1, rfl, rfl⟩)))
      · refine da_nil (dc_all rfl (bs := cs.map fun c => decide (c ∈ dirs)) (.inl (by rw [on1_signs])) ?_)
        have h1' : ¬ cs = [] := fun z => by
          have := of_decide_eq_false (notT h1)
          rw [z, empty_S] at this; exact this rfl
        have e : stepsB cs = (cs.map fun c => decide (c ∈ dirs)).all id := by
          unfold stepsB
          rw [decide_eq_true h1', List.all_map]; rfl
        rw [← e]; exact hq
    · have h1' : S cs = "" := of_decide_eq_true (notF h1)
      rw [empty_S] at h1'
      have e : stepsB cs = false := by rw [S_inj h1']; rfl
      rw [e] at hq; exact hq
end
end K11

set_option Elab.async false
set_option linter.all false
set_option maxRecDepth 100000
set_option maxHeartbeats 2000000
namespace K11
open PySem L2 PyProof.Rows NX DL SX
section
variable {P : Program} {w : World} {K : PySem.W.Frag} {mg : Str → Option Value} {base : Heap} {D0 fI CP CD CB : Addr}
def ptD (p : Int × Int) : D := .tup [.int p.1, .int p.2]
def onP (x y : Int) : Bool := (decide (0 ≤ x) && decide (x ≤ 30)) && (decide (0 ≤ y) && decide (y ≤ 30))
theorem onP_pair (x y : Int) : pairD 30 (.tup [.int x, .int y]) = onP x y := rfl
def wlkF : Int → Int → List Nat → Option (List (Int × Int))
  | x, y, [] => some [(x, y)]
  | x, y, c :: cs => if onP (x + dxc c) (y + dyc c) = true then (wlkF (x + dxc c) (y + dyc c) cs).map ((x, y) :: ·) else none
def wlkD (x y : Int) (cs : List Nat) : D := match wlkF x y cs with
  | some ps => .tup (ps.map ptD)
  | none => .non
def spWalked : DSp := fun ds M q _ => ∃ d cs, ds = [d, .str (S cs)] ∧ Plain1 M d ∧ (∀ c ∈ cs, c ∈ dirs) ∧ cs.length ≤ 1000 ∧ (pairD 30 d = false → q .non M) ∧ ∀ x y, d = .tup [.int x, .int y] → onP x y = true → q (wlkD x y cs) M
theorem sc_walked : FnScope ["point", "steps", "found", "step"] ["point", "steps"] (defScope (top 19)) := ⟨rfl, rfl, rfl, by decide +kernel, rfl, by decide +kernel, by decide +kernel⟩
theorem ok_walked (T : Txt w K mg) (GP : DFun P w K mg base 3 "is_point" spIsPoint) (GB : DFun P w K mg base 4 "beside" (spBeside CP CD)) (F : FAt K mg "walked" (top 19)) : DFun P w K mg base 5 "walked" spWalked := by
  obtain ⟨f, fd, hm, F⟩ := F.ex
  refine dfun_of F hm (F.binds (ps := ["point", "steps"]) fun _ _ _ _ _ _ us hl => match us, hl with | [_, _], _ => rfl) sc_walked (fun ds M q x h => ?_) fun cdv A outer s H E hr ds M q x h => ?_
  · obtain ⟨d, cs, rfl, _⟩ := h; rfl
  · obtain ⟨d, cs, rfl, p1, hc, hl, hn, hq⟩ := h
    have hr3 : Room 3 _ := hr.mono (by decide)
    refine db_cons (ds_if (dt_not (dt_tru (de_call GP hr3 (da_cons (de_var 0 rfl (da_nil ⟨d, rfl, p1, ⟨_, rfl, fun k => db_one (ds_ret (de_non (hn (notT k)))), fun k => db_nil ?_⟩⟩)))))))
    obtain ⟨x0, y0, rfl, _⟩ := pairD_ex (notF k)
    have h0 : onP x0 y0 = true := notF k
    have hq := hq x0 y0 rfl h0
    refine db_cons (ds_set 2 sc_walked.nd (de_lstM (da_cons (de_var 0 rfl (da_nil ⟨szN (by decide : 1 ≤ 100), fun l hl0 => ?_⟩)))))
    refine db_cons (ds_for 3 (fun k δ' M' => ∃ x y pre st, δ' = [some (.tup [.int x, .int y]), some (.str (S cs)), some (.obj l), st] ∧ M' = updM M l (.lst ((pre ++ [(x, y)]).map ptD)) ∧ onP x y = true ∧ pre.length ≤ k ∧ wlkF x0 y0 cs = (wlkF x y (cs.drop k)).map (pre ++ ·)) sc_walked.nd
      (dit_str (de_var 1 rfl ⟨S cs, rfl, ⟨x0, y0, [], none, rfl, rfl, h0, Nat.le_refl _, by rw [List.drop_zero]; simp⟩, ?_, ?_⟩)))
    · rintro k d δ' M' hd ⟨x, y, pre, st, rfl, rfl, ho, hp, he⟩
      have hcs : DL.signs (S cs) = cs.map fun c => D.str ⟨#[c]⟩ := rfl
      rw [hcs, List.getElem?_map] at hd
      cases hk : cs[k]? with
      | none => rw [hk] at hd; cases hd
      | some c =>
        rw [hk] at hd
        cases hd
        have hcm : c ∈ dirs := hc c (List.mem_of_getElem? hk)
        have hlt : k < cs.length := (List.getElem?_eq_some_iff.mp hk).1
        have hdrop : cs.drop k = c :: cs.drop (k + 1) := by
          rw [List.drop_eq_getElem_cons hlt]
          congr 1
          exact (List.getElem?_eq_some_iff.mp hk).2
        have hstep : wlkF x y (cs.drop k) = if onP (x + dxc c) (y + dyc c) = true then (wlkF (x + dxc c) (y + dyc c) (cs.drop (k + 1))).map ((x, y) :: ·) else none := by rw [hdrop]; rfl
        refine db_cons (ds_set 0 sc_walked.nd (de_call GB hr (da_cons (de_var 0 rfl (da_cons (de_var 3 rfl (da_nil ⟨_, _, rfl, plain1_pair, .str, short1, (fun z => ?_), (fun _ z => ?_), fun a b c' e1 e2 _ _ => ?_⟩)))))))
        · rw [onP_pair, ho] at z; cases z
        · rw [dirD_one, decide_eq_true hcm] at z; cases z
        · cases e1; cases e2
          refine db_cons (ds_if (dt_cmp (de_var 0 rfl (de_non (d2_isN ⟨_, rfl, fun k1 => ?_, fun k1 => db_nil ?_⟩)))))
          · have hno : ¬ onP (x + dxc c) (y + dyc c) = true := fun z => by
              unfold besD at k1
              have z' : pairD 30 (mvd x y c) = true := z
              rw [if_pos z'] at k1; cases k1
            rw [hstep, if_neg hno] at he
            have e : wlkD x0 y0 cs = .non := by unfold wlkD; rw [he]; rfl
            rw [e] at hq
            exact db_one (ds_ret (de_less (Q0 := q) (M0 := M) (de_non ⟨mle_new hl0, hq⟩)))
          · have hyes : onP (x + dxc c) (y + dyc c) = true := by
              cases z : onP (x + dxc c) (y + dyc c) with
              | true => rfl
              | false =>
                unfold besD at k1
                have z' : ¬ pairD 30 (mvd x y c) = true := by
                  have : pairD 30 (mvd x y c) = false := z
                  rw [this]; exact Bool.false_ne_true
                rw [if_neg z'] at k1; cases k1
            have eb : besD x y c = mvd x y c := by unfold besD; exact if_pos hyes
            rw [eb]
            rw [hstep, if_pos hyes] at he
            refine db_one (ds_expr (de_meth PySem.F.plainAttrs_list PySem.F.slot_list_append PySem.F.type_list_append (de_var 2 rfl ⟨⟨rfl, _, updM_same⟩, da_cons (de_var 0 rfl (da_nil (dm_append updM_same ?_ ?_)))⟩)))
            · rw [List.length_map, List.length_append, List.length_singleton]
              exact Nat.lt_of_lt_of_le (by omega : pre.length + 1 < 2000) (by rw [sizeLine_eq]; decide)
            · refine ⟨x + dxc c, y + dyc c, pre ++ [(x, y)], _, rfl, ?_, hyes, by rw [List.length_append, List.length_singleton]; omega, ?_⟩
              · rw [updM_updM, List.map_append (l₁ := pre ++ [(x, y)])]; rfl
              · rw [he]
                cases wlkF (x + dxc c) (y + dyc c) (cs.drop (k + 1)) with
                | none => rfl
                | some ps => simp
    · rintro δ' M' ⟨x, y, pre, st, rfl, rfl, ho, hp, he⟩
      rw [signs_len, S_len, List.drop_length] at he
      have e : wlkD x0 y0 cs = .tup ((pre ++ [(x, y)]).map ptD) := by unfold wlkD; rw [he]; rfl
      rw [e] at hq
      exact db_one (ds_ret (de_less (Q0 := q) (M0 := M) (de_callTy T.tuple bt_tuple (da_cons (de_var 2 rfl (da_nil (dc_tuple (.mut updM_same) ⟨mle_new hl0, hq⟩)))))))
end
end K11

set_option Elab.async false
set_option linter.all false
set_option maxRecDepth 100000
set_option maxHeartbeats 2000000
namespace K11
open PySem L2 PyProof.Rows NX DL SX
theorem spl_len (S : List Nat) : ∀ (l : List Nat) (k : Nat) (acc : List Nat), (TL.spl S k acc l).length ≤ l.length + 1
  | [], k, acc => by rw [TL.spl_nil]; simp
  | c :: r, 0, acc => by
    show (if TL.pre S (c :: r) = true then acc :: TL.spl S (S.length - 1) [] r else TL.spl S 0 (acc ++ [c]) r).length ≤ _
    split
    · have := spl_len S r (S.length - 1) []
      simp only [List.length_cons]; omega
    · have := spl_len S r 0 (acc ++ [c])
      simp only [List.length_cons]; omega
  | c :: r, k + 1, acc => by
    show (TL.spl S k acc r).length ≤ _
    have := spl_len S r k acc
    simp only [List.length_cons]; omega
theorem spl_part_len (S : List Nat) : ∀ (l : List Nat) (k : Nat) (acc : List Nat), ∀ p ∈ TL.spl S k acc l, p.length ≤ acc.length + l.length
  | [], k, acc => by rw [TL.spl_nil]; intro p hp; simp at hp; subst hp; simp
  | c :: r, 0, acc => by
    show ∀ p ∈ (if TL.pre S (c :: r) = true then acc :: TL.spl S (S.length - 1) [] r else TL.spl S 0 (acc ++ [c]) r), _
    split
    · intro p hp
      rcases List.mem_cons.mp hp with rfl | hp
      · simp
      · have := spl_part_len S r (S.length - 1) [] p hp
        simp only [List.length_cons, List.length_nil] at this ⊢; omega
    · intro p hp
      have := spl_part_len S r 0 (acc ++ [c]) p hp
      simp only [List.length_cons, List.length_append, List.length_nil] at this ⊢; omega
  | c :: r, k + 1, acc => by
    show ∀ p ∈ TL.spl S k acc r, _
    intro p hp
    have := spl_part_len S r k acc p hp
    simp only [List.length_cons]; omega
theorem par_len (S : List Nat) : ∀ (l acc a b : List Nat), TL.par S acc l = some (a, b) → a.length + b.length ≤ acc.length + l.length
  | [], acc, a, b, h => by cases h
  | c :: r, acc, a, b, h => by
    have h' : (if TL.pre S (c :: r) = true then some (acc, (c :: r).drop S.length) else TL.par S (acc ++ [c]) r) = some (a, b) := h
    split at h'
    · cases h'
      rw [List.length_drop]; omega
    · have := par_len S r (acc ++ [c]) a b h'
      simp only [List.length_cons, List.length_append, List.length_nil] at this ⊢; omega
/-- what stands ahead of the first blank, and behind it -/
def cutB (cs : List Nat) : List Nat × List Nat := match TL.par [32] [] cs with
  | some (a, b) => (a, b)
  | none => (cs, [])
theorem cutB_len (cs : List Nat) : (cutB cs).1.length ≤ cs.length ∧ (cutB cs).2.length ≤ cs.length := by
  unfold cutB
  split
  · rename_i a b h
    have := par_len [32] cs [] a b h
    simp only [List.length_nil] at this
    exact ⟨by show a.length ≤ _; omega, by show b.length ≤ _; omega⟩
  · exact ⟨Nat.le_refl _, Nat.zero_le _⟩
def numsOf (hd : List Nat) : List D := (TL.spl [44] 0 [] hd).map numD
def endF (n0 n1 : D) (st : List Nat) : Option (List (Int × Int)) := match n0, n1 with
  | .int x, .int y => if onP x y = true then wlkF x y st else none
  | _, _ => none
def rdF (cs : List Nat) : Option (List (Int × Int)) := match numsOf (cutB cs).1 with
  | [n0, n1] => if (stepsB (cutB cs).2 && decide ((cutB cs).2.length < 401)) = true then endF n0 n1 (cutB cs).2 else none
  | _ => none
theorem blank_S : (" " : Str) = S [32] := by decide +kernel
theorem comma_S : ("," : Str) = S [44] := by decide +kernel
theorem part_S (cs : List Nat) : ∃ sg, Txt.partition (S cs) (S [32]) = (S (cutB cs).1, sg, S (cutB cs).2) := by
  unfold cutB
  cases h : TL.par [32] [] cs with
  | none => exact ⟨_, partition_none (by simp) h⟩
  | some p => obtain ⟨a, b⟩ := p; exact ⟨_, partition_some (by simp) h⟩
theorem numD_cases (cs : List Nat) : numD cs = .non ∨ ∃ n, numD cs = .int n := by
  unfold numD
  split
  · split
    · exact .inr ⟨_, rfl⟩
    · exact .inl rfl
  · exact .inl rfl
section
variable {P : Program} {w : World} {K : PySem.W.Frag} {mg : Str → Option Value} {base : Heap} {D0 fI CP CD CB : Addr}
def spRead (CB : Addr) : DSp := fun ds M q x => ∃ d, ds = [d] ∧ (Plain M d ∨ ∃ a dd v, d = .exo CB a dd v) ∧ (isStr d = false → x CB (.int 1) M) ∧
  ∀ cs, d = .str (S cs) → cs.length ≤ 10000 ∧ (rdF cs = none → x CB (.int 1) M) ∧ ∀ ps, rdF cs = some ps → q (.tup (ps.map ptD)) M
theorem sc_read : FnScope ["text", "head", "sign", "steps", "numbers", "walk", "word"] ["text"] (defScope (top 21)) := ⟨rfl, rfl, rfl, by decide +kernel, rfl, by decide +kernel, by decide +kernel⟩
theorem isStr_S {d : D} (h : isStr d = true) : ∃ cs, d = .str (S cs) := by
  obtain ⟨s, rfl⟩ := isStr_ex h
  exact ⟨s.cps.toList, by rw [S_tl]⟩
theorem plain_num {M : Mem} (cs : List Nat) : Plain M (numD cs) := by
  rcases numD_cases cs with h | ⟨n, h⟩
  · rw [h]; exact .non
  · rw [h]; exact .int
def numS : D → D
  | .str s => numD s.cps.toList
  | _ => .non
theorem ok_read (T : Txt w K mg) (R : Errs P K mg D0 fI CP CD CB) (N : NIs K CB) (hkB : PySem.W.kitOne K (.ref CB) (.type "str") = some false) (GN : DFun P w K mg base 1 "number_of" spNum) (GS : DFun P w K mg base 2 "is_steps" spSteps) (GW : DFun P w K mg base 5 "walked" spWalked)
    (F : FAt K mg "read_walk" (top 21)) : DFun P w K mg base 6 "read_walk" (spRead CB) := by
  obtain ⟨f, fd, hm, F⟩ := F.ex
  refine dfun_of F hm (F.binds (ps := ["text"]) fun _ _ _ _ _ _ us hl => match us, hl with | [_], _ => rfl) sc_read (fun ds M q x h => ?_) fun cdv A outer s H E hr ds M q x h => ?_
  · obtain ⟨d, rfl, _⟩ := h; rfl
  · obtain ⟨d, rfl, hp, hs, hq⟩ := h
    have hr1 : Room 1 _ := hr.mono (by decide)
    have hr2 : Room 2 _ := hr.mono (by decide)
    refine db_cons (ds_if (dt_not (dt_tru ?_)))
    refine de_callB T.isinstance bb_isinstance (da_cons (de_var 0 rfl (da_cons (de_tyN T.str bt_str (da_nil ?_)))))
    have go : ∀ Q : DK, Q (.bl (isStr d)) M → DC (cxOf (L2.CX P w) P w K mg base ["text", "head", "sign", "steps", "numbers", "walk", "word"] "read_walk" (defScope (top 21)) f cdv A outer s H E) (.builtin "isinstance") [d, .ty "str"] M Q := by
      intro Q hQ
      rcases hp with hp | ⟨a, dd, v, rfl⟩
      · exact isi_str hp hQ
      · exact dc_isiX R.nB N (fun B cv r w' rv => by cases r; exact rv) hkB hQ
    refine go _ ⟨_, rfl, fun k => db_one (ds_raise R.base R.nB R.gB hr (de_int (hs (notT k)))), fun k => db_nil ?_⟩
    obtain ⟨cs, rfl⟩ := isStr_S (notF k)
    obtain ⟨hl, hno, hyes⟩ := hq cs rfl
    obtain ⟨hl1, hl2⟩ := cutB_len cs
    have hz : (S cs).length ≤ sizeLine := by rw [S_len]; exact szK (by omega)
    obtain ⟨sg, hsg⟩ := part_S cs
    refine db_cons (ds_unpack3 1 2 3 sc_read.nd (de_meth PySem.F.plainAttrs_str PySem.F.slot_str_partition PySem.F.type_str_partition (de_var 0 rfl ⟨rfl, da_cons (de_str (da_nil (dm_partition (by decide +kernel) hz ⟨_, _, _, rfl, ?_⟩)))⟩)))
    rw [blank_S, hsg]
    -- numbers = [number_of(word) for word in head.split(',')]
    have hparts : (((TL.spl [44] 0 [] (cutB cs).1).map S).map D.str).map numS = numsOf (cutB cs).1 := by
      unfold numsOf
      rw [List.map_map, List.map_map]
      rfl
    refine db_cons (ds_setLc 4 6 sc_read (dit_list (de_meth PySem.F.plainAttrs_str PySem.F.slot_str_split PySem.F.type_str_split (de_var 1 rfl ⟨rfl, da_cons (de_str (da_nil (dm_split (by decide +kernel) (by rw [S_len]; have := szK (show (cutB cs).1.length + 2 ≤ 100000 by omega); exact this) ⟨_, rfl, ?_⟩)))⟩))))
    rw [comma_S, split_S (by simp) (by decide)]
    refine lcr_map numS (by rw [List.length_map, List.length_map]; have := spl_len [44] (cutB cs).1 0 []; exact szK (by omega)) (fun d hd M' hM s H C cl fp => ?_) ?_
    · obtain ⟨z, hz1, rfl⟩ := List.mem_map.mp hd
      obtain ⟨p, hp1, rfl⟩ := List.mem_map.mp hz1
      have := spl_part_len [44] (cutB cs).1 0 [] p hp1
      simp only [List.length_nil] at this
      exact de_call GN hr1 (da_cons (de_var 6 rfl (da_nil ⟨p, rfl, by omega, rfl, rfl⟩)))
    · rw [hparts]
      have bad : ∀ (h : rdF cs = none), x CB (.int 1) M := hno
      have hzs : (S (cutB cs).2).length ≤ sizeLine := by rw [S_len]; exact szK (by omega)
      refine db_cons (ds_if (dt_w (dw_or (dt_cmp (de_callB T.len bb_len (da_cons (de_var 4 rfl (da_nil (dc_lenL .of (de_int (d2_neI ⟨_, rfl, fun k1 => ?_, fun k1 => ⟨fun _ => db_one (ds_raise R.base R.nB R.gB hr (de_int (bad ?_))), fun h => nomatch h⟩⟩)))))))))))
      · have k1' : ((numsOf (cutB cs).1).length : Int) = 2 := of_decide_eq_true (notF k1)
        match hnum : numsOf (cutB cs).1, k1' with
        | [n0, n1], _ =>
          refine dw_or (dt_not (dt_tru (de_call GS hr2 (da_cons (de_var 3 rfl (da_nil ⟨_, rfl, by omega, ⟨_, rfl, fun k2 => ?_, fun k2 => ⟨fun _ => db_one (ds_raise R.base R.nB R.gB hr (de_int (bad ?_))), fun h => nomatch h⟩⟩⟩))))))
          · obtain ⟨t, ht⟩ := T.most
            refine dw_or1 (dt_cmp (de_callB T.len bb_len (da_cons (de_var 3 rfl (da_nil (dc_lenS hzs (de_glob (v := .int 401) ht ⟨t, rfl⟩ (fun _ => .int _) (d2_geI ⟨_, rfl, fun k3 => db_one (ds_raise R.base R.nB R.gB hr (de_int (bad ?_))), fun k3 => db_nil ?_⟩))))))))
            · have k3' := of_decide_eq_true k3
              rw [S_len] at k3'
              unfold rdF
              rw [hnum]
              show (if _ then _ else _) = _
              rw [if_neg (by rw [decide_eq_false (by omega : ¬ (cutB cs).2.length < 401)]; simp)]
            · have k3' := of_decide_eq_false k3
              rw [S_len] at k3'
              have hst := notF k2
              have hrd : rdF cs = endF n0 n1 (cutB cs).2 := by
                unfold rdF
                rw [hnum]
                show (if _ then _ else _) = _
                rw [if_pos (by rw [hst, decide_eq_true (by omega : (cutB cs).2.length < 401)]; rfl)]
              have hdirs : ∀ c ∈ (cutB cs).2, c ∈ dirs := fun c hc => of_decide_eq_true (List.all_eq_true.mp (Bool.and_eq_true_iff.mp hst).2 c hc)
              have hn0 : ∃ p, n0 = numD p := by
                have : n0 ∈ numsOf (cutB cs).1 := by rw [hnum]; simp
                obtain ⟨p, _, e⟩ := List.mem_map.mp this
                exact ⟨p, e.symm⟩
              have hn1 : ∃ p, n1 = numD p := by
                have : n1 ∈ numsOf (cutB cs).1 := by rw [hnum]; simp
                obtain ⟨p, _, e⟩ := List.mem_map.mp this
                exact ⟨p, e.symm⟩
              obtain ⟨a0, rfl⟩ := hn0
              obtain ⟨a1, rfl⟩ := hn1
              have pl : Plain1 M (.tup [numD a0, numD a1]) := ⟨.tup, fun es e z hz => by cases e; exact (List.mem_cons.mp hz).elim (fun y => y ▸ plain_num a0) fun hz => (List.mem_cons.mp hz).elim (fun y => y ▸ plain_num a1) fun hz => nomatch hz⟩
              refine db_cons (ds_set 5 sc_read.nd (de_call GW hr (da_cons (de_tup (da_cons (de_ix (de_var 4 rfl (de_int (di_lst .of rfl ?_)))))))))
              refine da_cons (de_ix (de_var 4 rfl (de_int (di_lst .of rfl (da_nil ⟨szN (by decide : 2 ≤ 100), ?_⟩)))))
              refine da_cons (de_var 3 rfl (da_nil ⟨_, _, rfl, pl, hdirs, by omega, fun z => ?_, fun x1 y1 e1 o1 => ?_⟩))
              · have e0 : rdF cs = none := by
                  rw [hrd]
                  unfold endF
                  split
                  · rename_i x1 y1 e1 e2
                    rw [e1, e2, onP_pair] at z
                    rw [if_neg (by rw [z]; exact Bool.false_ne_true)]
                  · rfl
                refine db_cons (ds_if (dt_cmp (de_var 5 rfl (de_non (d2_isN ⟨_, rfl, fun _ => db_one (ds_raise R.base R.nB R.gB hr (de_int (bad e0))), fun h => nomatch h⟩)))))
              · have e1' : numD a0 = .int x1 ∧ numD a1 = .int y1 := by injection e1 with e1; injection e1 with e2 e3; injection e3 with e3 _; exact ⟨e2, e3⟩
                have e0 : rdF cs = wlkF x1 y1 (cutB cs).2 := by
                  rw [hrd, e1'.1, e1'.2]
                  show (if onP x1 y1 = true then _ else _) = _
                  rw [if_pos o1]
                refine db_cons (ds_if (dt_cmp (de_var 5 rfl (de_non (d2_isN ⟨_, rfl, fun k4 => db_one (ds_raise R.base R.nB R.gB hr (de_int (bad ?_))), fun k4 => db_nil (db_one (ds_ret (de_var 5 rfl ?_)))⟩)))))
                · rw [e0]
                  unfold wlkD at k4
                  cases hw : wlkF x1 y1 (cutB cs).2 with
                  | none => rfl
                  | some ps => rw [hw] at k4; cases k4
                · unfold wlkD at k4 ⊢
                  cases hw : wlkF x1 y1 (cutB cs).2 with
                  | none => rw [hw] at k4; cases k4
                  | some ps => exact hyes ps (by rw [e0, hw])
          · have k2' := notT k2
            unfold rdF
            rw [hnum]
            show (if _ then _ else _) = _
            rw [if_neg (by rw [k2']; simp)]
      · have k1' : ¬ ((numsOf (cutB cs).1).length : Int) = 2 := of_decide_eq_false (notT k1)
        unfold rdF
        split
        · rename_i n0 n1 e
          rw [e] at k1'; exact absurd rfl k1'
        · rfl
end
end K11

set_option Elab.async false
set_option linter.all false
set_option maxRecDepth 100000
set_option maxHeartbeats 2000000
namespace K11
open PySem L2 PyProof.Rows NX DL SX
section
variable {P : Program} {w : World} {K : PySem.W.Frag} {mg : Str → Option Value} {base : Heap} {D0 fI CP CD CB : Addr}
/-! cells, boxes, draws -/
def spCell : DSp := fun ds M q _ => ∃ (ns : List Int) (k : Nat), ds = [.scr (ns.map .int), .int k] ∧ k ≤ 100 ∧ ∀ i : Int, q (.int i) M
theorem sc_cell : FnScope ["_law_script", "_law_k"] ["_law_script", "_law_k"] (defScope (top 23)) := ⟨rfl, rfl, rfl, by decide +kernel, rfl, by decide +kernel, by decide +kernel⟩
theorem ok_cell (T : Txt w K mg) (F : FAt K mg "_law_cell_at" (top 23)) : DFun P w K mg base 1 "_law_cell_at" spCell := by
  obtain ⟨f, fd, hm, F⟩ := F.ex
  refine dfun_of F hm (F.binds (ps := ["_law_script", "_law_k"]) fun _ _ _ _ _ _ us hl => match us, hl with | [_, _], _ => rfl) sc_cell (fun ds M q x h => ?_) fun cdv A outer s H E hr ds M q x h => ?_
  · obtain ⟨_, _, rfl, _⟩ := h; rfl
  · obtain ⟨ns, k, rfl, hk, hq⟩ := h
    refine db_one (ds_ret (de_ifExp (dt_cmp (de_var 1 rfl (de_callB T.len bb_len (da_cons (de_var 0 rfl (da_nil (dc_lenL .scr (d2_ltI ⟨_, rfl, fun h1 => ?_, fun h1 => ?_⟩))))))))))
    · have h2 := of_decide_eq_true h1
      rw [List.length_map] at h2
      have h3 : k < ns.length := by omega
      refine de_ix (de_var 0 rfl (de_var 1 rfl (di_lst (ds := ns.map .int) .scr (atI_nat (v := .int ns[k]) ?_) (hq _))))
      rw [List.getElem?_map, List.getElem?_eq_getElem h3]; rfl
    · exact de_bin (de_bin (de_int (de_var 1 rfl (d2_mulI (.inl ⟨by decide, by decide⟩) (de_int (d2_addI (hq _)))))))
def spBox : DSp := fun ds M q _ => ∃ i : Int, ds = [.int i] ∧ ∀ b n m, M b = none → 0 ≤ n → 0 ≤ m → m < 2147483648 → q (.obj b) (updM M b (.lst [.int n, .int m, .int 0]))
theorem sc_box : FnScope ["_law_cell"] ["_law_cell"] (defScope (top 24)) := ⟨rfl, rfl, rfl, by decide +kernel, rfl, by decide +kernel, by decide +kernel⟩
theorem ok_box (T : Txt w K mg) (F : FAt K mg "_law_box" (top 24)) : DFun P w K mg base 1 "_law_box" spBox := by
  obtain ⟨f, fd, hm, F⟩ := F.ex
  refine dfun_of F hm (F.binds (ps := ["_law_cell"]) fun _ _ _ _ _ _ us hl => match us, hl with | [_], _ => rfl) sc_box (fun ds M q x h => ?_) fun cdv A outer s H E hr ds M q x h => ?_
  · obtain ⟨_, rfl, _⟩ := h; rfl
  · obtain ⟨i, rfl, hq⟩ := h
    refine db_one <| ds_ret <| de_lstM <| da_cons <| de_callB T.max bb_max <| da_cons <| de_int <| da_cons <| de_bin <| de_var 0 rfl <| de_bin <| de_int <| de_int <| d2_powI ⟨by decide, by decide, by decide⟩ <| d2_subI <| da_nil <| dc_max2 rfl ?_
    refine da_cons <| de_bin <| de_var 0 rfl <| de_int <| d2_modI (by decide) <| da_cons <| de_int <| da_nil ⟨szN (by decide : 3 ≤ 100), fun b hb => hq b _ _ hb ?_ ?_ ?_⟩
    · split <;> omega
    · exact Int.emod_nonneg _ (by decide)
    · exact Int.lt_trans (Int.emod_lt_of_pos _ (by decide)) (by decide)
/-- a box in the memory, with at most k draws mixed -/
def Bx (o : MO) (k : Nat) : Prop := ∃ n m c : Int, o = .lst [.int n, .int m, .int c] ∧ 0 ≤ n ∧ 0 ≤ m ∧ m < 2147483648 ∧ 0 ≤ c ∧ c ≤ k
theorem Bx.mono {o : MO} {k j : Nat} (h : Bx o k) (l : k ≤ j) : Bx o j := let ⟨n, m, c, e, a, b, d, f, g⟩ := h; ⟨n, m, c, e, a, b, d, f, by omega⟩
def spTake : DSp := fun ds M q _ => ∃ (b : Addr) (many : Int) (o : MO) (k : Nat), ds = [.obj b, .int many] ∧ M b = some o ∧ Bx o k ∧ k ≤ 1000000 ∧ 0 < many ∧ many < 1073741824 ∧
  ∀ (i : Int) (o' : MO), 0 ≤ i → i < many → Bx o' (k + 1) → q (.int i) (updM M b o')
theorem sc_take : FnScope ["_law_box_here", "_law_many", "_law_digit", "_law_mixed"] ["_law_box_here", "_law_many"] (defScope (top 25)) := ⟨rfl, rfl, rfl, by decide +kernel, rfl, by decide +kernel, by decide +kernel⟩
theorem ok_take (T : Txt w K mg) (F : FAt K mg "_law_take" (top 25)) : DFun P w K mg base 1 "_law_take" spTake := by
  obtain ⟨f, fd, hm, F⟩ := F.ex
  refine dfun_of F hm (F.binds (ps := ["_law_box_here", "_law_many"]) fun _ _ _ _ _ _ us hl => match us, hl with | [_, _], _ => rfl) sc_take (fun ds M q x h => ?_) fun cdv A outer s H E hr ds M q x h => ?_
  · obtain ⟨_, _, _, _, rfl, _⟩ := h; rfl
  · obtain ⟨b, many, o, k, rfl, hb, ⟨n, m, c, rfl, hn, hm0, hm1, hc0, hc1⟩, hk, h0, h1, hq⟩ := h
    have L : LstD M (.obj b) [.int n, .int m, .int c] := .mut hb
    refine db_cons <| ds_if <| dt_cmp <| de_ix <| de_var 0 rfl <| de_int <| di_lst L rfl <| de_int <| d2_gtI ⟨_, rfl, fun k1 => ?_, fun k1 => db_nil ?_⟩
    · refine db_cons <| ds_set 2 sc_take.nd <| de_bin <| de_callTy T.int bt_int <| da_cons <| de_ix <| de_var 0 rfl <| de_int <| di_lst L rfl <| da_nil <| dc_intI <| de_var 1 rfl <| d2_modI h0 ?_
      refine db_cons <| ds_sub <| de_bin <| de_ix <| de_var 0 rfl <| de_int <| di_lst L rfl <| de_var 1 rfl <| d2_divI ⟨h0, h1⟩ <| de_var 0 rfl <| de_int ⟨b, _, _, 0, rfl, rfl, hb, rfl, ?_⟩
      exact db_one <| ds_ret <| de_var 2 rfl <| hq _ _ (Int.emod_nonneg _ (by omega)) (Int.emod_lt_of_pos _ h0) ⟨n / many, m, c, rfl, Int.ediv_nonneg hn (by omega), hm0, hm1, hc0, by omega⟩
    · refine db_cons <| ds_sub <| de_bin <| de_ix <| de_var 0 rfl <| de_int <| di_lst L rfl <| de_int <| d2_addI <| de_var 0 rfl <| de_int ⟨b, _, _, 2, rfl, rfl, hb, rfl, ?_⟩
      have L2 : LstD (updM M b (.lst [.int n, .int m, .int (c + 1)])) (.obj b) [.int n, .int m, .int (c + 1)] := .mut updM_same
      refine db_cons <| ds_set 3 sc_take.nd <| de_bin <| de_bin <| de_callTy T.int bt_int <| da_cons <| de_bin <| de_bin <| de_ix <| de_var 0 rfl <| de_int <| di_lst L2 rfl ?_
      refine de_bin <| de_int <| de_ix <| de_var 0 rfl <| de_int <| di_lst L2 rfl <| d2_mulI (.inl ⟨by decide, by decide⟩) <| d2_addI <| de_int <| d2_addI <| da_nil <| dc_intI <| de_int <| d2_powI ⟨by decide, by decide, ?_⟩ ?_
      · omega
      · refine de_int <| d2_modI (by decide) ?_
        generalize hg : (m + 15486071 * (c + 1) + 307) ^ (5 : Int).toNat % 2147483647 = g
        have g0 : 0 ≤ g := by rw [← hg]; exact Int.emod_nonneg _ (by decide)
        have g1 : g < 2147483647 := by rw [← hg]; exact Int.emod_lt_of_pos _ (by decide)
        refine db_cons <| ds_set 3 sc_take.nd <| de_bin <| de_bin <| de_callTy T.int bt_int <| da_cons <| de_bin <| de_var 3 rfl ?_
        refine de_bin <| de_bin <| de_int <| de_ix <| de_var 0 rfl <| de_int <| di_lst L2 rfl <| d2_mulI (.inl ⟨by decide, by decide⟩) <| de_ix <| de_var 0 rfl <| de_int <| di_lst L2 rfl <| d2_mulI (.inr ⟨?_, ?_⟩) <| d2_addI <| da_nil <| dc_intI <| de_int <| d2_powI ⟨by decide, by decide, ?_⟩ ?_
        · omega
        · omega
        · have hcc : (c + 1) * (c + 1) ≤ 1000001 * 1000001 := Int.mul_le_mul (by omega) (by omega) (by omega) (by omega)
          have hcc0 : 0 ≤ (c + 1) * (c + 1) := Int.mul_nonneg (by omega) (by omega)
          have e : 100151 * (c + 1) * (c + 1) = 100151 * ((c + 1) * (c + 1)) := Int.mul_assoc _ _ _
          rw [e]
          omega
        · refine de_int <| d2_modI (by decide) ?_
          generalize hg2 : (g + 100151 * (c + 1) * (c + 1)) ^ (3 : Int).toNat % 2147483587 = g2
          refine db_one <| ds_ret <| de_bin <| de_bin <| de_var 3 rfl <| de_int <| d2_divI ⟨by decide, by decide⟩ <| de_var 1 rfl <| d2_modI h0 ?_
          exact hq _ _ (Int.emod_nonneg _ (by omega)) (Int.emod_lt_of_pos _ h0) ⟨n, m, c + 1, rfl, hn, hm0, hm1, by omega, by omega⟩
end
end K11

set_option Elab.async false
set_option linter.all false
set_option maxRecDepth 100000
set_option maxHeartbeats 2000000
namespace K11
open PySem L2 PyProof.Rows NX DL SX
/-! the law's own numbers -/
def strN (n : Nat) : List Nat := (Str.ofString (toString (n : Int))).cps.toList
def n31 : List (List Nat) := (List.range 31).map strN
def goodN (cs : List Nat) : Bool := numOk cs && (decide (cs = [48] ∨ ¬ cs.head? = some 48) && decide (NumText.digitsVal cs ≤ 30))
theorem n31_ok : ∀ cs ∈ n31, goodN cs = true := by decide +kernel
theorem good1 : ∀ a ∈ digs, goodN [a] = true → [a] ∈ n31 := by decide +kernel
theorem good2 : ∀ a ∈ digs, ∀ b ∈ digs, goodN [a, b] = true → [a, b] ∈ n31 := by decide +kernel
theorem good3 : ∀ a ∈ digs, ∀ b ∈ digs, ∀ c ∈ digs, goodN [a, b, c] = true → [a, b, c] ∈ n31 := by decide +kernel
theorem good_n31 (cs : List Nat) : goodN cs = decide (cs ∈ n31) := by
  by_cases h : cs ∈ n31
  · rw [decide_eq_true h, n31_ok cs h]
  · rw [decide_eq_false h]
    cases g : goodN cs with
    | false => rfl
    | true =>
      refine absurd ?_ h
      have g0 := (Bool.and_eq_true_iff.mp g).1
      unfold numOk at g0
      rw [Bool.and_eq_true, Bool.and_eq_true] at g0
      obtain ⟨l1, l2, al⟩ := g0
      have l1 := of_decide_eq_true l1
      have l2 := of_decide_eq_true l2
      have al : ∀ c ∈ cs, c ∈ digs := fun c hc => of_decide_eq_true (List.all_eq_true.mp al c hc)
      match cs, l1, l2, al, g with
      | [a], _, _, al, g => exact good1 a (al a (by simp)) g
      | [a, b], _, _, al, g => exact good2 a (al a (by simp)) b (al b (by simp)) g
      | [a, b, c], _, _, al, g => exact good3 a (al a (by simp)) b (al b (by simp)) c (al c (by simp)) g
def lnumD (cs : List Nat) : D := if cs ∈ n31 then .int (NumText.digitsVal cs) else .non
theorem lnum_num (cs : List Nat) : (lnumD cs = .non ∧ ∀ n, numD cs = .int n → ¬ n ≤ 30) ∨ ∃ n : Nat, lnumD cs = .int n ∧ numD cs = .int n ∧ n ≤ 30 := by
  have e := good_n31 cs
  unfold lnumD numD
  by_cases h : cs ∈ n31
  · rw [if_pos h]
    rw [decide_eq_true h] at e
    unfold goodN at e
    rw [Bool.and_eq_true, Bool.and_eq_true] at e
    obtain ⟨e1, e2, e3⟩ := e
    rw [if_pos e1, if_pos (of_decide_eq_true e2)]
    exact .inr ⟨_, rfl, rfl, of_decide_eq_true e3⟩
  · rw [if_neg h]
    rw [decide_eq_false h] at e
    refine .inl ⟨rfl, fun n hn hle => ?_⟩
    split at hn
    · rename_i k1
      split at hn
      · rename_i k2
        injection hn with hn
        unfold goodN at e
        rw [k1, decide_eq_true k2, decide_eq_true (by omega : NumText.digitsVal cs ≤ 30)] at e
        cases e
      · cases hn
    · cases hn
section
variable {P : Program} {w : World} {K : PySem.W.Frag} {mg : Str → Option Value} {base : Heap} {D0 fI CP CD CB : Addr}
theorem ruld_S : ("ruld" : Str) = S dirs := by decide +kernel
theorem occ_r : Builtin.Str.occurrences ("ruld" : Str) ⟨#[114]⟩ 0 ("ruld" : Str).length 1 = 0 :: [] := by decide +kernel
theorem occ_u : Builtin.Str.occurrences ("ruld" : Str) ⟨#[117]⟩ 0 ("ruld" : Str).length 1 = 1 :: [] := by decide +kernel
theorem occ_l : Builtin.Str.occurrences ("ruld" : Str) ⟨#[108]⟩ 0 ("ruld" : Str).length 1 = 2 :: [] := by decide +kernel
theorem occ_d : Builtin.Str.occurrences ("ruld" : Str) ⟨#[100]⟩ 0 ("ruld" : Str).length 1 = 3 :: [] := by decide +kernel
theorem sc_step : FnScope ["_law_point", "_law_sign", "_law_x", "_law_y"] ["_law_point", "_law_sign"] (defScope (top 26)) := ⟨rfl, rfl, rfl, by decide +kernel, rfl, by decide +kernel, by decide +kernel⟩
def idxD (c : Nat) : Nat := if c = 114 then 0 else if c = 117 then 1 else if c = 108 then 2 else 3
theorem occ_all : ∀ c ∈ dirs, Builtin.Str.occurrences ("ruld" : Str) ⟨#[c]⟩ 0 ("ruld" : Str).length 1 = idxD c :: [] := by decide +kernel
theorem ok_step (T : Txt w K mg) (F : FAt K mg "_law_step" (top 26)) : DFun P w K mg base 1 "_law_step" spMoved := by
  obtain ⟨f, fd, hm, F⟩ := F.ex
  refine dfun_of F hm (F.binds (ps := ["_law_point", "_law_sign"]) fun _ _ _ _ _ _ us hl => match us, hl with | [_, _], _ => rfl) sc_step (fun ds M q x h => ?_) fun cdv A outer s H E hr ds M q x h => ?_
  · obtain ⟨_, _, _, rfl, _⟩ := h; rfl
  · obtain ⟨x, y, c, rfl, hc, hq⟩ := h
    refine db_cons <| ds_unpack2 2 3 sc_step.nd <| de_var 0 rfl ⟨_, _, rfl, ?_⟩
    refine db_one <| ds_ret <| de_ix <| de_lst <| da_cons <| de_tup <| da_cons <| de_bin <| de_var 2 rfl <| de_int <| d2_addI <| da_cons <| de_var 3 rfl <| da_nil ⟨szN (by decide : 2 ≤ 100), ?_⟩
    refine da_cons <| de_tup <| da_cons <| de_var 2 rfl <| da_cons <| de_bin <| de_var 3 rfl <| de_int <| d2_addI <| da_nil ⟨szN (by decide : 2 ≤ 100), ?_⟩
    refine da_cons <| de_tup <| da_cons <| de_bin <| de_var 2 rfl <| de_int <| d2_subI <| da_cons <| de_var 3 rfl <| da_nil ⟨szN (by decide : 2 ≤ 100), ?_⟩
    refine da_cons <| de_tup <| da_cons <| de_var 2 rfl <| da_cons <| de_bin <| de_var 3 rfl <| de_int <| d2_subI <| da_nil ⟨szN (by decide : 2 ≤ 100), ?_⟩
    refine da_nil ⟨szN (by decide : 4 ≤ 100), ?_⟩
    refine de_meth PySem.F.plainAttrs_str PySem.F.slot_str_index PySem.F.type_str_index <| de_str ⟨rfl, da_cons <| de_var 1 rfl <| da_nil <| dm_index (occ_all c hc) <| di_lst .of (d := mvd x y c) ?_ hq⟩
    unfold dirs at hc
    simp only [List.mem_cons, List.not_mem_nil, or_false] at hc
    rcases hc with rfl | rfl | rfl | rfl
    · show some _ = some _
      simp [mvd, dxc, dyc, idxD]
    · show some _ = some _
      simp [mvd, dxc, dyc, idxD]
    · show some _ = some _
      simp [mvd, dxc, dyc, idxD]; omega
    · show some _ = some _
      simp [mvd, dxc, dyc, idxD]; omega
theorem log_small {n : Nat} (h : n ≤ 31) : n.log2 < 1920 := by
  by_cases z : n = 0
  · subst z; decide
  · exact (Nat.log2_lt z).mpr (Nat.lt_of_le_of_lt h (Nat.lt_of_lt_of_le (by decide : 31 < 2 ^ 5) (Nat.pow_le_pow_right (by decide) (by decide))))
def spLNum : DSp := fun ds M q _ => ∃ cs, ds = [.str (S cs)] ∧ cs.length ≤ 100000 ∧ q (lnumD cs) M
theorem sc_lnum : FnScope ["_law_word", "_law_number_here"] ["_law_word"] (defScope (top 27)) := ⟨rfl, rfl, rfl, by decide +kernel, rfl, by decide +kernel, by decide +kernel⟩
def strD : D → D
  | .int i => .str (toString i)
  | d => d
theorem strs31 : (rngL 0 (31 : Int).toNat).map strD = (n31.map S).map .str := by
  unfold rngL n31
  rw [List.map_map, List.map_map, List.map_map]
  refine List.map_congr_left fun k _ => ?_
  show D.str (Str.ofString (toString ((0 : Int) + (k : Nat)))) = .str (S (strN k))
  unfold strN
  rw [S_tl, Int.zero_add]
theorem ok_lnum (T : Txt w K mg) (F : FAt K mg "_law_number" (top 27)) : DFun P w K mg base 1 "_law_number" spLNum := by
  obtain ⟨f, fd, hm, F⟩ := F.ex
  refine dfun_of F hm (F.binds (ps := ["_law_word"]) fun _ _ _ _ _ _ us hl => match us, hl with | [_], _ => rfl) sc_lnum (fun ds M q x h => ?_) fun cdv A outer s H E hr ds M q x h => ?_
  · obtain ⟨_, rfl, _⟩ := h; rfl
  · obtain ⟨cs, rfl, hl, hq⟩ := h
    refine db_one <| ds_ret <| de_ifExp <| dt_cmp <| de_var 0 rfl <| de_lc 1 sc_lnum <| dit_range1 T.range <| de_int ⟨31, rfl, by decide, by decide, lcr_map strD (szN (by decide)) (fun d hd M' hM s H C cl fp => ?_) ?_⟩
    · obtain ⟨k, hk⟩ := List.getElem?_of_mem hd
      obtain ⟨hk1, rfl⟩ := rngL_get hk
      refine de_callTy T.str bt_str <| da_cons <| de_var 1 rfl <| da_nil <| dc_strI ?_ ⟨rfl, rfl⟩
      have : ((0 : Int) + (k : Nat)).natAbs ≤ 31 := by omega
      exact log_small this
    · rw [strs31]
      refine d2_inL .of rfl (flat_strs _) ⟨_, rfl, fun k1 => ?_, fun k1 => ?_⟩
      · rw [inF_strs] at k1
        have k2 : cs ∈ n31 := by
          obtain ⟨z, hz, e⟩ := List.mem_map.mp (of_decide_eq_true k1)
          rw [← S_inj e]; exact hz
        have g := n31_ok cs k2
        unfold goodN numOk at g
        rw [Bool.and_eq_true, Bool.and_eq_true, Bool.and_eq_true] at g
        obtain ⟨⟨g1, g2, g3⟩, _⟩ := g
        have g1 := of_decide_eq_true g1
        have g2 := of_decide_eq_true g2
        have hi : intText? (S cs) = some ((NumText.digitsVal cs : Nat) : Int) := int_S (List.all_eq_true.mpr fun c hc => by
            have := dig_range (of_decide_eq_true (List.all_eq_true.mp g3 c hc))
            rw [decide_eq_true this.1, decide_eq_true this.2]; rfl) (fun z => by rw [z] at g1; exact absurd g1 (by decide)) (by omega)
        unfold lnumD at hq
        rw [if_pos k2] at hq
        exact de_callTy T.int bt_int <| da_cons <| de_var 0 rfl <| da_nil <| dc_intS hi (by rw [S_len]; omega) hq
      · rw [inF_strs] at k1
        have k2 : ¬ cs ∈ n31 := fun z => of_decide_eq_false k1 (List.mem_map.mpr ⟨cs, z, rfl⟩)
        unfold lnumD at hq
        rw [if_neg k2] at hq
        exact de_non hq
end
end K11

set_option Elab.async false
set_option linter.all false
set_option maxRecDepth 100000
set_option maxHeartbeats 2000000
namespace K11
open PySem L2 PyProof.Rows NX DL SX
/-- the law's own walk -/
def dwF : Int → Int → List Nat → Option (List (Int × Int))
  | x, y, [] => some [(x, y)]
  | x, y, c :: cs => if c ∈ dirs then (if onP (x + dxc c) (y + dyc c) = true then (dwF (x + dxc c) (y + dyc c) cs).map ((x, y) :: ·) else none) else none
def oD : Option (List (Int × Int)) → D
  | some ps => .tup (ps.map ptD)
  | none => .non
def endL (ns : List D) (st : List Nat) : Option (List (Int × Int)) := match ns with
  | [.int x, .int y] => dwF x y st
  | _ => none
def dueF (cs : List Nat) : Option (List (Int × Int)) := match TL.spl [32] 0 [] cs with
  | [hd, st] => if st = [] ∨ 400 < st.length then none else endL ((TL.spl [44] 0 [] hd).map lnumD) st
  | _ => none
section
variable {P : Program} {w : World} {K : PySem.W.Frag} {mg : Str → Option Value} {base : Heap} {D0 fI CP CD CB : Addr}
def lnumS : D → D
  | .str s => lnumD s.cps.toList
  | _ => .non
theorem lnum_flat (cs : List Nat) : flatD (lnumD cs) = true := by unfold lnumD; split <;> rfl
theorem lnum_cases (cs : List Nat) : lnumD cs = .non ∨ ∃ n : Nat, lnumD cs = .int n := by unfold lnumD; split; exact .inr ⟨_, rfl⟩; exact .inl rfl
theorem ruld_codes : ("ruld" : Str).cps.toList = dirs := by decide +kernel
theorem atI_last {α : Type} (l : List α) (a : α) : atI (l ++ [a]) (-1) = some a := by
  unfold atI ixN
  simp
  rw [if_pos (by omega)]
  show (l ++ [a])[(-1 + ((l.length : Int) + 1)).toNat]? = some a
  rw [show (-1 + ((l.length : Int) + 1)).toNat = l.length by omega]
  simp
def spDue : DSp := fun ds M q _ => ∃ cs, ds = [.str (S cs)] ∧ cs.length ≤ 10000 ∧ q (oD (dueF cs)) M
theorem sc_due : FnScope ["_law_text", "_law_words", "_law_numbers", "_law_found", "_law_sign", "_law_point", "_law_word"] ["_law_text"] (defScope (top 28)) := ⟨rfl, rfl, rfl, by decide +kernel, rfl, by decide +kernel, by decide +kernel⟩
theorem ok_due (T : Txt w K mg) (GN : DFun P w K mg base 1 "_law_number" spLNum) (GS : DFun P w K mg base 1 "_law_step" spMoved) (F : FAt K mg "_law_due" (top 28)) : DFun P w K mg base 2 "_law_due" spDue := by
  obtain ⟨f, fd, hm, F⟩ := F.ex
  refine dfun_of F hm (F.binds (ps := ["_law_text"]) fun _ _ _ _ _ _ us hl => match us, hl with | [_], _ => rfl) sc_due (fun ds M q x h => ?_) fun cdv A outer s H E hr ds M q x h => ?_
  · obtain ⟨_, rfl, _⟩ := h; rfl
  · obtain ⟨cs, rfl, hl, hq⟩ := h
    have hr1 : Room 1 _ := hr.mono (by decide)
    have none_q : dueF cs = none → q .non M := fun e => by rw [e] at hq; exact hq
    refine db_cons <| ds_set 1 sc_due.nd <| de_meth PySem.F.plainAttrs_str PySem.F.slot_str_split PySem.F.type_str_split <| de_var 0 rfl ⟨rfl, da_cons <| de_str <| da_nil <| dm_split (by decide +kernel) (by rw [S_len]; exact szK (by omega)) ?_⟩
    rw [blank_S, split_S (by simp) (by decide)]
    have hlen := spl_part_len [32] cs 0 []
    refine db_cons <| ds_if <| dt_w <| dw_or <| dt_cmp <| de_callB T.len bb_len <| da_cons <| de_var 1 rfl <| da_nil <| dc_lenL .of <| de_int <| d2_neI ⟨_, rfl, fun k1 => ?_, fun k1 => ⟨fun _ => db_one <| ds_ret <| de_non <| none_q ?_, fun h => nomatch h⟩⟩
    · have k1' := of_decide_eq_true (notF k1)
      rw [List.length_map, List.length_map] at k1'
      match hsp : TL.spl [32] 0 [] cs, k1', hlen with
      | [hd, st], _, hlen =>
        have hd1 : hd.length ≤ cs.length := by have := hlen hd (by simp); simpa using this
        have st1 : st.length ≤ cs.length := by have := hlen st (by simp); simpa using this
        refine dw_or <| dt_cmp <| de_ix <| de_var 1 rfl <| de_int <| di_lst .of rfl <| de_str <| d2_eqS ⟨_, rfl, fun k2 => ?_, fun k2 => ⟨fun _ => db_one <| ds_ret <| de_non <| none_q ?_, fun h => nomatch h⟩⟩
        · have k2' : ¬ st = [] := fun z => of_decide_eq_false k2 (by rw [z]; decide +kernel)
          refine dw_or1 <| dt_cmp <| de_callB T.len bb_len <| da_cons <| de_ix <| de_var 1 rfl <| de_int <| di_lst .of rfl <| da_nil <| dc_lenS (by rw [S_len]; exact szK (by omega)) <| de_int <| d2_gtI ⟨_, rfl, fun k3 => db_one <| ds_ret <| de_non <| none_q ?_, fun k3 => db_nil ?_⟩
          · have k3' := of_decide_eq_true k3
            rw [S_len] at k3'
            unfold dueF
            rw [hsp]
            exact if_pos (.inr (by omega))
          · have k3' := of_decide_eq_false k3
            rw [S_len] at k3'
            have hdue : dueF cs = endL ((TL.spl [44] 0 [] hd).map lnumD) st := by
              unfold dueF
              rw [hsp]
              exact if_neg (fun z => z.elim k2' (by omega))
            refine db_cons <| ds_setLc 2 6 sc_due <| dit_list <| de_meth PySem.F.plainAttrs_str PySem.F.slot_str_split PySem.F.type_str_split <| de_ix <| de_var 1 rfl <| de_int <| di_lst .of rfl ⟨rfl, da_cons <| de_str <| da_nil <| dm_split (by decide +kernel) (by rw [S_len]; exact szK (by omega)) ⟨_, rfl, ?_⟩⟩
            rw [comma_S, split_S (by simp) (by decide)]
            refine lcr_map lnumS (by rw [List.length_map, List.length_map]; have := spl_len [44] hd 0 []; exact szK (by omega)) (fun d hd' M' hM s H C cl fp => ?_) ?_
            · obtain ⟨z, hz1, rfl⟩ := List.mem_map.mp hd'
              obtain ⟨p, hp1, rfl⟩ := List.mem_map.mp hz1
              have := spl_part_len [44] hd 0 [] p hp1
              simp only [List.length_nil] at this
              exact de_call GN hr1 <| da_cons <| de_var 6 rfl <| da_nil ⟨p, rfl, by omega, rfl, rfl⟩
            · have hparts : (((TL.spl [44] 0 [] hd).map S).map D.str).map lnumS = (TL.spl [44] 0 [] hd).map lnumD := by
                rw [List.map_map, List.map_map]; rfl
              rw [hparts]
              have hfl : ((TL.spl [44] 0 [] hd).map lnumD).all flatD = true := List.all_eq_true.mpr fun d hd' => by
                obtain ⟨p, _, rfl⟩ := List.mem_map.mp hd'
                exact lnum_flat p
              refine db_cons <| ds_if <| dt_w <| dw_or <| dt_cmp <| de_callB T.len bb_len <| da_cons <| de_var 2 rfl <| da_nil <| dc_lenL .of <| de_int <| d2_neI ⟨_, rfl, fun k4 => ?_, fun k4 => ⟨fun _ => db_one <| ds_ret <| de_non <| none_q ?_, fun h => nomatch h⟩⟩
              · have k4' := of_decide_eq_true (notF k4)
                rw [List.length_map] at k4'
                match hsq : TL.spl [44] 0 [] hd, k4' with
                | [pa, pb], _ =>
                  rw [hsq] at hdue hfl
                  refine dw_or1 <| dt_cmp <| de_non <| de_var 2 rfl <| d2_inL .of rfl hfl ⟨_, rfl, fun k5 => db_one <| ds_ret <| de_non <| none_q ?_, fun k5 => db_nil ?_⟩
                  · rw [hdue]
                    rcases lnum_cases pa with ea | ⟨na, ea⟩
                    · show endL [lnumD pa, lnumD pb] st = none
                      rw [ea]; rfl
                    · rcases lnum_cases pb with eb | ⟨nb, eb⟩
                      · show endL [lnumD pa, lnumD pb] st = none
                        rw [ea, eb]; rfl
                      · have : inF .non [lnumD pa, lnumD pb] = true := k5
                        rw [ea, eb] at this; cases this
                  · rcases lnum_cases pa with ea | ⟨x0, ea⟩
                    · have : inF .non [lnumD pa, lnumD pb] = false := k5
                      rw [ea] at this; cases this
                    · rcases lnum_cases pb with eb | ⟨y0, eb⟩
                      · have : inF .non [lnumD pa, lnumD pb] = false := k5
                        rw [ea, eb] at this; cases this
                      · have hdue : dueF cs = dwF x0 y0 st := by
                          rw [hdue]
                          show endL [lnumD pa, lnumD pb] st = _
                          rw [ea, eb]; rfl
                        show DB _ _ _ [_, _, some (.lst [lnumD pa, lnumD pb]), _, _, _, _] _ _
                        rw [ea, eb]
                        refine db_cons <| ds_set 3 sc_due.nd <| de_lstM <| da_cons <| de_tup <| da_cons <| de_ix <| de_var 2 rfl <| de_int <| di_lst .of rfl ?_
                        refine da_cons <| de_ix <| de_var 2 rfl <| de_int <| di_lst .of rfl <| da_nil ⟨szN (by decide : 2 ≤ 100), da_nil ⟨szN (by decide : 1 ≤ 100), fun l hl0 => ?_⟩⟩
                        refine db_cons <| ds_for 4 (fun k δ' M' => ∃ x y pre s4 s5, δ' = [some (.str (S cs)), some (.lst [.str (S hd), .str (S st)]), some (.lst [.int x0, .int y0]), some (.obj l), s4, s5, none] ∧ M' = updM M l (.lst ((pre ++ [(x, y)]).map ptD)) ∧ pre.length ≤ k ∧ dwF x0 y0 st = (dwF x y (st.drop k)).map (pre ++ ·)) sc_due.nd <| dit_str <| de_ix <| de_var 1 rfl <| de_int <| di_lst .of rfl ⟨S st, rfl, ⟨x0, y0, [], none, none, rfl, rfl, Nat.le_refl _, by rw [List.drop_zero]; simp⟩, ?_, ?_⟩
                        · rintro k d δ' M' hdd ⟨x, y, pre, s4, s5, rfl, rfl, hp, he⟩
                          have hcs : DL.signs (S st) = st.map fun c => D.str ⟨#[c]⟩ := rfl
                          rw [hcs, List.getElem?_map] at hdd
                          cases hk : st[k]? with
                          | none => rw [hk] at hdd; cases hdd
                          | some c =>
                            rw [hk] at hdd
                            cases hdd
                            have hlt : k < st.length := (List.getElem?_eq_some_iff.mp hk).1
                            have hdrop : st.drop k = c :: st.drop (k + 1) := by
                              rw [List.drop_eq_getElem_cons hlt]
                              congr 1
                              exact (List.getElem?_eq_some_iff.mp hk).2
                            have hstep : dwF x y (st.drop k) = if c ∈ dirs then (if onP (x + dxc c) (y + dyc c) = true then (dwF (x + dxc c) (y + dyc c) (st.drop (k + 1))).map ((x, y) :: ·) else none) else none := by rw [hdrop]; rfl
                            have lost : dwF x y (st.drop k) = none → q .non M := fun e => none_q (by rw [hdue, he, e]; rfl)
                            refine db_cons <| ds_if <| dt_cmp <| de_var 4 rfl <| de_str <| d2_notinS ⟨_, rfl, fun j1 => db_one <| ds_ret <| de_less (Q0 := q) (M0 := M) <| de_non ⟨mle_new hl0, lost ?_⟩, fun j1 => db_nil ?_⟩
                            · have j1' : ¬ c ∈ dirs := fun z => by
                                rw [ruld_codes, decide_eq_true z] at j1; cases j1
                              rw [hstep, if_neg j1']
                            · have j1' : c ∈ dirs := by
                                have := notF j1
                                rw [ruld_codes] at this
                                exact of_decide_eq_true this
                              rw [if_pos j1'] at hstep
                              have hlast : atI ((pre ++ [(x, y)]).map ptD) (-1) = some (ptD (x, y)) := by
                                rw [List.map_append]; exact atI_last _ _
                              refine db_cons <| ds_set 5 sc_due.nd <| de_call GS hr1 <| da_cons <| de_ix <| de_var 3 rfl <| de_un <| de_int <| d1_neg <| di_lst (.mut updM_same) hlast <| da_cons <| de_var 4 rfl <| da_nil ⟨x, y, c, rfl, j1', ?_⟩
                              have onP_eq : onP (x + dxc c) (y + dyc c) = ((decide (0 ≤ x + dxc c) && decide (x + dxc c < 31)) && (decide (0 ≤ y + dyc c) && decide (y + dyc c < 31))) := by
                                unfold onP
                                rw [show decide (x + dxc c ≤ 30) = decide (x + dxc c < 31) from decide_eq_decide.mpr (by omega), show decide (y + dyc c ≤ 30) = decide (y + dyc c < 31) from decide_eq_decide.mpr (by omega)]
                              have off : onP (x + dxc c) (y + dyc c) = false → q .non M := fun e => lost (by rw [hstep, if_neg (by rw [e]; exact Bool.false_ne_true)])
                              rw [onP_eq] at off
                              refine db_cons <| ds_if <| dt_w <| dw_or <| dt_not <| dt_chain <| de_int <| de_ix <| de_var 5 rfl <| de_int <| di_tup rfl <| d2_leI ⟨_, rfl, fun b1 => ?_, fun b1 => ⟨(fun h => nomatch h), fun _ => ⟨fun _ => db_one <| ds_ret <| de_less (Q0 := q) (M0 := M) <| de_non ⟨mle_new hl0, off ?_⟩, fun h => nomatch h⟩⟩⟩
                              · refine de_int <| d2_ltI ⟨_, rfl, fun b2 => ?_, fun b2 => ⟨fun _ => db_one <| ds_ret <| de_less (Q0 := q) (M0 := M) <| de_non ⟨mle_new hl0, off ?_⟩, fun h => nomatch h⟩⟩
                                · refine dw_or1 <| dt_not <| dt_chain <| de_int <| de_ix <| de_var 5 rfl <| de_int <| di_tup rfl <| d2_leI ⟨_, rfl, fun b3 => ?_, fun b3 => ⟨fun _ => db_one <| ds_ret <| de_less (Q0 := q) (M0 := M) <| de_non ⟨mle_new hl0, off ?_⟩, fun h => nomatch h⟩⟩
                                  · refine de_int <| d2_ltI ⟨_, rfl, fun b4 => db_one <| ds_ret <| de_less (Q0 := q) (M0 := M) <| de_non ⟨mle_new hl0, off ?_⟩, fun b4 => db_nil ?_⟩
                                    · rw [notT b4]; simp
                                    · have hyes : onP (x + dxc c) (y + dyc c) = true := by
                                        rw [onP_eq, b1, notF b2, b3, notF b4]; rfl
                                      rw [hstep, if_pos hyes] at he
                                      refine db_one <| ds_expr <| de_meth PySem.F.plainAttrs_list PySem.F.slot_list_append PySem.F.type_list_append <| de_var 3 rfl ⟨⟨rfl, _, updM_same⟩, da_cons <| de_var 5 rfl <| da_nil <| dm_append updM_same ?_ ?_⟩
                                      · rw [List.length_map, List.length_append, List.length_singleton]
                                        exact Nat.lt_of_lt_of_le (by omega : pre.length + 1 < 2000) (by rw [sizeLine_eq]; decide)
                                      · refine ⟨x + dxc c, y + dyc c, pre ++ [(x, y)], _, _, rfl, ?_, by rw [List.length_append, List.length_singleton]; omega, ?_⟩
                                        · rw [updM_updM, List.map_append (l₁ := pre ++ [(x, y)])]; rfl
                                        · rw [he]
                                          cases dwF (x + dxc c) (y + dyc c) (st.drop (k + 1)) with
                                          | none => rfl
                                          | some ps => simp
                                  · rw [b3]; simp
                                · rw [notT b2]; simp
                              · rw [b1]; simp
                        · rintro δ' M' ⟨x, y, pre, s4, s5, rfl, rfl, hp, he⟩
                          rw [signs_len, S_len, List.drop_length] at he
                          have e : oD (dueF cs) = .tup ((pre ++ [(x, y)]).map ptD) := by rw [hdue, he]; rfl
                          rw [e] at hq
                          exact db_one <| ds_ret <| de_less (Q0 := q) (M0 := M) <| de_callTy T.tuple bt_tuple <| da_cons <| de_var 3 rfl <| da_nil <| dc_tuple (.mut updM_same) ⟨mle_new hl0, hq⟩
              · rw [hdue]
                have k4' := of_decide_eq_false (notT k4)
                rw [List.length_map] at k4'
                unfold endL
                split
                · rename_i x y e
                  have := congrArg List.length e
                  rw [List.length_map] at this
                  rw [this] at k4'
                  exact absurd rfl k4'
                · rfl
        · have k2' : S st = "" := of_decide_eq_true k2
          have k2'' : st = [] := S_inj (by rw [k2']; decide +kernel)
          unfold dueF
          rw [hsp]
          exact if_pos (.inl k2'')
    · have k1' := of_decide_eq_false (notT k1)
      rw [List.length_map, List.length_map] at k1'
      unfold dueF
      split
      · rename_i e
        rw [e] at k1'; exact absurd rfl k1'
      · rfl
end
end K11

set_option Elab.async false
set_option linter.all false
set_option maxRecDepth 100000
set_option maxHeartbeats 2000000
namespace K11
open PySem L2 PyProof.Rows NX DL SX
/-! what is read is what is due -/
theorem spl_ne (S : List Nat) : ∀ (l : List Nat) (k : Nat) (acc : List Nat), TL.spl S k acc l ≠ []
  | [], k, acc => by rw [TL.spl_nil]; simp
  | c :: r, 0, acc => by
    show (if TL.pre S (c :: r) = true then acc :: TL.spl S (S.length - 1) [] r else TL.spl S 0 (acc ++ [c]) r) ≠ []
    split
    · simp
    · exact spl_ne S r 0 _
  | c :: r, k + 1, acc => by
    show TL.spl S k acc r ≠ []
    exact spl_ne S r k acc
theorem par_spl_none : ∀ (l acc : List Nat), TL.par [32] acc l = none → TL.spl [32] 0 acc l = [acc ++ l]
  | [], acc, _ => by rw [TL.spl_nil]; simp
  | c :: r, acc, h => by
    have h' : (if TL.pre [32] (c :: r) = true then some (acc, (c :: r).drop 1) else TL.par [32] (acc ++ [c]) r) = none := h
    show (if TL.pre [32] (c :: r) = true then acc :: TL.spl [32] 0 [] r else TL.spl [32] 0 (acc ++ [c]) r) = _
    split at h'
    · cases h'
    · rename_i k
      rw [if_neg k, par_spl_none r _ h']; simp
theorem par_spl_some : ∀ (l acc a b : List Nat), TL.par [32] acc l = some (a, b) → TL.spl [32] 0 acc l = a :: TL.spl [32] 0 [] b
  | [], acc, a, b, h => by cases h
  | c :: r, acc, a, b, h => by
    have h' : (if TL.pre [32] (c :: r) = true then some (acc, (c :: r).drop 1) else TL.par [32] (acc ++ [c]) r) = some (a, b) := h
    show (if TL.pre [32] (c :: r) = true then acc :: TL.spl [32] 0 [] r else TL.spl [32] 0 (acc ++ [c]) r) = _
    split at h'
    · rename_i k
      cases h'
      rw [if_pos k]; rfl
    · rename_i k
      rw [if_neg k, par_spl_some r _ a b h']
theorem pre_one (c d : Nat) (r : List Nat) : TL.pre [c] (d :: r) = (c == d) := by
  show ([d] == [c]) = _
  by_cases h : d = c
  · subst h; simp
  · have h' : ¬ c = d := fun z => h z.symm
    rw [show ([d] == [c]) = (d == c) by simp, beq_eq_false_iff_ne.mpr h, beq_eq_false_iff_ne.mpr h']
theorem par_mem : ∀ (l acc : List Nat) (p : List Nat × List Nat), TL.par [32] acc l = some p → 32 ∈ l
  | [], acc, p, h => by cases h
  | c :: r, acc, p, h => by
    have h' : (if TL.pre [32] (c :: r) = true then some (acc, (c :: r).drop 1) else TL.par [32] (acc ++ [c]) r) = some p := h
    split at h'
    · rename_i k
      rw [pre_one] at k
      rw [beq_iff_eq] at k
      rw [← k]; exact List.mem_cons_self
    · exact List.mem_cons_of_mem _ (par_mem r _ p h')
theorem dw_wlk : ∀ (st : List Nat) (x y : Int), (∀ c ∈ st, c ∈ dirs) → dwF x y st = wlkF x y st
  | [], _, _, _ => rfl
  | c :: r, x, y, h => by
    show (if c ∈ dirs then _ else none) = (if _ then _ else none)
    rw [if_pos (h c List.mem_cons_self), dw_wlk r _ _ fun c hc => h c (List.mem_cons_of_mem _ hc)]
theorem dw_none : ∀ (st : List Nat) (x y : Int), (∃ c ∈ st, ¬ c ∈ dirs) → dwF x y st = none
  | [], _, _, ⟨_, h, _⟩ => nomatch h
  | c :: r, x, y, ⟨d, hd, hn⟩ => by
    show (if c ∈ dirs then _ else none) = none
    by_cases hc : c ∈ dirs
    · rw [if_pos hc]
      rcases List.mem_cons.mp hd with rfl | hd
      · exact absurd hc hn
      · rw [dw_none r _ _ ⟨d, hd, hn⟩]
        split <;> rfl
    · rw [if_neg hc]
theorem endL_len (ns : List D) (st : List Nat) (h : ns.length ≠ 2) : endL ns st = none := by
  unfold endL
  split
  · exact absurd rfl h
  · rfl
theorem end_eq (hd st : List Nat) (hs : ∀ c ∈ st, c ∈ dirs) : endL ((TL.spl [44] 0 [] hd).map lnumD) st = match numsOf hd with
    | [n0, n1] => endF n0 n1 st
    | _ => none := by
  unfold numsOf
  match TL.spl [44] 0 [] hd with
  | [] => rfl
  | [_] => exact endL_len _ _ (by simp)
  | [a, b] =>
    show endL [lnumD a, lnumD b] st = endF (numD a) (numD b) st
    rcases lnum_num a with ⟨ea, na⟩ | ⟨x, ea, na, lx⟩
    · rw [ea]
      show none = _
      unfold endF
      split
      · rename_i x y e1 e2
        have := na x e1
        rw [if_neg]
        unfold onP
        rw [decide_eq_false this]; simp
      · rfl
    · rcases lnum_num b with ⟨eb, nb⟩ | ⟨y, eb, nb, ly⟩
      · rw [ea, eb, na]
        show none = _
        unfold endF
        split
        · rename_i x y e1 e2
          have := nb y e2
          rw [if_neg]
          unfold onP
          rw [decide_eq_false this]; simp
        · rfl
      · rw [ea, eb, na, nb]
        show dwF x y st = if onP x y = true then wlkF x y st else none
        rw [if_pos, dw_wlk st x y hs]
        unfold onP
        rw [decide_eq_true (by omega : (0 : Int) ≤ x), decide_eq_true (by omega : (x : Int) ≤ 30), decide_eq_true (by omega : (0 : Int) ≤ y), decide_eq_true (by omega : (y : Int) ≤ 30)]; rfl
  | a :: b :: c :: r =>
    exact endL_len _ _ (by simp)
theorem endL_none (ns : List D) (st : List Nat) (h : ∃ c ∈ st, ¬ c ∈ dirs) : endL ns st = none := by
  unfold endL
  split
  · exact dw_none st _ _ h
  · rfl
theorem rd_due (cs : List Nat) : rdF cs = dueF cs := by
  unfold rdF dueF cutB
  cases hp : TL.par [32] [] cs with
  | none =>
    rw [par_spl_none cs [] hp]
    show (match numsOf cs with | [n0, n1] => if (stepsB [] && _) = true then _ else none | _ => none) = none
    split
    · rfl
    · rfl
  | some p =>
    obtain ⟨a, b⟩ := p
    rw [par_spl_some cs [] a b hp]
    show (match numsOf a with | [n0, n1] => if (stepsB b && decide (b.length < 401)) = true then endF n0 n1 b else none | _ => none) = _
    cases hb : TL.par [32] [] b with
    | some p2 =>
      obtain ⟨a2, b2⟩ := p2
      have h32 := par_mem b [] _ hb
      have hs : stepsB b = false := by
        unfold stepsB
        cases z : b.all (fun c => decide (c ∈ dirs)) with
        | false => simp
        | true => exact absurd (of_decide_eq_true (List.all_eq_true.mp z 32 h32)) (by decide)
      rw [hs, par_spl_some b [] a2 b2 hb]
      cases hz : TL.spl [32] 0 [] b2 with
      | nil => exact absurd hz (spl_ne _ _ _ _)
      | cons u v =>
        split
        · rfl
        · rfl
    | none =>
      rw [par_spl_none b [] hb]
      show _ = if b = [] ∨ 400 < b.length then none else endL ((TL.spl [44] 0 [] a).map lnumD) b
      by_cases h0 : b = [] ∨ 400 < b.length
      · rw [if_pos h0]
        have e : (stepsB b && decide (b.length < 401)) = false := by
          rcases h0 with rfl | h0
          · rfl
          · rw [decide_eq_false (by omega : ¬ b.length < 401)]; simp
        rw [e]
        split <;> rfl
      · rw [if_neg h0]
        have h1 : ¬ b = [] := fun z => h0 (.inl z)
        have h2 : b.length < 401 := Nat.lt_of_not_le fun z => h0 (.inr (by omega))
        by_cases hs : ∀ c ∈ b, c ∈ dirs
        · rw [end_eq a b hs]
          have e : (stepsB b && decide (b.length < 401)) = true := by
            unfold stepsB
            rw [decide_eq_true h2, decide_eq_true h1, List.all_eq_true.mpr fun c hc => decide_eq_true (hs c hc)]; rfl
          rw [e]; rfl
        · have hs' : ∃ c ∈ b, ¬ c ∈ dirs := by
            by_cases z : ∃ c ∈ b, ¬ c ∈ dirs
            · exact z
            · exact absurd (fun c hc => Decidable.byContradiction fun n => z ⟨c, hc, n⟩) hs
          rw [endL_none _ _ hs']
          have e : stepsB b = false := by
            unfold stepsB
            obtain ⟨c, hc, hn⟩ := hs'
            cases z : b.all (fun c => decide (c ∈ dirs)) with
            | false => simp
            | true => exact absurd (of_decide_eq_true (List.all_eq_true.mp z c hc)) hn
          rw [e]
          split <;> rfl
end K11

set_option Elab.async false
set_option linter.all false
set_option maxRecDepth 100000
set_option maxHeartbeats 2000000
namespace K11
open PySem L2 PyProof.Rows NX DL SX
section
variable {P : Program} {w : World} {K : PySem.W.Frag} {mg : Str → Option Value} {base : Heap} {D0 fI CP CD CB : Addr}
def spLRead (CB : Addr) : DSp := fun ds M q _ => ∃ d, ds = [d] ∧ (Plain M d ∨ ∃ a dd v, d = .exo CB a dd v) ∧ (isStr d = false → q .non M) ∧
  ∀ cs, d = .str (S cs) → cs.length ≤ 10000 ∧ q (oD (rdF cs)) M
theorem sc_lread : FnScope ["_law_value", "e"] ["_law_value"] (defScope (top 29)) := ⟨rfl, rfl, rfl, by decide +kernel, rfl, by decide +kernel, by decide +kernel⟩
theorem ok_lread (T : Txt w K mg) (R : Errs P K mg D0 fI CP CD CB) (hx : PySem.W.exmOne K (.ref CB) (.ref CB) = some true) (GR : DFun P w K mg base 6 "read_walk" (spRead CB)) (F : FAt K mg "_law_read" (top 29)) : DFun P w K mg base 7 "_law_read" (spLRead CB) := by
  obtain ⟨f, fd, hm, F⟩ := F.ex
  refine dfun_of F hm (F.binds (ps := ["_law_value"]) fun _ _ _ _ _ _ us hl => match us, hl with | [_], _ => rfl) sc_lread (fun ds M q x h => ?_) fun cdv A outer s H E hr ds M q x h => ?_
  · obtain ⟨_, rfl, _⟩ := h; rfl
  · obtain ⟨d, rfl, hp, hn, hq⟩ := h
    refine db_one <| ds_try1 1 sc_lread.nd R.gB fun pn xe => ?_
    refine db_one <| ds_ret <| de_call GR hr <| da_cons <| de_var 0 rfl <| da_nil ⟨d, rfl, hp, fun z => ?_, fun cs e => ⟨(hq cs e).1, fun z => ?_, fun ps z => by have := (hq cs e).2; rw [z] at this; exact this⟩⟩
    · have hqn := hn z
      refine ⟨true, hx, fun _ a oe dd pn' hz hv => ?_, fun h => nomatch h⟩
      exact db_one <| ds_ret <| de_ifExp <| dt_cmp <| de_excval R.nB hz hv <| de_var 1 rfl ⟨rfl, de_int <| d2_eqI ⟨_, rfl, fun _ => de_non hqn, fun h => nomatch h⟩⟩
    · have hqn : q .non M := by have := (hq cs e).2; rw [z] at this; exact this
      refine ⟨true, hx, fun _ a oe dd pn' hz hv => ?_, fun h => nomatch h⟩
      exact db_one <| ds_ret <| de_ifExp <| dt_cmp <| de_excval R.nB hz hv <| de_var 1 rfl ⟨rfl, de_int <| d2_eqI ⟨_, rfl, fun _ => de_non hqn, fun h => nomatch h⟩⟩
theorem atI_some {α : Type} {l : List α} {j : Int} (h0 : 0 ≤ j) (h1 : j < l.length) : ∃ c, atI l j = some c := by
  obtain ⟨n, rfl⟩ := Int.eq_ofNat_of_zero_le h0
  have hn : n < l.length := by omega
  exact ⟨l[n], atI_nat (List.getElem?_eq_getElem hn)⟩
def spSpoilt : DSp := fun ds M q _ => ∃ (b : Addr) (x : Str) (o : MO) (k : Nat), ds = [.obj b, .str x] ∧ x.length ≤ 10000 ∧ M b = some o ∧ Bx o k ∧ k ≤ 100000 ∧
  ∀ (x' : Str) (o' : MO) (M' : Mem), x'.length ≤ 2 * x.length + 1 → M' b = some o' → Bx o' (k + 3) → q (.str x') M'
theorem sc_spoilt : FnScope ["_law_box_here", "_law_text", "_law_at", "_law_sign", "_law_rest"] ["_law_box_here", "_law_text"] (defScope (top 30)) := ⟨rfl, rfl, rfl, by decide +kernel, rfl, by decide +kernel, by decide +kernel⟩
theorem cutS_len (x : Str) (lo hi : Option Int) : (cutS x lo hi).length ≤ x.length := by
  unfold cutS Str.length
  simp only [List.size_toArray, List.length_take, List.length_drop, Array.length_toList]
  omega
theorem app_len (x y : Str) : (x ++ y).length = x.length + y.length := by
  show (x.cps ++ y.cps).size = _
  rw [Array.size_append]; rfl
theorem ok_spoilt (T : Txt w K mg) (GT : DFun P w K mg base 1 "_law_take" spTake) (F : FAt K mg "_law_spoilt" (top 30)) : DFun P w K mg base 2 "_law_spoilt" spSpoilt := by
  obtain ⟨f, fd, hm, F⟩ := F.ex
  refine dfun_of F hm (F.binds (ps := ["_law_box_here", "_law_text"]) fun _ _ _ _ _ _ us hl => match us, hl with | [_, _], _ => rfl) sc_spoilt (fun ds M q x h => ?_) fun cdv A outer s H E hr ds M q x h => ?_
  · obtain ⟨_, _, _, _, rfl, _⟩ := h; rfl
  · obtain ⟨b, t, o, k, rfl, hl, hb, hx, hk, hq⟩ := h
    have hz : t.length ≤ sizeLine := szK (by omega)
    have zz : ∀ n, n ≤ 100000 → n ≤ sizeLine := fun _ h => szK h
    refine db_cons <| ds_set 2 sc_spoilt.nd <| de_call GT hr <| da_cons <| de_var 0 rfl <| da_cons <| de_bin <| de_callB T.len bb_len <| da_cons <| de_var 1 rfl <| da_nil <| dc_lenS hz <| de_int <| d2_addI <| da_nil ⟨b, _, o, k, rfl, hb, hx, by omega, by omega, by omega, fun i o1 i0 i1 hx1 => ?_⟩
    refine db_cons <| ds_set 3 sc_spoilt.nd <| de_ix <| de_str <| de_call GT hr <| da_cons <| de_var 0 rfl <| da_cons <| de_int <| da_nil ⟨b, _, o1, k + 1, rfl, updM_same, hx1, by omega, by decide, by decide, fun j o2 j0 j1 hx2 => ?_⟩
    have e16 : (", 0123ruldRx-+\n_" : Str).cps.toList.length = 16 := by decide +kernel
    obtain ⟨c, hc⟩ : ∃ c, atI (", 0123ruldRx-+\n_" : Str).cps.toList j = some c := atI_some j0 (by rw [e16]; omega)
    refine di_str (szN (by decide +kernel)) hc ?_
    refine db_cons <| ds_set 4 sc_spoilt.nd <| de_slice <| de_var 1 rfl <| do_some <| de_bin <| de_var 2 rfl <| de_int <| d2_addI ⟨_, rfl, do_none <| dsl_str hz ?_⟩
    have L1 := cutS_len t none (some i)
    have L2 := cutS_len t (some i) none
    have L3 := cutS_len t (some (i + 1)) none
    have one : (⟨#[c]⟩ : Str).length = 1 := rfl
    refine db_one <| ds_ret <| de_ix <| de_lst <| da_cons <| de_bin <| de_bin <| de_slice <| de_var 1 rfl <| do_none <| do_some <| de_var 2 rfl ⟨_, rfl, dsl_str hz <| de_var 3 rfl <| d2_addS (zz _ (by omega)) ?_⟩
    refine de_slice <| de_var 1 rfl <| do_some <| de_var 2 rfl ⟨_, rfl, do_none <| dsl_str hz <| d2_addS (zz _ (by rw [app_len]; omega)) ?_⟩
    refine da_cons <| de_bin <| de_slice <| de_var 1 rfl <| do_none <| do_some <| de_var 2 rfl ⟨_, rfl, dsl_str hz <| de_var 4 rfl <| d2_addS (zz _ (by omega)) ?_⟩
    refine da_cons <| de_bin <| de_bin <| de_slice <| de_var 1 rfl <| do_none <| do_some <| de_var 2 rfl ⟨_, rfl, dsl_str hz <| de_var 3 rfl <| d2_addS (zz _ (by omega)) <| de_var 4 rfl <| d2_addS (zz _ (by rw [app_len]; omega)) ?_⟩
    refine da_nil ⟨szN (by decide : 3 ≤ 100), ?_⟩
    refine de_call GT hr <| da_cons <| de_var 0 rfl <| da_cons <| de_int <| da_nil ⟨b, _, o2, k + 2, rfl, updM_same, hx2, by omega, by decide, by decide, fun r o3 r0 r1 hx3 => ?_⟩
    have fin : ∀ x' : Str, x'.length ≤ 2 * t.length + 1 → q (.str x') (updM (updM (updM M b o1) b o2) b o3) := fun x' h => hq x' o3 _ h updM_same hx3
    rcases (by omega : r = 0 ∨ r = 1 ∨ r = 2) with rfl | rfl | rfl
    · exact di_lst .of rfl (fin _ (by rw [app_len, app_len]; omega))
    · exact di_lst .of rfl (fin _ (by rw [app_len]; omega))
    · exact di_lst .of rfl (fin _ (by rw [app_len, app_len]; omega))
end
end K11

set_option Elab.async false
set_option linter.all false
set_option maxRecDepth 100000
set_option maxHeartbeats 2000000
namespace DL
open PySem L2 PyProof.Rows NX SX
theorem fnok_of {P : Program} {w : World} {K : PySem.W.Frag} {mg : Str → Option Value} {base : Heap} {x qual : Str} {st : Stmt} {f : Addr} {fd : FuncData} {N ps : List Str} {k : Nat} {p : DSp}
    (F : Fun K x qual st f fd) (S : FnScope N ps (defScope st)) (len : ∀ ds M q x, p ds M q x → ds.length = ps.length)
    (body : ∀ (cdv : Value) (A : Around) (outer : List Env) (s : Shared) (H : Hp) (E : XK), Room k (A.deeper (envOfC qual (defScope st) s.heap.objs.size f cdv)) → ∀ (ds : List D) (M : Mem) (q : DK) (x : DXK), p ds M q x →
      DB (cxOf (L2.CX P w) P w K mg base N qual (defScope st) f cdv A outer s H E) (fun _ C d M' => x C d M') (defBody st) (startD N ds) M { nx := fun _ M' => q .non M', rt := q }) : FnOk P w K mg base (L2.CX P w) (k + 1) f fd ps (spOf K p) := by
  refine F.okX S (fun vs H Q E h => ?_) fun cdv A outer s H vs Q E hr h => ?_
  · obtain ⟨ds, B, M, q, x, r, is, hp, _⟩ := h
    rw [r.length]; exact len ds M q x hp
  · obtain ⟨ds, B, M, q, x, r, is, hp, hq, hx⟩ := h
    refine ⟨_, pss_w, ?_⟩
    have tk : Takes (cxOf (L2.CX P w) P w K mg base N qual (defScope st) f cdv A outer s H E) (fun cls d _ H => E cls d H) := takes_of rfl rfl rfl rfl
    have rx : Rx (cxOf (L2.CX P w) P w K mg base N qual (defScope st) f cdv A outer s H E) B (fun _ C d M' => x C d M') := by
      refine ⟨tk.imp fun c d σ H' z => ?_, passes_of rfl⟩
      obtain ⟨δ, C, d', v, dv, B', M', e1, e2, s', i', _, hx', rv, z⟩ := z
      exact hx _ _ _ ⟨C, d', v, dv, B', M', e1, e2, s', i', hx', rv, z⟩
    exact wb_mono (body cdv A outer s H E hr ds M q x hp B _ H rx is (start_sr r)) ⟨fun σ' H' ⟨δ, B', M', s', i', r', z⟩ => hq _ _ ⟨.non, B', M', s', i', .non, z⟩, fun v H' z => hq v H' z, fun σ' H' z => (by obtain ⟨_, _, _, _, _, _, z⟩ := z; exact z), fun σ' H' z => (by obtain ⟨_, _, _, _, _, _, z⟩ := z; exact z)⟩
theorem de_dct0 {X : Cx} {Ex : DX} {δ : DSt} {M : Mem} {Q : DK} {pos : Pos} (q : Q .dct0 M) : DE X Ex (.Dict [] [] pos) δ M Q := by
  intro B σ H rx is sr
  refine we_of pe_dnewK fun p hp => ?_
  have s2 : Same B (upd B p (.dK [])) := same_new (is.fresh hp).1
  exact ⟨.dct0, upd B p (.dK []), M, s2, is.keep hp _, .dct0 upd_same, q⟩
section
variable {X : Cx} {Ex : DX} {δ : DSt} {M : Mem} {Q : List D → Mem → Prop} {es : List Expr}
theorem da_c {c : Const} {k p} (h : DE X Ex (.Constant c k p) δ M fun x M1 => DA X Ex es δ M1 fun xs M2 => Q (x :: xs) M2) : DA X Ex (.Constant c k p :: es) δ M Q := da_cons h rfl
theorem da_l {c : List Expr} {p} (h : DE X Ex (.List c p) δ M fun x M1 => DA X Ex es δ M1 fun xs M2 => Q (x :: xs) M2) : DA X Ex (.List c p :: es) δ M Q := da_cons h rfl
theorem da_t {c : List Expr} {k p} (h : DE X Ex (.Tuple c k p) δ M fun x M1 => DA X Ex es δ M1 fun xs M2 => Q (x :: xs) M2) : DA X Ex (.Tuple c k p :: es) δ M Q := da_cons h rfl
theorem da_d {c d p} (h : DE X Ex (.Dict c d p) δ M fun x M1 => DA X Ex es δ M1 fun xs M2 => Q (x :: xs) M2) : DA X Ex (.Dict c d p :: es) δ M Q := da_cons h rfl
theorem da_k {c d e p} (h : DE X Ex (.Call c d e p) δ M fun x M1 => DA X Ex es δ M1 fun xs M2 => Q (x :: xs) M2) : DA X Ex (.Call c d e p :: es) δ M Q := da_cons h rfl
end
theorem joinL_one : ∀ cs : List Nat, TL.joinL [] (cs.map fun c => [c]) = cs
  | [] => rfl
  | [c] => rfl
  | c :: d :: r => by
    show [c] ++ ([] ++ TL.joinL [] ((d :: r).map fun c => [c])) = _
    rw [joinL_one (d :: r)]; rfl
theorem join_signs (cs : List Nat) : Txt.join "" (cs.map fun c => (⟨#[c]⟩ : Str)) = S cs := by
  have e := join_S [] (cs.map fun c => [c])
  rw [joinL_one, List.map_map] at e
  exact e
theorem updM_comm {M : Mem} {a b : Addr} {o u : MO} (h : a ≠ b) : updM (updM M a o) b u = updM (updM M b u) a o := by
  funext x
  unfold updM
  by_cases h1 : x = a
  · subst h1
    simp [h]
  · simp [h1]
theorem pick2 {a b : D} {j : Int} (h0 : 0 ≤ j) (h1 : j < 2) : ∃ d, atI [a, b] j = some d ∧ (d = a ∨ d = b) := by
  rcases (by omega : j = 0 ∨ j = 1) with rfl | rfl
  · exact ⟨a, rfl, .inl rfl⟩
  · exact ⟨b, rfl, .inr rfl⟩
theorem pick3 {a b c : D} {j : Int} (h0 : 0 ≤ j) (h1 : j < 3) : ∃ d, atI [a, b, c] j = some d ∧ (d = a ∨ d = b ∨ d = c) := by
  rcases (by omega : j = 0 ∨ j = 1 ∨ j = 2) with rfl | rfl | rfl
  · exact ⟨a, rfl, .inl rfl⟩
  · exact ⟨b, rfl, .inr (.inl rfl)⟩
  · exact ⟨c, rfl, .inr (.inr rfl)⟩
theorem db_mid {X : Cx} {Ex : DX} {δ : DSt} {M : Mem} {E : DEnds} {st : Stmt} {sts : List Stmt} (I : DSt → Mem → Prop) (h : DS X Ex st δ M { E with nx := I }) (h2 : ∀ δ' M', I δ' M' → DB X Ex sts δ' M' E) : DB X Ex (st :: sts) δ M E :=
  db_cons fun B σ H rx is sr => ws_mono (h B σ H rx is sr) (toE_le ⟨fun δ' M' q => h2 δ' M' q, fun _ _ h => h, fun _ _ h => h, fun _ _ h => h⟩)
end DL
namespace K11
open PySem L2 PyProof.Rows NX DL SX
/-! walks as data -/
theorem pts_pure : ∀ ps : List (Int × Int), pureDs (ps.map ptD) = true
  | [] => by rw [List.map_nil]; unfold pureDs; rfl
  | p :: ps => by
    rw [List.map_cons]; unfold pureDs; rw [pts_pure ps]; rfl
theorem oD_pure (o : Option (List (Int × Int))) : pureD (oD o) = true := by
  cases o with
  | none => rfl
  | some ps => 
    show pureD (.tup _) = true
    unfold pureD; exact pts_pure ps
theorem pts_lay : ∀ ps : List (Int × Int), PyData.canLayAll0 (pyDs (ps.map ptD)) = true
  | [] => by rw [List.map_nil]; unfold pyDs; rfl
  | p :: ps => by
    rw [List.map_cons]; unfold pyDs PyData.canLayAll0; rw [pts_lay ps]; rfl
theorem pts_depth : ∀ ps : List (Int × Int), PyData.depthAll (pyDs (ps.map ptD)) ≤ 1
  | [] => by rw [List.map_nil]; unfold pyDs; exact Nat.zero_le _
  | p :: ps => by
    rw [List.map_cons]; unfold pyDs PyData.depthAll
    exact Nat.max_le.mpr ⟨Nat.le_refl _, pts_depth ps⟩
theorem oD_shaped (o : Option (List (Int × Int))) : SeqAt.shaped (pyD (oD o)) = true := by
  cases o with
  | none => rfl
  | some ps =>
    show SeqAt.shaped (pyD (.tup _)) = true
    unfold pyD SeqAt.shaped PyData.canLay0 PyData.depth
    rw [pts_lay ps, decide_eq_true (by have := pts_depth ps; omega)]; rfl
theorem str33 : ∀ n ∈ List.range 33, (Str.ofString (toString (n : Int))).length ≤ 2 := by decide +kernel
theorem strI_len {z : Int} (h0 : 0 ≤ z) (h1 : z ≤ 32) : (Str.ofString (toString z)).length ≤ 2 := by
  obtain ⟨n, rfl⟩ := Int.eq_ofNat_of_zero_le h0
  exact str33 n (List.mem_range.mpr (by omega))
theorem log33 {z : Int} (h0 : 0 ≤ z) (h1 : z ≤ 32) : z.natAbs.log2 < 1920 := by
  by_cases e : z.natAbs = 0
  · rw [e]; decide
  · exact Nat.lt_of_lt_of_le ((Nat.log2_lt e).mpr (by omega : z.natAbs < 2 ^ 6)) (by decide)
section
variable {P : Program} {w : World} {K : PySem.W.Frag} {mg : Str → Option Value} {base : Heap} {D0 fI CP CD CB : Addr}
/-- a written value that is refused -/
structure GoodV (CB : Addr) (d : D) : Prop where
  pl : ∀ M, Plain M d ∨ ∃ a dd v, d = .exo CB a dd v
  st : ∀ cs, d = .str (S cs) → cs.length ≤ 10000 ∧ rdF cs = none
theorem GoodV.non {CB : Addr} : GoodV CB .non := ⟨fun _ => .inl .non, fun _ h => nomatch h⟩
theorem GoodV.int {CB : Addr} {i : Int} : GoodV CB (.int i) := ⟨fun _ => .inl .int, fun _ h => nomatch h⟩
theorem GoodV.bl {CB : Addr} {i : Bool} : GoodV CB (.bl i) := ⟨fun _ => .inl .bl, fun _ h => nomatch h⟩
theorem GoodV.lst {CB : Addr} {i : List D} : GoodV CB (.lst i) := ⟨fun _ => .inl .lst, fun _ h => nomatch h⟩
theorem GoodV.tup {CB : Addr} {i : List D} : GoodV CB (.tup i) := ⟨fun _ => .inl .tup, fun _ h => nomatch h⟩
theorem GoodV.dct0 {CB : Addr} : GoodV CB .dct0 := ⟨fun _ => .inl .dct0, fun _ h => nomatch h⟩
theorem GoodV.exo {CB a dd : Addr} {v : D} : GoodV CB (.exo CB a dd v) := ⟨fun _ => .inr ⟨_, _, _, rfl⟩, fun _ h => nomatch h⟩
theorem GoodV.str {CB : Addr} {x : Str} (h1 : x.cps.toList.length ≤ 10000) (h2 : rdF x.cps.toList = none) : GoodV CB (.str x) := ⟨fun _ => .inl .str, fun cs h => by injection h with h; subst h; exact ⟨h1, h2⟩⟩
theorem good_one {CB : Addr} : ∀ d ∈ [D.non, .int 3, .bl true, .lst [], .tup [.str "0,0 r"], .dct0, .str "", .str " ", .str "0,0", .str "0,0 ", .str "r", .str "1_0,5 r", .str "5,1_0 u", .str "0, 5 r", .str "+1,5 r"], GoodV CB d := by
  refine List.forall_mem_cons.mpr ⟨.non, List.forall_mem_cons.mpr ⟨.int, List.forall_mem_cons.mpr ⟨.bl, List.forall_mem_cons.mpr ⟨.lst, List.forall_mem_cons.mpr ⟨.tup, List.forall_mem_cons.mpr ⟨.dct0, ?_⟩⟩⟩⟩⟩⟩
  iterate 9 refine List.forall_mem_cons.mpr ⟨.str (by decide +kernel) (by decide +kernel), ?_⟩
  exact fun _ h => nomatch h
theorem good_two {CB a dd : Addr} {v : D} : ∀ d ∈ [D.str "0,5 r ", .str " 0,5 r", .str "0,5  r", .str "0,5 r\n", .str "0,5,5 r", .exo CB a dd v], GoodV CB d := by
  iterate 5 refine List.forall_mem_cons.mpr ⟨.str (by decide +kernel) (by decide +kernel), ?_⟩
  exact List.forall_mem_cons.mpr ⟨.exo, fun _ h => nomatch h⟩
def spLaw : DSp := fun ds M q _ => ∃ ns : List Int, ds = [.scr (ns.map .int)] ∧ ∀ M', q (.bl true) M'
theorem sc_law : FnScope ["_law_script", "_law_k", "_law_box_here", "_law_turn", "_law_x", "_law_y", "_law_signs", "_law_text", "_law_lap", "_law_some", "_law_value", "_law_step_here"] ["_law_script"] (defScope (top 31)) := ⟨rfl, rfl, rfl, by decide +kernel, rfl, by decide +kernel, by decide +kernel⟩
theorem ok_law (T : Txt w K mg) (R : Errs P K mg D0 fI CP CD CB) (GC : DFun P w K mg base 1 "_law_cell_at" spCell) (GB : DFun P w K mg base 1 "_law_box" spBox) (GT : DFun P w K mg base 1 "_law_take" spTake) (GS : DFun P w K mg base 2 "_law_spoilt" spSpoilt)
    (GD : DFun P w K mg base 2 "_law_due" spDue) (GR : DFun P w K mg base 7 "_law_read" (spLRead CB)) {f : Addr} {fd : FuncData} (F : Fun K "law" "law" (top 31) f fd) : FnOk P w K mg base (L2.CX P w) 8 f fd ["_law_script"] (spOf K spLaw) := by
  refine fnok_of F sc_law (fun ds M q x h => ?_) fun cdv A outer s H E hr ds M q x h => ?_
  · obtain ⟨_, rfl, _⟩ := h; rfl
  · obtain ⟨ns, rfl, hq⟩ := h
    have hr1 : Room 1 _ := hr.mono (by decide)
    have hr2 : Room 2 _ := hr.mono (by decide)
    refine db_cons <| ds_for 1 (fun k δ' M' => ∃ s1 s2 s3 s4 s5 s6 s7 s8, δ' = [some (.scr (ns.map .int)), s1, s2, s3, s4, s5, s6, s7, s8, none, none, none]) sc_law.nd <| dit_range1 T.range <| de_callB T.max bb_max <| da_cons <| de_int <| da_cons <| de_callB T.min bb_min <| da_cons <| de_callB T.len bb_len <| da_cons <| de_var 0 rfl <| da_nil <| dc_lenL .scr <| da_cons <| de_int <| da_nil <| dc_min2 rfl <| da_nil <| dc_max2 rfl ⟨_, rfl, ?_, ?_, ⟨none, none, none, none, none, none, none, none, rfl⟩, ?_, ?_⟩
    · split <;> split <;> omega
    · split <;> split <;> omega
    · rintro k d δ' M' hd ⟨s1, s2, s3, s4, s5, s6, s7, s8, rfl⟩
      obtain ⟨hk, rfl⟩ := rngL_get hd
      have hk6 : k ≤ 100 := by
        refine Nat.le_trans (Nat.le_of_lt hk) ?_
        split <;> split <;> omega
      refine db_cons <| ds_set 2 sc_law.nd <| de_call GB hr1 <| da_cons <| de_call GC hr1 <| da_cons <| de_var 0 rfl <| da_cons <| de_var 1 rfl <| da_nil ⟨ns, k, by rw [Int.zero_add], hk6, fun i => da_nil ⟨i, rfl, fun b n m hb hn hm0 hm1 => ?_⟩⟩
      refine db_one <| ds_for 3 (fun t δ' M' => ∃ s1 s3 s4 s5 s6 s7 s8 o, δ' = [some (.scr (ns.map .int)), s1, some (.obj b), s3, s4, s5, s6, s7, s8, none, none, none] ∧ M' b = some o ∧ Bx o (100 * t)) sc_law.nd <| dit_range1 T.range <| de_int ⟨6, rfl, by decide, by decide, ⟨_, _, _, _, _, _, _, _, rfl, updM_same, n, m, 0, rfl, hn, hm0, hm1, by decide, by decide⟩, ?_, ?_⟩
      · rintro t d δ' M2 hd2 ⟨u1, u3, u4, u5, u6, u7, u8, o, rfl, ho, bo⟩
        obtain ⟨ht, rfl⟩ := rngL_get hd2
        have ht6 : t < 6 := ht
        -- x
        refine db_cons <| ds_set 4 sc_law.nd <| de_ix <| de_lst <| da_cons <| de_call GT hr1 <| da_cons <| de_var 2 rfl <| da_cons <| de_int <| da_nil ⟨b, _, o, _, rfl, ho, bo, by omega, by decide, by decide, fun x1 o1 x10 x11 b1 => ?_⟩
        refine da_cons <| de_ix <| de_lst <| da_cons <| de_int <| da_cons <| de_int <| da_nil ⟨szN (by decide : 2 ≤ 100), ?_⟩
        refine de_call GT hr1 <| da_cons <| de_var 2 rfl <| da_cons <| de_int <| da_nil ⟨b, _, o1, _, rfl, updM_same, b1, by omega, by decide, by decide, fun x2 o2 x20 x21 b2 => ?_⟩
        obtain ⟨d2, e2, p2⟩ := pick2 (a := .int 0) (b := .int 30) x20 x21
        refine di_lst .of e2 <| da_nil ⟨szN (by decide : 2 ≤ 100), ?_⟩
        refine de_call GT hr1 <| da_cons <| de_var 2 rfl <| da_cons <| de_int <| da_nil ⟨b, _, o2, _, rfl, updM_same, b2, by omega, by decide, by decide, fun x3 o3 x30 x31 b3 => ?_⟩
        obtain ⟨d3, e3, p3⟩ := pick2 (a := .int x1) (b := d2) x30 x31
        refine di_lst .of e3 ?_
        obtain ⟨zx, rfl, zx0, zx1⟩ : ∃ z, d3 = .int z ∧ 0 ≤ z ∧ z ≤ 32 := by
          rcases p3 with rfl | rfl
          · exact ⟨x1, rfl, x10, by omega⟩
          · rcases p2 with rfl | rfl
            · exact ⟨0, rfl, by decide, by decide⟩
            · exact ⟨30, rfl, by decide, by decide⟩
        -- y
        refine db_cons <| ds_set 5 sc_law.nd <| de_ix <| de_lst <| da_cons <| de_call GT hr1 <| da_cons <| de_var 2 rfl <| da_cons <| de_int <| da_nil ⟨b, _, o3, _, rfl, updM_same, b3, by omega, by decide, by decide, fun y1 o4 y10 y11 b4 => ?_⟩
        refine da_cons <| de_ix <| de_lst <| da_cons <| de_int <| da_cons <| de_int <| da_nil ⟨szN (by decide : 2 ≤ 100), ?_⟩
        refine de_call GT hr1 <| da_cons <| de_var 2 rfl <| da_cons <| de_int <| da_nil ⟨b, _, o4, _, rfl, updM_same, b4, by omega, by decide, by decide, fun y2 o5 y20 y21 b5 => ?_⟩
        obtain ⟨d5, e5, p5⟩ := pick2 (a := .int 0) (b := .int 30) y20 y21
        refine di_lst .of e5 <| da_nil ⟨szN (by decide : 2 ≤ 100), ?_⟩
        refine de_call GT hr1 <| da_cons <| de_var 2 rfl <| da_cons <| de_int <| da_nil ⟨b, _, o5, _, rfl, updM_same, b5, by omega, by decide, by decide, fun y3 o6 y30 y31 b6 => ?_⟩
        obtain ⟨d6, e6, p6⟩ := pick2 (a := .int y1) (b := d5) y30 y31
        refine di_lst .of e6 ?_
        obtain ⟨zy, rfl, zy0, zy1⟩ : ∃ z, d6 = .int z ∧ 0 ≤ z ∧ z ≤ 32 := by
          rcases p6 with rfl | rfl
          · exact ⟨y1, rfl, y10, by omega⟩
          · rcases p5 with rfl | rfl
            · exact ⟨0, rfl, by decide, by decide⟩
            · exact ⟨30, rfl, by decide, by decide⟩
        have m6 : updM (updM (updM (updM (updM (updM M2 b o1) b o2) b o3) b o4) b o5) b o6 b = some o6 := updM_same
        generalize updM (updM (updM (updM (updM (updM M2 b o1) b o2) b o3) b o4) b o5) b o6 = M6 at m6 ⊢
        -- signs
        refine db_mid (fun δ' M' => ∃ sg o7, δ' = [some (.scr (ns.map .int)), u1, some (.obj b), some (.int (0 + (t : Nat))), some (.int zx), some (.int zy), some (.str sg), u7, u8, none, none, none] ∧ sg.length ≤ 1000 ∧ M' b = some o7 ∧ Bx o7 (100 * t + 20)) ?_ ?_
        · refine ds_set 6 sc_law.nd <| de_meth PySem.F.plainAttrs_str PySem.F.slot_str_join PySem.F.type_str_join <| de_str ⟨rfl, da_cons <| de_lc 11 sc_law <| dit_range1 T.range <| de_bin <| de_int <| de_call GT hr1 <| da_cons <| de_var 2 rfl <| da_cons <| de_int <| da_nil ⟨b, _, o6, _, rfl, m6, b6, by omega, by decide, by decide, fun n1 o7 n10 n11 b7 => d2_addI ⟨_, rfl, by omega, by omega, ?_⟩⟩⟩
          have hn13 : (1 + n1).toNat ≤ 12 := by omega
          refine ⟨by rw [rngL_len]; exact szN (by omega), fun p hp => ⟨fun k acc M' => ∃ cs : List Nat, acc = (cs.map fun c => (⟨#[c]⟩ : Str)).map D.str ∧ cs.length = k ∧ ∃ o', M' b = some o' ∧ Bx o' (100 * t + 7 + k), ⟨[], rfl, rfl, o7, updM_same, b7.mono (by omega)⟩, ?_, ?_⟩⟩
          · rintro k' d acc M' hd3 hp' hacc ⟨cs, rfl, hlen, o', ho', bo'⟩ s H C cl fp
            obtain ⟨hk', rfl⟩ := rngL_get hd3
            have hbp : b ≠ p := fun z => by rw [z, hp'] at ho'; cases ho'
            have ho2 : updM M' p (.lst ((cs.map fun c => (⟨#[c]⟩ : Str)).map D.str)) b = some o' := by rw [updM_ne hbp]; exact ho'
            refine de_ix <| de_str <| de_call GT hr1 <| da_cons <| de_var 2 rfl <| da_cons <| de_int <| da_nil ⟨b, _, o', _, rfl, ho2, bo', by omega, by decide, by decide, fun j o'' j0 j1 b'' => ?_⟩
            have e4 : ("ruld" : Str).cps.toList.length = 4 := by decide +kernel
            obtain ⟨c, hc⟩ : ∃ c, atI ("ruld" : Str).cps.toList j = some c := atI_some j0 (by rw [e4]; omega)
            refine di_str (szN (by decide +kernel)) hc ⟨updM M' b o'', by rw [updM_ne hbp.symm]; exact hp', updM_comm hbp.symm, cs ++ [c], by simp, by rw [List.length_append, hlen]; rfl, o'', updM_same, b''⟩
          · rintro acc M' hp' hl ⟨cs, rfl, hlen, o', ho', bo'⟩
            rw [rngL_len] at hlen bo'
            refine da_nil <| dm_join .of ?_ ?_
            · have e : ((cs.map fun c => (⟨#[c]⟩ : Str)).map (·.length)).sum = cs.length := by
                rw [List.map_map]
                clear hlen hl bo' ho' hp'
                induction cs with
                | nil => rfl
                | cons c r ih => rw [List.map_cons, List.sum_cons, ih]; show 1 + _ = _; rw [List.length_cons]; omega
              rw [e, List.length_map]
              have e0 : ("" : Str).length = 0 := by decide +kernel
              rw [e0]; omega
            · refine ⟨_, o', rfl, ?_, ho', bo'.mono (by omega)⟩
              rw [join_signs, S_len]; omega
        rintro δ' M7 ⟨sg, o7, rfl, hsg, m7, b7⟩
        refine db_mid (fun δ' M' => ∃ sg o7, δ' = [some (.scr (ns.map .int)), u1, some (.obj b), some (.int (0 + (t : Nat))), some (.int zx), some (.int zy), some (.str sg), u7, u8, none, none, none] ∧ sg.length ≤ 1000 ∧ M' b = some o7 ∧ Bx o7 (100 * t + 30)) ?_ ?_
        · refine ds_if <| dt_cmp <| de_call GT hr1 <| da_cons <| de_var 2 rfl <| da_cons <| de_int <| da_nil ⟨b, _, o7, _, rfl, m7, b7, by omega, by decide, by decide, fun n1 o8 n10 n11 b8 => de_int <| d2_eqI ⟨_, rfl, fun _ => ?_, fun _ => db_nil ⟨sg, o8, rfl, hsg, updM_same, b8.mono (by omega)⟩⟩⟩
          refine db_cons <| ds_set 6 sc_law.nd <| de_bin <| de_ix <| de_lst <| da_cons <| de_str <| da_cons <| de_str <| da_cons <| de_str <| da_nil ⟨szN (by decide : 3 ≤ 100), ?_⟩
          refine de_call GT hr1 <| da_cons <| de_var 2 rfl <| da_cons <| de_int <| da_nil ⟨b, _, o8, _, rfl, updM_same, b8, by omega, by decide, by decide, fun n2 o9 n20 n21 b9 => ?_⟩
          obtain ⟨d9, e9, p9⟩ := pick3 (a := .str "rl") (b := .str "ud") (c := .str "ruld") n20 n21
          obtain ⟨y9, rfl, l9, l9'⟩ : ∃ y : Str, d9 = .str y ∧ 0 < y.length ∧ y.length ≤ 4 := by
            rcases p9 with rfl | rfl | rfl
            · exact ⟨_, rfl, by decide +kernel, by decide +kernel⟩
            · exact ⟨_, rfl, by decide +kernel, by decide +kernel⟩
            · exact ⟨_, rfl, by decide +kernel, by decide +kernel⟩
          refine di_lst .of e9 <| de_int <| d2_mulS (by decide) (by decide) l9 (by omega) ?_
          have lr := repS_len y9 (201 : Int).toNat
          have lr2 : (repS y9 (201 : Int).toNat).length ≤ 1000 := by rw [lr]; show 201 * _ ≤ _; omega
          refine db_one <| ds_set 6 sc_law.nd <| de_slice <| de_var 6 rfl <| do_none <| do_some <| de_bin <| de_int <| de_call GT hr1 <| da_cons <| de_var 2 rfl <| da_cons <| de_int <| da_nil ⟨b, _, o9, _, rfl, updM_same, b9, by omega, by decide, by decide, fun n3 o10 n30 n31 b10 => d2_addI ⟨_, rfl, dsl_str (szK (by omega)) ⟨_, o10, rfl, Nat.le_trans (cutS_len _ _ _) lr2, updM_same, b10.mono (by omega)⟩⟩⟩
        rintro δ' M8 ⟨sg, o8, rfl, hsg, m8, b8⟩
        -- text
        have lx := strI_len zx0 zx1
        have ly := strI_len zy0 zy1
        have lc : ("," : Str).length = 1 := by decide +kernel
        have lb : (" " : Str).length = 1 := by decide +kernel
        have zz : ∀ n, n ≤ 100000 → n ≤ sizeLine := fun _ h => szK h
        refine db_mid (fun δ' M' => ∃ tx, δ' = [some (.scr (ns.map .int)), u1, some (.obj b), some (.int (0 + (t : Nat))), some (.int zx), some (.int zy), some (.str sg), some (.str tx), u8, none, none, none] ∧ tx.length ≤ 1006 ∧ M' = M8) ?_ ?_
        · refine ds_set 7 sc_law.nd <| de_bin <| de_bin <| de_bin <| de_bin <| de_callTy T.str bt_str <| da_cons <| de_var 4 rfl <| da_nil <| dc_strI (log33 zx0 zx1) <| de_str <| d2_addS (zz _ (by omega)) ?_
          refine de_callTy T.str bt_str <| da_cons <| de_var 5 rfl <| da_nil <| dc_strI (log33 zy0 zy1) <| d2_addS (zz _ (by rw [app_len]; omega)) ?_
          refine de_str <| d2_addS (zz _ (by rw [app_len, app_len]; omega)) <| de_var 6 rfl <| d2_addS (zz _ (by rw [app_len, app_len, app_len]; omega)) ⟨_, rfl, ?_, rfl⟩
          rw [app_len, app_len, app_len, app_len]; omega
        rintro δ' M9 ⟨tx, rfl, htx, rfl⟩
        refine db_mid (fun δ' M' => ∃ tx u8 o9, δ' = [some (.scr (ns.map .int)), u1, some (.obj b), some (.int (0 + (t : Nat))), some (.int zx), some (.int zy), some (.str sg), some (.str tx), u8, none, none, none] ∧ tx.length ≤ 8000 ∧ M' b = some o9 ∧ Bx o9 (100 * t + 50)) ?_ ?_
        · refine ds_for 8 (fun k δ' M' => ∃ tx u8 o9, δ' = [some (.scr (ns.map .int)), u1, some (.obj b), some (.int (0 + (t : Nat))), some (.int zx), some (.int zy), some (.str sg), some (.str tx), u8, none, none, none] ∧ (k = 0 → tx.length ≤ 1006) ∧ (k = 1 → tx.length ≤ 2015) ∧ tx.length ≤ 8000 ∧ M' b = some o9 ∧ Bx o9 (100 * t + 31 + 3 * k)) sc_law.nd <| dit_range1 T.range <| de_call GT hr1 <| da_cons <| de_var 2 rfl <| da_cons <| de_int <| da_nil ⟨b, _, o8, _, rfl, m8, b8, by omega, by decide, by decide, fun n1 o9 n10 n11 b9 => ⟨_, rfl, by omega, by omega, ⟨tx, u8, o9, rfl, fun _ => htx, (fun h => nomatch h), by omega, updM_same, b9⟩, ?_, ?_⟩⟩
          · rintro k' d δ' M' hd3 ⟨tx', w8, o', rfl, hk0, hk1, hk8, ho', bo'⟩
            obtain ⟨hk', rfl⟩ := rngL_get hd3
            have hkk : k' = 0 ∨ k' = 1 := by omega
            have l1 : tx'.length ≤ 2015 := by rcases hkk with h | h; exact Nat.le_trans (hk0 h) (by decide); exact hk1 h
            have fin : ∀ tx2 : Str, tx2.length ≤ tx'.length + 1 → spSpoilt [.obj b, .str tx2] M' (fun d M1 => ∃ tx u8 o9, ([some (.scr (ns.map .int)), u1, some (.obj b), some (.int (0 + (t : Nat))), some (.int zx), some (.int zy), some (.str sg), some d, some (.int (0 + (k' : Nat))), none, none, none] : DSt) = [some (.scr (ns.map .int)), u1, some (.obj b), some (.int (0 + (t : Nat))), some (.int zx), some (.int zy), some (.str sg), some (.str tx), u8, none, none, none] ∧ (k' + 1 = 0 → tx.length ≤ 1006) ∧ (k' + 1 = 1 → tx.length ≤ 2015) ∧ tx.length ≤ 8000 ∧ M1 b = some o9 ∧ Bx o9 (100 * t + 31 + 3 * (k' + 1))) (fun _ _ _ => False) := by
              intro tx2 h2
              refine ⟨b, tx2, o', _, rfl, by omega, ho', bo', by omega, fun x' o'' M'' hx' ho'' b'' => ⟨x', _, o'', rfl, (fun h => nomatch h), fun h => ?_, by omega, ho'', b''.mono (by omega)⟩⟩
              have := hk0 (by omega)
              omega
            have lr : ("r" : Str).length = 1 := by decide +kernel
            have le : ("" : Str).length = 0 := by decide +kernel
            refine db_one <| ds_set 7 sc_law.nd <| de_call GS hr2 <| da_cons <| de_var 2 rfl <| da_cons <| de_bin <| de_var 7 rfl <| de_bin <| de_str <| de_callTy T.int bt_int <| da_cons <| de_cmp <| de_var 7 rfl <| de_str <| d2_eqS <| da_nil <| dc_intB ?_
            by_cases he : tx' = ""
            · rw [decide_eq_true he]
              exact d2_mulS1 (by decide +kernel) <| d2_addS (zz _ (by omega)) <| da_nil <| fin _ (by rw [app_len]; omega)
            · rw [decide_eq_false he]
              exact d2_mulS0 <| d2_addS (zz _ (by omega)) <| da_nil <| fin _ (by rw [app_len]; omega)
          · rintro δ' M' ⟨tx', w8, o', rfl, hk0, hk1, hk8, ho', bo'⟩
            exact ⟨tx', w8, o', rfl, hk8, ho', bo'.mono (by rw [rngL_len]; omega)⟩
        rintro δ' M10 ⟨tx, w8, o10, rfl, htx, m10, b10⟩
        refine db_one <| ds_if <| dt_cmp <| de_call GR hr <| da_cons <| de_var 7 rfl <| da_nil ⟨.str tx, rfl, .inl .str, (fun h => nomatch h), fun cs e => ?_⟩
        injection e with e
        subst e
        rw [S_len] at htx
        refine ⟨by omega, de_call GD hr2 <| da_cons <| de_var 7 rfl <| da_nil ⟨cs, rfl, by omega, ?_⟩⟩
        rw [← rd_due]
        exact d2_neSame hr.units (oD_pure _) (oD_shaped _) ⟨_, rfl, (fun h => nomatch h), fun _ => db_nil ⟨_, _, _, _, _, _, _, o10, rfl, m10, b10.mono (by omega)⟩⟩
      · rintro δ' M2 ⟨u1, u3, u4, u5, u6, u7, u8, o, rfl, ho, bo⟩
        exact ⟨_, _, _, _, _, _, _, _, rfl⟩
    · rintro δ' M' ⟨s1, s2, s3, s4, s5, s6, s7, s8, rfl⟩
      refine db_cons ?_
      refine ds_set 9 ?a ?b (hi := ?c) (hx := ?d) (hs := ?e) (hf := ?f)
      case a => exact sc_law.nd
      case c => rfl
      case d => exact Or.inl rfl
      case f => exact .inl rfl
      case e => kernel_rfl
      refine de_lst ?_
      refine da_c ?_
      refine de_non ?_
      refine da_c ?_
      refine de_int ?_
      refine da_c ?_
      refine de_bl ?_
      refine da_l ?_
      refine de_lst ?_
      refine da_nil ⟨szN (by decide : 0 ≤ 100), ?_⟩
      refine da_t ?_
      refine de_tup ?_
      refine da_c ?_
      refine de_str ?_
      refine da_nil ⟨szN (by decide : 1 ≤ 100), ?_⟩
      refine da_d ?_
      refine de_dct0 ?_
      refine da_c ?_
      refine de_str ?_
      refine da_c ?_
      refine de_str ?_
      refine da_c ?_
      refine de_str ?_
      refine da_c ?_
      refine de_str ?_
      refine da_c ?_
      refine de_str ?_
      refine da_c ?_
      refine de_str ?_
      refine da_c ?_
      refine de_str ?_
      refine da_c ?_
      refine de_str ?_
      refine da_c ?_
      refine de_str ?_
      refine da_nil ⟨szN (by decide : 15 ≤ 100), ?_⟩
      generalize hds : [D.non, .int 3, .bl true, .lst [], .tup [.str "0,0 r"], .dct0, .str "", .str " ", .str "0,0", .str "0,0 ", .str "r", .str "1_0,5 r", .str "5,1_0 u", .str "0, 5 r", .str "+1,5 r"] = ds1
      have hg1 : ∀ d ∈ ds1, GoodV CB d := by rw [← hds]; exact good_one
      have hl1 : ds1.length = 15 := by rw [← hds]; rfl
      have hz1 := szN (show ds1.length + 6 ≤ 100 by omega)
      refine db_cons <| ds_for 10 (fun k δ' M' => ∃ s10, δ' = [some (.scr (ns.map .int)), s1, s2, s3, s4, s5, s6, s7, s8, some (.lst ds1), s10, none]) sc_law.nd <| dit_list <| de_bin <| de_var 9 rfl <| de_lst <| da_cons <| de_str <| da_cons <| de_str <| da_cons <| de_str <| da_cons <| de_str <| da_cons <| de_str <| da_cons <| de_mkN R.base R.nB R.gB hr <| de_int fun a dd => da_nil ⟨szN (by decide : 6 ≤ 100), d2_addL hz1 ⟨_, rfl, ⟨none, rfl⟩, ?_, ?_⟩⟩
      · rintro k d δ' M2 hd ⟨s10, rfl⟩
        have good : GoodV CB d := (List.mem_append.mp (List.mem_of_getElem? hd)).elim (hg1 d) (good_two d)
        refine db_one <| ds_if <| dt_cmp <| de_call GR hr <| da_cons <| de_var 10 rfl <| da_nil ⟨d, rfl, good.pl M2, fun _ => ?_, fun cs e => ⟨(good.st cs e).1, ?_⟩⟩
        · exact de_non <| d2_notN ⟨_, rfl, (fun h => nomatch h), fun _ => db_nil ⟨_, rfl⟩⟩
        · rw [(good.st cs e).2]
          exact de_non <| d2_notN ⟨_, rfl, (fun h => nomatch h), fun _ => db_nil ⟨_, rfl⟩⟩
      · rintro δ' M2 ⟨s10, rfl⟩
        exact db_one <| ds_ret <| de_bl <| hq _
end
end K11

set_option Elab.async false
set_option linter.all false
set_option maxRecDepth 100000
set_option maxHeartbeats 2000000
namespace DL
open PySem L2 PyProof.Rows NX SX PySem.HandSPX PySem.W PySem.Calls
section
variable {P : Program} {w : World} {K : PySem.W.Frag} {h : Heap} {mg : Str → Option Value}
theorem nb_mk {D fI cc cda : Addr} {oc : Value} {od : Option Addr} {kV doc pm : Value} {an : Option Addr} {ct : Value} {osl : Array (Option Value)} {msg : Str} {a1 a2 : Pos} {ccl : Value} {cdd : Option Addr} {vs : Array Value} {ccs : Array (Option Value)} {file : Str} {tf : Tok} {cl : Value} {cld : Option Addr} {csl : Array (Option Value)} {cdD : ClassData}
    (X : K.In h) (G : h.Ns mainGlobals mg)
    (l : K.lookup fI = some ⟨oc, od, .func (PySem.W.ksFn "__init__" "NevercrossedError.__init__" (nArgs a1 a2) (nBody msg) nScope .none kV doc pm an (.ref cda) ct cc), osl⟩) (c : PySem.W.codeIn K (.ref cda) "NevercrossedError.__init__" = true)
    (lc : K.lookup cda = some ⟨ccl, cdd, .fields vs, ccs⟩) (hv : vs[2]? = some (.str file tf)) (hf : ((P.main.file : Str) == file) = true) (lcc : K.lookup cc = some ⟨cl, cld, .cell (some (.ref D)), csl⟩) (hD : PySem.W.clsIn K D = some cdD)
    (su : PySem.W.nsIn K mainGlobals "super" = some none) (tp : (P.main.scope.names.lookup ("super" : Str)).isSome = false) (op : PySem.W.nsIn K cStatics "thirdparty.any" = some none) (tI : PySem.W.typeIn K (.ref fI) = some (.type "function")) : NBase P K mg D fI :=
  ⟨⟨cc, cda, oc, od, kV, doc, pm, an, ct, osl, msg, a1, a2, ccl, cdd, vs, ccs, file, tf, cl, cld, csl, l, c, lc, hv, hf, lcc⟩, ⟨cdD, hD⟩, PySem.W.mg_none_of X G su, tp, op, tI⟩
theorem nc_mk {D fI C : Addr} {nm q : Str} {N : Addr} {bs bm : List Value} {sn : List Str} {sub : List Value} {ab : Bool} {col : Option Bool} {dd : Option Addr} {k0 k1 k2 k3 k5 : Option Value}
    (xL : K.lookup C = some (excClassObj nm q C N bs bm true sn sub ab col dd k0 k1 k2 k3 k5 "ValueError.__new__")) (hb : refsVE bm = true)
    (sa : PySem.W.findIn K (.ref C) "__setattr__" = some (some (.builtin "object.__setattr__"))) (ga : PySem.W.findIn K (.ref C) "__getattribute__" = some (some (.builtin "BaseException.__getattribute__"))) (gg : PySem.W.findIn K (.ref C) "__getattr__" = some none) (nv : PySem.W.findIn K (.ref C) "value" = some none)
    (iC : PySem.W.findIn K (.ref C) "__init__" = some (some (.ref fI))) (mr : PySem.W.mroIn K C (.ref D) = some true) (si : PySem.W.ks_superIn K C D "__init__" = some (some (.builtin "ValueError.__init__"))) (sv : PySem.W.subIn K (.ref C) (.type "ValueError") = some true)
    (kC : PySem.W.keepIn K (.ref C) = true) (ex : PySem.W.subIn K (.ref C) (.type "BaseException") = some true) (ty : PySem.W.typeIn K (.ref C) = some (.type "type")) (hd : PySem.W.hasDictIn K C = true) : NCls K D fI C :=
  ⟨⟨nm, q, N, bs, bm, sn, sub, ab, col, dd, k0, k1, k2, k3, k5, xL, hb⟩, sa, ga, gg, nv, iC, mr, si, sv, kC, ex, ty, hd⟩
theorem tup_mk {t : Addr} {x y : Int} {tx ty : Tok} {od : Option Addr} {n : Nat} {sl : Array (Option Value)} (l : K.lookup t = some ⟨.type "tuple", od, .seq #[.int x tx, .int y ty] n, sl⟩) (B : Hp) : SqT K B t [.int x, .int y] :=
  .inr ⟨_, _, _, l, rfl, rfl, by rw [sizeLine_eq]; exact (by decide : 2 ≤ 16777216), .cons ⟨_, rfl⟩ (.cons ⟨_, rfl⟩ .nil)⟩
end
end DL
namespace K11
open PySem L2 PyProof.Rows NX DL SX
section
variable {P : Program} {w : World} {K : PySem.W.Frag} {h : Heap} {mg : Str → Option Value}
theorem fat_mk {x : Str} {st : Stmt} {f : Addr} {oc : Value} {od an : Option Addr} {osl : Array (Option Value)} {kV doc pm cdv ct : Value} (X : K.In h) (G : h.Ns mainGlobals mg) (a : PySem.W.nsIn K mainGlobals x = some (some (.ref f)))
    (l : K.lookup f = some ⟨oc, od, .func (PySem.W.fnOf x x (defArgs st) (defBody st) (defScope st) .none kV doc pm an cdv ct), osl⟩) (c : PySem.W.codeIn K cdv x = true) (k : PySem.W.keepIn K (.ref f) = true) : FAt K mg x st :=
  ⟨f, _, PySem.W.mg_of X G a, fun_mk l c k⟩
theorem steps_mk {aS tr tu tl td : Addr} {es : Array DictEntry} {n : Nat} {r1 r2 u1 u2 l1 l2 d1 d2 : Tok} {or ou ol od : Option Addr} {nr nu nl nd : Nat} {sr su sl sd : Array (Option Value)} (X : K.In h) (G : h.Ns mainGlobals mg)
    (a : PySem.W.nsIn K mainGlobals "STEPS" = some (some (.ref aS))) (hl : K.lookup aS = some ⟨.type "dict", none, .dict es n, #[]⟩) (hk : PySem.W.KeysLit w.params es.toList)
    (er : PySem.W.nsIn K aS "r" = some (some (.ref tr))) (eu : PySem.W.nsIn K aS "u" = some (some (.ref tu))) (el : PySem.W.nsIn K aS "l" = some (some (.ref tl))) (ed : PySem.W.nsIn K aS "d" = some (some (.ref td)))
    (lr : K.lookup tr = some ⟨.type "tuple", or, .seq #[.int 1 r1, .int 0 r2] nr, sr⟩) (lu : K.lookup tu = some ⟨.type "tuple", ou, .seq #[.int 0 u1, .int 1 u2] nu, su⟩)
    (ll : K.lookup tl = some ⟨.type "tuple", ol, .seq #[.int (-1) l1, .int 0 l2] nl, sl⟩) (ld : K.lookup td = some ⟨.type "tuple", od, .seq #[.int 0 d1, .int (-1) d2] nd, sd⟩) :
    ∃ aS, mg "STEPS" = some (.ref aS) ∧ ∀ c ∈ dirs, ∃ t, KDct K w aS ⟨#[c]⟩ (.ref t) ∧ ∀ B, SqT K B t [.int (dxc c), .int (dyc c)] := by
  refine ⟨aS, PySem.W.mg_of X G a, fun c hc => ?_⟩
  unfold dirs at hc
  simp only [List.mem_cons, List.not_mem_nil, or_false] at hc
  rcases hc with rfl | rfl | rfl | rfl
  · exact ⟨tr, ⟨es, n, _, hl, hk, er, rfl⟩, tup_mk lr⟩
  · exact ⟨tu, ⟨es, n, _, hl, hk, eu, rfl⟩, tup_mk lu⟩
  · exact ⟨tl, ⟨es, n, _, hl, hk, el, rfl⟩, tup_mk ll⟩
  · exact ⟨td, ⟨es, n, _, hl, hk, ed, rfl⟩, tup_mk ld⟩
theorem txt_mk {t1 t2 t3 t4 : Tok} (X : K.In h) (G : h.Ns mainGlobals mg) (s : ∃ aS, mg "STEPS" = some (.ref aS) ∧ ∀ c ∈ dirs, ∃ t, KDct K w aS ⟨#[c]⟩ (.ref t) ∧ ∀ B, SqT K B t [.int (dxc c), .int (dyc c)])
    (h1 : PySem.W.nsIn K mainGlobals "isinstance" = some none) (h2 : PySem.W.nsIn K mainGlobals "int" = some none) (h3 : PySem.W.nsIn K mainGlobals "bool" = some none) (h4 : PySem.W.nsIn K mainGlobals "tuple" = some none) (h5 : PySem.W.nsIn K mainGlobals "str" = some none) (h6 : PySem.W.nsIn K mainGlobals "len" = some none)
    (h7 : PySem.W.nsIn K mainGlobals "all" = some none) (h8 : PySem.W.nsIn K mainGlobals "range" = some none) (h9 : PySem.W.nsIn K mainGlobals "max" = some none) (h10 : PySem.W.nsIn K mainGlobals "min" = some none)
    (g1 : PySem.W.nsIn K mainGlobals "GREATEST" = some (some (.int 30 t1))) (g2 : PySem.W.nsIn K mainGlobals "DIRECTIONS" = some (some (.str "ruld" t2))) (g3 : PySem.W.nsIn K mainGlobals "DIGITS" = some (some (.str "0123456789" t3))) (g4 : PySem.W.nsIn K mainGlobals "MOST_POINTS" = some (some (.int 401 t4))) : Txt w K mg :=
  { isinstance := PySem.W.mg_none_of X G h1, int := PySem.W.mg_none_of X G h2, bool := PySem.W.mg_none_of X G h3, tuple := PySem.W.mg_none_of X G h4, str := PySem.W.mg_none_of X G h5, len := PySem.W.mg_none_of X G h6
    greatest := ⟨t1, PySem.W.mg_of X G g1⟩, directions := ⟨t2, PySem.W.mg_of X G g2⟩, digits := ⟨t3, PySem.W.mg_of X G g3⟩, most := ⟨t4, PySem.W.mg_of X G g4⟩, steps := s
    all := PySem.W.mg_none_of X G h7, range := PySem.W.mg_none_of X G h8, max := PySem.W.mg_none_of X G h9, min := PySem.W.mg_none_of X G h10 }
/-- the law's def, from the written part -/
theorem all_mk {D0 fI CP CD CB fa f31 : Addr} {oc : Value} {od an : Option Addr} {osl : Array (Option Value)} {kV doc pm cdv ct : Value} (X : K.In h) (G : h.Ns mainGlobals mg) (hfa : mg "law" = some (.ref fa))
    (gN : PySem.W.nsIn K mainGlobals "NevercrossedError" = some (some (.ref D0))) (nP : NCls K D0 fI CP) (B : NBase P K mg D0 fI) (nD : NCls K D0 fI CD) (nB : NCls K D0 fI CB) (gP : PySem.W.nsIn K mainGlobals "InvalidPoint" = some (some (.ref CP))) (gD : PySem.W.nsIn K mainGlobals "InvalidDirection" = some (some (.ref CD))) (gB : PySem.W.nsIn K mainGlobals "BadText" = some (some (.ref CB)))
    (N : NIs K CB) (hk : PySem.W.kitOne K (.ref CB) (.type "str") = some false) (hx : PySem.W.exmOne K (.ref CB) (.ref CB) = some true) (T : Txt w K mg)
    (F9 : FAt K mg "is_integer" (top 9)) (F10 : FAt K mg "is_pair" (top 10)) (F11 : FAt K mg "is_point" (top 11)) (F12 : FAt K mg "is_direction" (top 12)) (F13 : FAt K mg "moved" (top 13)) (F14 : FAt K mg "beside" (top 14)) (F18 : FAt K mg "number_of" (top 18)) (F19 : FAt K mg "walked" (top 19)) (F20 : FAt K mg "is_steps" (top 20)) (F21 : FAt K mg "read_walk" (top 21))
    (F23 : FAt K mg "_law_cell_at" (top 23)) (F24 : FAt K mg "_law_box" (top 24)) (F25 : FAt K mg "_law_take" (top 25)) (F26 : FAt K mg "_law_step" (top 26)) (F27 : FAt K mg "_law_number" (top 27)) (F28 : FAt K mg "_law_due" (top 28)) (F29 : FAt K mg "_law_read" (top 29)) (F30 : FAt K mg "_law_spoilt" (top 30))
    (a : PySem.W.nsIn K mainGlobals "law" = some (some (.ref f31))) (l : K.lookup f31 = some ⟨oc, od, .func (PySem.W.fnOf "law" "law" (defArgs (top 31)) (defBody (top 31)) (defScope (top 31)) .none kV doc pm an cdv ct), osl⟩) (c : PySem.W.codeIn K cdv "law" = true) (k : PySem.W.keepIn K (.ref f31) = true) :
    ∃ fd : FuncData, (∀ (s : Shared) (u : Value), BindsTo s fd ⟨[u], []⟩ [("_law_script", u)]) ∧ ∀ base : Heap, K.In base → base.Ns mainGlobals mg → FnOk P w K mg base (L2.CX P w) 8 fa fd ["_law_script"] (spOf K spLaw) := by
  have e := hfa.symm.trans (PySem.W.mg_of X G a)
  cases e
  have R : Errs P K mg D0 fI CP CD CB := ⟨B, nP, PySem.W.mg_of X G gP, nD, PySem.W.mg_of X G gD, nB, PySem.W.mg_of X G gB⟩
  refine ⟨PySem.W.fnOf "law" "law" (defArgs (top 31)) (defBody (top 31)) (defScope (top 31)) .none kV doc pm an cdv ct, fun s u => .of_eq rfl, fun base _ _ => ?_⟩
  · have G9 := ok_isint (P := P) (base := base) T F9
    have G10 := ok_ispair T G9 F10
    have G11 := ok_ispoint T G10 F11
    have G12 := ok_isdir (P := P) (base := base) T F12
    have G13 := ok_moved (P := P) (base := base) T F13
    have G14 := ok_beside T R G11 G12 G13 F14
    have G18 := ok_num (P := P) (base := base) T F18
    have G20 := ok_steps T G12 F20
    have G19 := ok_walked T G11 G14 F19
    have G21 := ok_read T R N hk G18 G20 G19 F21
    have G23 := ok_cell (P := P) (base := base) T F23
    have G24 := ok_box (P := P) (base := base) T F24
    have G25 := ok_take (P := P) (base := base) T F25
    have G26 := ok_step (P := P) (base := base) T F26
    have G27 := ok_lnum (P := P) (base := base) T F27
    have G28 := ok_due T G27 G26 F28
    have G29 := ok_lread T R hx G21 F29
    have G30 := ok_spoilt T G25 F30
    exact ok_law T R G23 G24 G25 G30 G28 G29 (fun_mk (st := top 31) l c k)
end
theorem ints_dr {K : PySem.W.Frag} {B : Hp} : ∀ ns : List Int, DRs K B (ns.map V.int) (ns.map D.int)
  | [] => .nil
  | n :: ns => .cons (.int n) (ints_dr ns)
theorem walk {l : PySem.W.OpenLaw} {q : Program} {loose : List Str} {XP : (Str → Option Value) → Heap → Prop} {YP : World → Heap → Prop} {d : DefRec} {K : Params → PySem.W.Frag} (hn : l.most = some 63) (hdf : d.params.defaults = [])
    (hY : ∀ (w : World) (h : Heap), YP w h → (K w.params).In h)
    (F : ∀ (w : World) (mg : Str → Option Value) (fa : Addr) (h : Heap), (K w.params).In h → h.Ns mainGlobals mg → mg d.name = some (.ref fa) →
      ∃ fd : FuncData, (∀ (s : Shared) (u : Value), BindsTo s fd ⟨[u], []⟩ [("_law_script", u)]) ∧ ∀ base : Heap, (K w.params).In base → base.Ns mainGlobals mg → FnOk l.prog w (K w.params) mg base (L2.CX l.prog w) 8 fa fd ["_law_script"] (spOf (K w.params) spLaw)) :
    PySem.W.WalkO q loose XP YP l.row.toRowW d [] (fun f vs => PySem.call f vs) :=
  L2.walk_of (n := 63) (k := 8) (x := "_law_script") (CX := fun w => L2.CX l.prog w) (sp := fun w => spOf (K w.params) spLaw) hn (by rw [sizeLine_eq]; decide) hdf ⟨rfl, by decide, by decide⟩ hY F
    (fun _ H a ns hl _ hS => ⟨[.scr (ns.map .int)], H, fun _ => none, fun d _ => d = .bl true, fun _ _ _ => False, .cons (.scr hS (ints_dr ns)) .nil, ⟨Same.refl H, fun _ _ e => nomatch e⟩, ⟨ns, rfl, fun _ => rfl⟩, fun v H' ⟨d, B', M', _, _, r, z⟩ => (by subst z; cases r; rfl), fun _ _ _ ⟨_, _, _, _, _, _, _, _, _, _, _, _, z⟩ => z⟩)
    fun _ _ _ _ _ ⟨_, _, _, _, _, _, _, _, _, _, _, _, z⟩ => z
end K11

set_option Elab.async false
set_option linter.all false

open PySem PySem.W PyProof.Rows in
set_option maxRecDepth 100000 in
set_option maxHeartbeats 0 in
theorem PySem.Challenge.cw_nevercrossed_k11_texts_of_walks_refused_holds : PySem.Challenge.rw_nevercrossed_k11_texts_of_walks_refused.Holds := by
  w_on; o_law; k_head; (case hw => w_witness2)
  k_fill
  refine K11.walk (l := PySem.Challenge.rw_nevercrossed_k11_texts_of_walks_refused) rfl rfl (fun w h Y => PySem.W.kIn_of Y) ?F
  case F =>
    intro w mg fa h KX G hmg
    refine' K11.all_mk KX G hmg ?zN ?zP ?zB ?zD ?zT ?gP ?gD ?gB ?zI ?zk ?zx ?zX ?F9 ?F10 ?F11 ?F12 ?F13 ?F14 ?F18 ?F19 ?F20 ?F21 ?F23 ?F24 ?F25 ?F26 ?F27 ?F28 ?F29 ?F30 ?za ?zl ?zc ?zq
    (case zN => k_is)
    (case gP => k_is)
    (case gD => k_is)
    (case gB => k_is)
    case zP =>
      refine' DL.nc_mk ?pxL ?phb ?psa ?pga ?pgg ?pnv ?piC ?pmr ?psi ?psv ?pkC ?pex ?pty ?phd
      (case pxL => k_is)
      (case psa => k_is)
      (case pga => k_is)
      (case pgg => k_is)
      (case pnv => k_is)
      (case piC => k_is)
      (case pmr => k_is)
      (case psv => k_is)
      (case pkC => k_is)
      (case pex => k_is)
      (case pty => k_is)
      (case phd => k_is)
      (case phb => decide +kernel)
      (case psi => kernel_rfl)
    case zB =>
      refine' DL.nb_mk KX G ?l1 ?c1 ?lc ?hv ?hf ?lcc ?hD ?su ?tp ?op ?tI
      (case l1 => k_is)
      (case c1 => k_is)
      (case lc => k_is)
      (case hv => rfl)
      (case hf => decide +kernel)
      (case lcc => k_is)
      (case hD => k_is)
      (case su => k_is)
      (case tp => decide +kernel)
      (case op => k_is)
      (case tI => k_is)
    case zD =>
      refine' DL.nc_mk ?dxL ?dhb ?dsa ?dga ?dgg ?dnv ?diC ?dmr ?dsi ?dsv ?dkC ?dex ?dty ?dhd
      (case dxL => k_is)
      (case dsa => k_is)
      (case dga => k_is)
      (case dgg => k_is)
      (case dnv => k_is)
      (case diC => k_is)
      (case dmr => k_is)
      (case dsv => k_is)
      (case dkC => k_is)
      (case dex => k_is)
      (case dty => k_is)
      (case dhd => k_is)
      (case dhb => decide +kernel)
      (case dsi => kernel_rfl)
    case zT =>
      refine' DL.nc_mk ?txL ?thb ?tsa ?tga ?tgg ?tnv ?tiC ?tmr ?tsi ?tsv ?tkC ?tex ?tty ?thd
      (case txL => k_is)
      (case tsa => k_is)
      (case tga => k_is)
      (case tgg => k_is)
      (case tnv => k_is)
      (case tiC => k_is)
      (case tmr => k_is)
      (case tsv => k_is)
      (case tkC => k_is)
      (case tex => k_is)
      (case tty => k_is)
      (case thd => k_is)
      (case thb => decide +kernel)
      (case tsi => kernel_rfl)
    case zI =>
      refine' DL.NIs.mk ?n1 ?n2 ?n3 ?n4 ?n5
      (case n1 => kernel_rfl)
      (case n2 => k_is)
      (case n3 => k_is)
      (case n4 => k_is)
      (case n5 => k_is)
    (case zk => kernel_rfl)
    (case zx => kernel_rfl)
    case zX =>
      refine' K11.txt_mk KX G ?st ?h1 ?h2 ?h3 ?h4 ?h5 ?h6 ?h7 ?h8 ?h9 ?h10 ?g1 ?g2 ?g3 ?g4
      case st =>
        refine' K11.steps_mk KX G ?sa ?sl ?sk ?sr ?su ?s3 ?s4 ?lr ?lu ?ll ?ld
        (case sa => k_is)
        (case sl => k_is)
        (case sk => exact ⟨⟨_, _, rfl, rfl⟩, ⟨_, _, rfl, rfl⟩, ⟨_, _, rfl, rfl⟩, ⟨_, _, rfl, rfl⟩, trivial⟩)
        (case sr => k_is)
        (case su => k_is)
        (case s3 => k_is)
        (case s4 => k_is)
        (case lr => k_is)
        (case lu => k_is)
        (case ll => k_is)
        (case ld => k_is)
      (case h1 => k_is)
      (case h2 => k_is)
      (case h3 => k_is)
      (case h4 => k_is)
      (case h5 => k_is)
      (case h6 => k_is)
      (case h7 => k_is)
      (case h8 => k_is)
      (case h9 => k_is)
      (case h10 => k_is)
      (case g1 => k_is)
      (case g2 => k_is)
      (case g3 => k_is)
      (case g4 => k_is)
    case F9 =>
      refine' K11.fat_mk KX G ?a9 ?l9 ?c9 ?k9
      (case a9 => k_is)
      (case l9 => k_is)
      (case c9 => k_is)
      (case k9 => k_is)
    case F10 =>
      refine' K11.fat_mk KX G ?a10 ?l10 ?c10 ?k10
      (case a10 => k_is)
      (case l10 => k_is)
      (case c10 => k_is)
      (case k10 => k_is)
    case F11 =>
      refine' K11.fat_mk KX G ?a11 ?l11 ?c11 ?k11
      (case a11 => k_is)
      (case l11 => k_is)
      (case c11 => k_is)
      (case k11 => k_is)
    case F12 =>
      refine' K11.fat_mk KX G ?a12 ?l12 ?c12 ?k12
      (case a12 => k_is)
      (case l12 => k_is)
      (case c12 => k_is)
      (case k12 => k_is)
    case F13 =>
      refine' K11.fat_mk KX G ?a13 ?l13 ?c13 ?k13
      (case a13 => k_is)
      (case l13 => k_is)
      (case c13 => k_is)
      (case k13 => k_is)
    case F14 =>
      refine' K11.fat_mk KX G ?a14 ?l14 ?c14 ?k14
      (case a14 => k_is)
      (case l14 => k_is)
      (case c14 => k_is)
      (case k14 => k_is)
    case F18 =>
      refine' K11.fat_mk KX G ?a18 ?l18 ?c18 ?k18
      (case a18 => k_is)
      (case l18 => k_is)
      (case c18 => k_is)
      (case k18 => k_is)
    case F19 =>
      refine' K11.fat_mk KX G ?a19 ?l19 ?c19 ?k19
      (case a19 => k_is)
      (case l19 => k_is)
      (case c19 => k_is)
      (case k19 => k_is)
    case F20 =>
      refine' K11.fat_mk KX G ?a20 ?l20 ?c20 ?k20
      (case a20 => k_is)
      (case l20 => k_is)
      (case c20 => k_is)
      (case k20 => k_is)
    case F21 =>
      refine' K11.fat_mk KX G ?a21 ?l21 ?c21 ?k21
      (case a21 => k_is)
      (case l21 => k_is)
      (case c21 => k_is)
      (case k21 => k_is)
    case F23 =>
      refine' K11.fat_mk KX G ?a23 ?l23 ?c23 ?k23
      (case a23 => k_is)
      (case l23 => k_is)
      (case c23 => k_is)
      (case k23 => k_is)
    case F24 =>
      refine' K11.fat_mk KX G ?a24 ?l24 ?c24 ?k24
      (case a24 => k_is)
      (case l24 => k_is)
      (case c24 => k_is)
      (case k24 => k_is)
    case F25 =>
      refine' K11.fat_mk KX G ?a25 ?l25 ?c25 ?k25
      (case a25 => k_is)
      (case l25 => k_is)
      (case c25 => k_is)
      (case k25 => k_is)
    case F26 =>
      refine' K11.fat_mk KX G ?a26 ?l26 ?c26 ?k26
      (case a26 => k_is)
      (case l26 => k_is)
      (case c26 => k_is)
      (case k26 => k_is)
    case F27 =>
      refine' K11.fat_mk KX G ?a27 ?l27 ?c27 ?k27
      (case a27 => k_is)
      (case l27 => k_is)
      (case c27 => k_is)
      (case k27 => k_is)
    case F28 =>
      refine' K11.fat_mk KX G ?a28 ?l28 ?c28 ?k28
      (case a28 => k_is)
      (case l28 => k_is)
      (case c28 => k_is)
      (case k28 => k_is)
    case F29 =>
      refine' K11.fat_mk KX G ?a29 ?l29 ?c29 ?k29
      (case a29 => k_is)
      (case l29 => k_is)
      (case c29 => k_is)
      (case k29 => k_is)
    case F30 =>
      refine' K11.fat_mk KX G ?a30 ?l30 ?c30 ?k30
      (case a30 => k_is)
      (case l30 => k_is)
      (case c30 => k_is)
      (case k30 => k_is)
    (case za => k_is)
    (case zl => k_is)
    (case zc => k_is)
    (case zq => k_is)
