import PyProof.Rows.All
import Wide.All
import OpenK.AllK
import Wide.FinOn
import KE.KStateDown
import Lean
import HandS.ForMost
import HandS.Exc
import HandS.ExcOwn
import HandS.TryOnly
import HandS.TryMany
import HandS.Flow
import HandS.WordsExc
import HandS.Style
import HandS.TupAny
import HandS.TupMul
import HandS.Deep
import HandS.Wide
import HandS.Text
import HandS.IsInst
import HandS.Defaults
import HandS.Walk
import HandS.Zip
import HandS.More
import HandS.Dict
import KE.GoesNew
import KE.GoesMore
import KE.GoesZip
import KE.GoesEnum
import HandS.Ends
import HandS.Head0
import HandS.Head1
import HandS.Head2
import HandS.HeadEnd
import HandS.HeadHook1
import HandS.HeadHook2
import HandS.Steps
import PySem.Challenge.RW_roundhand_k01_stores_by_numbers
set_option Elab.async false
set_option linter.all false
set_option maxRecDepth 100000
set_option maxHeartbeats 4000000
namespace Vl
open PySem PySem.Spec PyProof.Rows L2

/-! ## values -/
/-- a value: frozen data, a cell of this activation, or a tuple with cells in it -/
inductive D where
  | v (d : PyData)
  | ref (n : Nat)
  | mix (xs : List D)
inductive Cell where
  | lst (xs : List D)
abbrev Hs := List Cell
abbrev Sl := List (Option D)
abbrev KF := PySem.W.Frag

/-- the world as the interpreter sees it -/
structure Wd where
  ι : List Addr
  Fz : Addr → Prop
  h : Hs
  H : Hp

/-- a list of the module's own text -/
def KL (K : KF) (a : Addr) (xs : List V) : Prop := ∃ (o : Obj) (its : Array Value) (n : Nat), K.lookup a = some o ∧ o.cls = .type "list" ∧ o.dict = none ∧ o.data = .seq its n ∧ its.size ≤ sizeLine ∧ Vals xs its.toList
/-- a list that nobody changes any more -/
def LRd (K : KF) (Fz : Addr → Prop) (H : Hp) (a : Addr) (vs : List V) : Prop := (Fz a ∧ Rd H a (.lst vs)) ∨ KL K a vs
theorem LRd.sql {K : KF} {Fz : Addr → Prop} {H : Hp} {a : Addr} {vs : List V} (h : LRd K Fz H a vs) : SqL K H a vs := h.elim (fun z => .inl z.2) .inr
/-- a key of a dict -/
def keyP : PyData → Option Key
  | .int i => some (.inl i)
  | .str z => some (.inr z)
  | _ => none
mutual
def RepP (K : KF) (Fz : Addr → Prop) (H : Hp) : PyData → V → Prop
  | .none, v => v = .non
  | .bool b, v => v = .bl b
  | .int i, v => v = .int i
  | .str x, v => v = .str x
  | .list ds, v => ∃ a vs, v = .ref a ∧ LRd K Fz H a vs ∧ RepPs K Fz H ds vs
  | .tuple ds, v => ∃ a vs, v = .ref a ∧ SqT K H a vs ∧ RepPs K Fz H ds vs
  | .dict kvs, v => ∃ a ks, v = .ref a ∧ Fz a ∧ Rd H a (.dK ks) ∧ RepKs K Fz H kvs ks
def RepPs (K : KF) (Fz : Addr → Prop) (H : Hp) : List PyData → List V → Prop
  | [], vs => vs = []
  | d :: ds, vs => ∃ v r, vs = v :: r ∧ RepP K Fz H d v ∧ RepPs K Fz H ds r
def RepKs (K : KF) (Fz : Addr → Prop) (H : Hp) : List (PyData × PyData) → List (Key × V) → Prop
  | [], ks => ks = []
  | (k, d) :: r, ks => ∃ q v ks', ks = (q, v) :: ks' ∧ keyP k = some q ∧ RepP K Fz H d v ∧ RepKs K Fz H r ks'
end
mutual
def RepD (K : KF) (w : Wd) : D → V → Prop
  | .v d, v => RepP K w.Fz w.H d v
  | .ref n, v => ∃ a, w.ι[n]? = some a ∧ v = .ref a
  | .mix ds, v => ∃ a vs, v = .ref a ∧ SqT K w.H a vs ∧ RepDs K w ds vs
def RepDs (K : KF) (w : Wd) : List D → List V → Prop
  | [], vs => vs = []
  | d :: ds, vs => ∃ v r, vs = v :: r ∧ RepD K w d v ∧ RepDs K w ds r
end
def CellOk (K : KF) (w : Wd) (a : Addr) : Cell → Prop
  | .lst ds => ∃ vs, w.H a = some (.lst vs) ∧ RepDs K w ds vs

structure Wd.Ok (K : KF) (w : Wd) : Prop where
  nd : w.ι.Nodup
  len : w.ι.length = w.h.length
  cell : ∀ (n : Nat) a c, w.ι[n]? = some a → w.h[n]? = some c → CellOk K w a c
  apart : ∀ a, w.Fz a → a ∉ w.ι
  there : ∀ a, w.Fz a → w.H a ≠ none

structure Wd.Le (w w' : Wd) : Prop where
  more : ∃ m, w'.ι = w.ι ++ m ∧ ∀ a ∈ m, w.H a = none
  up : ∀ a, w.Fz a → w'.Fz a
  new : ∀ a, w'.Fz a → w.Fz a ∨ w.H a = none
  keep : ∀ b o, w.H b = some o → b ∉ w.ι → w'.H b = some o

section
variable {K : KF} {w w' w'' : Wd}
theorem Wd.Ok.tracked (ok : w.Ok K) {a : Addr} (h : a ∈ w.ι) : ∃ vs, w.H a = some (.lst vs) := by
  obtain ⟨n, hn, e⟩ := List.getElem_of_mem h
  have hl : n < w.h.length := by rw [← ok.len]; exact hn
  have c := ok.cell n a _ (by rw [List.getElem?_eq_getElem hn, e]) (List.getElem?_eq_getElem hl)
  cases hc : w.h[n] with
  | lst ds =>
    rw [hc] at c
    obtain ⟨vs, e, _⟩ := c
    exact ⟨vs, e⟩
theorem Wd.Le.refl (w : Wd) : w.Le w := ⟨⟨[], by simp, by simp⟩, fun _ h => h, fun _ h => .inl h, fun _ _ h _ => h⟩
theorem Wd.Le.trans (a : w.Le w') (b : w'.Le w'') (ok : w'.Ok K) : w.Le w'' := by
  obtain ⟨m, em, hm⟩ := a.more
  obtain ⟨m', em', hm'⟩ := b.more
  have back : ∀ x, w'.H x = none → w.H x = none := fun x hx => by
    cases q : w.H x with
    | none => rfl
    | some o =>
      by_cases hi : x ∈ w.ι
      · have : x ∈ w'.ι := by rw [em]; exact List.mem_append_left _ hi
        obtain ⟨vs, e⟩ := ok.tracked this
        rw [hx] at e; cases e
      · have := a.keep x o q hi
        rw [hx] at this; cases this
  refine ⟨⟨m ++ m', by rw [em', em, List.append_assoc], fun x hx => ?_⟩, fun x h => b.up x (a.up x h), fun x h => ?_, fun x o h hi => ?_⟩
  · rcases List.mem_append.mp hx with h | h
    · exact hm x h
    · exact back x (hm' x h)
  · rcases b.new x h with h | h
    · exact a.new x h
    · exact .inr (back x h)
  · have h1 := a.keep x o h hi
    refine b.keep x o h1 fun hx => ?_
    rw [em] at hx
    rcases List.mem_append.mp hx with h' | h'
    · exact hi h'
    · rw [hm x h'] at h; cases h
theorem Rd.keepW (ok : w.Ok K) (le : w.Le w') {a : Addr} {u : HO} (h : Rd w.H a u) (hi : a ∉ w.ι) : Rd w'.H a u := by
  rcases h with h | ⟨o, h⟩
  · exact .inl (le.keep _ _ h hi)
  · exact .inr ⟨o, le.keep _ _ h hi⟩
theorem SqT.keepW (ok : w.Ok K) (le : w.Le w') {a : Addr} {vs : List V} (h : SqT K w.H a vs) : SqT K w'.H a vs := by
  rcases h with h | h
  · refine .inl (Rd.keepW ok le h fun hi => ?_)
    obtain ⟨xs, e⟩ := ok.tracked hi
    rcases h with h | ⟨o, h⟩
    · rw [e] at h; cases h
    · rw [e] at h; cases h
  · exact .inr h
theorem LRd.keepW (ok : w.Ok K) (le : w.Le w') {a : Addr} {vs : List V} (h : LRd K w.Fz w.H a vs) : LRd K w'.Fz w'.H a vs := by
  rcases h with h | h
  · exact .inl ⟨le.up _ h.1, Rd.keepW ok le h.2 (ok.apart _ h.1)⟩
  · exact .inr h
mutual
theorem RepP.mono (ok : w.Ok K) (le : w.Le w') : ∀ (d : PyData) {v : V}, RepP K w.Fz w.H d v → RepP K w'.Fz w'.H d v
  | .none, _, h => h
  | .bool _, _, h => h
  | .int _, _, h => h
  | .str _, _, h => h
  | .list ds, _, ⟨a, vs, e, hr, hs⟩ => ⟨a, vs, e, LRd.keepW ok le hr, RepPs.mono ok le ds hs⟩
  | .tuple ds, _, ⟨a, vs, e, hr, hs⟩ => ⟨a, vs, e, SqT.keepW ok le hr, RepPs.mono ok le ds hs⟩
  | .dict ks, _, ⟨a, us, e, hf, hr, hs⟩ => ⟨a, us, e, le.up _ hf, Rd.keepW ok le hr (ok.apart _ hf), RepKs.mono ok le ks hs⟩
theorem RepPs.mono (ok : w.Ok K) (le : w.Le w') : ∀ (ds : List PyData) {vs : List V}, RepPs K w.Fz w.H ds vs → RepPs K w'.Fz w'.H ds vs
  | [], _, h => h
  | d :: ds, _, ⟨v, r, e, h1, h2⟩ => ⟨v, r, e, RepP.mono ok le d h1, RepPs.mono ok le ds h2⟩
theorem RepKs.mono (ok : w.Ok K) (le : w.Le w') : ∀ (ds : List (PyData × PyData)) {vs : List (Key × V)}, RepKs K w.Fz w.H ds vs → RepKs K w'.Fz w'.H ds vs
  | [], _, h => h
  | (k, d) :: ds, _, ⟨q, v, r, e, hk, h1, h2⟩ => ⟨q, v, r, e, hk, RepP.mono ok le d h1, RepKs.mono ok le ds h2⟩
end
mutual
theorem RepD.mono (ok : w.Ok K) (le : w.Le w') : ∀ (d : D) {v : V}, RepD K w d v → RepD K w' d v
  | .v d, _, h => RepP.mono ok le d h
  | .ref n, _, ⟨a, e, r⟩ => by
    obtain ⟨m, em, _⟩ := le.more
    refine ⟨a, ?_, r⟩
    rw [em, List.getElem?_append_left (List.getElem?_eq_some_iff.mp e).1]
    exact e
  | .mix ds, _, ⟨a, vs, e, hr, hs⟩ => ⟨a, vs, e, SqT.keepW ok le hr, RepDs.mono ok le ds hs⟩
theorem RepDs.mono (ok : w.Ok K) (le : w.Le w') : ∀ (ds : List D) {vs : List V}, RepDs K w ds vs → RepDs K w' ds vs
  | [], _, h => h
  | d :: ds, _, ⟨v, r, e, h1, h2⟩ => ⟨v, r, e, RepD.mono ok le d h1, RepDs.mono ok le ds h2⟩
end
theorem RepPs.len : ∀ {ds : List PyData} {vs : List V} {Fz : Addr → Prop} {H : Hp}, RepPs K Fz H ds vs → vs.length = ds.length
  | [], _, _, _, h => by
    rw [show _ = [] from h]
    rfl
  | d :: ds, _, _, _, ⟨v, r, e, _, h2⟩ => by
    rw [e, List.length_cons, List.length_cons, RepPs.len h2]
theorem RepDs.len : ∀ {ds : List D} {vs : List V}, RepDs K w ds vs → vs.length = ds.length
  | [], _, h => by
    rw [show _ = [] from h]
    rfl
  | d :: ds, _, ⟨v, r, e, _, h2⟩ => by
    rw [e, List.length_cons, List.length_cons, RepDs.len h2]
end

/-! ## what the caller of a piece of code wants -/
/-- an exception as it is told: its class by name, its fields -/
structure Ex where
  c : Str
  fs : List (Str × D)
inductive ER where
  | ok (d : D) (h : Hs)
  | ex (x : Ex) (h : Hs)
abbrev EM := Sl → Hs → Option ER

/-- how an exception lies in the heap -/
def ExRep (K : KF) (mg : Str → Option Value) (w : Wd) (x : Ex) (cls : Value) (da : Option Addr) : Prop :=
  ∃ C, mg x.c = some (.ref C) ∧ cls = .ref C ∧ ((x.fs = [] ∧ da = none) ∨
    ∃ d fv, da = some d ∧ w.H d = some (.xd fv) ∧ RepDs K w (x.fs.map (·.2)) (fv.map (·.2)) ∧ fv.map (·.1) = x.fs.map (·.1))

structure SRep (K : KF) (w : Wd) (sl : Sl) (σ : L2.St) : Prop where
  len : sl.length = σ.length
  at' : ∀ (i : Nat) d, sl[i]? = some (some d) → ∃ v, σ[i]? = some (some v) ∧ RepD K w d v
theorem SRep.mono {K : KF} {w w' : Wd} {sl : Sl} {σ : L2.St} (s : SRep K w sl σ) (ok : w.Ok K) (le : w.Le w') : SRep K w' sl σ :=
  ⟨s.len, fun i d h => let ⟨v, e, r⟩ := s.at' i d h; ⟨v, e, RepD.mono ok le d r⟩⟩

section
variable (K : KF) (mg : Str → Option Value) (W : WX)
def WpE (σ : L2.St) (r : Option ER) (w : Wd) (R : D → V → Wd → Prop) : Prop :=
  match r with
  | some (.ok d h') => ∀ w' v, w.Le w' → w'.Ok K → w'.h = h' → RepD K w' d v → R d v w'
  | some (.ex x h') => ∀ w' cls da, w.Le w' → w'.Ok K → w'.h = h' → ExRep K mg w' x cls da → W cls da σ w'.H
  | none => False
def tI (f : EM) : TE := fun σ H Q => ∃ (w : Wd) (sl : Sl), w.H = H ∧ w.Ok K ∧ SRep K w sl σ ∧ WpE K mg W σ (f sl w.h) w fun _ v w' => Q v w'.H
end
/-- an expression does what f says -/
def SE (X : Cx) (W : WX) (e : Expr) (f : EM) : Prop := PE X e (tI X.K X.mg W f)

theorem PE.mono' {X : Cx} {e : Expr} {t t' : TE} (h : PE X e t) (i : ∀ σ H Q, t' σ H Q → t σ H Q) : PE X e t' := ⟨fun pins s σ H Q I q => h.run pins s σ H Q I (i σ H Q q)⟩
theorem PT.mono' {X : Cx} {e : Expr} {t t' : TT} (h : PT X e t) (i : ∀ σ H Q, t' σ H Q → t σ H Q) : PT X e t' := ⟨fun pins s σ H Q I q => h.run pins s σ H Q I (i σ H Q q)⟩
theorem PA.mono' {X : Cx} {e : List Expr} {t t' : TA} (h : PA X e t) (i : ∀ σ H Q, t' σ H Q → t σ H Q) : PA X e t' := ⟨fun pos pins s σ H Q I q => h.run pos pins s σ H Q I (i σ H Q q)⟩
theorem PS.mono' {X : Cx} {e : Stmt} {t t' : TS} (h : PS X e t) (i : ∀ D σ H, t' D σ H → t D σ H) : PS X e t' := ⟨fun pins s σ H D I q => h.run pins s σ H D I (i D σ H q)⟩
theorem PSs.mono' {X : Cx} {e : List Stmt} {t t' : TS} (h : PSs X e t) (i : ∀ D σ H, t' D σ H → t D σ H) : PSs X e t' := ⟨fun pins s σ H D I q => h.run pins s σ H D I (i D σ H q)⟩

section
variable {K : KF} {mg : Str → Option Value} {W : WX} {σ : L2.St} {w w1 : Wd} {sl : Sl}
theorem WpE.le {r : Option ER} {R : D → V → Wd → Prop} (h : WpE K mg W σ r w R) (le : w.Le w1) (ok : w1.Ok K) : WpE K mg W σ r w1 R := by
  unfold WpE at h ⊢
  split
  · exact fun w' v l o e r => h w' v (le.trans l ok) o e r
  · exact fun w' v da l o e r => h w' v da (le.trans l ok) o e r
  · exact h
theorem WpE.imp {r : Option ER} {R R' : D → V → Wd → Prop} (h : WpE K mg W σ r w R) (i : ∀ d v w', w.Le w' → w'.Ok K → RepD K w' d v → R d v w' → R' d v w') : WpE K mg W σ r w R' := by
  unfold WpE at h ⊢
  split
  · exact fun w' v l o e r => i _ v w' l o r (h w' v l o e r)
  · exact h
  · exact h
def EM.bind (f : EM) (k : D → EM) : EM := fun s h => match f s h with
  | some (.ok d h') => k d s h'
  | some (.ex x h') => some (.ex x h')
  | none => none
def EM.lift (g : Hs → Option D) : EM := fun _ h => match g h with
  | some d => some (.ok d h)
  | none => none
/-- what is known behind the first of several pieces -/
theorem tI_bind {f : EM} {k : D → EM} {R : D → V → Wd → Prop} {Q : VK} (ok : w.Ok K) (hs : SRep K w sl σ) (h : WpE K mg W σ ((f.bind k) sl w.h) w R)
    (q : ∀ d v w1, w.Le w1 → w1.Ok K → SRep K w1 sl σ → RepD K w1 d v → WpE K mg W σ (k d sl w1.h) w1 R → Q v w1.H) : tI K mg W f σ w.H Q := by
  refine ⟨w, sl, rfl, ok, hs, ?_⟩
  unfold EM.bind at h
  unfold WpE
  cases e : f sl w.h with
  | none =>
    rw [e] at h
    exact h
  | some r =>
    cases r with
    | ok d h' =>
      rw [e] at h
      exact fun w' v l o eh r => q d v w' l o (hs.mono ok l) r (by rw [eh]; exact WpE.le h l o)
    | ex x h' =>
      rw [e] at h
      exact h
theorem WpE.lift {g : Hs → Option D} {R : D → V → Wd → Prop} (h : WpE K mg W σ (EM.lift g sl w.h) w R) : ∃ d, g w.h = some d ∧ ∀ w' v, w.Le w' → w'.Ok K → w'.h = w.h → RepD K w' d v → R d v w' := by
  unfold EM.lift at h
  cases e : g w.h with
  | none =>
    rw [e] at h
    exact h.elim
  | some d =>
    rw [e] at h
    exact ⟨d, rfl, h⟩
end

/-! ## operators by values -/
/-- behind an operation: the value v, the world w' -/
def After (K : KF) (w : Wd) (d : D) (Q : VK) : Prop := ∀ w' v, w.Le w' → w'.Ok K → w'.h = w.h → RepD K w' d v → Q v w'.H
def OpD (K : KF) (r : R2) (g : D → D → Hs → Option D) : Prop :=
  ∀ (w : Wd) (x y : V) (dx dy dz : D) (Q : VK), w.Ok K → RepD K w dx x → RepD K w dy y → g dx dy w.h = some dz → After K w dz Q → r x y w.H Q
def UnD (K : KF) (r : V → Hp → VK → Prop) (g : D → Hs → Option D) : Prop :=
  ∀ (w : Wd) (x : V) (dx dz : D) (Q : VK), w.Ok K → RepD K w dx x → g dx w.h = some dz → After K w dz Q → r x w.H Q
def CallD (K : KF) (r : List V → Hp → VK → Prop) (g : List D → Hs → Option D) : Prop :=
  ∀ (w : Wd) (xs : List V) (ds : List D) (dz : D) (Q : VK), w.Ok K → RepDs K w ds xs → g ds w.h = some dz → After K w dz Q → r xs w.H Q
def eUn (g : D → Hs → Option D) (a : EM) : EM := a.bind fun x => EM.lift (g x)
def eBin (g : D → D → Hs → Option D) (a b : EM) : EM := a.bind fun x => b.bind fun y => EM.lift (g x y)
theorem After.here {K : KF} {w : Wd} {d : D} {Q : VK} (h : After K w d Q) (ok : w.Ok K) {v : V} (r : RepD K w d v) : Q v w.H := h w v (Wd.Le.refl w) ok rfl r

section
variable {X : Cx} {W : WX} {a b : Expr} {f g : EM} {pos : Pos}
theorem tOp_of {r : R2} {gd : D → D → Hs → Option D} (hd : OpD X.K r gd) (σ : L2.St) (H : Hp) (Q : VK) (h : tI X.K X.mg W (eBin gd f g) σ H Q) : tOp r (tI X.K X.mg W f) (tI X.K X.mg W g) σ H Q := by
  obtain ⟨w, sl, rfl, ok, hs, h⟩ := h
  refine tI_bind ok hs h fun dx x w1 l1 ok1 hs1 rx h1 => ?_
  refine tI_bind ok1 hs1 h1 fun dy y w2 l2 ok2 hs2 ry h2 => ?_
  obtain ⟨dz, e, q⟩ := WpE.lift h2
  exact hd w2 x y dx dy dz Q ok2 (RepD.mono ok1 l2 dx rx) ry e q
theorem se_op {op : Operator} {r : R2} {gd : D → D → Hs → Option D} (ho : OpR X (binaryOp op) r) (hd : OpD X.K r gd) (ha : SE X W a f) (hb : SE X W b g) : SE X W (.BinOp a op b pos) (eBin gd f g) :=
  PE.mono' (pe_op ho ha hb) fun σ H Q h => tOp_of hd σ H Q h
theorem se_cmp {op : CmpOp} {r : R2} {gd : D → D → Hs → Option D} (ho : OpR X (compareOp op) r) (hd : OpD X.K r gd) (ha : SE X W a f) (hb : SE X W b g) (hm : behindInMarks op b = false) : SE X W (.Compare a [op] [b] pos) (eBin gd f g) :=
  PE.mono' (pe_cmpR ho ha hb hm) fun σ H Q h => tOp_of hd σ H Q h
theorem se_ix {r : R2} {gd : D → D → Hs → Option D} (hr : IxR X r) (hd : OpD X.K r gd) (ha : SE X W a f) (hb : SE X W b g) (hs : PlainIx b) : SE X W (.Subscript a b pos) (eBin gd f g) :=
  PE.mono' (pe_ix hr ha hb hs) fun σ H Q h => tOp_of hd σ H Q h
theorem se_un {op : UnaryOp} {r : V → Hp → VK → Prop} {gd : D → Hs → Option D} (ho : UnR X (unaryOp op) r) (hd : UnD X.K r gd) (ha : SE X W a f) : SE X W (.UnaryOp op a pos) (eUn gd f) :=
  PE.mono' (pe_un ho ha) fun σ H Q h => by
    obtain ⟨w, sl, rfl, ok, hs, h⟩ := h
    refine tI_bind ok hs h fun dx x w1 l1 ok1 hs1 rx h1 => ?_
    obtain ⟨dz, e, q⟩ := WpE.lift h1
    exact hd w1 x dx dz Q ok1 rx e q
end
end Vl
set_option maxHeartbeats 4000000
namespace Vl
open PySem PySem.Spec PyProof.Rows L2

/-! ## shallow views -/
def unv : D → Option PyData
  | .v d => some d
  | _ => none
def unvs : List D → Option (List PyData)
  | [] => some []
  | d :: r => match unv d, unvs r with
    | some p, some ps => some (p :: ps)
    | _, _ => none
/-- a value as data, its own cell read -/
def shal (h : Hs) : D → Option PyData
  | .v d => some d
  | .ref n => match h[n]? with
    | some (.lst xs) => (unvs xs).map .list
    | none => none
  | .mix _ => none
/-- a value that is read now: a list may be a cell -/
def RepS (K : KF) (w : Wd) : PyData → V → Prop
  | .list ds, v => ∃ a vs, v = .ref a ∧ SqL K w.H a vs ∧ RepPs K w.Fz w.H ds vs
  | d, v => RepP K w.Fz w.H d v
section
variable {K : KF} {w w' : Wd}
theorem RepP.s : ∀ {d : PyData} {v : V}, RepP K w.Fz w.H d v → RepS K w d v
  | .none, _, h => h
  | .bool _, _, h => h
  | .int _, _, h => h
  | .str _, _, h => h
  | .list _, _, ⟨a, vs, e, r, s⟩ => ⟨a, vs, e, r.sql, s⟩
  | .tuple _, _, h => h
  | .dict _, _, h => h
theorem unvs_rep : ∀ {xs : List D} {ps : List PyData} {vs : List V}, unvs xs = some ps → RepDs K w xs vs → RepPs K w.Fz w.H ps vs
  | [], ps, vs, e, r => by
    have e' : [] = ps := Option.some.inj e
    subst e'
    exact r
  | d :: r, ps, vs, e, ⟨v, vr, ev, h1, h2⟩ => by
    unfold unvs at e
    cases d with
    | v p =>
      cases q : unvs r with
      | none => rw [q] at e; cases e
      | some qs =>
        rw [q] at e
        have e' : p :: qs = ps := Option.some.inj e
        subst e'
        exact ⟨v, vr, ev, h1, unvs_rep q h2⟩
    | ref n => cases e
    | mix xs => cases e
theorem shal_rep (ok : w.Ok K) : ∀ {d : D} {p : PyData} {v : V}, RepD K w d v → shal w.h d = some p → RepS K w p v
  | .v d, p, v, r, e => by
    have e' : d = p := Option.some.inj e
    subst e'
    exact RepP.s r
  | .ref n, p, v, ⟨a, ha, ev⟩, e => by
    simp only [shal] at e
    cases q : w.h[n]? with
    | none => simp [q] at e
    | some c =>
      cases c with
      | lst xs =>
        cases u : unvs xs with
        | none => simp [q, u] at e
        | some ps =>
          simp [q, u] at e
          subst e
          obtain ⟨vs, hH, hr⟩ := ok.cell n a _ ha q
          exact ⟨a, vs, ev, .inl (.inl hH), unvs_rep u hr⟩
  | .mix _, _, _, _, e => by cases e
end

/-! ## operators over data -/
def OpP (K : KF) (r : R2) (g : PyData → PyData → Option PyData) : Prop :=
  ∀ (w : Wd) (x y : V) (p q z : PyData) (Q : VK), w.Ok K → RepS K w p x → RepS K w q y → g p q = some z → After K w (.v z) Q → r x y w.H Q
def UnP (K : KF) (r : V → Hp → VK → Prop) (g : PyData → Option PyData) : Prop :=
  ∀ (w : Wd) (x : V) (p z : PyData) (Q : VK), w.Ok K → RepS K w p x → g p = some z → After K w (.v z) Q → r x w.H Q
def lift1 (g : PyData → Option PyData) : D → Hs → Option D := fun x h => match shal h x with
  | some p => (g p).map .v
  | none => none
def lift2 (g : PyData → PyData → Option PyData) : D → D → Hs → Option D := fun x y h => match shal h x, shal h y with
  | some p, some q => (g p q).map .v
  | _, _ => none
theorem OpP.d {K : KF} {r : R2} {g : PyData → PyData → Option PyData} (h : OpP K r g) : OpD K r (lift2 g) := by
  intro w x y dx dy dz Q ok rx ry e a
  unfold lift2 at e
  cases ex : shal w.h dx with
  | none => rw [ex] at e; cases e
  | some p =>
    cases ey : shal w.h dy with
    | none => rw [ex, ey] at e; cases e
    | some q =>
      rw [ex, ey] at e
      cases ez : g p q with
      | none => simp [ez] at e
      | some z =>
        simp [ez] at e
        subst e
        exact h w x y p q z Q ok (shal_rep ok rx ex) (shal_rep ok ry ey) ez a
theorem UnP.d {K : KF} {r : V → Hp → VK → Prop} {g : PyData → Option PyData} (h : UnP K r g) : UnD K r (lift1 g) := by
  intro w x dx dz Q ok rx e a
  unfold lift1 at e
  cases ex : shal w.h dx with
  | none => rw [ex] at e; cases e
  | some p =>
    rw [ex] at e
    cases ez : g p with
    | none => simp [ez] at e
    | some z =>
      simp [ez] at e
      subst e
      exact h w x p z Q ok (shal_rep ok rx ex) ez a
/-- one rule or the other, by what g chooses -/
theorem OpP.or {K : KF} {r r' : R2} {g g' : PyData → PyData → Option PyData} (h : OpP K r g) (h' : OpP K r' g') : OpP K (fun x y H Q => r x y H Q ∨ r' x y H Q) fun p q => match g p q with
    | some z => some z
    | none => g' p q := by
  intro w x y p q z Q ok rx ry e a
  simp only at e
  cases ez : g p q with
  | none =>
    rw [ez] at e
    exact .inr (h' w x y p q z Q ok rx ry e a)
  | some z' =>
    rw [ez] at e
    have e' : z' = z := Option.some.inj e
    subst e'
    exact .inl (h w x y p q z' Q ok rx ry ez a)

/-! ### new objects -/
/-- a list that was just made, as a frozen one -/
def Wd.newL (w : Wd) (p : Addr) (o : HO) : Wd := { w with H := upd w.H p o, Fz := fun a => w.Fz a ∨ a = p }
def Wd.newT (w : Wd) (p : Addr) (o : HO) : Wd := { w with H := upd w.H p o }
section
variable {K : KF} {w : Wd} {p : Addr} {o : HO}
theorem Wd.newT_le (hp : w.H p = none) : w.Le (w.newT p o) :=
  ⟨⟨[], by simp [Wd.newT], by simp⟩, fun _ h => h, fun _ h => .inl h, fun b u h _ => by
    show upd w.H p o b = some u
    rw [upd_ne (ne_of_none h hp)]
    exact h⟩
theorem Wd.newL_le (hp : w.H p = none) : w.Le (w.newL p o) :=
  ⟨⟨[], by simp [Wd.newL], by simp⟩, fun _ h => .inl h, fun a h => by
    rcases h with h | h
    · exact .inl h
    · subst h
      exact .inr hp, fun b u h _ => by
    show upd w.H p o b = some u
    rw [upd_ne (ne_of_none h hp)]
    exact h⟩
mutual
/-- a representation stays where all that is tracked stays -/
theorem RepP.same {Fz Fz' : Addr → Prop} {H H' : Hp} (k : ∀ b u, H b = some u → H' b = some u) (f : ∀ a, Fz a → Fz' a) : ∀ (d : PyData) {v : V}, RepP K Fz H d v → RepP K Fz' H' d v
  | .none, _, h => h
  | .bool _, _, h => h
  | .int _, _, h => h
  | .str _, _, h => h
  | .list ds, _, ⟨a, vs, e, hr, hs⟩ => ⟨a, vs, e, by
      rcases hr with ⟨hf, h | ⟨o, h⟩⟩ | h
      · exact .inl ⟨f _ hf, .inl (k _ _ h)⟩
      · exact .inl ⟨f _ hf, .inr ⟨o, k _ _ h⟩⟩
      · exact .inr h, RepPs.same k f ds hs⟩
  | .tuple ds, _, ⟨a, vs, e, hr, hs⟩ => ⟨a, vs, e, by
      rcases hr with (h | ⟨o, h⟩) | h
      · exact .inl (.inl (k _ _ h))
      · exact .inl (.inr ⟨o, k _ _ h⟩)
      · exact .inr h, RepPs.same k f ds hs⟩
  | .dict ds, _, ⟨a, us, e, hf, hr, hs⟩ => ⟨a, us, e, f _ hf, hr.elim (fun h => .inl (k _ _ h)) (fun ⟨o, h⟩ => .inr ⟨o, k _ _ h⟩), RepKs.same k f ds hs⟩
theorem RepPs.same {Fz Fz' : Addr → Prop} {H H' : Hp} (k : ∀ b u, H b = some u → H' b = some u) (f : ∀ a, Fz a → Fz' a) : ∀ (ds : List PyData) {vs : List V}, RepPs K Fz H ds vs → RepPs K Fz' H' ds vs
  | [], _, h => h
  | d :: ds, _, ⟨v, r, e, h1, h2⟩ => ⟨v, r, e, RepP.same k f d h1, RepPs.same k f ds h2⟩
theorem RepKs.same {Fz Fz' : Addr → Prop} {H H' : Hp} (k : ∀ b u, H b = some u → H' b = some u) (f : ∀ a, Fz a → Fz' a) : ∀ (ds : List (PyData × PyData)) {vs : List (Key × V)}, RepKs K Fz H ds vs → RepKs K Fz' H' ds vs
  | [], _, h => h
  | (_, d) :: ds, _, ⟨q, v, r, e, hk, h1, h2⟩ => ⟨q, v, r, e, hk, RepP.same k f d h1, RepKs.same k f ds h2⟩
end
theorem Wd.newT_ok (ok : w.Ok K) (hp : w.H p = none) : (w.newT p o).Ok K where
  nd := ok.nd
  len := ok.len
  cell := fun n a c ha hc => by
    have le : w.Le (w.newT p o) := Wd.newT_le hp
    have := ok.cell n a c ha hc
    cases c with
    | lst ds =>
      obtain ⟨vs, e, r⟩ := this
      refine ⟨vs, ?_, RepDs.mono ok le ds r⟩
      show upd w.H p o a = _
      rw [upd_ne (ne_of_none e hp)]
      exact e
  apart := ok.apart
  there := fun a h => by
    show upd w.H p o a ≠ none
    by_cases e : a = p
    · subst e
      rw [upd_same]
      exact fun z => by cases z
    · rw [upd_ne e]
      exact ok.there a h
theorem Wd.newL_ok (ok : w.Ok K) (hp : w.H p = none) : (w.newL p o).Ok K where
  nd := ok.nd
  len := ok.len
  cell := fun n a c ha hc => by
    have le : w.Le (w.newL p o) := Wd.newL_le hp
    have := ok.cell n a c ha hc
    cases c with
    | lst ds =>
      obtain ⟨vs, e, r⟩ := this
      refine ⟨vs, ?_, RepDs.mono ok le ds r⟩
      show upd w.H p o a = _
      rw [upd_ne (ne_of_none e hp)]
      exact e
  apart := fun a h => by
    rcases h with h | h
    · exact ok.apart a h
    · subst h
      intro hi
      obtain ⟨vs, e⟩ := ok.tracked hi
      rw [hp] at e
      cases e
  there := fun a h => by
    show upd w.H p o a ≠ none
    by_cases e : a = p
    · subst e
      rw [upd_same]
      exact fun z => by cases z
    · rw [upd_ne e]
      rcases h with h | h
      · exact ok.there a h
      · exact absurd h e
/-- a new list of known things -/
theorem After.newL {ds : List PyData} {vs : List V} {Q : VK} (a : After K w (.v (.list ds)) Q) (ok : w.Ok K) (r : RepPs K w.Fz w.H ds vs) : ∀ p, w.H p = none → Q (.ref p) (upd w.H p (.lst vs)) := fun p hp =>
  a (w.newL p (.lst vs)) (.ref p) (Wd.newL_le hp) (Wd.newL_ok ok hp) rfl ⟨p, vs, rfl, .inl ⟨.inr rfl, .inl upd_same⟩, RepPs.mono ok (Wd.newL_le hp) ds r⟩
theorem After.newT {ds : List PyData} {vs : List V} {Q : VK} (a : After K w (.v (.tuple ds)) Q) (ok : w.Ok K) (r : RepPs K w.Fz w.H ds vs) : ∀ p, w.H p = none → Q (.ref p) (upd w.H p (.tup vs)) := fun p hp =>
  a (w.newT p (.tup vs)) (.ref p) (Wd.newT_le hp) (Wd.newT_ok ok hp) rfl ⟨p, vs, rfl, .inl (.inl upd_same), RepPs.mono ok (Wd.newT_le hp) ds r⟩
theorem RepPs.append {Fz : Addr → Prop} {H : Hp} : ∀ {ds es : List PyData} {vs us : List V}, RepPs K Fz H ds vs → RepPs K Fz H es us → RepPs K Fz H (ds ++ es) (vs ++ us)
  | [], _, _, _, h, h' => by
    rw [show _ = [] from h]
    exact h'
  | d :: ds, _, _, _, ⟨v, r, e, h1, h2⟩, h' => ⟨v, r ++ _, by rw [e]; rfl, h1, RepPs.append h2 h'⟩
theorem RepPs.get {Fz : Addr → Prop} {H : Hp} : ∀ {ds : List PyData} {vs : List V} {i : Nat} {d : PyData}, RepPs K Fz H ds vs → ds[i]? = some d → ∃ v, vs[i]? = some v ∧ RepP K Fz H d v
  | [], _, _, _, _, h => by simp at h
  | d :: ds, _, 0, _, ⟨v, r, e, h1, h2⟩, h => by
    simp at h
    subst h
    exact ⟨v, by rw [e]; rfl, h1⟩
  | d :: ds, _, i + 1, _, ⟨v, r, e, h1, h2⟩, h => by
    obtain ⟨u, e', r'⟩ := RepPs.get (i := i) h2 (by simpa using h)
    exact ⟨u, by rw [e]; simpa using e', r'⟩
theorem RepDs.get : ∀ {ds : List D} {vs : List V} {i : Nat} {d : D}, RepDs K w ds vs → ds[i]? = some d → ∃ v, vs[i]? = some v ∧ RepD K w d v
  | [], _, _, _, _, h => by simp at h
  | d :: ds, _, 0, _, ⟨v, r, e, h1, h2⟩, h => by
    simp at h
    subst h
    exact ⟨v, by rw [e]; rfl, h1⟩
  | d :: ds, _, i + 1, _, ⟨v, r, e, h1, h2⟩, h => by
    obtain ⟨u, e', r'⟩ := RepDs.get (i := i) h2 (by simpa using h)
    exact ⟨u, by rw [e]; simpa using e', r'⟩
theorem RepPs.take {Fz : Addr → Prop} {H : Hp} : ∀ {ds : List PyData} {vs : List V} (n : Nat), RepPs K Fz H ds vs → RepPs K Fz H (ds.take n) (vs.take n)
  | _, _, 0, _ => by simp [RepPs]
  | [], _, n + 1, h => by
    rw [show _ = [] from h]
    simp [RepPs]
  | d :: ds, _, n + 1, ⟨v, r, e, h1, h2⟩ => ⟨v, r.take n, by rw [e]; rfl, h1, RepPs.take n h2⟩
theorem RepPs.drop {Fz : Addr → Prop} {H : Hp} : ∀ {ds : List PyData} {vs : List V} (n : Nat), RepPs K Fz H ds vs → RepPs K Fz H (ds.drop n) (vs.drop n)
  | _, _, 0, h => h
  | [], _, n + 1, h => by
    rw [show _ = [] from h]
    simp [RepPs]
  | d :: ds, _, n + 1, ⟨v, r, e, h1, h2⟩ => by
    rw [e]
    exact RepPs.drop n h2
theorem RepPs.reverse {Fz : Addr → Prop} {H : Hp} : ∀ {ds : List PyData} {vs : List V}, RepPs K Fz H ds vs → RepPs K Fz H ds.reverse vs.reverse
  | [], _, h => by
    rw [show _ = [] from h]
    rfl
  | d :: ds, _, ⟨v, r, e, h1, h2⟩ => by
    rw [e, List.reverse_cons, List.reverse_cons]
    exact RepPs.append (RepPs.reverse h2) ⟨v, [], rfl, h1, rfl⟩
theorem RepPs.rep {Fz : Addr → Prop} {H : Hp} {ds : List PyData} {vs : List V} (h : RepPs K Fz H ds vs) : ∀ k : Nat, RepPs K Fz H (List.replicate k ds).flatten (List.replicate k vs).flatten
  | 0 => rfl
  | k + 1 => by
    rw [List.replicate_succ, List.replicate_succ, List.flatten_cons, List.flatten_cons]
    exact RepPs.append h (RepPs.rep h k)
end
end Vl
set_option maxHeartbeats 4000000
namespace Vl
open PySem PySem.Spec PyProof.Rows L2

/-! ## ints -/
def cmul (i j : Int) : Bool := (decide (-(2 ^ 64) < i) && decide (i < 2 ^ 64)) || (decide (-(2 ^ 64) < j) && decide (j < 2 ^ 64))
theorem cmul_ok {i j : Int} (h : cmul i j = true) : CMul i j := by
  unfold cmul at h
  rw [Bool.or_eq_true, Bool.and_eq_true, Bool.and_eq_true, decide_eq_true_eq, decide_eq_true_eq, decide_eq_true_eq, decide_eq_true_eq] at h
  exact h
def cdiv (j : Int) : Bool := decide (0 < j) && decide (j < 1073741824)
def cpow (i j : Int) : Bool := decide (0 ≤ j) && decide (j ≤ 1000000) && decide (i.natAbs < 2 ^ 64)
section
variable {K : KF}
theorem int_of {w : Wd} {i : Int} {v : V} (h : RepS K w (.int i) v) : v = .int i := h
theorem str_of {w : Wd} {i : Str} {v : V} (h : RepS K w (.str i) v) : v = .str i := h
theorem bl_of {w : Wd} {i : Bool} {v : V} (h : RepS K w (.bool i) v) : v = .bl i := h
theorem non_of {w : Wd} {v : V} (h : RepS K w .none v) : v = .non := h

/-- an int operator as data -/
def intP (C : Int → Int → Bool) (g : Int → Int → Int) : PyData → PyData → Option PyData
  | .int i, .int j => if C i j = true then some (.int (g i j)) else none
  | _, _ => none
def cmpP (g : Int → Int → Bool) : PyData → PyData → Option PyData
  | .int i, .int j => some (.bool (g i j))
  | _, _ => none
theorem op_intP {C : Int → Int → Prop} {Cb : Int → Int → Bool} {g : Int → Int → Int} (hC : ∀ i j, Cb i j = true → C i j) : OpP K (rI C fun i j => .int (g i j)) (intP Cb g) := by
  intro w x y p q z Q ok rx ry e a
  cases p with
  | int i =>
    cases q with
    | int j =>
      simp only [intP] at e
      split at e
      · rename_i hc
        cases e
        cases int_of rx
        cases int_of ry
        exact ⟨i, j, rfl, rfl, hC i j hc, a.here ok rfl⟩
      · cases e
    | _ => cases e
  | _ => cases e
theorem op_intP0 {g : Int → Int → Int} : OpP K (rI0 fun i j => .int (g i j)) (intP (fun _ _ => true) g) := by
  intro w x y p q z Q ok rx ry e a
  cases p with
  | int i =>
    cases q with
    | int j =>
      cases e
      cases int_of rx
      cases int_of ry
      exact ⟨i, j, rfl, rfl, a.here ok rfl⟩
    | _ => cases e
  | _ => cases e
theorem op_cmpP {g : Int → Int → Bool} : OpP K (rI0 fun i j => .bl (g i j)) (cmpP g) := by
  intro w x y p q z Q ok rx ry e a
  cases p with
  | int i =>
    cases q with
    | int j =>
      cases e
      cases int_of rx
      cases int_of ry
      exact ⟨i, j, rfl, rfl, a.here ok rfl⟩
    | _ => cases e
  | _ => cases e

/-! ## + -/
def catStrP : PyData → PyData → Option PyData
  | .str i, .str j => if i.length + j.length ≤ sizeLine then some (.str (i ++ j)) else none
  | _, _ => none
def catTupP : PyData → PyData → Option PyData
  | .tuple i, .tuple j => if i.length + j.length ≤ sizeLine then some (.tuple (i ++ j)) else none
  | _, _ => none
def catLstP : PyData → PyData → Option PyData
  | .list i, .list j => if i.length + j.length ≤ sizeLine then some (.list (i ++ j)) else none
  | _, _ => none
theorem op_catStrP : OpP K (fun x y H Q => ∃ i j, x = .str i ∧ y = .str j ∧ i.length + j.length ≤ sizeLine ∧ Q (.str (i ++ j)) H) catStrP := by
  intro w x y p q z Q ok rx ry e a
  cases p with
  | str i =>
    cases q with
    | str j =>
      simp only [catStrP] at e
      split at e
      · rename_i hc
        cases e
        cases str_of rx
        cases str_of ry
        exact ⟨i, j, rfl, rfl, hc, a.here ok rfl⟩
      · cases e
    | _ => cases e
  | _ => cases e
theorem op_catTupP : OpP K (rCatA K) catTupP := by
  intro w x y p q z Q ok rx ry e a
  cases p with
  | tuple i =>
    cases q with
    | tuple j =>
      simp only [catTupP] at e
      split at e
      · rename_i hc
        cases e
        obtain ⟨b, vs, rfl, ht, hr⟩ := rx
        obtain ⟨c, us, rfl, ht', hr'⟩ := ry
        refine ⟨b, c, vs, us, rfl, rfl, ht, ht', by rw [hr.len, hr'.len]; exact hc, fun e0 => ?_, fun _ e0 => ?_, fun _ _ p hp => ?_⟩
        · have : i = [] := by
            have := hr.len
            rw [e0] at this
            exact List.length_eq_zero_iff.mp this.symm
          subst this
          exact a.here ok ⟨c, us, rfl, ht', hr'⟩
        · have : j = [] := by
            have := hr'.len
            rw [e0] at this
            exact List.length_eq_zero_iff.mp this.symm
          subst this
          rw [List.append_nil] at a
          exact a.here ok ⟨b, vs, rfl, ht, hr⟩
        · exact a.newT ok (RepPs.append hr hr') p hp
      · cases e
    | _ => cases e
  | _ => cases e
/-- list + list, whatever the lists are -/
def rCatL (K : KF) : R2 := fun x y H Q => ∃ l b xs zs, x = .ref l ∧ y = .ref b ∧ SqL K H l xs ∧ SqL K H b zs ∧ xs.length + zs.length ≤ sizeLine ∧ ∀ p, H p = none → Q (.ref p) (upd H p (.lst (xs ++ zs)))
theorem op_catL {X : Cx} : OpR X (binaryOp .Add) (rCatL X.K) := by
  intro pins s σ H x y v u Q I rx ry h
  obtain ⟨l, b, xs, zs, rfl, rfl, hH, hB, hz, q⟩ := h
  cases rx
  cases ry
  obtain ⟨its, r, ⟨⟨cls, dd, data, sl⟩, n, ho, hc, _, hd⟩, z⟩ := I.list hH
  obtain ⟨its2, r2, ⟨⟨cls2, dd2, data2, sl2⟩, n2, ho2, hc2, _, hd2⟩, z2⟩ := I.list hB
  simp only at hc hd hc2 hd2
  subst hc hd hc2 hd2
  have e : its.toArray ++ its2.toArray = (its ++ its2).toArray := by simp
  have hl := r.length
  have hl2 := r2.length
  refine concat_meets ⟨_, ho, rfl⟩ ⟨_, ho2, rfl⟩ noFill_list_add seq_list_add PySem.F.slot_list_add PySem.F.entry_list_add (PySem.F.args_list_add_2 _ _) (list_addW l b its.toArray its2.toArray n n2 dd dd2 sl sl2 (by rw [List.size_toArray, List.size_toArray]; omega)) ⟨ho, ho2, ?_⟩
  rw [e]
  exact ⟨.ref _, _, I.lnew (t' := s.toks) (r.append r2) (by rw [List.length_append]; omega), rfl, q _ I.fresh⟩
theorem op_catLstP : OpP K (rCatL K) catLstP := by
  intro w x y p q z Q ok rx ry e a
  cases p with
  | list i =>
    cases q with
    | list j =>
      simp only [catLstP] at e
      split at e
      · rename_i hc
        cases e
        obtain ⟨b, vs, rfl, ht, hr⟩ := rx
        obtain ⟨c, us, rfl, ht', hr'⟩ := ry
        exact ⟨b, c, vs, us, rfl, rfl, ht, ht', by rw [hr.len, hr'.len]; exact hc, a.newL ok (RepPs.append hr hr')⟩
      · cases e
    | _ => cases e
  | _ => cases e
def addP : PyData → PyData → Option PyData
  | .int i, .int j => some (.int (i + j))
  | .str i, .str j => if i.length + j.length ≤ sizeLine then some (.str (i ++ j)) else none
  | .tuple i, .tuple j => if i.length + j.length ≤ sizeLine then some (.tuple (i ++ j)) else none
  | .list i, .list j => if i.length + j.length ≤ sizeLine then some (.list (i ++ j)) else none
  | _, _ => none
abbrev rAddA (K : KF) : R2 := fun x y H Q => (((rI0 fun i j => .int (i + j)) x y H Q ∨ (∃ i j, x = .str i ∧ y = .str j ∧ i.length + j.length ≤ sizeLine ∧ Q (.str (i ++ j)) H)) ∨ rCatA K x y H Q) ∨ rCatL K x y H Q
theorem op_addR {X : Cx} : OpR X (binaryOp .Add) (rAddA X.K) := ((op_add.or op_add_str).or op_catA).or op_catL
theorem op_addP : OpP K (rAddA K) addP := by
  intro w x y p q z Q ok rx ry e a
  cases p with
  | int i =>
    cases q with
    | int j => exact .inl (.inl (.inl (op_intP0 w x y _ _ z Q ok rx ry e a)))
    | _ => cases e
  | str i =>
    cases q with
    | str j => exact .inl (.inl (.inr (op_catStrP w x y _ _ z Q ok rx ry e a)))
    | _ => cases e
  | tuple i =>
    cases q with
    | tuple j => exact .inl (.inr (op_catTupP w x y _ _ z Q ok rx ry e a))
    | _ => cases e
  | list i =>
    cases q with
    | list j => exact .inr (op_catLstP w x y _ _ z Q ok rx ry e a)
    | _ => cases e
  | _ => cases e

/-! ## * -/
def mulP : PyData → PyData → Option PyData
  | .int i, .int j => if cmul i j = true then some (.int (i * j)) else none
  | .list xs, .int k => if (decide (-(2 ^ 63) ≤ k) && decide (k < 2 ^ 63) && decide (xs.length * k.toNat ≤ sizeLine)) = true then some (.list (List.replicate k.toNat xs).flatten) else none
  | .tuple xs, .int k => if (decide (xs ≠ []) && decide (2 ≤ k) && decide (k ≤ 1000) && decide (xs.length ≤ 1000)) = true then some (.tuple (List.replicate k.toNat xs).flatten) else none
  | _, _ => none
theorem int_rmul_listW (a : Int) (t : Tok) (l : Addr) (items : Array Value) (n : Nat) (dd : Option Addr) (sl : Array (Option Value)) :
    Meets (Builtin.«int.__rmul__» ⟨[.int a t, .ref l], []⟩) (fun _ R s => s.heap.get? l = some { cls := .type "list", dict := dd, data := .seq items n, slots := sl } ∧ R (.ok (.ret Value.notImplemented)) s) :=
  .of_wp fun prog w A R s h => by obtain ⟨hp, g, d, tk, os⟩ := s; obtain ⟨hl, h⟩ := h; wp_walk using wpAny_loadPart' hl; exact ⟨_, rfl, h⟩
theorem list_mulW (l : Addr) (items : Array Value) (n : Nat) (dd : Option Addr) (sl : Array (Option Value)) (x : Int) (u : Tok) (hc0 : ¬(!Builtin.List.listFitsIndex x) = true) (hc1 : ¬items.size * x.toNat > (2 ^ 63 - 1) / 8) (hc2 : ¬Builtin.List.listTooLong (items.size * x.toNat) = true)
    (hsz : (List.foldl (fun x1 x2 => x1 ++ x2) #[] (List.replicate (if items.isEmpty = true then 0 else x.toNat) items)).size ≤ sizeLine) :
    Meets (Builtin.«list.__mul__» ⟨[.ref l, .int x u], []⟩) (fun _ R s => s.heap.get? l = some { cls := .type "list", dict := dd, data := .seq items n, slots := sl } ∧ R (.ok (.ret (Value.ref s.heap.objs.size))) { s with heap := s.heap.push { cls := Value.type "list", data := Data.seq (List.foldl (fun x1 x2 => x1 ++ x2) #[] (List.replicate (if items.isEmpty = true then 0 else x.toNat) items)) }, toks := s.toks }) :=
  .of_wp fun prog w A R s h => by
    obtain ⟨hp, g, d, tk, os⟩ := s
    obtain ⟨hl, h⟩ := h
    have f1 := AutoSeq1.idx_int
    wp_walk using wpAny_loadPart' hl
    repeat (first
      | (refine wpAny_ite_false (decide_eq_false hc0) ?_; wp_walk using wpAny_loadPart' hl)
      | (refine wpAny_ite_false (decide_eq_false hc1) ?_; wp_walk using wpAny_loadPart' hl)
      | (refine wpAny_ite_false (decide_eq_false hc2) ?_; wp_walk using wpAny_loadPart' hl)
      | (refine wpAny_ite_false (decide_eq_false (Nat.not_lt.mpr hsz)) ?_; wp_walk using wpAny_loadPart' hl))
    exact ⟨_, rfl, h⟩
/-- as op_rep, whatever the list is -/
def rRepL (K : KF) : R2 := fun x y H Q => ∃ l k xs, x = .ref l ∧ y = .int k ∧ SqL K H l xs ∧ -(2 ^ 63) ≤ k ∧ k < 2 ^ 63 ∧ xs.length * k.toNat ≤ sizeLine ∧
  ∀ p, H p = none → Q (.ref p) (upd H p (.lst (List.replicate k.toNat xs).flatten))
theorem op_repL {X : Cx} : OpR X (binaryOp .Mult) (rRepL X.K) := by
  intro pins s σ H x y v u Q I rx ry h
  obtain ⟨l, k, xs, rfl, rfl, hH, h1, h2, hz, q⟩ := h
  cases rx
  obtain ⟨t, rfl⟩ := ry
  obtain ⟨its, r, ⟨⟨cls, dd, data, sl⟩, n, ho, hc, hdn, hd⟩, z⟩ := I.list hH
  simp only at hc hd hdn
  subst hc hd hdn
  have hl := r.length
  have hlen : its.toArray.size * k.toNat ≤ sizeLine := by rw [List.size_toArray, ← hl]; exact hz
  have hcap : ¬ its.toArray.size * k.toNat > (2 ^ 63 - 1) / 8 := by
    have : (sizeLine : Nat) ≤ (2 ^ 63 - 1) / 8 := by decide
    omega
  have hfit : ¬ (!Builtin.List.listFitsIndex k) = true := by
    rw [fitsIndex_both h1 h2]
    exact Bool.false_ne_true
  have hlong : ¬ Builtin.List.listTooLong (its.toArray.size * k.toNat) = true := by
    rw [notLongL hlen]
    exact Bool.false_ne_true
  have hnew : List.foldl (fun x1 x2 => x1 ++ x2) #[] (List.replicate (if its.toArray.isEmpty = true then 0 else k.toNat) its.toArray) = (List.replicate k.toNat its).flatten.toArray := by
    have f0 : ∀ m : Nat, List.foldl (fun x1 x2 => x1 ++ x2) #[] (List.replicate m its.toArray) = (List.replicate m its).flatten.toArray := fun m => by
      have := foldl_rep its m []
      rw [List.nil_append] at this
      exact this
    rw [f0]
    cases its with
    | nil => simp
    | cons a r' => rw [if_neg (by simp)]
  have flen : (List.replicate k.toNat its).flatten.length ≤ sizeLine := by
    rw [PyProof.Rows.lm_len_rep_flat, Nat.mul_comm, ← hl]
    exact hz
  refine wpAny_binaryOp_repeat_ref (T := "list") (U := "int") (by decide) ⟨_, ho, rfl⟩ (fun s' => typeIs_int s' k t) noFill_list_mul F.fills_int_mul F.slot_int_rmul repeat_list F.slot_int_index.lookup
    (call_meets F.slot_int_rmul (typeIs_int s k t) F.entry_int_rmul (F.args_int_rmul_2 _ _) (int_rmul_listW k t l its.toArray n none sl)
      ⟨ho, rfl, ⟨_, ho, rfl⟩, call_meets F.slot_list_mul ⟨_, ho, rfl⟩ F.entry_list_mul (F.args_list_mul_2 _ _) (list_mulW l its.toArray n none sl k t hfit hcap hlong (by rw [hnew, List.size_toArray]; exact flen)) ⟨ho, ?_⟩⟩)
  rw [hnew]
  exact ⟨.ref _, _, I.lnew (t' := s.toks) (r.rep k.toNat) (by rw [PyProof.Rows.lm_len_rep_flat, Nat.mul_comm]; exact hz), rfl, q _ I.fresh⟩
abbrev rMulA (K : KF) : R2 := fun x y H Q => ((rI CMul fun i j => .int (i * j)) x y H Q ∨ rRepL K x y H Q) ∨ rRepT K x y H Q
theorem op_mulR {X : Cx} : OpR X (binaryOp .Mult) (rMulA X.K) := (op_mul.or op_repL).or op_repT
theorem op_mulP : OpP K (rMulA K) mulP := by
  intro w x y p q z Q ok rx ry e a
  cases p with
  | int i =>
    cases q with
    | int j => exact .inl (.inl (op_intP (Cb := cmul) (g := fun i j => i * j) (fun _ _ => cmul_ok) w x y _ _ z Q ok rx ry e a))
    | _ => cases e
  | list i =>
    cases q with
    | int j =>
      simp only [mulP] at e
      split at e
      · rename_i hc
        cases e
        rw [Bool.and_eq_true, Bool.and_eq_true, decide_eq_true_eq, decide_eq_true_eq, decide_eq_true_eq] at hc
        obtain ⟨b, vs, rfl, ht, hr⟩ := rx
        cases int_of ry
        exact .inl (.inr ⟨b, j, vs, rfl, rfl, ht, hc.1.1, hc.1.2, by rw [hr.len]; exact hc.2, a.newL ok (RepPs.rep hr _)⟩)
      · cases e
    | _ => cases e
  | tuple i =>
    cases q with
    | int j =>
      simp only [mulP] at e
      split at e
      · rename_i hc
        cases e
        rw [Bool.and_eq_true, Bool.and_eq_true, Bool.and_eq_true, decide_eq_true_eq, decide_eq_true_eq, decide_eq_true_eq, decide_eq_true_eq] at hc
        obtain ⟨b, vs, rfl, ht, hr⟩ := rx
        cases int_of ry
        refine .inr ⟨b, j, vs, rfl, rfl, ht, fun e0 => hc.1.1.1 ?_, hc.1.1.2, hc.1.2, by rw [hr.len]; exact hc.2, a.newT ok (RepPs.rep hr _)⟩
        have := hr.len
        rw [e0] at this
        exact List.length_eq_zero_iff.mp this.symm
      · cases e
    | _ => cases e
  | _ => cases e

/-! ## others on ints -/
def subP := intP (fun _ _ => true) fun i j => i - j
def fdivP := intP (fun _ j => cdiv j) fun i j => i / j
def modP := intP (fun _ j => decide (0 < j)) fun i j => i % j
def powP := intP cpow fun i j => i ^ j.toNat
theorem op_subP : OpP K (rI0 fun i j => .int (i - j)) subP := op_intP0
theorem op_fdivP : OpP K (rI CDiv fun i j => .int (i / j)) fdivP := op_intP fun i j h => by
  unfold cdiv at h
  rw [Bool.and_eq_true, decide_eq_true_eq, decide_eq_true_eq] at h
  exact h
theorem op_modP : OpP K (rI (fun _ j => 0 < j) fun i j => .int (i % j)) modP := op_intP fun i j h => of_decide_eq_true h
theorem op_powP : OpP K (rI CPow fun i j => .int (i ^ j.toNat)) powP := op_intP fun i j h => by
  unfold cpow at h
  rw [Bool.and_eq_true, Bool.and_eq_true, decide_eq_true_eq, decide_eq_true_eq, decide_eq_true_eq] at h
  exact ⟨h.1.1, h.1.2, h.2⟩
def ltP := cmpP fun i j => decide (i < j)
def leP := cmpP fun i j => decide (i ≤ j)
def gtP := cmpP fun i j => decide (j < i)
def geP := cmpP fun i j => decide (j ≤ i)
theorem op_ltP : OpP K (rI0 fun i j => .bl (decide (i < j))) ltP := op_cmpP
theorem op_leP : OpP K (rI0 fun i j => .bl (decide (i ≤ j))) leP := op_cmpP
theorem op_gtP : OpP K (rI0 fun i j => .bl (decide (j < i))) gtP := op_cmpP
theorem op_geP : OpP K (rI0 fun i j => .bl (decide (j ≤ i))) geP := op_cmpP
def negP : PyData → Option PyData
  | .int i => some (.int (-i))
  | _ => none
theorem un_negP : UnP K (rU fun i => .int (-i)) negP := by
  intro w x p z Q ok rx e a
  cases p with
  | int i =>
    cases e
    cases int_of rx
    exact ⟨i, rfl, a.here ok rfl⟩
  | _ => cases e

/-! ## deep views: ==, in -/
mutual
def frz (h : Hs) : Nat → D → Option PyData
  | 0, d => unv d
  | n + 1, d => match d with
    | .v p => some p
    | .ref k => match h[k]? with
      | some (.lst xs) => (frzs h n xs).map .list
      | none => none
    | .mix xs => (frzs h n xs).map .tuple
def frzs (h : Hs) : Nat → List D → Option (List PyData)
  | 0, _ => none
  | n + 1, xs => xs.foldr (fun d r => match frz h n d, r with
    | some p, some ps => some (p :: ps)
    | _, _ => none) (some [])
end
theorem frz_v (h : Hs) (n : Nat) (p : PyData) : frz h n (.v p) = some p := by cases n <;> rfl
mutual
theorem RepP.dp {Fz : Addr → Prop} {H : Hp} : ∀ {d : PyData} {v : V}, d.canLay0 = true → RepP K Fz H d v → Dp K H v d
  | .none, _, _, h => by rw [show _ = V.non from h]; exact .non
  | .bool b, _, _, h => by rw [show _ = V.bl b from h]; exact .bl b
  | .int i, _, _, h => by rw [show _ = V.int i from h]; exact .int i
  | .str x, _, _, h => by rw [show _ = V.str x from h]; exact .str x
  | .list ds, _, c, ⟨a, vs, e, r, s⟩ => by rw [e]; exact .lst r.sql (RepPs.dp (by simpa [PyData.canLay0] using c) s)
  | .tuple ds, _, c, ⟨a, vs, e, r, s⟩ => by rw [e]; exact .tup r (RepPs.dp (by simpa [PyData.canLay0] using c) s)
  | .dict _, _, c, _ => by simp [PyData.canLay0] at c
theorem RepPs.dp {Fz : Addr → Prop} {H : Hp} : ∀ {ds : List PyData} {vs : List V}, PyData.canLayAll0 ds = true → RepPs K Fz H ds vs → DpAll K H vs ds
  | [], _, _, h => by rw [show _ = [] from h]; exact .nil
  | d :: ds, _, c, ⟨v, r, e, h1, h2⟩ => by
    rw [PyData.canLayAll0, Bool.and_eq_true] at c
    rw [e]; exact .cons (RepP.dp c.1 h1) (RepPs.dp c.2 h2)
end
mutual
/-- the deep view stands in the heap; its lists are frozen ones or cells -/
theorem frz_rep {w : Wd} (ok : w.Ok K) {G : Addr → Prop} (f : ∀ a, w.Fz a → G a) (i : ∀ a, a ∈ w.ι → G a) : ∀ (n : Nat) {d : D} {p : PyData} {v : V}, RepD K w d v → frz w.h n d = some p → RepP K G w.H p v
  | 0, .v d, p, v, r, e => by
    have e' : d = p := Option.some.inj e
    subst e'
    exact RepP.same (fun _ _ h => h) f _ r
  | 0, .ref _, _, _, _, e => by cases e
  | 0, .mix _, _, _, _, e => by cases e
  | n + 1, .v d, p, v, r, e => by
    have e' : d = p := Option.some.inj e
    subst e'
    exact RepP.same (fun _ _ h => h) f _ r
  | n + 1, .ref k, p, v, ⟨a, ha, ev⟩, e => by
    simp only [frz] at e
    cases q : w.h[k]? with
    | none => simp [q] at e
    | some c =>
      cases c with
      | lst xs =>
        cases u : frzs w.h n xs with
        | none => simp [q, u] at e
        | some ps =>
          simp [q, u] at e
          subst e
          obtain ⟨vs, hH, hr⟩ := ok.cell k a _ ha q
          exact ⟨a, vs, ev, .inl ⟨i a (List.mem_of_getElem? ha), .inl hH⟩, frzs_rep ok f i n hr u⟩
  | n + 1, .mix xs, p, v, ⟨a, vs, ev, ht, hr⟩, e => by
    simp only [frz] at e
    cases u : frzs w.h n xs with
    | none => simp [u] at e
    | some ps =>
      simp [u] at e
      subst e
      exact ⟨a, vs, ev, ht, frzs_rep ok f i n hr u⟩
theorem frzs_rep {w : Wd} (ok : w.Ok K) {G : Addr → Prop} (f : ∀ a, w.Fz a → G a) (i : ∀ a, a ∈ w.ι → G a) : ∀ (n : Nat) {xs : List D} {ps : List PyData} {vs : List V}, RepDs K w xs vs → frzs w.h n xs = some ps → RepPs K G w.H ps vs
  | 0, _, _, _, _, e => by cases e
  | n + 1, xs, ps, vs, r, e => by
    induction xs generalizing ps vs with
    | nil =>
      have e' : [] = ps := Option.some.inj e
      subst e'
      exact r
    | cons d xs ih =>
      obtain ⟨v, vr, ev, h1, h2⟩ := r
      simp only [frzs, List.foldr_cons] at e
      cases q : frz w.h n d with
      | none => simp [q] at e
      | some p =>
        cases q2 : frzs w.h (n + 1) xs with
        | none =>
          simp only [frzs] at q2
          simp [q, q2] at e
        | some ps' =>
          have q3 := q2
          simp only [frzs] at q2
          simp [q, q2] at e
          subst e
          exact ⟨v, vr, ev, frz_rep ok f i n h1 q, ih _ _ h2 q3⟩
end
/-- the depth of the views that are taken -/
abbrev dep : Nat := 12
def eqD (neg : Bool) : D → D → Hs → Option D := fun x y h => match frz h dep x, frz h dep y with
  | some p, some q => if (SeqAt.shaped p && SeqAt.shaped q) = true then some (.v (.bool (if neg = true then !PyData.eqv p q else PyData.eqv p q))) else none
  | _, _ => none
theorem op_eqDD : OpD K (rEqD K) (eqD false) := by
  intro w x y dx dy dz Q ok rx ry e a
  unfold eqD at e
  cases ex : frz w.h dep dx with
  | none => simp [ex] at e
  | some p =>
    cases ey : frz w.h dep dy with
    | none => simp [ex, ey] at e
    | some q =>
      rw [ex, ey] at e
      simp only at e
      split at e
      · rename_i hs
        cases e
        rw [Bool.and_eq_true] at hs
        exact ⟨p, q, (frz_rep ok (G := fun _ => True) (fun _ _ => trivial) (fun _ _ => trivial) dep rx ex).dp (SeqAt.canLay_of_shaped hs.1), (frz_rep ok (G := fun _ => True) (fun _ _ => trivial) (fun _ _ => trivial) dep ry ey).dp (SeqAt.canLay_of_shaped hs.2), hs.1, hs.2, a.here ok rfl⟩
      · cases e
theorem op_neDD : OpD K (rNeD K) (eqD true) := by
  intro w x y dx dy dz Q ok rx ry e a
  unfold eqD at e
  cases ex : frz w.h dep dx with
  | none => simp [ex] at e
  | some p =>
    cases ey : frz w.h dep dy with
    | none => simp [ex, ey] at e
    | some q =>
      rw [ex, ey] at e
      simp only at e
      split at e
      · rename_i hs
        cases e
        rw [Bool.and_eq_true] at hs
        exact ⟨p, q, (frz_rep ok (G := fun _ => True) (fun _ _ => trivial) (fun _ _ => trivial) dep rx ex).dp (SeqAt.canLay_of_shaped hs.1), (frz_rep ok (G := fun _ => True) (fun _ _ => trivial) (fun _ _ => trivial) dep ry ey).dp (SeqAt.canLay_of_shaped hs.2), hs.1, hs.2, a.here ok rfl⟩
      · cases e
/-- is None, is not None -/
def isNoneD : D → Bool
  | .v .none => true
  | _ => false
def ngt (neg b : Bool) : Bool := if neg = true then !b else b
def isND (neg : Bool) : D → D → Hs → Option D := fun x y _ => match y with
  | .v .none => some (.v (.bool (ngt neg (isNoneD x))))
  | _ => none
theorem repD_non {w : Wd} {x : V} {dx : D} (r : RepD K w dx x) : decide (x = V.non) = isNoneD dx := by
  cases dx with
  | v d =>
    cases d with
    | none => exact decide_eq_true r
    | bool b => exact decide_eq_false fun e => by rw [show x = _ from r] at e; cases e
    | int b => exact decide_eq_false fun e => by rw [show x = _ from r] at e; cases e
    | str b => exact decide_eq_false fun e => by rw [show x = _ from r] at e; cases e
    | list b => obtain ⟨a, vs, ev, _⟩ := r; exact decide_eq_false fun e => by rw [ev] at e; cases e
    | tuple b => obtain ⟨a, vs, ev, _⟩ := r; exact decide_eq_false fun e => by rw [ev] at e; cases e
    | dict b => obtain ⟨a, ks, rfl, _⟩ := r; simp [isNoneD]
  | ref n => obtain ⟨a, _, ev⟩ := r; exact decide_eq_false fun e => by rw [ev] at e; cases e
  | mix xs => obtain ⟨a, vs, ev, _⟩ := r; exact decide_eq_false fun e => by rw [ev] at e; cases e
theorem op_isNDD : OpD K (fun x y H Q => y = .non ∧ Q (.bl (decide (x = .non))) H) (isND false) := by
  intro w x y dx dy dz Q ok rx ry e a
  unfold isND at e
  split at e
  · refine ⟨ry, ?_⟩
    rw [repD_non rx]
    cases e
    exact a.here ok rfl
  · cases e
theorem op_notNDD : OpD K (fun x y H Q => y = .non ∧ Q (.bl (!decide (x = .non))) H) (isND true) := by
  intro w x y dx dy dz Q ok rx ry e a
  unfold isND at e
  split at e
  · refine ⟨ry, ?_⟩
    rw [repD_non rx]
    cases e
    exact a.here ok rfl
  · cases e
/-- is, is not of truths -/
def isBP (neg : Bool) : PyData → PyData → Option PyData
  | .bool a, .bool b => some (.bool (if neg = true then !decide (a = b) else decide (a = b)))
  | _, _ => none
theorem op_isBP : OpP K rIsB (isBP false) := by
  intro w x y p q z Q ok rx ry e a
  cases p with
  | bool i =>
    cases q with
    | bool j =>
      cases e
      cases bl_of rx
      cases bl_of ry
      exact ⟨i, j, rfl, rfl, a.here ok rfl⟩
    | _ => cases e
  | _ => cases e
theorem op_notBP : OpP K rNotB (isBP true) := by
  intro w x y p q z Q ok rx ry e a
  cases p with
  | bool i =>
    cases q with
    | bool j =>
      cases e
      cases bl_of rx
      cases bl_of ry
      exact ⟨i, j, rfl, rfl, a.here ok rfl⟩
    | _ => cases e
  | _ => cases e

/-! ## in -/
def isFlat : PyData → Bool
  | .none => true
  | .bool _ => true
  | .int _ => true
  | .str _ => true
  | _ => false
theorem flat_of {Fz : Addr → Prop} {H : Hp} {d : PyData} {v : V} (f : isFlat d = true) (r : RepP K Fz H d v) : flatV v = true := by
  cases d with
  | none => rw [show v = _ from r]; rfl
  | bool b => rw [show v = _ from r]; rfl
  | int b => rw [show v = _ from r]; rfl
  | str b => rw [show v = _ from r]; rfl
  | _ => cases f
theorem eqV_of {Fz : Addr → Prop} {H : Hp} {d e : PyData} {v u : V} (f : isFlat d = true) (g : isFlat e = true) (r : RepP K Fz H d v) (s : RepP K Fz H e u) : eqV v u = PyData.eqv d e := by
  cases d with
  | none =>
    cases e with
    | none => rw [show v = _ from r, show u = _ from s]; rfl
    | bool b => rw [show v = _ from r, show u = _ from s]; rfl
    | int b => rw [show v = _ from r, show u = _ from s]; rfl
    | str b => rw [show v = _ from r, show u = _ from s]; rfl
    | _ => cases g
  | bool b =>
    cases e with
    | none => rw [show v = _ from r, show u = _ from s]; rfl
    | bool b => rw [show v = _ from r, show u = _ from s]; rfl
    | int b => rw [show v = _ from r, show u = _ from s]; rfl
    | str b => rw [show v = _ from r, show u = _ from s]; rfl
    | _ => cases g
  | int b =>
    cases e with
    | none => rw [show v = _ from r, show u = _ from s]; rfl
    | bool b => rw [show v = _ from r, show u = _ from s]; rfl
    | int b => rw [show v = _ from r, show u = _ from s]; rfl
    | str b => rw [show v = _ from r, show u = _ from s]; rfl
    | _ => cases g
  | str b =>
    cases e with
    | none => rw [show v = _ from r, show u = _ from s]; rfl
    | bool b => rw [show v = _ from r, show u = _ from s]; rfl
    | int b => rw [show v = _ from r, show u = _ from s]; rfl
    | str b => rw [show v = _ from r, show u = _ from s]; rfl
    | _ => cases g
  | _ => cases f
theorem inV_of {Fz : Addr → Prop} {H : Hp} {d : PyData} {v : V} (f : isFlat d = true) (r : RepP K Fz H d v) : ∀ {ds : List PyData} {vs : List V}, ds.all isFlat = true → RepPs K Fz H ds vs → vs.all flatV = true ∧ inV v vs = ds.any fun z => PyData.eqv z d
  | [], _, _, h => by
    rw [show _ = [] from h]
    exact ⟨rfl, rfl⟩
  | e :: ds, _, g, ⟨u, us, ev, h1, h2⟩ => by
    rw [List.all_cons, Bool.and_eq_true] at g
    obtain ⟨i1, i2⟩ := inV_of f r g.2 h2
    rw [ev]
    refine ⟨by rw [List.all_cons, flat_of g.1 h1, i1]; rfl, ?_⟩
    unfold inV at i2 ⊢
    rw [List.any_cons, List.any_cons, i2, eqV_of g.1 f h1 r]
def inP (neg : Bool) : PyData → PyData → Option PyData
  | x, .tuple ys => if (isFlat x && ys.all isFlat) = true then some (.bool (ngt neg (ys.any fun z => PyData.eqv z x))) else none
  | x, .list ys => if (SeqAt.shaped x && SeqAt.shaped (.list ys)) = true then some (.bool (ngt neg (ys.any fun z => PyData.eqv z x))) else none
  | .str x, .str y => match x.cps.toList with
    | [c] => some (.bool (ngt neg (decide (c ∈ y.cps.toList))))
    | _ => none
  | _, _ => none
abbrev rInSign (neg : Bool) : R2 := fun x y H Q => ∃ (c : Nat) (z : Str), x = .str ⟨#[c]⟩ ∧ y = .str z ∧ Q (.bl (ngt neg (decide (c ∈ z.cps.toList)))) H
abbrev rInA (K : KF) (neg : Bool) : R2 := fun x y H Q => (rIn K neg x y H Q ∨ (if neg = true then rNotInD K x y H Q else rInD K x y H Q)) ∨ rInSign neg x y H Q
theorem op_inR {X : Cx} (hu : X.A.units + 65 < cLine) : OpR X (compareOp .In) (rInA X.K false) := (op_in_seq.or (r' := fun x y H Q => if false = true then rNotInD X.K x y H Q else rInD X.K x y H Q) (op_inD hu)).or (r' := rInSign false) op_in_sign
theorem op_notInR {X : Cx} (hu : X.A.units + 65 < cLine) : OpR X (compareOp .NotIn) (rInA X.K true) := (op_notIn_seq.or (r' := fun x y H Q => if true = true then rNotInD X.K x y H Q else rInD X.K x y H Q) (op_notInD hu)).or (r' := rInSign true) op_notIn_sign
theorem RepS.dp {w : Wd} : ∀ {d : PyData} {v : V}, d.canLay0 = true → RepS K w d v → Dp K w.H v d
  | .none, _, c, h => RepP.dp (Fz := w.Fz) (d := .none) c h
  | .bool _, _, c, h => RepP.dp (Fz := w.Fz) (d := .bool _) c h
  | .int _, _, c, h => RepP.dp (Fz := w.Fz) (d := .int _) c h
  | .str _, _, c, h => RepP.dp (Fz := w.Fz) (d := .str _) c h
  | .list ds, _, c, ⟨a, vs, e, r, s⟩ => by rw [e]; exact .lst r (RepPs.dp (by simpa [PyData.canLay0] using c) s)
  | .tuple _, _, c, h => RepP.dp (Fz := w.Fz) (d := .tuple _) c h
  | .dict _, _, c, h => by simp [PyData.canLay0] at c
theorem op_inP (neg : Bool) : OpP K (rInA K neg) (inP neg) := by
  intro w x y p q z Q ok rx ry e a
  cases q with
  | tuple ys =>
    have e' : (if (isFlat p && ys.all isFlat) = true then some (PyData.bool (ngt neg (ys.any fun z => PyData.eqv z p))) else none) = some z := by
      cases p <;> exact e
    split at e'
    · rename_i hc
      cases e'
      rw [Bool.and_eq_true] at hc
      obtain ⟨b, vs, rfl, ht, hr⟩ := ry
      have rx' : RepP K w.Fz w.H p x := by
        cases p <;> first | exact rx | (exact absurd hc.1 (by simp [isFlat]))
      obtain ⟨i1, i2⟩ := inV_of hc.1 rx' hc.2 hr
      refine .inl (.inl ⟨b, vs, rfl, .inr ht, flat_of hc.1 rx', i1, ?_⟩)
      rw [i2]
      exact a.here ok rfl
    · cases e'
  | list ys =>
    have e' : (if (SeqAt.shaped p && SeqAt.shaped (.list ys)) = true then some (PyData.bool (ngt neg (ys.any fun z => PyData.eqv z p))) else none) = some z := by
      cases p <;> exact e
    split at e'
    · rename_i hc
      cases e'
      rw [Bool.and_eq_true] at hc
      refine .inl (.inr ?_)
      cases neg with
      | true => exact ⟨p, ys, rx.dp (SeqAt.canLay_of_shaped hc.1), ry.dp (SeqAt.canLay_of_shaped hc.2), hc.1, hc.2, a.here ok rfl⟩
      | false => exact ⟨p, ys, rx.dp (SeqAt.canLay_of_shaped hc.1), ry.dp (SeqAt.canLay_of_shaped hc.2), hc.1, hc.2, a.here ok rfl⟩
    · cases e'
  | str t =>
    cases p with
    | str s =>
      simp only [inP] at e
      split at e
      · rename_i c hc
        cases e
        cases str_of rx
        cases str_of ry
        refine .inr ⟨c, t, ?_, rfl, a.here ok rfl⟩
        obtain ⟨⟨l⟩⟩ := s
        simp only at hc
        subst hc
        rfl
      · cases e
    | _ => cases e
  | _ => cases p <;> cases e

/-! ## subscripts -/
def ixD : D → D → Hs → Option D := fun x i h => match i with
  | .v (.int k) => match x with
    | .v (.list ds) => (atI ds k).map .v
    | .v (.tuple ds) => (atI ds k).map .v
    | .v (.str z) => if z.length ≤ sizeLine then (atI z.cps.toList k).map fun c => .v (.str ⟨#[c]⟩) else none
    | .ref n => match h[n]? with
      | some (.lst xs) => atI xs k
      | none => none
    | .mix xs => atI xs k
    | _ => none
  | _ => none
theorem atI_of {α β : Type} {xs : List α} {ys : List β} {k : Int} {x : α} (h : atI xs k = some x) (hl : ys.length = xs.length) : ∃ j : Nat, xs[j]? = some x ∧ ∀ y, ys[j]? = some y → atI ys k = some y := by
  unfold atI at h ⊢
  rw [hl]
  cases e : ixN xs.length k with
  | none => rw [e] at h; cases h
  | some j =>
    rw [e] at h
    exact ⟨j, h, fun y hy => hy⟩
theorem op_ixD : OpD K (rIx K) ixD := by
  intro w x y dx dy dz Q ok rx ry e a
  cases dy with
  | v d =>
    cases d with
    | int k =>
      cases (show y = V.int k from ry)
      simp only [ixD] at e
      cases dx with
      | v d =>
        cases d with
        | list ds =>
          obtain ⟨b, vs, rfl, ht, hr⟩ := rx
          simp only [Option.map_eq_some_iff] at e
          obtain ⟨p, ep, rfl⟩ := e
          obtain ⟨j, hj, hy⟩ := atI_of ep hr.len
          obtain ⟨u, hu, ru⟩ := RepPs.get hr hj
          exact .inl ⟨b, vs, k, u, rfl, rfl, ht.sql, hy u hu, a.here ok ru⟩
        | tuple ds =>
          obtain ⟨b, vs, rfl, ht, hr⟩ := rx
          simp only [Option.map_eq_some_iff] at e
          obtain ⟨p, ep, rfl⟩ := e
          obtain ⟨j, hj, hy⟩ := atI_of ep hr.len
          obtain ⟨u, hu, ru⟩ := RepPs.get hr hj
          exact .inr (.inl ⟨b, vs, k, u, rfl, rfl, ht, hy u hu, a.here ok ru⟩)
        | str z =>
          cases (show x = V.str z from rx)
          simp only at e
          split at e
          · rename_i hz
            simp only [Option.map_eq_some_iff] at e
            obtain ⟨c, ec, rfl⟩ := e
            exact .inr (.inr ⟨z, k, c, rfl, rfl, hz, ec, a.here ok rfl⟩)
          · cases e
        | _ => cases e
      | ref n =>
        obtain ⟨b, hb, rfl⟩ := rx
        simp only at e
        cases q : w.h[n]? with
        | none => simp [q] at e
        | some c =>
          cases c with
          | lst xs =>
            simp only [q] at e
            obtain ⟨vs, hH, hr⟩ := ok.cell n b _ hb q
            obtain ⟨j, hj, hy⟩ := atI_of e hr.len
            obtain ⟨u, hu, ru⟩ := RepDs.get hr hj
            exact .inl ⟨b, vs, k, u, rfl, rfl, .inl (.inl hH), hy u hu, a.here ok ru⟩
      | mix xs =>
        obtain ⟨b, vs, rfl, ht, hr⟩ := rx
        obtain ⟨j, hj, hy⟩ := atI_of e hr.len
        obtain ⟨u, hu, ru⟩ := RepDs.get hr hj
        exact .inr (.inl ⟨b, vs, k, u, rfl, rfl, ht, hy u hu, a.here ok ru⟩)
    | _ => cases e
  | _ => cases e
end
end Vl
set_option maxHeartbeats 4000000
namespace Vl
open PySem PySem.Spec PyProof.Rows L2

/-! ## names, constants -/
def eVar (i : Nat) : EM := fun s h => match s[i]? with
  | some (some d) => some (.ok d h)
  | _ => none
def eC (d : PyData) : EM := fun _ h => some (.ok (.v d) h)
section
variable {X : Cx} {W : WX} {pos : Pos}
theorem se_var (i : Nat) {x : Str} (hN : X.N[i]? = some x := by rfl) (hv : Vis X.env.scope x := by first | exact Or.inl rfl | exact Or.inr (Or.inl rfl) | exact Or.inr (Or.inr rfl)) (hd : (x == ("__debug__" : Str)) = false := by decide)
    (hcd : (x == ("__classdict__" : Str)) = false := by decide) : SE X W (.Name x pos) (eVar i) :=
  PE.mono' (pe_var hN hv hd hcd) fun σ H Q ⟨w, sl, eH, ok, hs, h⟩ => by
    subst eH
    unfold WpE eVar at h
    cases e : sl[i]? with
    | none => simp [e] at h
    | some o =>
      cases o with
      | none => simp [e] at h
      | some d =>
        simp only [e] at h
        obtain ⟨v, ev, r⟩ := hs.at' i d e
        exact ⟨v, ev, h w v (Wd.Le.refl w) ok rfl r⟩
theorem se_const {e : Expr} {v : V} {d : PyData} (h : PE X e (tC v)) (r : ∀ w : Wd, RepP X.K w.Fz w.H d v) : SE X W e (eC d) :=
  PE.mono' h fun σ H Q ⟨w, sl, eH, ok, hs, h⟩ => by
    subst eH
    exact h w v (Wd.Le.refl w) ok rfl (r w)
theorem se_int {i : Int} {j} : SE X W (.Constant (.int i) j pos) (eC (.int i)) := se_const pe_int fun _ => rfl
theorem se_bl {b j} : SE X W (.Constant (.bool b) j pos) (eC (.bool b)) := se_const pe_bl fun _ => rfl
theorem se_non {j} : SE X W (.Constant .none j pos) (eC .none) := se_const pe_non fun _ => rfl
theorem se_str {x j} : SE X W (.Constant (.str x) j pos) (eC (.str x)) := se_const pe_str fun _ => rfl
theorem se_glob {x : Str} {v : V} {u : Value} {d : PyData} (hg : Gl X x) (hm : X.mg x = some u) (r : RelV v u) (rd : ∀ w : Wd, RepP X.K w.Fz w.H d v) (hd : (x == ("__debug__" : Str)) = false := by decide) : SE X W (.Name x pos) (eC d) :=
  se_const (pe_glob hg hm r hd) rd
end

/-! ## arguments -/
inductive AR where
  | ok (ds : List D) (h : Hs)
  | ex (x : Ex) (h : Hs)
abbrev AM := Sl → Hs → Option AR
section
variable (K : KF) (mg : Str → Option Value) (W : WX)
def WpA (σ : L2.St) (r : Option AR) (w : Wd) (R : List D → List V → Wd → Prop) : Prop :=
  match r with
  | some (.ok ds h') => ∀ w' vs, w.Le w' → w'.Ok K → w'.h = h' → RepDs K w' ds vs → R ds vs w'
  | some (.ex x h') => ∀ w' cls da, w.Le w' → w'.Ok K → w'.h = h' → ExRep K mg w' x cls da → W cls da σ w'.H
  | none => False
def tIA (f : AM) : TA := fun σ H Q => ∃ (w : Wd) (sl : Sl), w.H = H ∧ w.Ok K ∧ SRep K w sl σ ∧ WpA K mg W σ (f sl w.h) w fun _ vs w' => Q vs w'.H
end
def SA (X : Cx) (W : WX) (es : List Expr) (f : AM) : Prop := PA X es (tIA X.K X.mg W f)
def eNil : AM := fun _ h => some (.ok [] h)
def eCons (f : EM) (g : AM) : AM := fun s h => match f s h with
  | some (.ok d h1) => match g s h1 with
    | some (.ok ds h2) => some (.ok (d :: ds) h2)
    | some (.ex x h2) => some (.ex x h2)
    | none => none
  | some (.ex x h1) => some (.ex x h1)
  | none => none
/-- a list of arguments, then k -/
def eA (a : AM) (k : List D → EM) : EM := fun s h => match a s h with
  | some (.ok ds h1) => k ds s h1
  | some (.ex x h1) => some (.ex x h1)
  | none => none
section
variable {K : KF} {mg : Str → Option Value} {W : WX} {σ : L2.St} {w : Wd} {sl : Sl}
theorem tIA_bind {a : AM} {k : List D → EM} {R : D → V → Wd → Prop} {Q : List V → Hp → Prop} (ok : w.Ok K) (hs : SRep K w sl σ) (h : WpE K mg W σ ((eA a k) sl w.h) w R)
    (q : ∀ ds vs w1, w.Le w1 → w1.Ok K → SRep K w1 sl σ → RepDs K w1 ds vs → WpE K mg W σ (k ds sl w1.h) w1 R → Q vs w1.H) : tIA K mg W a σ w.H Q := by
  refine ⟨w, sl, rfl, ok, hs, ?_⟩
  unfold eA at h
  unfold WpA
  cases e : a sl w.h with
  | none =>
    rw [e] at h
    exact h
  | some r =>
    cases r with
    | ok d h' =>
      rw [e] at h
      exact fun w' v l o eh r => q d v w' l o (hs.mono ok l) r (by rw [eh]; exact WpE.le h l o)
    | ex x h' =>
      rw [e] at h
      exact h
end
section
variable {X : Cx} {W : WX} {e : Expr} {es : List Expr} {f : EM} {g : AM} {pos : Pos}
theorem sa_nil : SA X W [] eNil := PA.mono' pa_nil fun σ H Q ⟨w, sl, eH, ok, hs, h⟩ => by
  subst eH
  exact h w [] (Wd.Le.refl w) ok rfl rfl
theorem sa_cons (ha : SE X W e f) (hr : SA X W es g) (hs : starEach (e :: es) X.env = (false, eval e X.env) :: starEach es X.env := by rfl) : SA X W (e :: es) (eCons f g) :=
  PA.mono' (pa_cons ha hr hs) fun σ H Q ⟨w, sl, eH, ok, hs, h⟩ => by
    subst eH
    refine ⟨w, sl, rfl, ok, hs, ?_⟩
    unfold eCons WpA at h
    unfold WpE
    cases e1 : f sl w.h with
    | none => simp [e1] at h
    | some r =>
      cases r with
      | ex x h' => simpa [e1] using h
      | ok d h' =>
        simp only [e1] at h
        intro w1 v l1 ok1 eh1 r1
        subst eh1
        refine ⟨w1, sl, rfl, ok1, hs.mono ok l1, ?_⟩
        unfold WpA
        cases e2 : g sl w1.h with
        | none => simp [e2] at h
        | some r2 =>
          cases r2 with
          | ex x h' =>
            simp only [e2] at h
            exact fun w2 cls da l2 => h w2 cls da (l1.trans l2 ok1)
          | ok ds h'' =>
            simp only [e2] at h
            exact fun w2 vs l2 ok2 eh2 r2 => h w2 (v :: vs) (l1.trans l2 ok1) ok2 eh2 ⟨v, vs, rfl, RepD.mono ok1 l2 d r1, r2⟩
end

/-! ## displays -/
theorem k_line {n : Nat} (h : n ≤ 1000) : n ≤ sizeLine := Nat.le_trans h (by rw [sizeLine_eq]; decide)
def mkTup (ds : List D) : D := match unvs ds with
  | some ps => .v (.tuple ps)
  | none => .mix ds
def kTup (ds : List D) : EM := EM.lift fun _ => if ds.length ≤ 1000 then some (mkTup ds) else none
def kLst (ds : List D) : EM := EM.lift fun _ => if ds.length ≤ 1000 then (unvs ds).map fun ps => .v (.list ps) else none
def eTup (a : AM) : EM := eA a kTup
def eLst (a : AM) : EM := eA a kLst
theorem After.mk {K : KF} {w : Wd} {ds : List D} {vs : List V} {Q : VK} (a : After K w (mkTup ds) Q) (ok : w.Ok K) (r : RepDs K w ds vs) : ∀ p, w.H p = none → Q (.ref p) (upd w.H p (.tup vs)) := by
  unfold mkTup at a
  cases e : unvs ds with
  | some ps =>
    rw [e] at a
    exact a.newT ok (unvs_rep e r)
  | none =>
    rw [e] at a
    exact fun p hp => a (w.newT p (.tup vs)) (.ref p) (Wd.newT_le hp) (Wd.newT_ok ok hp) rfl ⟨p, vs, rfl, .inl (.inl upd_same), RepDs.mono ok (Wd.newT_le hp) ds r⟩
section
variable {X : Cx} {W : WX} {es : List Expr} {g : AM} {pos : Pos}
theorem se_tup {k} (h : SA X W es g) : SE X W (.Tuple es k pos) (eTup g) := PE.mono' (pe_tup h) fun σ H Q ⟨w, sl, eH, ok, hs, h⟩ => by
  subst eH
  refine tIA_bind ok hs h fun ds vs w1 l1 ok1 hs1 r1 h1 => ?_
  obtain ⟨d, e, q⟩ := WpE.lift h1
  split at e
  · rename_i hl
    cases e
    exact ⟨by rw [r1.len]; exact k_line hl, After.mk q ok1 r1⟩
  · cases e
theorem se_lst (h : SA X W es g) : SE X W (.List es pos) (eLst g) := PE.mono' (pe_lst h) fun σ H Q ⟨w, sl, eH, ok, hs, h⟩ => by
  subst eH
  refine tIA_bind ok hs h fun ds vs w1 l1 ok1 hs1 r1 h1 => ?_
  obtain ⟨d, e, q⟩ := WpE.lift h1
  split at e
  · rename_i hl
    rw [Option.map_eq_some_iff] at e
    obtain ⟨ps, ep, rfl⟩ := e
    exact ⟨by rw [r1.len]; exact k_line hl, After.newL q ok1 (unvs_rep ep r1)⟩
  · cases e
end

/-! ## built-in calls -/
def eB (g : List D → Hs → Option D) (a : AM) : EM := eA a fun ds => EM.lift (g ds)
section
variable {X : Cx} {W : WX} {e : Expr} {es : List Expr} {g : List D → Hs → Option D} {a : AM} {pos p : Pos} {id T : String} {x : Str} {r : List V → Hp → VK → Prop}
theorem tCB_of (hd : CallD X.K r g) (σ : L2.St) (H : Hp) (Q : VK) (h : tI X.K X.mg W (eB g a) σ H Q) : tCB r (tIA X.K X.mg W a) σ H Q := by
  obtain ⟨w, sl, rfl, ok, hs, h⟩ := h
  refine tIA_bind ok hs h fun ds vs w1 l1 ok1 hs1 r1 h1 => ?_
  obtain ⟨d, e, q⟩ := WpE.lift h1
  exact hd w1 vs ds d Q ok1 r1 e q
theorem se_callB (hc : CallR X (.builtin id) r) (hd : CallD X.K r g) (hg : Gl X x) (hm : X.mg x = none) (hv : bootBuiltins x = some (.builtin id)) (ha : SA X W (e :: es) a) (hn : x ≠ "__name__" := by decide) (hdb : (x == ("__debug__" : Str)) = false := by decide)
    (he : starEach (e :: es) X.env = (false, eval e X.env) :: starEach es X.env := by rfl) (hpl : (backTo pos (starEach es X.env)).any (·.1) = false := by rfl) : SE X W (.Call (.Name x p) (e :: es) [] pos) (eB g a) :=
  PE.mono' (pe_callB hc hg hm hv ha hn hdb he hpl) fun σ H Q h => tCB_of hd σ H Q h
theorem se_callTy (hc : CallR X (.type T) r) (hd : CallD X.K r g) (hg : Gl X x) (hm : X.mg x = none) (hv : bootBuiltins x = some (.type T)) (ha : SA X W (e :: es) a) (hn : x ≠ "__name__" := by decide) (hdb : (x == ("__debug__" : Str)) = false := by decide)
    (he : starEach (e :: es) X.env = (false, eval e X.env) :: starEach es X.env := by rfl) (hpl : (backTo pos (starEach es X.env)).any (·.1) = false := by rfl) : SE X W (.Call (.Name x p) (e :: es) [] pos) (eB g a) :=
  PE.mono' (pe_callTy hc hg hm hv ha hn hdb he hpl) fun σ H Q h => tCB_of hd σ H Q h
end
/-- one argument, as data -/
def b1 (g : PyData → Option PyData) : List D → Hs → Option D := fun ds h => match ds with
  | [x] => lift1 g x h
  | _ => none
def CallP (K : KF) (r : List V → Hp → VK → Prop) (g : PyData → Option PyData) : Prop :=
  ∀ (w : Wd) (x : V) (p z : PyData) (Q : VK), w.Ok K → RepS K w p x → g p = some z → After K w (.v z) Q → r [x] w.H Q
theorem CallP.d {K : KF} {r : List V → Hp → VK → Prop} {g : PyData → Option PyData} (h : CallP K r g) : CallD K r (b1 g) := by
  intro w xs ds dz Q ok rx e a
  unfold b1 at e
  split at e
  · rename_i d
    obtain ⟨v, vr, rfl, r1, r2⟩ := rx
    cases (show vr = [] from r2)
    unfold lift1 at e
    cases ex : shal w.h d with
    | none => rw [ex] at e; cases e
    | some p =>
      rw [ex] at e
      cases ez : g p with
      | none => simp [ez] at e
      | some z =>
        simp [ez] at e
        subst e
        exact h w v p z Q ok (shal_rep ok r1 ex) ez a
  · cases e
section
variable {K : KF}
/-- len -/
def lenD : List D → Hs → Option D := fun ds h => match ds with
  | [.v (.str z)] => if z.length ≤ sizeLine then some (.v (.int z.length)) else none
  | [.v (.list xs)] => some (.v (.int xs.length))
  | [.v (.tuple xs)] => some (.v (.int xs.length))
  | [.ref n] => match h[n]? with
    | some (.lst xs) => some (.v (.int xs.length))
    | none => none
  | [.mix xs] => some (.v (.int xs.length))
  | _ => none
theorem call_lenD : CallD K (fun xs H Q => ∃ x n, xs = [x] ∧ LenV K x H n ∧ Q (.int n) H) lenD := by
  intro w xs ds dz Q ok rx e a
  unfold lenD at e
  split at e
  · obtain ⟨v, vr, rfl, r1, r2⟩ := rx
    cases (show vr = [] from r2)
    split at e
    · rename_i hz
      cases e
      cases (show v = _ from r1)
      exact ⟨_, _, rfl, ⟨hz, rfl⟩, a.here ok rfl⟩
    · cases e
  · obtain ⟨v, vr, rfl, r1, r2⟩ := rx
    cases (show vr = [] from r2)
    cases e
    obtain ⟨b, vs, rfl, ht, hr⟩ := r1
    exact ⟨_, _, rfl, .inl ⟨vs, ht.sql, rfl⟩, by rw [hr.len]; exact a.here ok rfl⟩
  · obtain ⟨v, vr, rfl, r1, r2⟩ := rx
    cases (show vr = [] from r2)
    cases e
    obtain ⟨b, vs, rfl, ht, hr⟩ := r1
    exact ⟨_, _, rfl, .inr ⟨vs, ht, rfl⟩, by rw [hr.len]; exact a.here ok rfl⟩
  · rename_i n
    obtain ⟨v, vr, rfl, r1, r2⟩ := rx
    cases (show vr = [] from r2)
    obtain ⟨b, hb, rfl⟩ := r1
    cases q : w.h[n]? with
    | none => simp [q] at e
    | some c =>
      cases c with
      | lst ys =>
        simp only [q] at e
        cases e
        obtain ⟨vs, hH, hr⟩ := ok.cell n b _ hb q
        exact ⟨_, _, rfl, .inl ⟨vs, .inl (.inl hH), rfl⟩, by rw [hr.len]; exact a.here ok rfl⟩
  · obtain ⟨v, vr, rfl, r1, r2⟩ := rx
    cases (show vr = [] from r2)
    cases e
    obtain ⟨b, vs, rfl, ht, hr⟩ := r1
    exact ⟨_, _, rfl, .inr ⟨vs, ht, rfl⟩, by rw [hr.len]; exact a.here ok rfl⟩
  · cases e
/-- abs -/
def absP : PyData → Option PyData
  | .int i => some (.int (if i < 0 then -i else i))
  | _ => none
theorem call_absP : CallP K (fun xs H Q => ∃ i, xs = [.int i] ∧ Q (.int (if i < 0 then -i else i)) H) absP := by
  intro w x p z Q ok rx e a
  cases p with
  | int i =>
    cases e
    cases int_of rx
    exact ⟨i, rfl, a.here ok rfl⟩
  | _ => cases e
/-- int of an int, of a truth -/
def intOfP : PyData → Option PyData
  | .int i => some (.int i)
  | .bool b => some (.int (if b then 1 else 0))
  | _ => none
theorem call_intP : CallP K (fun xs H Q => (∃ i, xs = [.int i] ∧ Q (.int i) H) ∨ ∃ k, xs = [.bl k] ∧ Q (.int (if k then 1 else 0)) H) intOfP := by
  intro w x p z Q ok rx e a
  cases p with
  | int i =>
    cases e
    cases int_of rx
    exact .inl ⟨i, rfl, a.here ok rfl⟩
  | bool b =>
    cases e
    cases bl_of rx
    exact .inr ⟨b, rfl, a.here ok rfl⟩
  | _ => cases e
/-- truths of a list -/
def bools : List PyData → Option (List Bool)
  | [] => some []
  | .bool b :: r => (bools r).map (b :: ·)
  | _ :: _ => none
theorem bools_rep {Fz : Addr → Prop} {H : Hp} : ∀ {ds : List PyData} {bs : List Bool} {vs : List V}, bools ds = some bs → RepPs K Fz H ds vs → vs = bs.map V.bl
  | [], bs, vs, e, r => by
    have e' : [] = bs := Option.some.inj e
    subst e'
    exact r
  | .bool b :: ds, bs, vs, e, ⟨v, vr, ev, r1, r2⟩ => by
    simp only [bools, Option.map_eq_some_iff] at e
    obtain ⟨bs', e1, rfl⟩ := e
    rw [ev, show v = V.bl b from r1, bools_rep e1 r2]
    rfl
  | .none :: _, _, _, e, _ => by cases e
  | .int _ :: _, _, _, e, _ => by cases e
  | .str _ :: _, _, _, e, _ => by cases e
  | .list _ :: _, _, _, e, _ => by cases e
  | .tuple _ :: _, _, _, e, _ => by cases e
  | .dict _ :: _, _, _, e, _ => by cases e
def allP : PyData → Option PyData
  | .list ds => (bools ds).map fun bs => .bool (bs.all id)
  | _ => none
theorem call_allP : CallP K (rAll K) allP := by
  intro w x p z Q ok rx e a
  cases p with
  | list ds =>
    simp only [allP, Option.map_eq_some_iff] at e
    obtain ⟨bs, e1, rfl⟩ := e
    obtain ⟨b, vs, rfl, ht, hr⟩ := rx
    refine ⟨b, bs, rfl, ?_, a.here ok rfl⟩
    rw [← bools_rep e1 hr]
    exact ht
  | _ => cases e
/-- tuple(xs), list(xs) -/
def tupOfP : PyData → Option PyData
  | .list ds => some (.tuple ds)
  | .tuple ds => some (.tuple ds)
  | _ => none
def lstOfP : PyData → Option PyData
  | .list ds => some (.list ds)
  | .tuple ds => some (.list ds)
  | _ => none
theorem call_tupP : CallP K (fun xs H Q => ∃ p ys, xs = [.ref p] ∧ ((SqL K H p ys ∧ ∀ l, H l = none → Q (.ref l) (upd H l (.tup ys))) ∨ (SqT K H p ys ∧ Q (.ref p) H))) tupOfP := by
  intro w x p z Q ok rx e a
  cases p with
  | list ds =>
    cases e
    obtain ⟨b, vs, rfl, ht, hr⟩ := rx
    exact ⟨b, vs, rfl, .inl ⟨ht, a.newT ok hr⟩⟩
  | tuple ds =>
    cases e
    obtain ⟨b, vs, rfl, ht, hr⟩ := rx
    exact ⟨b, vs, rfl, .inr ⟨ht, a.here ok ⟨b, vs, rfl, ht, hr⟩⟩⟩
  | _ => cases e
theorem call_lstP : CallP K (fun xs H Q => ∃ p ys, xs = [.ref p] ∧ (SqL K H p ys ∨ SqT K H p ys) ∧ ∀ l, H l = none → Q (.ref l) (upd H l (.lst ys))) lstOfP := by
  intro w x p z Q ok rx e a
  cases p with
  | list ds =>
    cases e
    obtain ⟨b, vs, rfl, ht, hr⟩ := rx
    exact ⟨b, vs, rfl, .inl ht, a.newL ok hr⟩
  | tuple ds =>
    cases e
    obtain ⟨b, vs, rfl, ht, hr⟩ := rx
    exact ⟨b, vs, rfl, .inr ht, a.newL ok hr⟩
  | _ => cases e
end
end Vl
set_option maxHeartbeats 4000000
namespace Vl
open PySem PySem.Spec PyProof.Rows L2

/-! ## truth -/
def truthD : D → Hs → Option Bool
  | .v .none, _ => some false
  | .v (.bool b), _ => some b
  | .v (.int i), _ => some (i != 0)
  | .v (.str z), _ => if z.length ≤ sizeLine then some ((z.length : Int) != 0) else none
  | .v (.list ds), _ => some (!ds.isEmpty)
  | .v (.tuple ds), _ => some (!ds.isEmpty)
  | .v (.dict _), _ => none
  | .ref n, h => match h[n]? with
    | some (.lst xs) => some (!xs.isEmpty)
    | none => none
  | .mix xs, _ => some (!xs.isEmpty)
theorem emp_len {α β : Type} {xs : List α} {ys : List β} (h : xs.length = ys.length) : xs.isEmpty = ys.isEmpty := by
  cases xs <;> cases ys <;> first | rfl | (simp at h)
theorem truth_of {K : KF} {w : Wd} {d : D} {v : V} {b : Bool} (ok : w.Ok K) (r : RepD K w d v) (h : truthD d w.h = some b) : TruV K v w.H b := by
  cases d with
  | v d =>
    cases d with
    | none => cases h; rw [show v = _ from r]; exact rfl
    | bool b => cases h; rw [show v = _ from r]; exact rfl
    | int b => cases h; rw [show v = _ from r]; exact rfl
    | str z =>
      simp only [truthD] at h
      split at h
      · rename_i hz
        cases h
        rw [show v = _ from r]
        exact ⟨hz, rfl⟩
      · cases h
    | list ds =>
      cases h
      obtain ⟨a, vs, rfl, ht, hr⟩ := r
      exact .inl ⟨vs, ht.sql, by rw [emp_len hr.len]⟩
    | tuple ds =>
      cases h
      obtain ⟨a, vs, rfl, ht, hr⟩ := r
      exact .inr (.inl ⟨vs, ht, by rw [emp_len hr.len]⟩)
    | dict _ => cases h
  | ref n =>
    obtain ⟨a, ha, rfl⟩ := r
    simp only [truthD] at h
    cases q : w.h[n]? with
    | none => simp [q] at h
    | some c =>
      cases c with
      | lst xs =>
        simp only [q] at h
        cases h
        obtain ⟨vs, hH, hr⟩ := ok.cell n a _ ha q
        exact .inl ⟨vs, .inl (.inl hH), by rw [emp_len hr.len]⟩
  | mix xs =>
    cases h
    obtain ⟨a, vs, rfl, ht, hr⟩ := r
    exact .inr (.inl ⟨vs, ht, by rw [emp_len hr.len]⟩)

/-! ## tests -/
inductive TR where
  | ok (b : Bool) (h : Hs)
  | ex (x : Ex) (h : Hs)
abbrev TM := Sl → Hs → Option TR
section
variable (K : KF) (mg : Str → Option Value) (W : WX)
def WpT (σ : L2.St) (r : Option TR) (w : Wd) (R : Bool → Wd → Prop) : Prop :=
  match r with
  | some (.ok b h') => ∀ w', w.Le w' → w'.Ok K → w'.h = h' → R b w'
  | some (.ex x h') => ∀ w' cls da, w.Le w' → w'.Ok K → w'.h = h' → ExRep K mg w' x cls da → W cls da σ w'.H
  | none => False
def tIT (f : TM) : TT := fun σ H Q => ∃ (w : Wd) (sl : Sl), w.H = H ∧ w.Ok K ∧ SRep K w sl σ ∧ WpT K mg W σ (f sl w.h) w fun b w' => Q b w'.H
end
def ST (X : Cx) (W : WX) (e : Expr) (f : TM) : Prop := PT X e (tIT X.K X.mg W f)
def tTru (f : EM) : TM := fun s h => match f s h with
  | some (.ok d h1) => match truthD d h1 with
    | some b => some (.ok b h1)
    | none => none
  | some (.ex x h1) => some (.ex x h1)
  | none => none
def tBl (f : EM) : TM := fun s h => match f s h with
  | some (.ok (.v (.bool b)) h1) => some (.ok b h1)
  | some (.ex x h1) => some (.ex x h1)
  | _ => none
def tNot (t : TM) : TM := fun s h => match t s h with
  | some (.ok b h1) => some (.ok (!b) h1)
  | some (.ex x h1) => some (.ex x h1)
  | none => none
def tAnd (t u : TM) : TM := fun s h => match t s h with
  | some (.ok b h1) => if b = true then u s h1 else some (.ok false h1)
  | some (.ex x h1) => some (.ex x h1)
  | none => none
def tOr (t u : TM) : TM := fun s h => match t s h with
  | some (.ok b h1) => if b = true then some (.ok true h1) else u s h1
  | some (.ex x h1) => some (.ex x h1)
  | none => none
section
variable {K : KF} {mg : Str → Option Value} {W : WX} {σ : L2.St} {w w1 : Wd} {sl : Sl}
theorem WpT.le {r : Option TR} {R : Bool → Wd → Prop} (h : WpT K mg W σ r w R) (le : w.Le w1) (ok : w1.Ok K) : WpT K mg W σ r w1 R := by
  unfold WpT at h ⊢
  split
  · exact fun w' l o e => h w' (le.trans l ok) o e
  · exact fun w' v da l o e r => h w' v da (le.trans l ok) o e r
  · exact h
theorem tITtru {f : EM} {Q : Bool → Hp → Prop} (ok : w.Ok K) (hs : SRep K w sl σ) (h : WpT K mg W σ (tTru f sl w.h) w fun b w' => Q b w'.H) :
    tI K mg W f σ w.H fun x H1 => ∃ k, TruV K x H1 k ∧ Q k H1 := by
  refine ⟨w, sl, rfl, ok, hs, ?_⟩
  unfold tTru WpT at h
  unfold WpE
  cases e : f sl w.h with
  | none => simp [e] at h
  | some r =>
    cases r with
    | ex x h' => simpa [e] using h
    | ok d h' =>
      simp only [e] at h
      cases e2 : truthD d h' with
      | none => simp [e2] at h
      | some b =>
        simp only [e2] at h
        intro w1 v l1 ok1 eh r1
        subst eh
        exact ⟨b, truth_of ok1 r1 e2, h w1 l1 ok1 rfl⟩
theorem tITbl {f : EM} {Q : Bool → Hp → Prop} (ok : w.Ok K) (hs : SRep K w sl σ) (h : WpT K mg W σ (tBl f sl w.h) w fun b w' => Q b w'.H) :
    tI K mg W f σ w.H fun x H1 => ∃ k, x = .bl k ∧ Q k H1 := by
  refine ⟨w, sl, rfl, ok, hs, ?_⟩
  unfold tBl WpT at h
  unfold WpE
  cases e : f sl w.h with
  | none => simp [e] at h
  | some r =>
    cases r with
    | ex x h' => simpa [e] using h
    | ok d h' =>
      cases d with
      | v d =>
        cases d with
        | bool b =>
          simp only [e] at h
          intro w1 v l1 ok1 eh r1
          subst eh
          exact ⟨b, r1, h w1 l1 ok1 rfl⟩
        | _ => simp [e] at h
      | _ => simp [e] at h
end
section
variable {X : Cx} {W : WX} {a b c : Expr} {rest : List Expr} {f g : EM} {t u : TM} {pos : Pos}
theorem st_tru (h : SE X W a f) (he : ∀ whole, isTrue a X.env whole = (do let v ← whole; standAt a.pos; holding [v] (truthy v)) := by intro _; rfl) : ST X W a (tTru f) :=
  PT.mono' (pt_truth h he) fun σ H Q ⟨w, sl, eH, ok, hs, h⟩ => by
    subst eH
    exact tITtru ok hs h
theorem st_cmp {op : CmpOp} {r : R2} {gd : D → D → Hs → Option D} (ho : OpR X (compareOp op) r) (hd : OpD X.K r gd) (ha : SE X W a f) (hb : SE X W b g) (hm : behindInMarks op b = false) : ST X W (.Compare a [op] [b] pos) (tBl (eBin gd f g)) :=
  PT.mono' (pt_cmpR ho ha hb hm) fun σ H Q ⟨w, sl, eH, ok, hs, h⟩ => by
    subst eH
    exact tOp_of hd σ w.H _ (tITbl ok hs h)
theorem st_not (h : ST X W a t) : ST X W (.UnaryOp .Not a pos) (tNot t) := PT.mono' (pt_not h) fun σ H Q ⟨w, sl, eH, ok, hs, h⟩ => by
  subst eH
  refine ⟨w, sl, rfl, ok, hs, ?_⟩
  unfold tNot WpT at h
  unfold WpT
  cases e : t sl w.h with
  | none => simp [e] at h
  | some r => cases r <;> simpa [e] using h
def SW (X : Cx) (W : WX) (e : Expr) (f : TM) : Prop := PW X e (tIT X.K X.mg W f)
theorem PW.mono' {X : Cx} {e : Expr} {t t' : TT} (h : PW X e t) (i : ∀ σ H Q, t' σ H Q → t σ H Q) : PW X e t' := ⟨fun wh pins s σ H Q I q => h.run wh pins s σ H Q I (i σ H Q q)⟩
theorem st_of (h : SW X W a t) : ST X W a t := L2.PW.pt h
theorem sw_and1 (h : ST X W a t) : SW X W (.BoolOp .And [a] pos) t := pw_and1 h
theorem sw_or1 (h : ST X W a t) : SW X W (.BoolOp .Or [a] pos) t := pw_or1 h
theorem sw_and (ha : ST X W a t) (hb : SW X W (.BoolOp .And (b :: rest) pos) u) : SW X W (.BoolOp .And (a :: b :: rest) pos) (tAnd t u) :=
  PW.mono' (pw_and ha hb) fun σ H Q ⟨w, sl, eH, ok, hs, h⟩ => by
    subst eH
    refine ⟨w, sl, rfl, ok, hs, ?_⟩
    unfold tAnd WpT at h
    unfold WpT
    cases e : t sl w.h with
    | none => simp [e] at h
    | some r =>
      cases r with
      | ex x h' => simpa [e] using h
      | ok b h' =>
        simp only [e] at h
        intro w1 l1 ok1 eh
        subst eh
        cases b with
        | true =>
          rw [if_pos rfl] at h ⊢
          exact ⟨w1, sl, rfl, ok1, hs.mono ok l1, WpT.le h l1 ok1⟩
        | false =>
          rw [if_neg Bool.false_ne_true] at h ⊢
          exact h w1 l1 ok1 rfl
theorem sw_or (ha : ST X W a t) (hb : SW X W (.BoolOp .Or (b :: rest) pos) u) : SW X W (.BoolOp .Or (a :: b :: rest) pos) (tOr t u) :=
  PW.mono' (pw_or ha hb) fun σ H Q ⟨w, sl, eH, ok, hs, h⟩ => by
    subst eH
    refine ⟨w, sl, rfl, ok, hs, ?_⟩
    unfold tOr WpT at h
    unfold WpT
    cases e : t sl w.h with
    | none => simp [e] at h
    | some r =>
      cases r with
      | ex x h' => simpa [e] using h
      | ok b h' =>
        simp only [e] at h
        intro w1 l1 ok1 eh
        subst eh
        cases b with
        | true =>
          rw [if_pos rfl] at h ⊢
          exact h w1 l1 ok1 rfl
        | false =>
          rw [if_neg Bool.false_ne_true] at h ⊢
          exact ⟨w1, sl, rfl, ok1, hs.mono ok l1, WpT.le h l1 ok1⟩
end

/-! ## and, or, not, if as values -/
def eOr (f g : EM) : EM := f.bind fun x s h => match truthD x h with
  | some b => if b = true then some (.ok x h) else g s h
  | none => none
def eAnd (f g : EM) : EM := f.bind fun x s h => match truthD x h with
  | some b => if b = true then g s h else some (.ok x h)
  | none => none
def eNot (f : EM) : EM := f.bind fun x s h => match truthD x h with
  | some b => some (.ok (.v (.bool (!b))) h)
  | none => none
def eIf (t : TM) (f g : EM) : EM := fun s h => match t s h with
  | some (.ok b h1) => if b = true then f s h1 else g s h1
  | some (.ex x h1) => some (.ex x h1)
  | none => none
section
variable {X : Cx} {W : WX} {a b c : Expr} {rest : List Expr} {f g : EM} {t : TM} {pos : Pos}
theorem se_one {op} (h : SE X W a f) : SE X W (.BoolOp op [a] pos) f := pe_one h
theorem se_or (ha : SE X W a f) (hb : SE X W (.BoolOp .Or (b :: rest) pos) g) : SE X W (.BoolOp .Or (a :: b :: rest) pos) (eOr f g) :=
  PE.mono' (pe_orT ha hb) fun σ H Q ⟨w, sl, eH, ok, hs, h⟩ => by
    subst eH
    refine tI_bind ok hs h fun dx x w1 l1 ok1 hs1 rx h1 => ?_
    cases e : truthD dx w1.h with
    | none =>
      simp only [e] at h1
      exact h1.elim
    | some k =>
      simp only [e] at h1
      refine ⟨k, truth_of ok1 rx e, ?_⟩
      cases k with
      | true =>
        rw [if_pos rfl] at h1 ⊢
        exact h1 w1 x (Wd.Le.refl w1) ok1 rfl rx
      | false =>
        rw [if_neg Bool.false_ne_true] at h1 ⊢
        exact ⟨w1, sl, rfl, ok1, hs1, h1⟩
theorem se_and (ha : SE X W a f) (hb : SE X W (.BoolOp .And (b :: rest) pos) g) : SE X W (.BoolOp .And (a :: b :: rest) pos) (eAnd f g) :=
  PE.mono' (pe_andT ha hb) fun σ H Q ⟨w, sl, eH, ok, hs, h⟩ => by
    subst eH
    refine tI_bind ok hs h fun dx x w1 l1 ok1 hs1 rx h1 => ?_
    cases e : truthD dx w1.h with
    | none =>
      simp only [e] at h1
      exact h1.elim
    | some k =>
      simp only [e] at h1
      refine ⟨k, truth_of ok1 rx e, ?_⟩
      cases k with
      | true =>
        rw [if_pos rfl] at h1 ⊢
        exact ⟨w1, sl, rfl, ok1, hs1, h1⟩
      | false =>
        rw [if_neg Bool.false_ne_true] at h1 ⊢
        exact h1 w1 x (Wd.Le.refl w1) ok1 rfl rx
theorem se_not (ha : SE X W a f) : SE X W (.UnaryOp .Not a pos) (eNot f) :=
  PE.mono' (pe_notT ha) fun σ H Q ⟨w, sl, eH, ok, hs, h⟩ => by
    subst eH
    refine tI_bind ok hs h fun dx x w1 l1 ok1 hs1 rx h1 => ?_
    cases e : truthD dx w1.h with
    | none =>
      simp only [e] at h1
      exact h1.elim
    | some k =>
      simp only [e] at h1
      exact ⟨k, truth_of ok1 rx e, h1 w1 (.bl (!k)) (Wd.Le.refl w1) ok1 rfl rfl⟩
theorem se_if (hc : ST X W c t) (ha : SE X W a f) (hb : SE X W b g) : SE X W (.IfExp c a b pos) (eIf t f g) :=
  PE.mono' (pe_ifExp hc ha hb) fun σ H Q ⟨w, sl, eH, ok, hs, h⟩ => by
    subst eH
    refine ⟨w, sl, rfl, ok, hs, ?_⟩
    unfold eIf WpE at h
    unfold WpT
    cases e : t sl w.h with
    | none => simp [e] at h
    | some r =>
      cases r with
      | ex x h' => simpa [e] using h
      | ok k h' =>
        simp only [e] at h
        intro w1 l1 ok1 eh
        subst eh
        cases k with
        | true =>
          rw [if_pos rfl] at h ⊢
          exact ⟨w1, sl, rfl, ok1, hs.mono ok l1, WpE.le h l1 ok1⟩
        | false =>
          rw [if_neg Bool.false_ne_true] at h ⊢
          exact ⟨w1, sl, rfl, ok1, hs.mono ok l1, WpE.le h l1 ok1⟩
end

/-! ## a < b < c -/
def eChain (g g' : D → D → Hs → Option D) (f1 f2 f3 : EM) : EM := f1.bind fun x => f2.bind fun y s h => match g x y h with
  | some (.v (.bool k)) => if k = true then (f3.bind fun z => EM.lift (g' y z)) s h else some (.ok (.v (.bool false)) h)
  | _ => none
section
variable {X : Cx} {W : WX} {a b c : Expr} {f1 f2 f3 : EM} {pos : Pos} {op op' : CmpOp} {r r' : R2} {g g' : D → D → Hs → Option D}
theorem tChain_of (hd : OpD X.K r g) (hd' : OpD X.K r' g') (σ : L2.St) (H : Hp) (Q : VK) (h : tI X.K X.mg W (eChain g g' f1 f2 f3) σ H Q) : tChain r r' (tI X.K X.mg W f1) (tI X.K X.mg W f2) (tI X.K X.mg W f3) σ H Q := by
  obtain ⟨w, sl, rfl, ok, hs, h⟩ := h
  refine tI_bind ok hs h fun dx x w1 l1 ok1 hs1 rx h1 => ?_
  refine tI_bind ok1 hs1 h1 fun dy y w2 l2 ok2 hs2 ry h2 => ?_
  cases e : g dx dy w2.h with
  | none =>
    simp only [e] at h2
    exact h2.elim
  | some z =>
    cases z with
    | v p =>
      cases p with
      | bool k =>
        simp only [e] at h2
        refine hd w2 x y dx dy _ _ ok2 (RepD.mono ok1 l2 dx rx) ry e fun w3 v l3 ok3 eh3 r3 => ⟨k, r3, ?_⟩
        cases k with
        | true =>
          rw [if_pos rfl] at h2 ⊢
          rw [← eh3] at h2
          refine tI_bind ok3 (hs2.mono ok2 l3) (WpE.le h2 l3 ok3) fun dz z w4 l4 ok4 hs4 rz h4 => ?_
          obtain ⟨d5, e5, q5⟩ := WpE.lift h4
          exact hd' w4 y z dy dz d5 Q ok4 (RepD.mono ok3 l4 dy (RepD.mono ok2 l3 dy ry)) rz e5 q5
        | false =>
          rw [if_neg Bool.false_ne_true] at h2 ⊢
          exact h2 w3 (.bl false) l3 ok3 eh3 rfl
      | _ =>
        simp only [e] at h2
        exact h2.elim
    | _ =>
      simp only [e] at h2
      exact h2.elim
theorem se_chain (ho : OpR X (compareOp op) r) (hd : OpD X.K r g) (ho' : OpR X (compareOp op') r') (hd' : OpD X.K r' g') (ha : SE X W a f1) (hb : SE X W b f2) (hc : SE X W c f3)
    (hm : lastMarks [op, op'] [b, c] = false := by with_unfolding_all rfl) : SE X W (.Compare a [op, op'] [b, c] pos) (eChain g g' f1 f2 f3) :=
  PE.mono' (pe_chain ho ho' ha hb hc hm) fun σ H Q h => tChain_of hd hd' σ H Q h
theorem st_chain (ho : OpR X (compareOp op) r) (hd : OpD X.K r g) (ho' : OpR X (compareOp op') r') (hd' : OpD X.K r' g') (ha : SE X W a f1) (hb : SE X W b f2) (hc : SE X W c f3)
    (hm : lastMarks [op, op'] [b, c] = false := by with_unfolding_all rfl) : ST X W (.Compare a [op, op'] [b, c] pos) (tBl (eChain g g' f1 f2 f3)) :=
  PT.mono' (pt_chain ho ho' ha hb hc hm) fun σ H Q ⟨w, sl, eH, ok, hs, h⟩ => by
    subst eH
    exact tChain_of hd hd' σ w.H _ (tITbl ok hs h)
end

/-! ## slices -/
def cutP {α : Type} (xs : List α) (lo hi : Option Int) : List α := (xs.drop (HT.sIx xs.length 0 lo)).take (HT.sIx xs.length xs.length hi - HT.sIx xs.length 0 lo)
def sliceP (lo hi : Option Int) : PyData → Option PyData
  | .list ds => some (.list (cutP ds lo hi))
  | .tuple ds => some (.tuple (cutP ds lo hi))
  | .str z => if z.length ≤ sizeLine then some (.str (cutS z lo hi)) else none
  | _ => none
def ePart (o : Option EM) (k : Option Int → EM) : EM := match o with
  | none => k none
  | some f => f.bind fun d => match d with
    | .v (.int i) => k (some i)
    | _ => fun _ _ => none
def eSl (f : EM) (lo hi : Option EM) : EM := f.bind fun x => ePart lo fun l => ePart hi fun u => EM.lift (lift1 (sliceP l u) x)
def SO (X : Cx) (W : WX) (e : Option Expr) (o : Option EM) : Prop := match o with
  | none => e = none
  | some f => ∃ e', e = some e' ∧ SE X W e' f
abbrev rSlice (K : KF) : V → Option Int → Option Int → Hp → VK → Prop := fun x lo hi H Q => (rSlL K x lo hi H Q ∨ rSlA K x lo hi H Q) ∨ rSlS x lo hi H Q
section
variable {K : KF}
theorem cutV_of {Fz : Addr → Prop} {H : Hp} {ds : List PyData} {vs : List V} (lo hi : Option Int) (r : RepPs K Fz H ds vs) : RepPs K Fz H (cutP ds lo hi) (cutV vs lo hi) := by
  unfold cutP cutV
  rw [r.len]
  exact RepPs.take _ (RepPs.drop _ r)
theorem sl_sliceP {w : Wd} {x : V} {p z : PyData} {lo hi : Option Int} {Q : VK} (ok : w.Ok K) (rx : RepS K w p x) (e : sliceP lo hi p = some z) (a : After K w (.v z) Q) : rSlice K x lo hi w.H Q := by
  cases p with
  | list ds =>
    cases e
    obtain ⟨b, vs, rfl, ht, hr⟩ := rx
    exact .inl (.inl ⟨b, vs, rfl, ht, a.newL ok (cutV_of lo hi hr)⟩)
  | tuple ds =>
    cases e
    obtain ⟨b, vs, rfl, ht, hr⟩ := rx
    refine .inl (.inr ⟨b, vs, rfl, ht, fun hw => ?_, fun _ => a.newT ok (cutV_of lo hi hr)⟩)
    have : cutP ds lo hi = ds := by
      unfold cutP
      rw [← hr.len, hw.1, hw.2, List.drop_zero, Nat.sub_zero]
      exact List.take_of_length_le (Nat.le_of_eq hr.len.symm)
    rw [this] at a
    exact a.here ok ⟨b, vs, rfl, ht, hr⟩
  | str z =>
    simp only [sliceP] at e
    split at e
    · rename_i hz
      cases e
      cases str_of rx
      exact .inr ⟨z, rfl, hz, a.here ok rfl⟩
    · cases e
  | _ => cases e
end
section
variable {X : Cx} {W : WX} {e : Expr} {lo hi : Option Expr} {f : EM} {ol oh : Option EM} {pos p2 : Pos}
/-- a slice's part -/
def tPartI (X : Cx) (W : WX) (o : Option EM) : TO := match o with
  | none => tNoPart
  | some f => tPart (tI X.K X.mg W f)
theorem so_po {e : Option Expr} {o : Option EM} (h : SO X W e o) : PO X e (tPartI X W o) := by
  cases o with
  | none =>
    cases (show e = none from h)
    exact po_none
  | some f =>
    obtain ⟨e', rfl, h⟩ := h
    exact po_some h
theorem part_of {o : Option EM} {k : Option Int → EM} {σ : L2.St} {w : Wd} {sl : Sl} {R : D → V → Wd → Prop} {Q : Option Int → Hp → Prop} (ok : w.Ok X.K) (hs : SRep X.K w sl σ) (h : WpE X.K X.mg W σ (ePart o k sl w.h) w R)
    (q : ∀ i w1, w.Le w1 → w1.Ok X.K → SRep X.K w1 sl σ → WpE X.K X.mg W σ (k i sl w1.h) w1 R → Q i w1.H) : tPartI X W o σ w.H Q := by
  cases o with
  | none => exact q none w (Wd.Le.refl w) ok hs h
  | some f =>
    show tI X.K X.mg W f σ w.H fun x H1 => ∃ i, x = .int i ∧ Q (some i) H1
    refine tI_bind ok hs h fun d v w1 l1 ok1 hs1 r1 h1 => ?_
    cases d with
    | v d =>
      cases d with
      | int i => exact ⟨i, r1, q (some i) w1 l1 ok1 hs1 h1⟩
      | _ => exact h1.elim
    | _ => exact h1.elim
theorem se_slice (he : SE X W e f) (hl : SO X W lo ol) (hu : SO X W hi oh) : SE X W (.Subscript e (.Slice lo hi none p2) pos) (eSl f ol oh) :=
  PE.mono' (pe_slice ((sl_list.or sl_tupA).or sl_str) he (so_po hl) (so_po hu)) fun σ H Q ⟨w, sl, eH, ok, hs, h⟩ => by
    subst eH
    refine tI_bind ok hs h fun dx x w1 l1 ok1 hs1 rx h1 => ?_
    refine part_of ok1 hs1 h1 fun i w2 l2 ok2 hs2 h2 => ?_
    refine part_of ok2 hs2 h2 fun j w3 l3 ok3 hs3 h3 => ?_
    obtain ⟨dz, e, q⟩ := WpE.lift h3
    unfold lift1 at e
    cases ex : shal w3.h dx with
    | none => simp [ex] at e
    | some p =>
      simp only [ex, Option.map_eq_some_iff] at e
      obtain ⟨z, ez, rfl⟩ := e
      exact sl_sliceP ok3 (shal_rep ok3 (RepD.mono ok2 l3 dx (RepD.mono ok1 l2 dx rx)) ex) ez q
end

/-! ## isinstance -/
def tyN : D → Option String
  | .v .none => some "NoneType"
  | .v (.bool _) => some "bool"
  | .v (.int _) => some "int"
  | .v (.str _) => some "str"
  | .v (.list _) => some "list"
  | .v (.tuple _) => some "tuple"
  | .v (.dict _) => some "dict"
  | .ref _ => some "list"
  | .mix _ => some "tuple"
theorem tyX_of {K : KF} {w : Wd} {d : D} {v : V} {n : String} (ok : w.Ok K) (r : RepD K w d v) (h : tyN d = some n) : TyX K w.H v (.type n) := by
  cases d with
  | v d =>
    cases d with
    | none => cases h; rw [show v = _ from r]; exact .base .non
    | bool b => cases h; rw [show v = _ from r]; exact .base (.bl b)
    | int b => cases h; rw [show v = _ from r]; exact .base (.int b)
    | str b => cases h; rw [show v = _ from r]; exact .base (.str b)
    | list ds =>
      cases h
      obtain ⟨a, vs, rfl, ht, hr⟩ := r
      rcases ht with ⟨_, ht | ⟨o, ht⟩⟩ | ⟨o, its, n, hk, hc, _⟩
      · exact .base (.lst ht)
      · exact .base (.frz ht)
      · exact .kList hk hc
    | tuple ds =>
      cases h
      obtain ⟨a, vs, rfl, ht, hr⟩ := r
      rcases ht with (ht | ⟨o, ht⟩) | ⟨o, its, n, hk, hc, _⟩
      · exact .base (.tup ht)
      · exact .fTuple ht
      · exact .kTuple hk hc
    | dict _ =>
      cases h
      obtain ⟨a, ks, rfl, hf, ht | ⟨o, ht⟩, hr⟩ := r
      · exact .base (.dK ht)
      · exact .fDict ht
  | ref n =>
    obtain ⟨a, ha, rfl⟩ := r
    cases h
    obtain ⟨vs, e⟩ := ok.tracked (List.mem_of_getElem? ha)
    exact .base (.lst e)
  | mix xs =>
    cases h
    obtain ⟨a, vs, rfl, ht, hr⟩ := r
    rcases ht with (ht | ⟨o, ht⟩) | ⟨o, its, n, hk, hc, _⟩
    · exact .base (.tup ht)
    · exact .fTuple ht
    · exact .kTuple hk hc
/-- by the names of two built-in types -/
def isiN (a T : String) : Option Bool := kitB a T
def isiD (T : String) : D → Hs → Option D := fun d _ => match tyN d with
  | some n => (isiN n T).map fun b => .v (.bool b)
  | none => none
def eIsi (T : String) (f : EM) : EM := f.bind fun d => EM.lift (isiD T d)
section
variable {X : Cx} {W : WX} {e : Expr} {f : EM} {pos p p2 : Pos} {T : String} {T' : Str}
theorem se_isi (he : SE X W e f) (hg : Gl X "isinstance") (hm : X.mg "isinstance" = none) (hg2 : Gl X T') (hm2 : X.mg T' = none) (hv2 : bootBuiltins T' = some (.type T)) (hn2 : T' ≠ "__name__" := by decide) (hd2 : (T' == ("__debug__" : Str)) = false := by decide)
    (hs : starEach (e :: [.Name T' p2]) X.env = (false, eval e X.env) :: starEach [.Name T' p2] X.env := by rfl) (hs2 : starEach [.Name T' p2] X.env = (false, eval (.Name T' p2) X.env) :: starEach [] X.env := by rfl) (hpl : (backTo pos (starEach [.Name T' p2] X.env)).any (·.1) = false := by rfl) :
    SE X W (.Call (.Name "isinstance" p) [e, .Name T' p2] [] pos) (eIsi T f) :=
  PE.mono' (pe_callB call_isi hg hm (by decide +kernel) (pa_cons he (pa_cons (pe_bltn (v := .ty T) hg2 hm2 hv2 rfl hn2 hd2) pa_nil hs2) hs) (by decide) (by decide) hs hpl) fun σ H Q ⟨w, sl, eH, ok, hs, h⟩ => by
    subst eH
    refine tI_bind ok hs h fun dx x w1 l1 ok1 hs1 rx h1 => ?_
    obtain ⟨dz, e, q⟩ := WpE.lift h1
    unfold isiD at e
    cases en : tyN dx with
    | none => simp [en] at e
    | some n =>
      simp only [en, Option.map_eq_some_iff] at e
      obtain ⟨b, eb, rfl⟩ := e
      exact ⟨x, .ty T, .type n, .type T, b, rfl, .ty T, tyX_of ok1 rx en, kit_ty eb, q w1 (.bl b) (Wd.Le.refl w1) ok1 rfl rfl⟩
end
end Vl
set_option maxHeartbeats 4000000
namespace Vl
open PySem PySem.Spec PyProof.Rows L2

/-! ## statements -/
inductive SR where
  | nx (s : Sl) (h : Hs)
  | rt (d : D) (h : Hs)
  | bk (s : Sl) (h : Hs)
  | ct (s : Sl) (h : Hs)
  | ex (s : Sl) (x : Ex) (h : Hs)
abbrev SM := Sl → Hs → Option SR
section
variable (K : KF) (mg : Str → Option Value) (W : WX)
def WpS (r : Option SR) (w : Wd) (E : Ends) : Prop :=
  match r with
  | some (.nx s h') => ∀ w' σ', w.Le w' → w'.Ok K → w'.h = h' → SRep K w' s σ' → E.nx σ' w'.H
  | some (.rt d h') => ∀ w' v, w.Le w' → w'.Ok K → w'.h = h' → RepD K w' d v → E.rt v w'.H
  | some (.bk s h') => ∀ w' σ', w.Le w' → w'.Ok K → w'.h = h' → SRep K w' s σ' → E.bk σ' w'.H
  | some (.ct s h') => ∀ w' σ', w.Le w' → w'.Ok K → w'.h = h' → SRep K w' s σ' → E.ct σ' w'.H
  | some (.ex s x h') => ∀ w' σ' cls da, w.Le w' → w'.Ok K → w'.h = h' → SRep K w' s σ' → ExRep K mg w' x cls da → W cls da σ' w'.H
  | none => False
def tS (f : SM) : TS := fun E σ H => ∃ (w : Wd) (sl : Sl), w.H = H ∧ w.Ok K ∧ SRep K w sl σ ∧ WpS K mg W (f sl w.h) w E
end
def SS (X : Cx) (W : WX) (st : Stmt) (f : SM) : Prop := PS X st (tS X.K X.mg W f)
def SSs (X : Cx) (W : WX) (st : List Stmt) (f : SM) : Prop := PSs X st (tS X.K X.mg W f)
section
variable {K : KF} {mg : Str → Option Value} {W : WX} {w w1 : Wd}
theorem WpS.le {r : Option SR} {E : Ends} (h : WpS K mg W r w E) (le : w.Le w1) (ok : w1.Ok K) : WpS K mg W r w1 E := by
  unfold WpS at h ⊢
  split
  · exact fun w' σ' l => h w' σ' (le.trans l ok)
  · exact fun w' σ' l => h w' σ' (le.trans l ok)
  · exact fun w' σ' l => h w' σ' (le.trans l ok)
  · exact fun w' σ' l => h w' σ' (le.trans l ok)
  · exact fun w' σ' cls da l => h w' σ' cls da (le.trans l ok)
  · exact h
end
def sNext : SM := fun s h => some (.nx s h)
def sSeq (a b : SM) : SM := fun s h => match a s h with
  | some (.nx s1 h1) => b s1 h1
  | r => r
def sBrk : SM := fun s h => some (.bk s h)
def sCnt : SM := fun s h => some (.ct s h)
def sNever : SM := fun _ _ => none
/-- an expression, then k -/
def sE (f : EM) (k : D → SM) : SM := fun s h => match f s h with
  | some (.ok d h1) => k d s h1
  | some (.ex x h1) => some (.ex s x h1)
  | none => none
/-- a test, then one of two -/
def sIf (t : TM) (a b : SM) : SM := fun s h => match t s h with
  | some (.ok k h1) => if k = true then a s h1 else b s h1
  | some (.ex x h1) => some (.ex s x h1)
  | none => none
def sRet (f : EM) : SM := sE f fun d _ h => some (.rt d h)
def sRetN : SM := fun _ h => some (.rt (.v .none) h)
def sExpr (f : EM) : SM := sE f fun _ s h => some (.nx s h)
section
variable {K : KF} {mg : Str → Option Value} {W : WX} {σ : L2.St} {w : Wd} {sl : Sl}
theorem tIS_bind {f : EM} {k : D → SM} {E : Ends} {Q : VK} (ok : w.Ok K) (hs : SRep K w sl σ) (h : WpS K mg W ((sE f k) sl w.h) w E)
    (q : ∀ d v w1, w.Le w1 → w1.Ok K → SRep K w1 sl σ → RepD K w1 d v → WpS K mg W (k d sl w1.h) w1 E → Q v w1.H) : tI K mg W f σ w.H Q := by
  refine ⟨w, sl, rfl, ok, hs, ?_⟩
  unfold sE at h
  unfold WpE
  cases e : f sl w.h with
  | none =>
    simp only [e] at h
    exact h
  | some r =>
    cases r with
    | ok d h' =>
      simp only [e] at h
      exact fun w' v l o eh r => q d v w' l o (hs.mono ok l) r (by rw [eh]; exact WpS.le h l o)
    | ex x h' =>
      simp only [e] at h
      exact fun w' cls da l o eh r => h w' σ cls da l o eh (hs.mono ok l) r
theorem tITS_bind {t : TM} {a b : SM} {E : Ends} {Q : Bool → Hp → Prop} (ok : w.Ok K) (hs : SRep K w sl σ) (h : WpS K mg W ((sIf t a b) sl w.h) w E)
    (q : ∀ k w1, w.Le w1 → w1.Ok K → SRep K w1 sl σ → WpS K mg W (if k = true then a sl w1.h else b sl w1.h) w1 E → Q k w1.H) : tIT K mg W t σ w.H Q := by
  refine ⟨w, sl, rfl, ok, hs, ?_⟩
  unfold sIf at h
  unfold WpT
  cases e : t sl w.h with
  | none =>
    simp only [e] at h
    exact h
  | some r =>
    cases r with
    | ok d h' =>
      simp only [e] at h
      exact fun w' l o eh => q d w' l o (hs.mono ok l) (by rw [eh]; exact WpS.le h l o)
    | ex x h' =>
      simp only [e] at h
      exact fun w' cls da l o eh r => h w' σ cls da l o eh (hs.mono ok l) r
end
section
variable {X : Cx} {W : WX} {st : Stmt} {rest body els : List Stmt} {a b : SM} {e c : Expr} {f : EM} {t : TM} {pos : Pos}
theorem ss_nil : SSs X W [] sNext := PSs.mono' pss_nil fun E σ H ⟨w, sl, eH, ok, hs, h⟩ => by
  subst eH
  exact h w σ (Wd.Le.refl w) ok rfl hs
theorem ss_cons (h1 : SS X W st a) (h2 : SSs X W rest b) : SSs X W (st :: rest) (sSeq a b) := PSs.mono' (pss_cons h1 h2) fun E σ H ⟨w, sl, eH, ok, hs, h⟩ => by
  subst eH
  refine ⟨w, sl, rfl, ok, hs, ?_⟩
  unfold sSeq at h
  cases e : a sl w.h with
  | none => simp only [e] at h; exact h
  | some r =>
    cases r with
    | nx s1 h1 =>
      simp only [e] at h
      exact fun w' σ' l o eh hs' => ⟨w', s1, rfl, o, hs', by rw [eh]; exact WpS.le h l o⟩
    | _ => simp only [e] at h; exact h
theorem ss_one (h1 : SS X W st a) : SSs X W [st] a := PSs.mono' (pss_one h1) fun _ _ _ h => h
theorem ss_pass : SS X W (.Pass pos) sNext := PS.mono' ps_pass fun E σ H ⟨w, sl, eH, ok, hs, h⟩ => by
  subst eH
  exact h w σ (Wd.Le.refl w) ok rfl hs
theorem ss_brk : SS X W (.Break pos) sBrk := PS.mono' ps_break fun E σ H ⟨w, sl, eH, ok, hs, h⟩ => by
  subst eH
  exact h w σ (Wd.Le.refl w) ok rfl hs
theorem ss_cnt : SS X W (.Continue pos) sCnt := PS.mono' ps_continue fun E σ H ⟨w, sl, eH, ok, hs, h⟩ => by
  subst eH
  exact h w σ (Wd.Le.refl w) ok rfl hs
theorem ss_never : SS X W st sNever := PS.mono' ps_never fun E σ H ⟨w, sl, eH, ok, hs, h⟩ => h
theorem sss_never {sts : List Stmt} : SSs X W sts sNever := PSs.mono' pss_never fun E σ H ⟨w, sl, eH, ok, hs, h⟩ => h
theorem ss_expr (he : SE X W e f) (hs : swapsWith e none pos.line X.env = pure false := by rfl) : SS X W (.Expr e pos) (sExpr f) := PS.mono' (ps_expr he hs) fun E σ H ⟨w, sl, eH, ok, hs, h⟩ => by
  subst eH
  exact tIS_bind ok hs h fun d v w1 l1 ok1 hs1 r1 h1 => h1 w1 σ (Wd.Le.refl w1) ok1 rfl hs1
theorem ss_ret (he : SE X W e f) : SS X W (.Return (some e) pos) (sRet f) := PS.mono' (ps_ret he) fun E σ H ⟨w, sl, eH, ok, hs, h⟩ => by
  subst eH
  exact tIS_bind ok hs h fun d v w1 l1 ok1 hs1 r1 h1 => h1 w1 v (Wd.Le.refl w1) ok1 rfl r1
theorem ss_retN : SS X W (.Return none pos) sRetN := PS.mono' ps_retN fun E σ H ⟨w, sl, eH, ok, hs, h⟩ => by
  subst eH
  exact h w .non (Wd.Le.refl w) ok rfl rfl
theorem ss_if (hc : ST X W c t) (ha : SSs X W body a) (hb : SSs X W els b) : SS X W (.If c body els pos) (sIf t a b) := PS.mono' (ps_if hc ha hb) fun E σ H ⟨w, sl, eH, ok, hs, h⟩ => by
  subst eH
  refine tITS_bind ok hs h fun k w1 l1 ok1 hs1 h1 => ?_
  cases k with
  | true =>
    rw [if_pos rfl] at h1 ⊢
    exact ⟨w1, sl, rfl, ok1, hs1, h1⟩
  | false =>
    rw [if_neg Bool.false_ne_true] at h1 ⊢
    exact ⟨w1, sl, rfl, ok1, hs1, h1⟩
end

/-! ## targets -/
abbrev GM := D → Sl → Hs → Option Sl
/-- all slots but those at js are as they were -/
def Else (js : List Nat) (σ σ' : L2.St) : Prop := σ'.length = σ.length ∧ ∀ j, j ∉ js → σ'[j]? = σ[j]?
def tG (K : KF) (js : List Nat) (g : GM) : TG := fun v σ H Q => ∃ (w : Wd) (sl sl' : Sl) (d : D), w.H = H ∧ w.Ok K ∧ SRep K w sl σ ∧ RepD K w d v ∧ g d sl w.h = some sl' ∧ ∀ σ', SRep K w sl' σ' → Else js σ σ' → Q σ' w.H
def SG (X : Cx) (e : Expr) (js : List Nat) (g : GM) : Prop := PG X e (tG X.K js g)
abbrev GsM := List D → Sl → Hs → Option Sl
def tGs (K : KF) (js : List Nat) (g : GsM) : TGs := fun vs σ H Q => ∃ (w : Wd) (sl sl' : Sl) (ds : List D), w.H = H ∧ w.Ok K ∧ SRep K w sl σ ∧ RepDs K w ds vs ∧ g ds sl w.h = some sl' ∧ ∀ σ', SRep K w sl' σ' → Else js σ σ' → Q σ' w.H
def SGs (X : Cx) (e : List Expr) (js : List Nat) (g : GsM) : Prop := PGs X e (tGs X.K js g)
theorem PG.mono' {X : Cx} {e : Expr} {t t' : TG} (h : PG X e t) (i : ∀ v σ H Q, t' v σ H Q → t v σ H Q) : PG X e t' := ⟨fun pins s σ H v u Q I r q => h.run pins s σ H v u Q I r (i v σ H Q q)⟩
theorem PGs.mono' {X : Cx} {e : List Expr} {t t' : TGs} (h : PGs X e t) (i : ∀ v σ H Q, t' v σ H Q → t v σ H Q) : PGs X e t' := ⟨fun pins s σ H v u Q I r q => h.run pins s σ H v u Q I r (i v σ H Q q)⟩
def gNm (i : Nat) : GM := fun d s _ => some (s.set i (some d))
def gsNil : GsM := fun ds s _ => match ds with
  | [] => some s
  | _ => none
def gsCons (g : GM) (r : GsM) : GsM := fun ds s h => match ds with
  | d :: ds' => match g d s h with
    | some s1 => r ds' s1 h
    | none => none
  | [] => none
def itemsT : D → Option (List D)
  | .v (.tuple ds) => some (ds.map .v)
  | .mix xs => some xs
  | _ => none
def gTp (n : Nat) (g : GsM) : GM := fun d s h => match itemsT d with
  | some xs => if xs.length = n then g xs s h else none
  | none => none
theorem RepDs.ofP {K : KF} {w : Wd} : ∀ {ds : List PyData} {vs : List V}, RepPs K w.Fz w.H ds vs → RepDs K w (ds.map .v) vs
  | [], _, h => h
  | d :: ds, _, ⟨v, r, e, h1, h2⟩ => ⟨v, r, e, h1, RepDs.ofP h2⟩
theorem SRep.set {K : KF} {w : Wd} {sl : Sl} {σ : L2.St} {d : D} {v : V} (hs : SRep K w sl σ) (i : Nat) (r : RepD K w d v) : SRep K w (sl.set i (some d)) (σ.set i (some v)) where
  len := by rw [List.length_set, List.length_set]; exact hs.len
  at' := fun j e h => by
    by_cases hj : i = j
    · subst hj
      by_cases hl : i < sl.length
      · rw [List.getElem?_set_self hl] at h
        cases h
        exact ⟨v, List.getElem?_set_self (by rw [← hs.len]; exact hl), r⟩
      · rw [List.set_eq_of_length_le (by omega)] at h
        rw [List.set_eq_of_length_le (by rw [← hs.len]; omega)]
        exact hs.at' i e h
    · rw [List.getElem?_set_ne hj] at h
      rw [List.getElem?_set_ne hj]
      exact hs.at' j e h
section
variable {X : Cx} {e : Expr} {es : List Expr} {g : GM} {gs : GsM} {js js' : List Nat} {pos : Pos}
theorem sg_name {i : Nat} {x : Str} (hN : X.N.Nodup) (hi : X.N[i]? = some x) (hx : Loc X.env.scope x) (hf : X.fn x = true ∨ X.env.scope.names.lookup x = some .local := by first | exact .inl rfl | exact .inr rfl | assumption) : SG X (.Name x pos) [i] (gNm i) :=
  PG.mono' (pg_name hN hi hx hf) fun v σ H Q ⟨w, sl, sl', d, eH, ok, hs, r, eg, q⟩ => by
    subst eH
    cases eg
    exact q _ (hs.set i r) ⟨List.length_set, fun j hj => List.getElem?_set_ne fun e => hj (by simp [e])⟩
theorem sgs_nil : SGs X [] [] gsNil := PGs.mono' pgs_nil fun v σ H Q ⟨w, sl, sl', ds, eH, ok, hs, r, eg, q⟩ => by
  subst eH
  unfold gsNil at eg
  split at eg
  · cases eg
    exact ⟨r, q σ hs ⟨rfl, fun _ _ => rfl⟩⟩
  · cases eg
theorem sgs_cons (h1 : SG X e js g) (h2 : SGs X es js' gs) (hs : (assignEach (e :: es) X.env).map (·.2) = assign e X.env :: (assignEach es X.env).map (·.2) := by rfl) : SGs X (e :: es) (js ++ js') (gsCons g gs) :=
  PGs.mono' (pgs_cons h1 h2 hs) fun v σ H Q ⟨w, sl, sl', ds, eH, ok, hs, r, eg, q⟩ => by
    subst eH
    unfold gsCons at eg
    split at eg
    · rename_i d ds'
      obtain ⟨v1, vr, ev, r1, r2⟩ := r
      split at eg
      · rename_i s1 e1
        exact ⟨v1, vr, ev, w, sl, s1, d, rfl, ok, hs, r1, e1, fun σ1 hs1 el1 => ⟨w, s1, sl', ds', rfl, ok, hs1, r2, eg, fun σ2 hs2 el2 => q σ2 hs2 ⟨el2.1.trans el1.1, fun j hj => (el2.2 j fun z => hj (List.mem_append_right _ z)).trans (el1.2 j fun z => hj (List.mem_append_left _ z))⟩⟩⟩
      · cases eg
    · cases eg
theorem sg_tup {k n : Nat} (hc : X.calm = true) (h : SGs X es js gs) (hn : (assignEach es X.env).length = n := by rfl) (hst : (assignEach es X.env).findIdx? (·.1) = none := by rfl) : SG X (.Tuple es k pos) js (gTp n gs) :=
  PG.mono' (pg_tup hc h hn hst) fun v σ H Q ⟨w, sl, sl', d, eH, ok, hs, r, eg, q⟩ => by
    subst eH
    unfold gTp at eg
    split at eg
    · rename_i xs ex
      split at eg
      · rename_i hl
        cases d with
        | v d =>
          cases d with
          | tuple ds =>
            cases ex
            obtain ⟨a, vs, rfl, ht, hr⟩ := r
            exact ⟨a, vs, rfl, ht, by rw [hr.len]; simpa using hl, w, sl, sl', _, rfl, ok, hs, RepDs.ofP hr, eg, q⟩
          | _ => cases ex
        | ref n => cases ex
        | mix ys =>
          cases ex
          obtain ⟨a, vs, rfl, ht, hr⟩ := r
          exact ⟨a, vs, rfl, ht, by rw [hr.len]; exact hl, w, sl, sl', _, rfl, ok, hs, hr, eg, q⟩
      · cases eg
    · cases eg
end
def sAsg (f : EM) (g : GM) : SM := sE f fun d s h => match g d s h with
  | some s1 => some (.nx s1 h)
  | none => none
section
variable {X : Cx} {W : WX} {e tg : Expr} {f : EM} {g : GM} {js : List Nat} {pos : Pos}
theorem asg_of (σ : L2.St) (H : Hp) (E : Ends) (h : tS X.K X.mg W (sAsg f g) E σ H) : tAsg (tI X.K X.mg W f) (tG X.K js g) E σ H := by
  obtain ⟨w, sl, rfl, ok, hs, h⟩ := h
  refine tIS_bind ok hs h fun d v w1 l1 ok1 hs1 r1 h1 => ?_
  cases eg : g d sl w1.h with
  | none => simp only [eg] at h1; exact h1.elim
  | some s1 =>
    simp only [eg] at h1
    exact ⟨w1, sl, s1, d, rfl, ok1, hs1, r1, eg, fun σ' hs' _ => h1 w1 σ' (Wd.Le.refl w1) ok1 rfl hs'⟩
theorem ss_asg (he : SE X W e f) (hg : SG X tg js g) (hs : swapsWithSole [tg] e pos.line X.env = pure false := by rfl) (hw : swappedStores [tg] e X.env = pure none := by rfl)
    (h1 : (assignEach [tg] X.env).map (·.2) = [assign tg X.env] := by rfl) : SS X W (.Assign [tg] e pos) (sAsg f g) := PS.mono' (ps_asg he hg hs hw h1) fun E σ H h => asg_of σ H E h
theorem ss_set {i : Nat} {x : Str} {pos' : Pos} (hN : X.N.Nodup) (hi : X.N[i]? = some x) (hx : Loc X.env.scope x) (he : SE X W e f) (hs : swapsWith e (some (.Name x pos')) pos.line X.env = pure false := by rfl) (hf : X.fn x = true ∨ X.env.scope.names.lookup x = some .local := by first | exact .inl rfl | exact .inr rfl | assumption) :
    SS X W (.Assign [.Name x pos'] e pos) (sAsg f (gNm i)) := PS.mono' (ps_set hN hi hx he hs hf) fun E σ H ⟨w, sl, eH, ok, hs, h⟩ => by
  subst eH
  exact tIS_bind ok hs h fun d v w1 l1 ok1 hs1 r1 h1 => h1 w1 _ (Wd.Le.refl w1) ok1 rfl (hs1.set i r1)
end

/-! ## what is walked -/
inductive IR where
  | ok (items : List D) (gd : Option (Nat × List D)) (h : Hs)
  | ex (x : Ex) (h : Hs)
abbrev IM := Sl → Hs → Option IR
def gok : Option (Nat × List D) → Hs → Prop
  | none, _ => True
  | some (n, xs), h => h[n]? = some (.lst xs)
structure Its (K : KF) (J : It) (items : List D) (gd : Option (Nat × List D)) (w1 : Wd) : Prop where
  len : items.length ≤ sizeLine
  go : ∀ (i : Nat) w2, w1.Le w2 → w2.Ok K → gok gd w2.h → i < items.length → J.go i w2.H ∧ ∀ x H', J.yld i w2.H x H' → ∃ w3 d, w2.Le w3 ∧ w3.Ok K ∧ w3.h = w2.h ∧ w3.H = H' ∧ items[i]? = some d ∧ RepD K w3 d x
  stop : ∀ (i : Nat) w2, w1.Le w2 → w2.Ok K → gok gd w2.h → items.length ≤ i → i = items.length → J.stop i w2.H
section
variable (K : KF) (mg : Str → Option Value) (W : WX)
def WpI (σ : L2.St) (r : Option IR) (w : Wd) (R : It → Hp → Prop) : Prop :=
  match r with
  | some (.ok items gd h') => ∀ w' J, w.Le w' → w'.Ok K → w'.h = h' → Its K J items gd w' → R J w'.H
  | some (.ex x h') => ∀ w' cls da, w.Le w' → w'.Ok K → w'.h = h' → ExRep K mg w' x cls da → W cls da σ w'.H
  | none => False
def tII (f : IM) : TI := fun σ H R => ∃ (w : Wd) (sl : Sl), w.H = H ∧ w.Ok K ∧ SRep K w sl σ ∧ WpI K mg W σ (f sl w.h) w R
end
def SI (X : Cx) (W : WX) (tg iter : Expr) (f : IM) : Prop := PI X tg iter (tII X.K X.mg W f)
theorem PI.mono' {X : Cx} {tg e : Expr} {t t' : TI} (h : PI X tg e t) (i : ∀ σ H Q, t' σ H Q → t σ H Q) : PI X tg e t' := ⟨fun pins s σ H Q I q => h.run pins s σ H Q I (i σ H Q q)⟩

/-! ## for -/
open Classical in
noncomputable def forL (gd : Option (Nat × List D)) (g : GM) (body : SM) : List D → SM
  | [], s, h => if gok gd h then some (.nx s h) else none
  | d :: r, s, h => if gok gd h then match g d s h with
      | some s1 => match body s1 h with
        | some (.nx s2 h2) => forL gd g body r s2 h2
        | some (.ct s2 h2) => forL gd g body r s2 h2
        | some (.bk s2 h2) => some (.nx s2 h2)
        | some (.rt d h2) => some (.rt d h2)
        | some (.ex s2 x h2) => some (.ex s2 x h2)
        | none => none
      | none => none
    else none
noncomputable def sFor (it : IM) (g : GM) (body : SM) : SM := fun s h => match it s h with
  | some (.ok items gd h1) => forL gd g body items s h1
  | some (.ex x h1) => some (.ex s x h1)
  | none => none
section
variable {X : Cx} {W : WX} {iter tg : Expr} {body : List Stmt} {it : IM} {g : GM} {js : List Nat} {b : SM} {pos : Pos}
theorem ss_for (hp : PassesOwn (model X.prog X.w) X.A X.env X.xe) (hc : X.calm = true) (hi : SI X W tg iter it) (hg : SG X tg js g) (hb : SSs X W body b) (hs : ∀ x, foldedSetIterable iter X.env x = pure x := by intro _; rfl) : SS X W (.For tg iter body [] pos) (sFor it g b) :=
  PS.mono' (ps_for hp hc hi hg hb hs) fun E σ H ⟨w, sl, eH, ok, hs, h⟩ => by
    subst eH
    refine ⟨w, sl, rfl, ok, hs, ?_⟩
    unfold sFor at h
    unfold WpI
    cases ei : it sl w.h with
    | none => simp only [ei] at h; exact h.elim
    | some r =>
      cases r with
      | ex x h' =>
        simp only [ei] at h
        exact fun w' cls da l o eh r => h w' σ cls da l o eh (hs.mono ok l) r
      | ok items gd h' =>
        simp only [ei] at h
        intro w1 J l1 ok1 eh1 T
        subst eh1
        refine ⟨fun i m σ H => m = items.length - i ∧ i ≤ items.length ∧ ∃ w2 sl2, w1.Le w2 ∧ w2.H = H ∧ w2.Ok X.K ∧ SRep X.K w2 sl2 σ ∧ WpS X.K X.mg W (forL gd g b (items.drop i) sl2 w2.h) w2 E,
          ⟨items.length, by simp, Nat.zero_le _, w1, sl, Wd.Le.refl w1, rfl, ok1, hs.mono ok l1, by rw [List.drop_zero]; exact WpS.le h l1 ok1⟩, ?_⟩
        rintro i m σ2 H2 ⟨rfl, hi, w2, sl2, l2, rfl, ok2, hs2, h2⟩
        by_cases hlt : i < items.length
        · rw [List.drop_eq_getElem_cons hlt] at h2
          unfold forL at h2
          split at h2
          · rename_i hg2
            obtain ⟨hgo, hy⟩ := T.go i w2 l2 ok2 hg2 hlt
            refine .inr ⟨hgo, fun σ' H' => ∃ w3 sl3, w1.Le w3 ∧ w3.H = H' ∧ w3.Ok X.K ∧ SRep X.K w3 sl3 σ' ∧ WpS X.K X.mg W (forL gd g b (items.drop (i + 1)) sl3 w3.h) w3 E,
              fun σ' H' ⟨w3, sl3, l3, e3, ok3, hs3, h3⟩ => ⟨items.length - (i + 1), by omega, rfl, hlt, w3, sl3, l3, e3, ok3, hs3, h3⟩, fun x H' y => ?_⟩
            obtain ⟨w3, d, l3, ok3, eh3, rfl, ed, rd⟩ := hy x H' y
            rw [List.getElem?_eq_getElem hlt] at ed
            cases ed
            cases eg : g items[i] sl2 w2.h with
            | none => simp only [eg] at h2; exact h2.elim
            | some s1 =>
              simp only [eg] at h2
              refine ⟨w3, sl2, s1, items[i], rfl, ok3, hs2.mono ok2 l3, rd, by rw [eh3]; exact eg, fun σ4 hs4 _ => ?_⟩
              refine ⟨w3, s1, rfl, ok3, hs4, ?_⟩
              rw [eh3]
              cases eb : b s1 w2.h with
              | none => simp only [eb] at h2; exact h2.elim
              | some r =>
                cases r with
                | nx s5 h5 =>
                  simp only [eb] at h2
                  exact fun w5 σ5 l5 ok5 e5 hs5 => ⟨w5, s5, (l2.trans l3 ok2).trans l5 ok3, rfl, ok5, hs5, by rw [e5]; exact WpS.le h2 (l3.trans l5 ok3) ok5⟩
                | ct s5 h5 =>
                  simp only [eb] at h2
                  exact fun w5 σ5 l5 ok5 e5 hs5 => ⟨w5, s5, (l2.trans l3 ok2).trans l5 ok3, rfl, ok5, hs5, by rw [e5]; exact WpS.le h2 (l3.trans l5 ok3) ok5⟩
                | bk s5 h5 =>
                  simp only [eb] at h2
                  exact fun w5 σ5 l5 => h2 w5 σ5 (l3.trans l5 ok3)
                | rt d5 h5 =>
                  simp only [eb] at h2
                  exact fun w5 σ5 l5 => h2 w5 σ5 (l3.trans l5 ok3)
                | ex s5 x h5 =>
                  simp only [eb] at h2
                  exact fun w5 σ5 cls da l5 => h2 w5 σ5 cls da (l3.trans l5 ok3)
          · exact h2.elim
        · have ei : i = items.length := by omega
          subst ei
          rw [List.drop_length] at h2
          unfold forL at h2
          split at h2
          · rename_i hg2
            exact .inl ⟨T.stop _ w2 l2 ok2 hg2 (Nat.le_refl _) rfl, h2 w2 σ2 (Wd.Le.refl w2) ok2 rfl hs2⟩
          · exact h2.elim
end

/-! ## while -/
def whileN (t : TM) (b : SM) : Nat → SM
  | 0, _, _ => none
  | n + 1, s, h => match t s h with
    | some (.ok k h1) => if k = true then match b s h1 with
        | some (.nx s2 h2) => whileN t b n s2 h2
        | some (.ct s2 h2) => whileN t b n s2 h2
        | some (.bk s2 h2) => some (.nx s2 h2)
        | some (.rt d h2) => some (.rt d h2)
        | some (.ex s2 x h2) => some (.ex s2 x h2)
        | none => none
      else some (.nx s h1)
    | some (.ex x h1) => some (.ex s x h1)
    | none => none
theorem whileN_up {t : TM} {b : SM} : ∀ {n : Nat} {s : Sl} {h : Hs} {r : SR}, whileN t b n s h = some r → whileN t b (n + 1) s h = some r
  | 0, _, _, _, e => by cases e
  | n + 1, s, h, r, e => by
    rw [whileN] at e ⊢
    cases et : t s h with
    | none => simp only [et] at e; cases e
    | some q =>
      cases q with
      | ex x h1 => simp only [et] at e ⊢; exact e
      | ok k h1 =>
        simp only [et] at e ⊢
        cases k with
        | false => exact e
        | true =>
          rw [if_pos rfl] at e ⊢
          cases eb : b s h1 with
          | none => simp only [eb] at e; cases e
          | some q2 =>
            cases q2 with
            | nx s2 h2 => simp only [eb] at e ⊢; exact whileN_up e
            | ct s2 h2 => simp only [eb] at e ⊢; exact whileN_up e
            | bk s2 h2 => simp only [eb] at e ⊢; exact e
            | rt s2 h2 => simp only [eb] at e ⊢; exact e
            | ex s2 x h2 => simp only [eb] at e ⊢; exact e
theorem whileN_add {t : TM} {b : SM} {n : Nat} {s : Sl} {h : Hs} {r : SR} (e : whileN t b n s h = some r) : ∀ k, whileN t b (n + k) s h = some r
  | 0 => e
  | k + 1 => whileN_up (whileN_add e k)
open Classical in
noncomputable def sWhile (t : TM) (b : SM) : SM := fun s h => if e : ∃ n r, whileN t b n s h = some r then some e.choose_spec.choose else none
theorem sWhile_of {t : TM} {b : SM} {n : Nat} {s : Sl} {h : Hs} {r : SR} (e : whileN t b n s h = some r) : sWhile t b s h = some r := by
  have ex : ∃ n r, whileN t b n s h = some r := ⟨n, r, e⟩
  unfold sWhile
  rw [dif_pos ex]
  have e2 := ex.choose_spec.choose_spec
  have h1 := whileN_add e ex.choose
  have h2 := whileN_add e2 n
  rw [Nat.add_comm] at h2
  rw [h1] at h2
  rw [Option.some.inj h2]
section
variable {X : Cx} {W : WX} {c : Expr} {body : List Stmt} {t : TM} {b : SM} {pos : Pos}
theorem ss_while (hp : PassesOwn (model X.prog X.w) X.A X.env X.xe) (hc : ST X W c t) (hb : SSs X W body b) : SS X W (.While c body [] pos) (sWhile t b) :=
  PS.mono' (ps_while hp hc hb) fun E σ H ⟨w, sl, eH, ok, hs, h⟩ => by
    subst eH
    unfold sWhile at h
    split at h
    · rename_i ex
      have e2 := ex.choose_spec.choose_spec
      rw [← e2] at h
      refine ⟨fun m σ H => ∃ w2 sl2, w2.H = H ∧ w2.Ok X.K ∧ SRep X.K w2 sl2 σ ∧ WpS X.K X.mg W (whileN t b m sl2 w2.h) w2 E, ⟨ex.choose, w, sl, rfl, ok, hs, h⟩, ?_⟩
      rintro m σ2 H2 ⟨w2, sl2, rfl, ok2, hs2, h2⟩
      cases m with
      | zero => exact h2.elim
      | succ m =>
        rw [whileN] at h2
        refine ⟨w2, sl2, rfl, ok2, hs2, ?_⟩
        unfold WpT
        cases et : t sl2 w2.h with
        | none => simp only [et] at h2; exact h2.elim
        | some q =>
          cases q with
          | ex x h1 =>
            simp only [et] at h2
            exact fun w' cls da l o eh r => h2 w' σ2 cls da l o eh (hs2.mono ok2 l) r
          | ok k h1 =>
            simp only [et] at h2
            intro w3 l3 ok3 eh3
            subst eh3
            cases k with
            | false =>
              rw [if_neg Bool.false_ne_true] at h2 ⊢
              exact h2 w3 σ2 l3 ok3 rfl (hs2.mono ok2 l3)
            | true =>
              rw [if_pos rfl] at h2 ⊢
              refine ⟨fun σ' H' => ∃ w4 sl4, w4.H = H' ∧ w4.Ok X.K ∧ SRep X.K w4 sl4 σ' ∧ WpS X.K X.mg W (whileN t b m sl4 w4.h) w4 E, fun σ' H' q => ⟨m, Nat.lt_succ_self m, q⟩, ?_⟩
              refine ⟨w3, sl2, rfl, ok3, hs2.mono ok2 l3, ?_⟩
              cases eb : b sl2 w3.h with
              | none => simp only [eb] at h2; exact h2.elim
              | some r =>
                cases r with
                | nx s5 h5 =>
                  simp only [eb] at h2
                  exact fun w5 σ5 l5 ok5 e5 hs5 => ⟨w5, s5, rfl, ok5, hs5, by rw [e5]; exact WpS.le h2 (l3.trans l5 ok3) ok5⟩
                | ct s5 h5 =>
                  simp only [eb] at h2
                  exact fun w5 σ5 l5 ok5 e5 hs5 => ⟨w5, s5, rfl, ok5, hs5, by rw [e5]; exact WpS.le h2 (l3.trans l5 ok3) ok5⟩
                | bk s5 h5 =>
                  simp only [eb] at h2
                  exact fun w5 σ5 l5 => h2 w5 σ5 (l3.trans l5 ok3)
                | rt d5 h5 =>
                  simp only [eb] at h2
                  exact fun w5 σ5 l5 => h2 w5 σ5 (l3.trans l5 ok3)
                | ex s5 x h5 =>
                  simp only [eb] at h2
                  exact fun w5 σ5 cls da l5 => h2 w5 σ5 cls da (l3.trans l5 ok3)
    · exact h.elim
end
end Vl
set_option maxHeartbeats 4000000
namespace Vl
open PySem PySem.Spec PyProof.Rows L2

/-! ## what is walked: a list, a tuple, a text -/
def iAny (K : KF) (te : TE) : TI := fun σ H R => te σ H fun x H1 =>
  (∃ a xs, x = .ref a ∧ SqL K H1 a xs ∧ (xs.length ≤ sizeLine → R (Itl K a) H1)) ∨ (∃ a xs, x = .ref a ∧ SqT K H1 a xs ∧ (xs.length ≤ sizeLine → R (Itt K a) H1)) ∨ (∃ z, x = .str z ∧ R (L2.Its z) H1)
theorem pi_any {X : Cx} {tg l : Expr} {tl : TE} (hl : PE X l tl) : PI X tg l (iAny X.K tl) := by
  refine ⟨fun pins s σ H R I h => ?_⟩
  refine thn (hl.run pins s σ H _ I h) fun v s1 ⟨x, H1, I1, r1, q1⟩ => ?_
  rcases q1 with ⟨a, xs, e, hq, q⟩ | ⟨a, xs, e, hq, q⟩ | ⟨z, e, q⟩
  · subst e
    cases r1
    obtain ⟨its, rv, p, hz⟩ := I1.list hq
    refine wpAny_pyIter_list p.isList ?_
    refine ⟨s1.heap.objs.size, [s1.heap.objs.size], _, _, H1, rfl, I1.kept (t' := s1.toks) fun b o e => Heap.get?_push_of_some _ e, turn_list a _, ⟨_, Heap.get?_push_size _ rfl, rfl, rfl⟩, fun b hb => ?_, q hz⟩
    have e : b = s1.heap.objs.size := by simpa using hb
    subst e
    exact I1.fpOk (Nat.le_refl _) (I1.hok.fresh (Nat.le_refl _))
  · subst e
    cases r1
    obtain ⟨its, rv, p, hz⟩ := I1.tuple hq
    refine wpAny_pyIter_tuple (show s1.heap.IsTuple a its.toArray from p) ?_
    refine ⟨s1.heap.objs.size, [s1.heap.objs.size], _, _, H1, rfl, I1.kept (t' := s1.toks) fun b o e => Heap.get?_push_of_some _ e, turn_tuple a _, ⟨_, Heap.get?_push_size _ rfl, rfl, rfl⟩, fun b hb => ?_, q hz⟩
    have e : b = s1.heap.objs.size := by simpa using hb
    subst e
    exact I1.fpOk (Nat.le_refl _) (I1.hok.fresh (Nat.le_refl _))
  · subst e
    obtain ⟨t, rfl⟩ := r1
    cases ha : z.cps.all (· < 128)
    · exact wpAny_pyIter_wide ha (pi_one (tk := s1.toks) I1 _ (turn_str _ z t "str_iterator" (.inr rfl)) ⟨_, Heap.get?_push_size _ rfl, rfl, rfl⟩ q)
    · exact wpAny_pyIter_ascii ha (pi_one (tk := s1.toks) I1 _ (turn_str _ z t "str_ascii_iterator" (.inl rfl)) ⟨_, Heap.get?_push_size _ rfl, rfl, rfl⟩ q)
def signsD (z : Str) : List D := z.cps.toList.map fun c => .v (.str ⟨#[c]⟩)
def seqI (d : D) (h : Hs) : Option IR := match d with
  | .v (.list ds) => some (.ok (ds.map .v) none h)
  | .v (.tuple ds) => some (.ok (ds.map .v) none h)
  | .v (.str z) => if z.length ≤ sizeLine then some (.ok (signsD z) none h) else none
  | .ref n => match h[n]? with
    | some (.lst xs) => some (.ok xs (some (n, xs)) h)
    | none => none
  | .mix xs => some (.ok xs none h)
  | _ => none
def iSeq (f : EM) : IM := fun s h => match f s h with
  | some (.ok d h1) => seqI d h1
  | some (.ex x h1) => some (.ex x h1)
  | none => none
section
variable {K : KF} {w : Wd}
theorem its_list {a : Addr} {ds : List PyData} {vs : List V} (ok : w.Ok K) (ht : LRd K w.Fz w.H a vs) (hr : RepPs K w.Fz w.H ds vs) (hz : vs.length ≤ sizeLine) : Its K (Itl K a) (ds.map .v) none w where
  len := by rw [List.length_map, ← hr.len]; exact hz
  go := fun i w2 l2 ok2 _ hi => by
    have ht2 := (LRd.keepW ok l2 ht).sql
    have hr2 := RepPs.mono ok l2 ds hr
    rw [List.length_map] at hi
    obtain ⟨v, hv, rv⟩ := RepPs.get hr2 (List.getElem?_eq_getElem hi)
    refine ⟨⟨vs, v, ht2, hv⟩, fun x H' y => ⟨w2, .v ds[i], Wd.Le.refl w2, ok2, rfl, y.1.symm, by simp [hi], ?_⟩⟩
    have := y.2 vs ht2
    rw [hv] at this
    cases this
    exact rv
  stop := fun i w2 l2 ok2 _ hi _ => ⟨vs, (LRd.keepW ok l2 ht).sql, by rw [hr.len]; simpa using hi⟩
theorem its_tuple {a : Addr} {xs : List D} {vs : List V} (ok : w.Ok K) (ht : SqT K w.H a vs) (hr : RepDs K w xs vs) (hz : vs.length ≤ sizeLine) : Its K (Itt K a) xs none w where
  len := by rw [← hr.len]; exact hz
  go := fun i w2 l2 ok2 _ hi => by
    have ht2 := SqT.keepW ok l2 ht
    have hr2 := RepDs.mono ok l2 xs hr
    obtain ⟨v, hv, rv⟩ := RepDs.get hr2 (List.getElem?_eq_getElem hi)
    refine ⟨⟨vs, v, ht2, hv⟩, fun x H' y => ⟨w2, xs[i], Wd.Le.refl w2, ok2, rfl, y.1.symm, by simp [hi], ?_⟩⟩
    have := y.2 vs ht2
    rw [hv] at this
    cases this
    exact rv
  stop := fun i w2 l2 ok2 _ hi _ => ⟨vs, SqT.keepW ok l2 ht, by rw [hr.len]; exact hi⟩
theorem its_cell {a : Addr} {n : Nat} {xs : List D} {vs : List V} (ok : w.Ok K) (ha : w.ι[n]? = some a) (hr : RepDs K w xs vs) (hz : vs.length ≤ sizeLine) : Its K (Itl K a) xs (some (n, xs)) w where
  len := by rw [← hr.len]; exact hz
  go := fun i w2 l2 ok2 hg hi => by
    obtain ⟨m, em, _⟩ := l2.more
    have ha2 : w2.ι[n]? = some a := by
      rw [em, List.getElem?_append_left (List.getElem?_eq_some_iff.mp ha).1]
      exact ha
    obtain ⟨vs2, hH, hr2⟩ := ok2.cell n a _ ha2 hg
    obtain ⟨v, hv, rv⟩ := RepDs.get hr2 (List.getElem?_eq_getElem hi)
    refine ⟨⟨vs2, v, .inl (.inl hH), hv⟩, fun x H' y => ⟨w2, xs[i], Wd.Le.refl w2, ok2, rfl, y.1.symm, by simp [hi], ?_⟩⟩
    have := y.2 vs2 (.inl (.inl hH))
    rw [hv] at this
    cases this
    exact rv
  stop := fun i w2 l2 ok2 hg hi _ => by
    obtain ⟨m, em, _⟩ := l2.more
    have ha2 : w2.ι[n]? = some a := by
      rw [em, List.getElem?_append_left (List.getElem?_eq_some_iff.mp ha).1]
      exact ha
    obtain ⟨vs2, hH, hr2⟩ := ok2.cell n a _ ha2 hg
    exact ⟨vs2, .inl (.inl hH), by rw [hr2.len]; exact hi⟩
theorem its_str {z : Str} (hz : z.length ≤ sizeLine) : Its K (L2.Its z) (signsD z) none w where
  len := by
    unfold signsD
    rw [List.length_map]
    exact hz
  go := fun i w2 l2 ok2 _ hi => by
    unfold signsD at hi ⊢
    rw [List.length_map, Array.length_toList] at hi
    refine ⟨hi, fun x H' y => ?_⟩
    obtain ⟨e, c, hc, rfl⟩ := y
    refine ⟨w2, .v (.str ⟨#[c]⟩), Wd.Le.refl w2, ok2, rfl, e.symm, ?_, rfl⟩
    rw [List.getElem?_map, Array.getElem?_toList, hc]
    rfl
  stop := fun i w2 l2 ok2 _ hi _ => by
    unfold signsD at hi
    rw [List.length_map, Array.length_toList] at hi
    exact hi
end
section
variable {X : Cx} {W : WX} {tg e : Expr} {f : EM} {pos p : Pos}
theorem si_seq (he : SE X W e f) : SI X W tg e (iSeq f) := PI.mono' (pi_any he) fun σ H R ⟨w, sl, eH, ok, hs, h⟩ => by
  subst eH
  refine ⟨w, sl, rfl, ok, hs, ?_⟩
  unfold iSeq at h
  unfold WpE
  cases e1 : f sl w.h with
  | none => simp only [e1] at h; exact h.elim
  | some r =>
    cases r with
    | ex x h1 => simp only [e1] at h; exact h
    | ok d h1 =>
      simp only [e1] at h
      intro w1 v l1 ok1 eh r1
      subst eh
      cases d with
      | v d =>
        cases d with
        | list ds =>
          obtain ⟨a, vs, rfl, ht, hr⟩ := r1
          exact .inl ⟨a, vs, rfl, ht.sql, fun hz => h w1 _ l1 ok1 rfl (its_list ok1 ht hr hz)⟩
        | tuple ds =>
          obtain ⟨a, vs, rfl, ht, hr⟩ := r1
          exact .inr (.inl ⟨a, vs, rfl, ht, fun hz => h w1 _ l1 ok1 rfl (its_tuple ok1 ht (RepDs.ofP hr) hz)⟩)
        | str z =>
          simp only [seqI] at h
          split at h
          · rename_i hz
            exact .inr (.inr ⟨z, r1, h w1 _ l1 ok1 rfl (its_str hz)⟩)
          · exact h.elim
        | _ => exact h.elim
      | ref n =>
        obtain ⟨a, ha, rfl⟩ := r1
        simp only [seqI] at h
        cases q : w1.h[n]? with
        | none => simp only [q] at h; exact h.elim
        | some c =>
          cases c with
          | lst xs =>
            simp only [q] at h
            obtain ⟨vs, hH, hr⟩ := ok1.cell n a _ ha q
            exact .inl ⟨a, vs, rfl, .inl (.inl hH), fun hz => h w1 _ l1 ok1 rfl (its_cell ok1 ha hr hz)⟩
      | mix xs =>
        obtain ⟨a, vs, rfl, ht, hr⟩ := r1
        exact .inr (.inl ⟨a, vs, rfl, ht, fun hz => h w1 _ l1 ok1 rfl (its_tuple ok1 ht hr hz)⟩)
end
/-- arguments, then what is walked -/
def iP (a : AM) (k : List D → Hs → Option (List D × Option (Nat × List D))) : IM := fun s h => match a s h with
  | some (.ok ds h1) => match k ds h1 with
    | some (items, gd) => some (.ok items gd h1)
    | none => none
  | some (.ex x h1) => some (.ex x h1)
  | none => none
theorem tIP_bind {K : KF} {mg : Str → Option Value} {W : WX} {σ : L2.St} {w : Wd} {sl : Sl} {a : AM} {k : List D → Hs → Option (List D × Option (Nat × List D))} {R : It → Hp → Prop} {Q : List V → Hp → Prop} (ok : w.Ok K) (hs : SRep K w sl σ) (h : WpI K mg W σ ((iP a k) sl w.h) w R)
    (q : ∀ ds vs w1 items gd, w.Le w1 → w1.Ok K → RepDs K w1 ds vs → k ds w1.h = some (items, gd) → (∀ J, Its K J items gd w1 → R J w1.H) → Q vs w1.H) : tIA K mg W a σ w.H Q := by
  refine ⟨w, sl, rfl, ok, hs, ?_⟩
  unfold iP at h
  unfold WpA
  cases e1 : a sl w.h with
  | none => simp only [e1] at h; exact h.elim
  | some r =>
    cases r with
    | ex x h1 => simp only [e1] at h; exact h
    | ok ds h1 =>
      simp only [e1] at h
      intro w1 vs l1 ok1 eh r1
      subst eh
      cases ek : k ds w1.h with
      | none => simp only [ek] at h; exact h.elim
      | some r =>
        obtain ⟨items, gd⟩ := r
        simp only [ek] at h
        exact q ds vs w1 items gd l1 ok1 r1 ek fun J T => h w1 J l1 ok1 rfl T
def rngItems (lo : Int) (n : Nat) : List D := (List.range n).map fun (k : Nat) => .v (.int (lo + k))
/-- a test that nothing unfolds -/
noncomputable def yes (p : Prop) : Bool := @decide p (Classical.propDecidable p)
theorem yes_iff {p : Prop} : (yes p = true) = p := propext ⟨fun h => @of_decide_eq_true p (Classical.propDecidable p) h, fun h => @decide_eq_true p (Classical.propDecidable p) h⟩
theorem yes_of {p : Prop} (h : p) : yes p = true := yes_iff ▸ h
noncomputable def inLine (i : Int) : Bool := yes (-(2 ^ 62) ≤ i ∧ i < 2 ^ 62)
theorem inLine_ok {i : Int} (h : inLine i = true) : -(2 ^ 62) ≤ i ∧ i < 2 ^ 62 := by
  unfold inLine at h
  rw [yes_iff] at h
  exact h
abbrev KI := List D → Hs → Option (List D × Option (Nat × List D))
noncomputable def kRng1 : KI := fun ds _ => match ds with
  | [.v (.int j)] => if (inLine j && yes (j ≤ 10000000)) = true then some (rngItems 0 j.toNat, none) else none
  | _ => none
noncomputable def kRng2 : KI := fun ds _ => match ds with
  | [.v (.int i), .v (.int j)] => if (inLine i && inLine j && yes (j - i ≤ 10000000)) = true then some (rngItems i (j - i).toNat, none) else none
  | _ => none
theorem its_rng {K : KF} {w : Wd} {lo : Int} {n : Nat} (hn : n ≤ sizeLine) : Its K (Itr lo n) (rngItems lo n) none w where
  len := by unfold rngItems; rw [List.length_map, List.length_range]; exact hn
  go := fun i w2 l2 ok2 _ hi => by
    unfold rngItems at hi ⊢
    rw [List.length_map, List.length_range] at hi
    refine ⟨hi, fun x H' y => ⟨w2, .v (.int (lo + i)), Wd.Le.refl w2, ok2, rfl, y.1.symm, ?_, y.2⟩⟩
    rw [List.getElem?_map, List.getElem?_range hi]
    rfl
  stop := fun i w2 l2 ok2 _ hi _ => by
    unfold rngItems at hi
    rw [List.length_map, List.length_range] at hi
    exact hi
theorem ten_line {n : Nat} (h : n ≤ 10000000) : n ≤ sizeLine := Nat.le_trans h (by rw [sizeLine_eq]; decide)
def enumI : Nat → List D → List D
  | _, [] => []
  | k, x :: r => mkTup [.v (.int k), x] :: enumI (k + 1) r
theorem enumI_len : ∀ (k : Nat) (xs : List D), (enumI k xs).length = xs.length
  | _, [] => rfl
  | k, x :: r => by rw [enumI, List.length_cons, List.length_cons, enumI_len (k + 1) r]
theorem enumI_get : ∀ (k i : Nat) (xs : List D) (x : D), xs[i]? = some x → (enumI k xs)[i]? = some (mkTup [.v (.int (k + i : Nat)), x])
  | _, _, [], _, h => by simp at h
  | k, 0, x :: r, y, h => by
    simp at h
    subst h
    rfl
  | k, i + 1, x :: r, y, h => by
    rw [enumI, List.getElem?_cons_succ, enumI_get (k + 1) i r y (by simpa using h)]
    rw [show k + 1 + i = k + (i + 1) by omega]
def zipI : List D → List D → List D
  | x :: xs, y :: ys => mkTup [x, y] :: zipI xs ys
  | _, _ => []
theorem zipI_len : ∀ (xs ys : List D), (zipI xs ys).length = min xs.length ys.length
  | [], ys => by simp [zipI]
  | x :: xs, [] => by simp [zipI]
  | x :: xs, y :: ys => by
    rw [zipI, List.length_cons, List.length_cons, List.length_cons, zipI_len xs ys]
    omega
theorem zipI_get : ∀ (i : Nat) (xs ys : List D) (x y : D), xs[i]? = some x → ys[i]? = some y → (zipI xs ys)[i]? = some (mkTup [x, y])
  | _, [], _, _, _, h, _ => by simp at h
  | _, _ :: _, [], _, _, _, h => by simp at h
  | 0, x :: xs, y :: ys, a, b, h, h' => by
    simp at h h'
    subst h h'
    rfl
  | i + 1, x :: xs, y :: ys, a, b, h, h' => by
    rw [zipI, List.getElem?_cons_succ]
    exact zipI_get i xs ys a b (by simpa using h) (by simpa using h')
/-- the items of a list that is walked -/
def lstItems (d : D) (h : Hs) : Option (List D × Option (Nat × List D)) := match d with
  | .v (.list ds) => some (ds.map .v, none)
  | .ref n => match h[n]? with
    | some (.lst xs) => some (xs, some (n, xs))
    | none => none
  | _ => none
def tupItems (d : D) : Option (List D) := match d with
  | .v (.tuple ds) => some (ds.map .v)
  | .mix xs => some xs
  | _ => none
/-- a list, as it stands at every later moment while its guard holds -/
theorem lst_at {K : KF} {w : Wd} {d : D} {x : V} {items : List D} {gd : Option (Nat × List D)} (ok : w.Ok K) (r : RepD K w d x) (e : lstItems d w.h = some (items, gd)) :
    ∃ a, x = .ref a ∧ ∀ w2, w.Le w2 → w2.Ok K → gok gd w2.h → ∃ vs, SqL K w2.H a vs ∧ RepDs K w2 items vs := by
  cases d with
  | v d =>
    cases d with
    | list ds =>
      cases e
      obtain ⟨a, vs, rfl, ht, hr⟩ := r
      exact ⟨a, rfl, fun w2 l2 ok2 _ => ⟨vs, (LRd.keepW ok l2 ht).sql, RepDs.ofP (RepPs.mono ok l2 ds hr)⟩⟩
    | _ => cases e
  | ref n =>
    obtain ⟨a, ha, rfl⟩ := r
    simp only [lstItems] at e
    cases q : w.h[n]? with
    | none => simp [q] at e
    | some c =>
      cases c with
      | lst ys =>
        simp [q] at e
        obtain ⟨rfl, rfl⟩ := e
        refine ⟨a, rfl, fun w2 l2 ok2 hg => ?_⟩
        obtain ⟨m, em, _⟩ := l2.more
        have ha2 : w2.ι[n]? = some a := by
          rw [em, List.getElem?_append_left (List.getElem?_eq_some_iff.mp ha).1]
          exact ha
        obtain ⟨vs2, hH, hr2⟩ := ok2.cell n a _ ha2 hg
        exact ⟨vs2, .inl (.inl hH), hr2⟩
  | mix xs => cases e
theorem lst_gok {h : Hs} {d : D} {items : List D} {gd : Option (Nat × List D)} (e : lstItems d h = some (items, gd)) : gok gd h := by
  cases d with
  | v d =>
    cases d with
    | list ds =>
      cases e
      trivial
    | _ => cases e
  | ref n =>
    simp only [lstItems] at e
    cases q : h[n]? with
    | none => simp [q] at e
    | some c =>
      cases c with
      | lst ys =>
        simp [q] at e
        obtain ⟨rfl, rfl⟩ := e
        exact q
  | mix xs => cases e
theorem tup_at {K : KF} {w : Wd} {d : D} {x : V} {items : List D} (ok : w.Ok K) (r : RepD K w d x) (e : tupItems d = some items) :
    ∃ a, x = .ref a ∧ ∀ w2, w.Le w2 → w2.Ok K → ∃ vs, SqT K w2.H a vs ∧ RepDs K w2 items vs := by
  cases d with
  | v d =>
    cases d with
    | tuple ds =>
      cases e
      obtain ⟨a, vs, rfl, ht, hr⟩ := r
      exact ⟨a, rfl, fun w2 l2 ok2 => ⟨vs, SqT.keepW ok l2 ht, RepDs.ofP (RepPs.mono ok l2 ds hr)⟩⟩
    | _ => cases e
  | ref n => cases e
  | mix xs =>
    cases e
    obtain ⟨a, vs, rfl, ht, hr⟩ := r
    exact ⟨a, rfl, fun w2 l2 ok2 => ⟨vs, SqT.keepW ok l2 ht, RepDs.mono ok l2 _ hr⟩⟩
/-- a pair that was just made -/
theorem pair_new {K : KF} {w : Wd} {T : Addr} {x y : V} {dx dy : D} (ok : w.Ok K) (hT : w.H T = none) (rx : RepD K w dx x) (ry : RepD K w dy y) :
    ∃ w3, w.Le w3 ∧ w3.Ok K ∧ w3.h = w.h ∧ w3.H = upd w.H T (.tup [x, y]) ∧ RepD K w3 (mkTup [dx, dy]) (.ref T) := by
  have hr : RepDs K w [dx, dy] [x, y] := ⟨x, [y], rfl, rx, y, [], rfl, ry, rfl⟩
  refine ⟨w.newT T (.tup [x, y]), Wd.newT_le hT, Wd.newT_ok ok hT, rfl, rfl, ?_⟩
  have a : After K w (mkTup [dx, dy]) fun v H => ∃ w3, w.Le w3 ∧ w3.H = H ∧ RepD K w3 (mkTup [dx, dy]) v := fun w' v l o e r => ⟨w', l, rfl, r⟩
  unfold mkTup
  cases e : unvs [dx, dy] with
  | some ps => exact ⟨T, _, rfl, .inl (.inl upd_same), RepPs.mono ok (Wd.newT_le hT) ps (unvs_rep e hr)⟩
  | none => exact ⟨T, _, rfl, .inl (.inl upd_same), RepDs.mono ok (Wd.newT_le hT) _ hr⟩
def kEnum : KI := fun ds h => match ds with
  | [d] => (lstItems d h).map fun q => (enumI 0 q.1, q.2)
  | _ => none
def kZipL : KI := fun ds h => match ds with
  | [d, .v (.list es)] => (lstItems d h).map fun q => (zipI q.1 (es.map .v), q.2)
  | _ => none
def kZipT : KI := fun ds _ => match ds with
  | [d, e] => match tupItems d, tupItems e with
    | some xs, some ys => some (zipI xs ys, none)
    | _, _ => none
  | _ => none
theorem its_enum {K : KF} {w : Wd} {a : Addr} {items : List D} {gd : Option (Nat × List D)} (hz : items.length ≤ sizeLine) (st : ∀ w2, w.Le w2 → w2.Ok K → gok gd w2.h → ∃ vs, SqL K w2.H a vs ∧ RepDs K w2 items vs) : Its K (Ite K a) (enumI 0 items) gd w where
  len := by rw [enumI_len]; exact hz
  go := fun i w2 l2 ok2 hg hi => by
    rw [enumI_len] at hi
    obtain ⟨vs, hS, hr⟩ := st w2 l2 ok2 hg
    obtain ⟨v, hv, rv⟩ := RepDs.get hr (List.getElem?_eq_getElem hi)
    refine ⟨⟨vs, v, hS, hv⟩, fun x H' y => ?_⟩
    obtain ⟨T, u, rfl, hT, rfl, hu⟩ := y
    have := hu vs hS
    rw [hv] at this
    cases this
    obtain ⟨w3, l3, ok3, eh, eH, r3⟩ := pair_new (dx := .v (.int (i : Nat))) ok2 hT (show RepD K w2 (.v (.int (i : Nat))) (.int (i : Nat)) from rfl) rv
    refine ⟨w3, _, l3, ok3, eh, eH, ?_, r3⟩
    have := enumI_get 0 i items _ (List.getElem?_eq_getElem hi)
    rw [Nat.zero_add] at this
    exact this
  stop := fun i w2 l2 ok2 hg hi _ => by
    rw [enumI_len] at hi
    obtain ⟨vs, hS, hr⟩ := st w2 l2 ok2 hg
    exact ⟨vs, hS, by rw [hr.len]; exact hi⟩
theorem its_zipL {K : KF} {w : Wd} {a b : Addr} {xs ys : List D} {gd : Option (Nat × List D)} (hz : xs.length ≤ sizeLine) (st : ∀ w2, w.Le w2 → w2.Ok K → gok gd w2.h → ∃ vs, SqL K w2.H a vs ∧ RepDs K w2 xs vs) (st' : ∀ w2, w.Le w2 → w2.Ok K → ∃ vs, SqL K w2.H b vs ∧ RepDs K w2 ys vs) : Its K (Itz K a b) (zipI xs ys) gd w where
  len := by rw [zipI_len]; omega
  go := fun i w2 l2 ok2 hg hi => by
    rw [zipI_len] at hi
    have h1 : i < xs.length := by omega
    have h2 : i < ys.length := by omega
    obtain ⟨vs, hS, hr⟩ := st w2 l2 ok2 hg
    obtain ⟨us, hS', hr'⟩ := st' w2 l2 ok2
    obtain ⟨v, hv, rv⟩ := RepDs.get hr (List.getElem?_eq_getElem h1)
    obtain ⟨u, hu, ru⟩ := RepDs.get hr' (List.getElem?_eq_getElem h2)
    refine ⟨⟨vs, us, v, u, hS, hS', hv, hu⟩, fun x H' y => ?_⟩
    obtain ⟨T, v', u', rfl, hT, rfl, hv', hu'⟩ := y
    have e1 := hv' vs hS
    have e2 := hu' us hS'
    rw [hv] at e1
    rw [hu] at e2
    cases e1
    cases e2
    obtain ⟨w3, l3, ok3, eh, eH, r3⟩ := pair_new ok2 hT rv ru
    exact ⟨w3, _, l3, ok3, eh, eH, zipI_get i xs ys _ _ (List.getElem?_eq_getElem h1) (List.getElem?_eq_getElem h2), r3⟩
  stop := fun i w2 l2 ok2 hg hi _ => by
    rw [zipI_len] at hi
    obtain ⟨vs, hS, hr⟩ := st w2 l2 ok2 hg
    obtain ⟨us, hS', hr'⟩ := st' w2 l2 ok2
    refine ⟨vs, us, hS, hS', ?_⟩
    rw [hr.len, hr'.len]
    omega
theorem its_zipT {K : KF} {w : Wd} {a b : Addr} {xs ys : List D} (hz : xs.length ≤ sizeLine) (st : ∀ w2, w.Le w2 → w2.Ok K → ∃ vs, SqT K w2.H a vs ∧ RepDs K w2 xs vs) (st' : ∀ w2, w.Le w2 → w2.Ok K → ∃ vs, SqT K w2.H b vs ∧ RepDs K w2 ys vs) : Its K (RZ.ItzT K a b) (zipI xs ys) none w where
  len := by rw [zipI_len]; omega
  go := fun i w2 l2 ok2 hg hi => by
    rw [zipI_len] at hi
    have h1 : i < xs.length := by omega
    have h2 : i < ys.length := by omega
    obtain ⟨vs, hS, hr⟩ := st w2 l2 ok2
    obtain ⟨us, hS', hr'⟩ := st' w2 l2 ok2
    obtain ⟨v, hv, rv⟩ := RepDs.get hr (List.getElem?_eq_getElem h1)
    obtain ⟨u, hu, ru⟩ := RepDs.get hr' (List.getElem?_eq_getElem h2)
    refine ⟨⟨vs, us, v, u, hS, hS', hv, hu⟩, fun x H' y => ?_⟩
    obtain ⟨T, v', u', rfl, hT, rfl, hv', hu'⟩ := y
    have e1 := hv' vs hS
    have e2 := hu' us hS'
    rw [hv] at e1
    rw [hu] at e2
    cases e1
    cases e2
    obtain ⟨w3, l3, ok3, eh, eH, r3⟩ := pair_new ok2 hT rv ru
    exact ⟨w3, _, l3, ok3, eh, eH, zipI_get i xs ys _ _ (List.getElem?_eq_getElem h1) (List.getElem?_eq_getElem h2), r3⟩
  stop := fun i w2 l2 ok2 hg hi _ => by
    rw [zipI_len] at hi
    obtain ⟨vs, hS, hr⟩ := st w2 l2 ok2
    obtain ⟨us, hS', hr'⟩ := st' w2 l2 ok2
    refine ⟨vs, us, hS, hS', ?_⟩
    rw [hr.len, hr'.len]
    omega
section
variable {X : Cx} {W : WX} {tg a b : Expr} {f g : EM} {pos p : Pos}
theorem si_rng1 (hg : Gl X "range") (hm : X.mg "range" = none) (ha : SE X W a f) (hs : starEach [a] X.env = [(false, eval a X.env)] := by rfl) : SI X W tg (.Call (.Name "range" p) [a] [] pos) (iP (eCons f eNil) kRng1) :=
  PI.mono' (pi_range1 hg hm (sa_cons ha sa_nil hs) hs) fun σ H R ⟨w, sl, eH, ok, hs, h⟩ => by
    subst eH
    refine tIP_bind ok hs h fun ds vs w1 items gd l1 ok1 r1 ek q => ?_
    unfold kRng1 at ek
    split at ek
    · split at ek
      · rename_i j hb
        cases ek
        rw [Bool.and_eq_true, yes_iff] at hb
        obtain ⟨v, vr, rfl, h1, h2⟩ := r1
        cases (show vr = [] from h2)
        cases (show v = V.int j from h1)
        exact ⟨j, rfl, (inLine_ok hb.1).1, (inLine_ok hb.1).2, q _ (its_rng (ten_line (by omega)))⟩
      · cases ek
    · cases ek
theorem si_rng2 (hg : Gl X "range") (hm : X.mg "range" = none) (ha : SE X W a f) (hb : SE X W b g) (hs : starEach [a, b] X.env = [(false, eval a X.env), (false, eval b X.env)] := by rfl) (hs2 : starEach [b] X.env = [(false, eval b X.env)] := by rfl) :
    SI X W tg (.Call (.Name "range" p) [a, b] [] pos) (iP (eCons f (eCons g eNil)) kRng2) :=
  PI.mono' (pi_range2 hg hm (sa_cons ha (sa_cons hb sa_nil hs2) (by rw [hs, hs2])) hs hs2) fun σ H R ⟨w, sl, eH, ok, hs, h⟩ => by
    subst eH
    refine tIP_bind ok hs h fun ds vs w1 items gd l1 ok1 r1 ek q => ?_
    unfold kRng2 at ek
    split at ek
    · split at ek
      · rename_i i j hb
        cases ek
        rw [Bool.and_eq_true, Bool.and_eq_true, yes_iff] at hb
        obtain ⟨v, vr, rfl, h1, v2, vr2, rfl, h3, h2⟩ := r1
        cases (show vr2 = [] from h2)
        cases (show v = V.int i from h1)
        cases (show v2 = V.int j from h3)
        exact ⟨i, j, rfl, ⟨(inLine_ok hb.1.1).1, (inLine_ok hb.1.1).2, (inLine_ok hb.1.2).1, (inLine_ok hb.1.2).2⟩, q _ (its_rng (ten_line (by omega)))⟩
      · cases ek
    · cases ek
def iEnumZ (K : KF) (ta : TA) : TI := fun σ H R => ta σ H fun vs H1 => ∃ a xs, vs = [.ref a] ∧ SqL K H1 a xs ∧ (xs.length ≤ sizeLine → R (Ite K a) H1)
theorem pi_enumZ {e : Expr} {ta : TA} {tpos : Pos} {elts : List Expr} {kk : Nat} (hg : Gl X "enumerate") (hm : X.mg "enumerate" = none) (ha : PA X [e] ta) (hs : starEach [e] X.env = [(false, eval e X.env)] := by rfl) :
    PI X (.Tuple elts kk tpos) (.Call (.Name "enumerate" p) [e] [] pos) (iEnumZ X.K ta) := by
  refine ⟨fun pins s σ H R I h => ?_⟩
  refine Call_ (ld_blt I hg hm boot_enumerate (PyProof.Rows.callWith_type1 (thn (ha.run pos pins s σ H _ I h) fun us s1 ⟨vs, H1, I1, r1, q1⟩ => ?_) hs rfl))
  obtain ⟨a, xs, ex, hq, q⟩ := q1
  subst ex
  cases r1 with
  | cons r rr =>
    cases rr
    cases r
    obtain ⟨its, rv, p', hz⟩ := I1.list hq
    refine call_enumerate_list p'.isList fun h' he hit hsz hk => wpAny_pyIter_enum he ?_
    have I2 : Inv X pins σ H1 { s1 with heap := h' } := I1.kept (t' := s1.toks) hk
    refine ⟨s1.heap.objs.size + 1, [s1.heap.objs.size + 1, s1.heap.objs.size], _, _, H1, rfl, I2, turn_enum a (s1.heap.objs.size + 1) s1.heap.objs.size, ⟨⟨.none, he⟩, hit, Nat.succ_ne_self _⟩, fun b hb => ?_, q hz⟩
    have e' : b = s1.heap.objs.size + 1 ∨ b = s1.heap.objs.size := by simpa using hb
    have hle : s1.heap.objs.size ≤ b := by
      rcases e' with z | z
      · rw [z]; exact Nat.le_add_right _ _
      · rw [z]; exact Nat.le_refl _
    exact I1.fpOk hle (I1.hok.fresh hle)
theorem si_enum {tpos : Pos} {elts : List Expr} {kk : Nat} (hg : Gl X "enumerate") (hm : X.mg "enumerate" = none) (ha : SE X W a f) (hs : starEach [a] X.env = [(false, eval a X.env)] := by rfl) : SI X W (.Tuple elts kk tpos) (.Call (.Name "enumerate" p) [a] [] pos) (iP (eCons f eNil) kEnum) :=
  PI.mono' (pi_enumZ hg hm (sa_cons ha sa_nil hs) hs) fun σ H R ⟨w, sl, eH, ok, hs, h⟩ => by
    subst eH
    refine tIP_bind ok hs h fun ds vs w1 items gd l1 ok1 r1 ek q => ?_
    unfold kEnum at ek
    split at ek
    · rename_i d
      rw [Option.map_eq_some_iff] at ek
      obtain ⟨⟨xs, gd'⟩, ex, ep⟩ := ek
      cases ep
      obtain ⟨v, vr, rfl, h1, h2⟩ := r1
      cases (show vr = [] from h2)
      obtain ⟨a', rfl, st⟩ := lst_at ok1 h1 ex
      obtain ⟨us, hS, hr⟩ := st w1 (Wd.Le.refl w1) ok1 (lst_gok ex)
      exact ⟨a', us, rfl, hS, fun hz => q _ (its_enum (by rw [← hr.len]; exact hz) st)⟩
    · cases ek
def iZipZ (K : KF) (ta : TA) : TI := fun σ H R => ta σ H fun vs H1 => ∃ a b xs ys, vs = [.ref a, .ref b] ∧ ((SqL K H1 a xs ∧ SqL K H1 b ys ∧ (xs.length ≤ sizeLine → R (Itz K a b) H1)) ∨ (SqT K H1 a xs ∧ SqT K H1 b ys ∧ (xs.length ≤ sizeLine → R (RZ.ItzT K a b) H1)))
theorem pi_zipZ {e e2 : Expr} {ta : TA} {tpos : Pos} {elts : List Expr} {kk : Nat} (hg : Gl X "zip") (hm : X.mg "zip" = none) (ha : PA X [e, e2] ta)
    (hs : starEach [e, e2] X.env = (false, eval e X.env) :: starEach [e2] X.env := by rfl) (hpl : (backTo pos (starEach [e2] X.env)).any (·.1) = false := by rfl) :
    PI X (.Tuple elts kk tpos) (.Call (.Name "zip" p) [e, e2] [] pos) (iZipZ X.K ta) := by
  refine ⟨fun pins s σ H R I h => ?_⟩
  refine Call_ (ld_blt I hg hm PyProof.Rows.boot_zip (PyProof.Rows.callWith_type1 (thn (ha.run pos pins s σ H _ I h) fun us s1 ⟨vs, H1, I1, r1, q1⟩ => ?_) hs hpl))
  obtain ⟨a, b, xs, ys, ex, q1⟩ := q1
  subst ex
  cases r1 with
  | cons r rr =>
    cases rr with
    | cons r' rr =>
      cases rr
      cases r
      cases r'
      have fresh5 : ∀ c, c ∈ [s1.heap.objs.size + 4, s1.heap.objs.size + 2, s1.heap.objs.size + 3, s1.heap.objs.size, s1.heap.objs.size + 1] → FpOk X pins H1 c := fun c hcm => by
        have e' : c = s1.heap.objs.size + 4 ∨ c = s1.heap.objs.size + 2 ∨ c = s1.heap.objs.size + 3 ∨ c = s1.heap.objs.size ∨ c = s1.heap.objs.size + 1 := by simpa using hcm
        have hle : s1.heap.objs.size ≤ c := by
          rcases e' with z | z | z | z | z
          · rw [z]; exact Nat.le_add_right _ _
          · rw [z]; exact Nat.le_add_right _ _
          · rw [z]; exact Nat.le_add_right _ _
          · rw [z]; exact Nat.le_refl _
          · rw [z]; exact Nat.le_add_right _ _
        exact I1.fpOk hle (I1.hok.fresh hle)
      rcases q1 with ⟨hqx, hqy, q⟩ | ⟨hqx, hqy, q⟩
      · obtain ⟨its, rv, p1, hz0⟩ := I1.list hqx
        obtain ⟨its2, rv2, p2, _⟩ := I1.list hqy
        refine call_zip_2 p1.isList p2.isList fun h' hz hTI hTO h1 h2 hsz hk => wpAny_pyIter_zip hz ?_
        have I2 : Inv X pins σ H1 { s1 with heap := h' } := I1.kept (t' := s1.toks) hk
        exact ⟨s1.heap.objs.size + 4, [s1.heap.objs.size + 4, s1.heap.objs.size + 2, s1.heap.objs.size + 3, s1.heap.objs.size, s1.heap.objs.size + 1], _, _, H1, rfl, I2, turn_zip (PySem.W.ktu_apart s1.heap.objs.size a b p1.lt p2.lt), ⟨hz, hTI, ⟨_, _, hTO⟩, h1, h2⟩, fresh5, q hz0⟩
      · obtain ⟨its, rv, p1, hz0⟩ := I1.tuple hqx
        obtain ⟨its2, rv2, p2, _⟩ := I1.tuple hqy
        obtain ⟨o1, ho1, _⟩ := id p1
        obtain ⟨o2, ho2, _⟩ := id p2
        refine RZ.call_zipT (show s1.heap.IsTuple a its.toArray from p1) (show s1.heap.IsTuple b its2.toArray from p2) fun h' hz hTI hTO h1 h2 hsz hk => wpAny_pyIter_zip hz ?_
        have I2 : Inv X pins σ H1 { s1 with heap := h' } := I1.kept (t' := s1.toks) hk
        exact ⟨s1.heap.objs.size + 4, [s1.heap.objs.size + 4, s1.heap.objs.size + 2, s1.heap.objs.size + 3, s1.heap.objs.size, s1.heap.objs.size + 1], _, _, H1, rfl, I2, RZ.turn_zipT (PySem.W.ktu_apart s1.heap.objs.size a b (Heap.lt_size ho1) (Heap.lt_size ho2)), ⟨hz, hTI, ⟨_, _, hTO⟩, h1, h2⟩, fresh5, q hz0⟩
theorem kZipL_of {K : KF} {w : Wd} {ds : List D} {vs : List V} {items : List D} {gd : Option (Nat × List D)} (ok : w.Ok K) (r : RepDs K w ds vs) (ek : kZipL ds w.h = some (items, gd)) {R : It → Hp → Prop} (q : ∀ J, Its K J items gd w → R J w.H) :
    ∃ a b xs ys, vs = [.ref a, .ref b] ∧ SqL K w.H a xs ∧ SqL K w.H b ys ∧ (xs.length ≤ sizeLine → R (Itz K a b) w.H) := by
  unfold kZipL at ek
  split at ek
  · rename_i d es
    rw [Option.map_eq_some_iff] at ek
    obtain ⟨⟨xs, gd'⟩, ex, ep⟩ := ek
    cases ep
    obtain ⟨v, vr, rfl, h1, v2, vr2, rfl, h3, h2⟩ := r
    cases (show vr2 = [] from h2)
    obtain ⟨a', rfl, st⟩ := lst_at ok h1 ex
    obtain ⟨b', us2, rfl, ht, hr2⟩ := h3
    obtain ⟨us, hS, hr⟩ := st w (Wd.Le.refl w) ok (lst_gok ex)
    exact ⟨a', b', us, us2, rfl, hS, ht.sql, fun hz => q _ (its_zipL (by rw [← hr.len]; exact hz) st fun w2 l2 ok2 => ⟨us2, (LRd.keepW ok l2 ht).sql, RepDs.ofP (RepPs.mono ok l2 es hr2)⟩)⟩
  · cases ek
theorem kZipT_of {K : KF} {w : Wd} {ds : List D} {vs : List V} {items : List D} {gd : Option (Nat × List D)} (ok : w.Ok K) (r : RepDs K w ds vs) (ek : kZipT ds w.h = some (items, gd)) {R : It → Hp → Prop} (q : ∀ J, Its K J items gd w → R J w.H) :
    ∃ a b xs ys, vs = [.ref a, .ref b] ∧ SqT K w.H a xs ∧ SqT K w.H b ys ∧ (xs.length ≤ sizeLine → R (RZ.ItzT K a b) w.H) := by
  unfold kZipT at ek
  split at ek
  · rename_i d e
    split at ek
    · rename_i xs ys ex ey
      cases ek
      obtain ⟨v, vr, rfl, h1, v2, vr2, rfl, h3, h2⟩ := r
      cases (show vr2 = [] from h2)
      obtain ⟨a', rfl, st⟩ := tup_at ok h1 ex
      obtain ⟨b', rfl, st'⟩ := tup_at ok h3 ey
      obtain ⟨us, hS, hr⟩ := st w (Wd.Le.refl w) ok
      obtain ⟨us2, hS2, hr2⟩ := st' w (Wd.Le.refl w) ok
      exact ⟨a', b', us, us2, rfl, hS, hS2, fun hz => q _ (its_zipT (by rw [← hr.len]; exact hz) st st')⟩
    · cases ek
  · cases ek
def kZip : KI := fun ds h => match kZipL ds h with
  | some q => some q
  | none => kZipT ds h
theorem si_zip {tpos : Pos} {elts : List Expr} {kk : Nat} (hg : Gl X "zip") (hm : X.mg "zip" = none) (ha : SE X W a f) (hb : SE X W b g) (hs : starEach [a, b] X.env = (false, eval a X.env) :: starEach [b] X.env := by rfl) (hs2 : starEach [b] X.env = (false, eval b X.env) :: starEach [] X.env := by rfl)
    (hpl : (backTo pos (starEach [b] X.env)).any (·.1) = false := by rfl) : SI X W (.Tuple elts kk tpos) (.Call (.Name "zip" p) [a, b] [] pos) (iP (eCons f (eCons g eNil)) kZip) :=
  PI.mono' (pi_zipZ hg hm (sa_cons ha (sa_cons hb sa_nil hs2) hs) hs hpl) fun σ H R ⟨w, sl, eH, ok, hs, h⟩ => by
    subst eH
    refine tIP_bind ok hs h fun ds vs w1 items gd l1 ok1 r1 ek q => ?_
    unfold kZip at ek
    cases e1 : kZipL ds w1.h with
    | some q1 =>
      rw [e1] at ek
      cases ek
      obtain ⟨a', b', xs, ys, ev, h1, h2, h3⟩ := kZipL_of ok1 r1 e1 q
      exact ⟨a', b', xs, ys, ev, .inl ⟨h1, h2, h3⟩⟩
    | none =>
      rw [e1] at ek
      obtain ⟨a', b', xs, ys, ev, h1, h2, h3⟩ := kZipT_of ok1 r1 ek q
      exact ⟨a', b', xs, ys, ev, .inr ⟨h1, h2, h3⟩⟩
end
end Vl
set_option maxHeartbeats 4000000
namespace Vl
open PySem PySem.Spec PyProof.Rows L2

/-! ## list comprehensions -/
abbrev W0 : WX := fun _ _ _ _ => False
def wipeS (s : Sl) : List Nat → Sl
  | [] => s
  | v :: vs => (wipeS s vs).set v none
theorem wipeS_len (s : Sl) : ∀ vs : List Nat, (wipeS s vs).length = s.length
  | [] => rfl
  | v :: vs => by rw [wipeS, List.length_set, wipeS_len s vs]
theorem wipe_get (σ : L2.St) (j : Nat) : ∀ vs : List Nat, (wipe σ vs)[j]? = if j ∈ vs then (if j < σ.length then some none else none) else σ[j]?
  | [] => by rw [wipe, if_neg (by simp)]
  | v :: vs => by
    rw [wipe]
    by_cases h : v = j
    · subst h
      rw [if_pos (by simp)]
      by_cases hl : v < σ.length
      · rw [List.getElem?_set_self (by rw [wipe_length]; exact hl), if_pos hl]
      · rw [if_neg hl, List.getElem?_eq_none (by rw [List.length_set, wipe_length]; omega)]
    · rw [List.getElem?_set_ne h, wipe_get σ j vs]
      by_cases hj : j ∈ vs
      · rw [if_pos hj, if_pos (List.mem_cons_of_mem _ hj)]
      · rw [if_neg hj, if_neg (by simp only [List.mem_cons, not_or]; exact ⟨fun e => h e.symm, hj⟩)]
theorem wipeS_get (s : Sl) (j : Nat) : ∀ vs : List Nat, (wipeS s vs)[j]? = if j ∈ vs then (if j < s.length then some none else none) else s[j]?
  | [] => by rw [wipeS, if_neg (by simp)]
  | v :: vs => by
    rw [wipeS]
    by_cases h : v = j
    · subst h
      rw [if_pos (by simp)]
      by_cases hl : v < s.length
      · rw [List.getElem?_set_self (by rw [wipeS_len]; exact hl), if_pos hl]
      · rw [if_neg hl, List.getElem?_eq_none (by rw [List.length_set, wipeS_len]; omega)]
    · rw [List.getElem?_set_ne h, wipeS_get s j vs]
      by_cases hj : j ∈ vs
      · rw [if_pos hj, if_pos (List.mem_cons_of_mem _ hj)]
      · rw [if_neg hj, if_neg (by simp only [List.mem_cons, not_or]; exact ⟨fun e => h e.symm, hj⟩)]
theorem SRep.wipe {K : KF} {w : Wd} {sl : Sl} {σ : L2.St} (hs : SRep K w sl σ) (vs : List Nat) : SRep K w (wipeS sl vs) (L2.wipe σ vs) where
  len := by rw [wipeS_len, wipe_length]; exact hs.len
  at' := fun i d h => by
    rw [wipeS_get] at h
    rw [wipe_get]
    by_cases hi : i ∈ vs
    · rw [if_pos hi] at h
      split at h <;> cases h
    · rw [if_neg hi] at h ⊢
      exact hs.at' i d h
theorem wipe_else {σ σ2 : L2.St} {vs js : List Nat} (h : Else js (wipe σ vs) σ2) (hj : ∀ j ∈ js, j ∈ vs) : wipe σ2 vs = wipe σ vs := by
  have hl : σ2.length = σ.length := h.1.trans (wipe_length σ vs)
  apply List.ext_getElem?
  intro j
  rw [wipe_get, wipe_get, hl]
  by_cases hv : j ∈ vs
  · rw [if_pos hv, if_pos hv]
  · rw [if_neg hv, if_neg hv, h.2 j fun z => hv (hj j z), wipe_get, if_neg hv]
/-! ### a list of ours, a dict of ours is written -/
class NoT (o : HO) : Prop where
  a : ∀ xs, o ≠ .tup xs
  b : ∀ q xs, o ≠ .frz q (.tup xs)
instance {xs : List V} : NoT (.lst xs) := ⟨fun _ z => (by cases z), fun _ _ z => (by cases z)⟩
instance {xs : List (Key × V)} : NoT (.dK xs) := ⟨fun _ z => (by cases z), fun _ _ z => (by cases z)⟩
section
variable {K : KF} {w : Wd} {p : Addr} {old o : HO} [nt : NoT old]
theorem SqT.poke {a : Addr} {vs : List V} (hl : w.H p = some old) (h : SqT K w.H a vs) : SqT K (upd w.H p o) a vs := by
  rcases h with (h | ⟨ob, h⟩) | h
  · refine .inl (.inl ?_)
    rw [upd_ne fun z : a = p => by
      subst z
      rw [hl] at h
      cases h
      exact nt.a _ rfl]
    exact h
  · refine .inl (.inr ⟨ob, ?_⟩)
    rw [upd_ne fun z : a = p => by
      subst z
      rw [hl] at h
      cases h
      exact nt.b _ _ rfl]
    exact h
  · exact .inr h
mutual
theorem RepP.poke (hp : ¬ w.Fz p) (hl : w.H p = some old) : ∀ (d : PyData) {v : V}, RepP K w.Fz w.H d v → RepP K w.Fz (upd w.H p o) d v
  | .none, _, h => h
  | .bool _, _, h => h
  | .int _, _, h => h
  | .str _, _, h => h
  | .list ds, _, ⟨a, vs, e, hr, hs⟩ => ⟨a, vs, e, by
      rcases hr with ⟨hf, hr⟩ | h
      · have ne : a ≠ p := fun z => hp (z ▸ hf)
        rcases hr with h | ⟨ob, h⟩
        · refine .inl ⟨hf, .inl ?_⟩
          rw [upd_ne ne]
          exact h
        · refine .inl ⟨hf, .inr ⟨ob, ?_⟩⟩
          rw [upd_ne ne]
          exact h
      · exact .inr h, RepPs.poke hp hl ds hs⟩
  | .tuple ds, _, ⟨a, vs, e, hr, hs⟩ => ⟨a, vs, e, SqT.poke hl hr, RepPs.poke hp hl ds hs⟩
  | .dict ds, _, ⟨a, vs, e, hf, hr, hs⟩ => ⟨a, vs, e, hf, by
      have ne : a ≠ p := fun z => hp (z ▸ hf)
      rcases hr with h | ⟨ob, h⟩
      · refine .inl ?_
        rw [upd_ne ne]
        exact h
      · refine .inr ⟨ob, ?_⟩
        rw [upd_ne ne]
        exact h, RepKs.poke hp hl ds hs⟩
theorem RepPs.poke (hp : ¬ w.Fz p) (hl : w.H p = some old) : ∀ (ds : List PyData) {vs : List V}, RepPs K w.Fz w.H ds vs → RepPs K w.Fz (upd w.H p o) ds vs
  | [], _, h => h
  | d :: ds, _, ⟨v, r, e, h1, h2⟩ => ⟨v, r, e, RepP.poke hp hl d h1, RepPs.poke hp hl ds h2⟩
theorem RepKs.poke (hp : ¬ w.Fz p) (hl : w.H p = some old) : ∀ (ds : List (PyData × PyData)) {vs : List (Key × V)}, RepKs K w.Fz w.H ds vs → RepKs K w.Fz (upd w.H p o) ds vs
  | [], _, h => h
  | (_, d) :: ds, _, ⟨q, v, r, e, hk, h1, h2⟩ => ⟨q, v, r, e, hk, RepP.poke hp hl d h1, RepKs.poke hp hl ds h2⟩
end
mutual
theorem RepD.poke {w' : Wd} (hp : ¬ w.Fz p) (hl : w.H p = some old) (eF : w'.Fz = w.Fz) (eH : w'.H = upd w.H p o) (eI : w'.ι = w.ι) : ∀ (d : D) {v : V}, RepD K w d v → RepD K w' d v
  | .v d, _, h => by
    show RepP K w'.Fz w'.H d _
    rw [eF, eH]
    exact RepP.poke hp hl d h
  | .ref n, _, ⟨a, e, r⟩ => ⟨a, by rw [eI]; exact e, r⟩
  | .mix ds, _, ⟨a, vs, e, hr, hs⟩ => ⟨a, vs, e, by rw [eH]; exact SqT.poke hl hr, RepDs.poke hp hl eF eH eI ds hs⟩
theorem RepDs.poke {w' : Wd} (hp : ¬ w.Fz p) (hl : w.H p = some old) (eF : w'.Fz = w.Fz) (eH : w'.H = upd w.H p o) (eI : w'.ι = w.ι) : ∀ (ds : List D) {vs : List V}, RepDs K w ds vs → RepDs K w' ds vs
  | [], _, h => h
  | d :: ds, _, ⟨v, r, e, h1, h2⟩ => ⟨v, r, e, RepD.poke hp hl eF eH eI d h1, RepDs.poke hp hl eF eH eI ds h2⟩
end
theorem Wd.poke_ok (ok : w.Ok K) (hp : ¬ w.Fz p) (hi : p ∉ w.ι) (hl : w.H p = some old) : (w.newT p o).Ok K where
  nd := ok.nd
  len := ok.len
  cell := fun n a c ha hc => by
    have := ok.cell n a c ha hc
    cases c with
    | lst ds =>
      obtain ⟨vs, e, r⟩ := this
      refine ⟨vs, ?_, RepDs.poke (w' := w.newT p o) hp hl rfl rfl rfl ds r⟩
      show upd w.H p o a = _
      rw [upd_ne fun z : a = p => hi (z ▸ List.mem_of_getElem? ha)]
      exact e
  apart := ok.apart
  there := fun a h => by
    show upd w.H p o a ≠ none
    rw [upd_ne fun z : a = p => hp (z ▸ h)]
    exact ok.there a h
end
theorem RepDs.app {K : KF} {w : Wd} : ∀ {ds es : List D} {vs us : List V}, RepDs K w ds vs → RepDs K w es us → RepDs K w (ds ++ es) (vs ++ us)
  | [], _, _, _, h, h' => by
    rw [show _ = [] from h]
    exact h'
  | d :: ds, _, _, _, ⟨v, r, e, h1, h2⟩, h' => ⟨v, r ++ _, by rw [e]; rfl, h1, RepDs.app h2 h'⟩
mutual
theorem RepD.fz {K : KF} {w w' : Wd} (f : ∀ a, w.Fz a → w'.Fz a) (eH : w'.H = w.H) (eI : w'.ι = w.ι) : ∀ (d : D) {v : V}, RepD K w d v → RepD K w' d v
  | .v d, _, h => by
    show RepP K w'.Fz w'.H d _
    rw [eH]
    exact RepP.same (fun _ _ z => z) f d h
  | .ref n, _, ⟨a, e, r⟩ => ⟨a, by rw [eI]; exact e, r⟩
  | .mix ds, _, ⟨a, vs, e, hr, hs⟩ => ⟨a, vs, e, by rw [eH]; exact hr, RepDs.fz f eH eI ds hs⟩
theorem RepDs.fz {K : KF} {w w' : Wd} (f : ∀ a, w.Fz a → w'.Fz a) (eH : w'.H = w.H) (eI : w'.ι = w.ι) : ∀ (ds : List D) {vs : List V}, RepDs K w ds vs → RepDs K w' ds vs
  | [], _, h => h
  | d :: ds, _, ⟨v, r, e, h1, h2⟩ => ⟨v, r, e, RepD.fz f eH eI d h1, RepDs.fz f eH eI ds h2⟩
end
def tYes' : TM := fun _ h => some (.ok true h)
open Classical in
noncomputable def compL (gd : Option (Nat × List D)) (g : GM) (t : TM) (f : EM) : List D → Sl → Hs → Option (List D × Hs)
  | [], s, h => if gok gd h then some ([], h) else none
  | d :: r, s, h => if gok gd h then match g d s h with
      | some s1 => match t s1 h with
        | some (.ok b h1) => if b = true then match f s1 h1 with
            | some (.ok y h2) => match compL gd g t f r s h2 with
              | some (ys, h3) => some (y :: ys, h3)
              | none => none
            | _ => none
          else compL gd g t f r s h1
        | _ => none
      | none => none
    else none
noncomputable def eComp (it : IM) (g : GM) (t : TM) (f : EM) (vs : List Nat) : EM := fun s h => match it s h with
  | some (.ok items gd h1) => match compL gd g t f items (wipeS s vs) h1 with
    | some (ds, h2) => match unvs ds with
      | some ps => some (.ok (.v (.list ps)) h2)
      | none => none
    | none => none
  | some (.ex x h1) => some (.ex x h1)
  | none => none
def STs (X : Cx) (W : WX) (ifs : List Expr) (t : TM) : Prop := PTs X ifs (tIT X.K X.mg W t)
theorem PTs.mono' {X : Cx} {e : List Expr} {t t' : TT} (h : PTs X e t) (i : ∀ σ H Q, t' σ H Q → t σ H Q) : PTs X e t' := ⟨fun pins s σ H Q I q => h.run pins s σ H Q I (i σ H Q q)⟩
theorem sts_nil {X : Cx} {W : WX} : STs X W [] tYes' := PTs.mono' pts_nil fun σ H Q ⟨w, sl, eH, ok, hs, h⟩ => by
  subst eH
  exact h w (Wd.Le.refl w) ok rfl
theorem sts_one {X : Cx} {W : WX} {c : Expr} {t : TM} (h : ST X W c t) : STs X W [c] t := pts_one h
section
variable {X : Cx} {W : WX} {elt tg iter : Expr} {ifs : List Expr} {scope : Scope} {own : List (Str × Nat)} {js : List Nat} {it : IM} {g : GM} {t : TM} {f : EM} {pos : Pos}
theorem comp_of (hj : ∀ j ∈ js, j ∈ own.map (·.2)) (σ : L2.St) (H : Hp) (Q : VK) (h : tI X.K X.mg W (eComp it g t f (own.map (·.2))) σ H Q) :
    tLc (tII X.K X.mg W it) (tG X.K js g) (tIT X.K X.mg W0 t) (tI X.K X.mg W0 f) (own.map (·.2)) σ H Q := by
  obtain ⟨w, sl, rfl, ok, hs, h⟩ := h
  refine ⟨w, sl, rfl, ok, hs, ?_⟩
  unfold eComp at h
  unfold WpI
  cases ei : it sl w.h with
  | none => simp only [ei] at h; exact h.elim
  | some r =>
    cases r with
    | ex x h' => simp only [ei] at h; exact h
    | ok items gd h' =>
      simp only [ei] at h
      intro w1 J l1 ok1 eh1 T
      subst eh1
      cases ec : compL gd g t f items (wipeS sl (own.map (·.2))) w1.h with
      | none => simp only [ec] at h; exact h.elim
      | some r =>
        obtain ⟨ds, h2⟩ := r
        simp only [ec] at h
        cases eu : unvs ds with
        | none => simp only [eu] at h; exact h.elim
        | some ps =>
          simp only [eu] at h
          intro p hp
          have hsw := (hs.mono ok l1).wipe (own.map (·.2))
          have hpf : ¬ w1.Fz p := fun z => ok1.there p z hp
          have hpi : p ∉ w1.ι := fun z => by
            obtain ⟨us, e⟩ := ok1.tracked z
            rw [hp] at e
            cases e
          refine ⟨fun i m H => m = items.length - i ∧ i ≤ items.length ∧ ∃ (w2 : Wd) (acc : List V) (dacc ys : List D), w1.Le w2 ∧ w2.H = H ∧ w2.Ok X.K ∧ ¬ w2.Fz p ∧ p ∉ w2.ι ∧ w2.H p = some (.lst acc) ∧ RepDs X.K w2 dacc acc ∧ acc.length ≤ i ∧ dacc ++ ys = ds ∧
              compL gd g t f (items.drop i) (wipeS sl (own.map (·.2))) w2.h = some (ys, h2) ∧ SRep X.K w2 (wipeS sl (own.map (·.2))) (wipe σ (own.map (·.2))),
            ⟨items.length, by simp, Nat.zero_le _, w1.newT p (.lst []), [], [], ds, Wd.newT_le hp, rfl, Wd.newT_ok ok1 hp, hpf, hpi, upd_same, rfl, Nat.le_refl _, rfl, by rw [List.drop_zero]; exact ec, hsw.mono ok1 (Wd.newT_le hp)⟩, ?_⟩
          rintro i m H2 ⟨rfl, hi, w2, acc, dacc, ys, l2, rfl, ok2, hpf2, hpi2, hp2, hr2, hal, hd, hc2, hs2⟩
          by_cases hlt : i < items.length
          · rw [List.drop_eq_getElem_cons hlt, compL] at hc2
            split at hc2
            · rename_i hg2
              obtain ⟨hgo, hy⟩ := T.go i w2 l2 ok2 hg2 hlt
              refine .inr ⟨hgo, fun H' => ∃ (w2 : Wd) (acc : List V) (dacc ys : List D), w1.Le w2 ∧ w2.H = H' ∧ w2.Ok X.K ∧ ¬ w2.Fz p ∧ p ∉ w2.ι ∧ w2.H p = some (.lst acc) ∧ RepDs X.K w2 dacc acc ∧ acc.length ≤ i + 1 ∧ dacc ++ ys = ds ∧
                  compL gd g t f (items.drop (i + 1)) (wipeS sl (own.map (·.2))) w2.h = some (ys, h2) ∧ SRep X.K w2 (wipeS sl (own.map (·.2))) (wipe σ (own.map (·.2))), fun H' q => ⟨items.length - (i + 1), by omega, rfl, hlt, q⟩, fun x H' y => ?_⟩
              obtain ⟨w3, d, l3, ok3, eh3, rfl, ed, rd⟩ := hy x H' y
              rw [List.getElem?_eq_getElem hlt] at ed
              cases ed
              -- what a step keeps of p
              have stepP : ∀ {wa wb : Wd}, wa.Le wb → ¬ wa.Fz p → p ∉ wa.ι → wa.H p = some (.lst acc) → ¬ wb.Fz p ∧ p ∉ wb.ι ∧ wb.H p = some (.lst acc) := fun {wa wb} l a b c => by
                refine ⟨fun z => ?_, fun z => ?_, l.keep p _ c b⟩
                · rcases l.new p z with z | z
                  · exact a z
                  · rw [c] at z; cases z
                · obtain ⟨mm, em, hm⟩ := l.more
                  rw [em] at z
                  rcases List.mem_append.mp z with z | z
                  · exact b z
                  · rw [hm p z] at c; cases c
              obtain ⟨f3, i3, p3⟩ := stepP l3 hpf2 hpi2 hp2
              cases eg : g items[i] (wipeS sl (own.map (·.2))) w2.h with
              | none => simp only [eg] at hc2; cases hc2
              | some s1 =>
                simp only [eg] at hc2
                refine ⟨w3, wipeS sl (own.map (·.2)), s1, items[i], rfl, ok3, hs2.mono ok2 l3, rd, by rw [eh3]; exact eg, fun σ4 hs4 el4 => ⟨wipe_else el4 hj, ?_⟩⟩
                refine ⟨w3, s1, rfl, ok3, hs4, ?_⟩
                unfold WpT
                rw [eh3]
                cases et : t s1 w2.h with
                | none => simp only [et] at hc2; cases hc2
                | some r =>
                  cases r with
                  | ex x h5 => simp only [et] at hc2; cases hc2
                  | ok b h5 =>
                    simp only [et] at hc2
                    intro w5 l5 ok5 eh5
                    obtain ⟨f5, i5, p5⟩ := stepP l5 f3 i3 p3
                    cases b with
                    | false =>
                      rw [if_neg Bool.false_ne_true] at hc2 ⊢
                      exact ⟨w5, acc, dacc, ys, (l2.trans l3 ok2).trans l5 ok3, rfl, ok5, f5, i5, p5, RepDs.mono ok3 l5 _ (RepDs.mono ok2 l3 _ hr2), by omega, hd, by rw [eh5]; exact hc2, (hs2.mono ok2 l3).mono ok3 l5⟩
                    | true =>
                      rw [if_pos rfl] at hc2 ⊢
                      refine ⟨w5, s1, rfl, ok5, hs4.mono ok3 l5, ?_⟩
                      unfold WpE
                      rw [eh5]
                      cases ef : f s1 h5 with
                      | none => simp only [ef] at hc2; cases hc2
                      | some r =>
                        cases r with
                        | ex x h6 => simp only [ef] at hc2; cases hc2
                        | ok yd h6 =>
                          simp only [ef] at hc2
                          intro w6 v l6 ok6 eh6 r6
                          obtain ⟨f6, i6, p6⟩ := stepP l6 f5 i5 p5
                          cases er : compL gd g t f (items.drop (i + 1)) (wipeS sl (own.map (·.2))) h6 with
                          | none => simp only [er] at hc2; cases hc2
                          | some q =>
                            obtain ⟨zs, h7⟩ := q
                            simp only [er] at hc2
                            cases hc2
                            have hz : acc.length < sizeLine := by
                              have := T.len
                              omega
                            refine ⟨acc, p6, hz, w6.newT p (.lst (acc ++ [v])), acc ++ [v], dacc ++ [yd], zs, ?_, rfl, Wd.poke_ok ok6 f6 i6 p6, f6, i6, upd_same, ?_, by rw [List.length_append]; simp only [List.length_cons, List.length_nil]; omega, by rw [← hd, List.append_assoc]; rfl, by rw [← eh6] at er; exact er, ?_⟩
                            · have lq := ((l2.trans l3 ok2).trans l5 ok3).trans l6 ok5
                              refine ⟨lq.more, lq.up, lq.new, fun b o hb hi => ?_⟩
                              show upd w6.H p _ b = some o
                              rw [upd_ne (ne_of_none hb hp)]
                              exact lq.keep b o hb hi
                            · have h1 : RepDs X.K w6 dacc acc := RepDs.mono ok5 l6 _ (RepDs.mono ok3 l5 _ (RepDs.mono ok2 l3 _ hr2))
                              have h2 : RepDs X.K w6 (dacc ++ [yd]) (acc ++ [v]) := RepDs.app h1 ⟨v, [], rfl, r6, rfl⟩
                              exact RepDs.poke (w' := w6.newT p (.lst (acc ++ [v]))) f6 p6 rfl rfl rfl _ h2
                            · have hsl := ((hs2.mono ok2 l3).mono ok3 l5).mono ok5 l6
                              exact ⟨hsl.len, fun j dj hj' => let ⟨u, eu', ru⟩ := hsl.at' j dj hj'; ⟨u, eu', RepD.poke (w' := w6.newT p (.lst (acc ++ [v]))) f6 p6 rfl rfl rfl _ ru⟩⟩
            · cases hc2
          · have ei : i = items.length := by omega
            subst ei
            rw [List.drop_length, compL] at hc2
            split at hc2
            · rename_i hg2
              cases hc2
              rw [List.append_nil] at hd
              subst hd
              refine .inl ⟨T.stop _ w2 l2 ok2 hg2 (Nat.le_refl _) rfl, ?_⟩
              have lF : w1.Le { w2 with Fz := fun a => w2.Fz a ∨ a = p } := ⟨l2.more, fun a z => .inl (l2.up a z), fun a z => by
                rcases z with z | z
                · exact l2.new a z
                · subst z
                  exact .inr hp, l2.keep⟩
              have okF : ({ w2 with Fz := fun a => w2.Fz a ∨ a = p } : Wd).Ok X.K := ⟨ok2.nd, ok2.len, fun n a c ha hc => by
                have := ok2.cell n a c ha hc
                cases c with
                | lst es =>
                  obtain ⟨us, e, r⟩ := this
                  exact ⟨us, e, RepDs.fz (w' := { w2 with Fz := fun a => w2.Fz a ∨ a = p }) (fun _ z => .inl z) rfl rfl _ r⟩, fun a z => by
                  rcases z with z | z
                  · exact ok2.apart a z
                  · subst z
                    exact hpi2, fun a z => by
                  rcases z with z | z
                  · exact ok2.there a z
                  · subst z
                    show w2.H a ≠ none
                    rw [hp2]
                    exact fun e => by cases e⟩
              exact h { w2 with Fz := fun a => w2.Fz a ∨ a = p } (.ref p) (l1.trans lF ok1) okF rfl ⟨p, acc, rfl, .inl ⟨.inr rfl, .inl hp2⟩, RepPs.same (Fz := w2.Fz) (fun _ _ z => z) (fun _ z => .inl z) ps (unvs_rep eu hr2)⟩
            · cases hc2
end
end Vl
set_option maxHeartbeats 4000000
namespace Vl
open PySem PySem.Spec PyProof.Rows L2
section
variable {X : Cx} {W : WX} {elt tg iter : Expr} {ifs : List Expr} {scope : Scope} {own : List (Str × Nat)} {js : List Nat} {it : IM} {g : GM} {t : TM} {f : EM} {pos : Pos}
theorem se_comp (hc : X.calm = true) (hN : X.N.Nodup) (hi : SI X W tg iter it) (ok : BlkOk X.N X.env.scope scope own)
    (hg : ∀ (s : Shared) (H : Hp) (C : Addr) (cl : List (Str × Addr)) (fp : List Addr), SG (X.blk s H scope (compEnvC scope cl C X.env) fp) tg js g) (ht : ∀ (s : Shared) (H : Hp) (C : Addr) (cl : List (Str × Addr)) (fp : List Addr), STs (X.blk s H scope (compEnvC scope cl C X.env) fp) W0 ifs t)
    (he : ∀ (s : Shared) (H : Hp) (C : Addr) (cl : List (Str × Addr)) (fp : List Addr), SE (X.blk s H scope (compEnvC scope cl C X.env) fp) W0 elt f) (hj : ∀ j ∈ js, j ∈ own.map (·.2) := by decide) (hs : ∀ x, foldedSetIterable iter X.env x = pure x := by intro _; rfl) :
    SE X W (.ListComp elt [⟨tg, iter, ifs, 0⟩] scope pos) (eComp it g t f (own.map (·.2))) :=
  PE.mono' (pe_lc (g := tG X.K js g) (tt := tIT X.K X.mg W0 t) (te := tI X.K X.mg W0 f) hc hN hi ok hg ht he hs) fun σ H Q h => comp_of hj σ H Q h
theorem ss_setLc {i : Nat} {y : Str} {py spos : Pos} (hc : X.calm = true) (hN : X.N.Nodup) (hy : X.N[i]? = some y) (hyl : X.env.scope.names.lookup y = some .local)
    (hsw : swapsWith (.ListComp elt [⟨tg, iter, ifs, 0⟩] scope pos) (some (.Name y py)) spos.line X.env = pure true) (hi : SI X W tg iter it) (ok : BlkOk X.N X.env.scope scope own)
    (hg : ∀ (s : Shared) (H : Hp) (C : Addr) (cl : List (Str × Addr)) (fp : List Addr), SG (X.blk s H scope (compEnvC scope cl C X.env) fp) tg js g) (ht : ∀ (s : Shared) (H : Hp) (C : Addr) (cl : List (Str × Addr)) (fp : List Addr), STs (X.blk s H scope (compEnvC scope cl C X.env) fp) W0 ifs t)
    (he : ∀ (s : Shared) (H : Hp) (C : Addr) (cl : List (Str × Addr)) (fp : List Addr), SE (X.blk s H scope (compEnvC scope cl C X.env) fp) W0 elt f) (hj : ∀ j ∈ js, j ∈ own.map (·.2) := by decide) (hs : ∀ x, foldedSetIterable iter X.env x = pure x := by intro _; rfl) :
    SS X W (.Assign [.Name y py] (.ListComp elt [⟨tg, iter, ifs, 0⟩] scope pos) spos) (sAsg (eComp it g t f (own.map (·.2))) (gNm i)) :=
  PS.mono' (ps_setLc (g := tG X.K js g) (tt := tIT X.K X.mg W0 t) (te := tI X.K X.mg W0 f) hc hN hy hyl hsw hi ok hg ht he hs) fun E σ H ⟨w, sl, eH, ok', hs', h⟩ => by
    subst eH
    refine comp_of hj σ w.H _ ?_
    exact tIS_bind ok' hs' h fun d v w1 l1 ok1 hs1 r1 h1 => h1 w1 _ (Wd.Le.refl w1) ok1 rfl (hs1.set i r1)
end

/-! ## defs -/
inductive FR where
  | rt (d : D) (h : Hs)
  | ex (x : Ex) (h : Hs)
abbrev Fn := List D → Hs → Option FR
def WpF (K : KF) (mg : Str → Option Value) (r : Option FR) (w : Wd) (Q : VK) (E : XK) : Prop := match r with
  | some (.rt d h') => ∀ w' v, w.Le w' → w'.Ok K → w'.h = h' → RepD K w' d v → Q v w'.H
  | some (.ex x h') => ∀ w' cls da, w.Le w' → w'.Ok K → w'.h = h' → ExRep K mg w' x cls da → E cls da w'.H
  | none => False
def spF (K : KF) (mg : Str → Option Value) (n : Nat) (F : Fn) : Sp := fun vs H Q E => ∃ (w : Wd) (ds : List D), w.H = H ∧ w.Ok K ∧ RepDs K w ds vs ∧ ds.length = n ∧ WpF K mg (F ds w.h) w Q E
/-- a def with this many names and this body -/
def mkFn (n : Nat) (b : SM) : Fn := fun ds h => match b (ds.map some ++ List.replicate (n - ds.length) none) h with
  | some (.rt d h') => some (.rt d h')
  | some (.nx _ h') => some (.rt (.v .none) h')
  | some (.ex _ x h') => some (.ex x h')
  | _ => none
theorem srep_start {K : KF} {w : Wd} {N : List Str} {ds : List D} {vs : List V} (r : RepDs K w ds vs) : SRep K w (ds.map some ++ List.replicate (N.length - ds.length) none) (L2.start N vs) where
  len := by
    unfold L2.start
    rw [List.length_append, List.length_append, List.length_map, List.length_map, List.length_replicate, List.length_replicate, r.len]
  at' := fun i d h => by
    unfold L2.start
    by_cases hi : i < ds.length
    · rw [List.getElem?_append_left (by rw [List.length_map]; exact hi), List.getElem?_map] at h
      rw [List.getElem?_append_left (by rw [List.length_map, r.len]; exact hi), List.getElem?_map]
      cases e : ds[i]? with
      | none => rw [e] at h; cases h
      | some d' =>
        rw [e] at h
        cases h
        obtain ⟨v, ev, rv⟩ := RepDs.get r e
        exact ⟨v, by rw [ev]; rfl, rv⟩
    · rw [List.getElem?_append_right (by rw [List.length_map]; omega), List.getElem?_replicate] at h
      split at h <;> cases h
/-- a def's body keeps the promise of what it says -/
theorem fn_ok {P : Program} {w : World} {K : KF} {mg : Str → Option Value} {base : Heap} {x qual : Str} {params : Arguments} {body : List Stmt} {scope : Scope} {f : Addr} {fd : FuncData} {N ps : List Str} {k : Nat} {b : SM} {F : Fn}
    (Fd : FunD K x qual params body scope [] [] f fd) (S : FnScope N ps scope) (hF : F = mkFn N.length b)
    (hb : ∀ (cdv : Value) (A : Around) (outer : List Env) (s : Shared) (H : Hp) (E : XK), Room k (A.deeper (envOfC qual scope s.heap.objs.size f cdv)) →
      SSs (cxOf (L2.CX P w) P w K mg base N qual scope f cdv A outer s H E) (fun cls d _ H => E cls d H) body b) : FnOk P w K mg base (L2.CX P w) (k + 1) f fd ps (spF K mg ps.length F) := by
  subst hF
  refine Fd.ok S (fun vs H Q E ⟨w, ds, _, _, r, hl, _⟩ => r.len.trans hl) fun cdv A outer s H vs Q E hr hsp => ?_
  obtain ⟨w1, ds, rfl, ok, r, hl, hw⟩ := hsp
  refine ⟨_, hb cdv A outer s w1.H E hr, ⟨w1, ds.map some ++ List.replicate (N.length - ds.length) none, rfl, ok, srep_start r, ?_⟩⟩
  unfold mkFn WpF at hw
  unfold WpS
  cases e : b (ds.map some ++ List.replicate (N.length - ds.length) none) w1.h with
  | none => simp only [e] at hw
  | some r =>
    cases r with
    | nx s1 h1 =>
      simp only [e] at hw
      exact fun w' σ' l o eh _ => hw w' .non l o eh rfl
    | rt d h1 =>
      simp only [e] at hw
      exact hw
    | bk s1 h1 => simp only [e] at hw
    | ct s1 h1 => simp only [e] at hw
    | ex s1 x h1 =>
      simp only [e] at hw
      exact fun w' σ' cls da l o eh _ r => hw w' cls da l o eh r

/-! ## calls -/
mutual
/-- no list in it -/
def noL : PyData → Bool
  | .list _ => false
  | .tuple ds => noLs ds
  | .dict _ => false
  | _ => true
def noLs : List PyData → Bool
  | [] => true
  | d :: ds => noL d && noLs ds
end
mutual
theorem RepP.noL {K : KF} {Fz Fz' : Addr → Prop} {H : Hp} : ∀ (d : PyData) {v : V}, noL d = true → RepP K Fz H d v → RepP K Fz' H d v
  | .none, _, _, h => h
  | .bool _, _, _, h => h
  | .int _, _, _, h => h
  | .str _, _, _, h => h
  | .list ds, _, n, _ => by cases n
  | .tuple ds, _, n, ⟨a, vs, e, hr, hs⟩ => ⟨a, vs, e, hr, RepPs.noL ds n hs⟩
  | .dict _, _, n, _ => by cases n
theorem RepPs.noL {K : KF} {Fz Fz' : Addr → Prop} {H : Hp} : ∀ (ds : List PyData) {vs : List V}, noLs ds = true → RepPs K Fz H ds vs → RepPs K Fz' H ds vs
  | [], _, _, h => h
  | d :: ds, _, n, ⟨v, r, e, h1, h2⟩ => by
    rw [noLs, Bool.and_eq_true] at n
    exact ⟨v, r, e, RepP.noL d n.1 h1, RepPs.noL ds n.2 h2⟩
end
/-- what a call tells, its cells read off; b: what was handed in had cells -/
def callR (F : Fn) (ps : List PyData) (b : Bool) (h : Hs) : Option ER := match F (ps.map .v) [] with
  | some (.rt d h') => match frz h' dep d with
    | some p => if (b && !noL p) = true then none else some (.ok (.v p) h)
    | none => none
  | some (.ex x h') => match frzs h' (dep + 1) (x.fs.map (·.2)) with
    | some qs => if (b && !noLs qs) = true then none else some (.ex ⟨x.c, (x.fs.map (·.1)).zip (qs.map .v)⟩ h)
    | none => none
  | none => none
def eCall (F : Fn) (a : AM) : EM := eA a fun ds _ h => match unvs ds with
  | some ps => callR F ps false h
  | none => match frzs h (dep + 1) ds with
    | some ps => callR F ps true h
    | none => none
/-- the callee's world -/
def Wd.sub (w : Wd) (G : Addr → Prop) : Wd := ⟨[], G, [], w.H⟩
/-- the caller's world behind the call -/
def Wd.back (w w' : Wd) : Wd := ⟨w.ι, fun a => w.Fz a ∨ (w.H a = none ∧ (w'.Fz a ∨ a ∈ w'.ι)), w.h, w'.H⟩
section
variable {K : KF} {w w' : Wd} {G : Addr → Prop}
theorem Wd.sub_ok (hG : ∀ a, G a → w.H a ≠ none) : (w.sub G).Ok K := ⟨List.nodup_nil, rfl, fun n a c h => (by simp [Wd.sub] at h), fun _ _ z => (by cases z), hG⟩
theorem Wd.back_le (l : (w.sub G).Le w') : w.Le (w.back w') := by
  refine ⟨⟨[], by simp [Wd.back], by simp⟩, fun _ h => .inl h, fun a h => ?_, fun b o h _ => l.keep b o h (by simp [Wd.sub])⟩
  rcases h with h | h
  · exact .inl h
  · exact .inr h.1
theorem Wd.back_ok (ok : w.Ok K) (l : (w.sub G).Le w') (ok' : w'.Ok K) : (w.back w').Ok K where
  nd := ok.nd
  len := ok.len
  cell := fun n a c ha hc => by
    have le : w.Le (w.back w') := Wd.back_le l
    have := ok.cell n a c ha hc
    cases c with
    | lst ds =>
      obtain ⟨vs, e, r⟩ := this
      exact ⟨vs, l.keep a _ e (by simp [Wd.sub]), RepDs.mono ok le ds r⟩
  apart := fun a h => by
    rcases h with h | h
    · exact ok.apart a h
    · intro z
      obtain ⟨us, e⟩ := ok.tracked z
      rw [h.1] at e
      cases e
  there := fun a h => by
    show w'.H a ≠ none
    rcases h with h | h
    · cases q : w.H a with
      | none => exact absurd q (ok.there a h)
      | some o =>
        rw [l.keep a o q (by simp [Wd.sub])]
        exact fun z => by cases z
    · rcases h.2 with z | z
      · exact ok'.there a z
      · obtain ⟨us, e⟩ := ok'.tracked z
        rw [e]
        exact fun z => by cases z
/-- what the callee tells, in the caller's world -/
theorem back_rep {b : Bool} (l : (w.sub G).Le w') (ok' : w'.Ok K) (hG : b = false → ∀ a, G a → w.Fz a) {d : D} {p : PyData} {v : V} (r : RepD K w' d v) (e : frz w'.h dep d = some p) (hb : ¬ (b && !noL p) = true) : RepP K (w.back w').Fz (w.back w').H p v := by
  have h1 := frz_rep ok' (G := fun a => w'.Fz a ∨ a ∈ w'.ι) (fun _ z => .inl z) (fun _ z => .inr z) dep r e
  cases b with
  | true =>
    have hn : noL p = true := by
      cases q : noL p with
      | true => rfl
      | false => rw [q] at hb; exact absurd rfl hb
    exact RepP.noL p hn h1
  | false =>
    refine RepP.same (fun _ _ z => z) (fun a z => ?_) p h1
    rcases z with z | z
    · rcases l.new a z with q | q
      · exact .inl (hG rfl a q)
      · exact .inr ⟨q, .inl z⟩
    · obtain ⟨m, em, hm⟩ := l.more
      rw [em] at z
      exact .inr ⟨hm a (by simpa [Wd.sub] using z), .inr (by rw [em]; exact z)⟩
theorem backs_rep {b : Bool} (l : (w.sub G).Le w') (ok' : w'.Ok K) (hG : b = false → ∀ a, G a → w.Fz a) {ds : List D} {ps : List PyData} {vs : List V} (r : RepDs K w' ds vs) (e : frzs w'.h (dep + 1) ds = some ps) (hb : ¬ (b && !noLs ps) = true) : RepPs K (w.back w').Fz (w.back w').H ps vs := by
  have h1 := frzs_rep ok' (G := fun a => w'.Fz a ∨ a ∈ w'.ι) (fun _ z => .inl z) (fun _ z => .inr z) (dep + 1) r e
  cases b with
  | true =>
    have hn : noLs ps = true := by
      cases q : noLs ps with
      | true => rfl
      | false => rw [q] at hb; exact absurd rfl hb
    exact RepPs.noL ps hn h1
  | false =>
    refine RepPs.same (fun _ _ z => z) (fun a z => ?_) ps h1
    rcases z with z | z
    · rcases l.new a z with q | q
      · exact .inl (hG rfl a q)
      · exact .inr ⟨q, .inl z⟩
    · obtain ⟨m, em, hm⟩ := l.more
      rw [em] at z
      exact .inr ⟨hm a (by simpa [Wd.sub] using z), .inr (by rw [em]; exact z)⟩
end
theorem zip_fst {α β : Type} : ∀ {xs : List α} {ys : List β}, xs.length = ys.length → (xs.zip ys).map (·.1) = xs
  | [], _, _ => by simp
  | x :: xs, [], h => by simp at h
  | x :: xs, y :: ys, h => by
    rw [List.zip_cons_cons, List.map_cons, zip_fst (by simpa using h)]
theorem zip_snd {α β : Type} : ∀ {xs : List α} {ys : List β}, xs.length = ys.length → (xs.zip ys).map (·.2) = ys
  | [], [], _ => rfl
  | [], _ :: _, h => by simp at h
  | x :: xs, [], h => by simp at h
  | x :: xs, y :: ys, h => by
    rw [List.zip_cons_cons, List.map_cons, zip_snd (by simpa using h)]
theorem callR_of {K : KF} {mg : Str → Option Value} {W : WX} {σ : L2.St} {w : Wd} {F : Fn} {ps : List PyData} {b : Bool} {G : Addr → Prop} {vs : List V} {Q : VK} (ok : w.Ok K) (hGt : ∀ a, G a → w.H a ≠ none) (hG : b = false → ∀ a, G a → w.Fz a)
    (r : RepPs K G w.H ps vs) (h : WpE K mg W σ (callR F ps b w.h) w fun _ v w' => Q v w'.H) : spF K mg ps.length F vs w.H Q fun cls d H => W cls d σ H := by
  refine ⟨w.sub G, ps.map .v, rfl, Wd.sub_ok hGt, RepDs.ofP r, by rw [List.length_map], ?_⟩
  unfold callR at h
  unfold WpF
  show match F (ps.map .v) [] with
    | some (.rt d h') => _
    | some (.ex x h') => _
    | none => False
  cases e : F (ps.map .v) [] with
  | none => simp only [e] at h; exact h
  | some q =>
    cases q with
    | rt d h' =>
      simp only [e] at h
      intro w' v l ok' eh r'
      subst eh
      cases ef : frz w'.h dep d with
      | none => simp only [ef] at h; exact h.elim
      | some p =>
        simp only [ef] at h
        split at h
        · exact h.elim
        · rename_i hb
          exact h (w.back w') v (Wd.back_le l) (Wd.back_ok ok l ok') rfl (back_rep l ok' hG r' ef hb)
    | ex x h' =>
      simp only [e] at h
      intro w' cls da l ok' eh r'
      subst eh
      cases ef : frzs w'.h (dep + 1) (x.fs.map (·.2)) with
      | none => simp only [ef] at h; exact h.elim
      | some qs =>
        simp only [ef] at h
        split at h
        · exact h.elim
        · rename_i hb
          refine h (w.back w') cls da (Wd.back_le l) (Wd.back_ok ok l ok') rfl ?_
          obtain ⟨C, hm, hcls, hx⟩ := r'
          refine ⟨C, hm, hcls, ?_⟩
          rcases hx with ⟨h1, h2⟩ | ⟨d, fv, h1, h2, h3, h4⟩
          · rw [h1] at ef
            cases ef
            exact .inl ⟨by rw [h1]; rfl, h2⟩
          · have hq := backs_rep l ok' hG h3 ef hb
            have hl : (x.fs.map (·.1)).length = (qs.map D.v).length := by
              have e1 := h3.len
              have e2 := hq.len
              rw [List.length_map, List.length_map] at e1
              rw [List.length_map, List.length_map, ← e2, List.length_map, e1]
            refine .inr ⟨d, fv, h1, h2, ?_, ?_⟩
            · rw [zip_snd hl]
              exact RepDs.ofP hq
            · rw [zip_fst hl]
              exact h4
theorem unvs_len : ∀ {ds : List D} {ps : List PyData}, unvs ds = some ps → ps.length = ds.length
  | [], _, e => by
    cases e
    rfl
  | d :: ds, ps, e => by
    unfold unvs at e
    split at e
    · rename_i p ps' h1 h2
      cases e
      rw [List.length_cons, List.length_cons, unvs_len h2]
    · cases e
section
variable {X : Cx} {W : WX} {e : Expr} {es : List Expr} {a : AM} {F : Fn} {f : Addr} {fd : FuncData} {ps : List Str} {k : Nat} {x : Str} {p pos : Pos}
/-- a call of a def by its name -/
theorem se_call (G : FnOk X.prog X.w X.K X.mg X.base (L2.CX X.prog X.w) k f fd ps (spF X.K X.mg ps.length F)) (tk : Takes X W) (hr : Room k X.A) (hg : Gl X x) (hm : X.mg x = some (.ref f)) (hk : PySem.W.keepIn X.K (.ref f) = true) (hb : Binds X.K fd ps [])
    (hl : (e :: es).length = ps.length) (ha : SA X W (e :: es) a) (hal : ∀ s h ds h', a s h = some (.ok ds h') → ds.length = (e :: es).length) (hdb : (x == ("__debug__" : Str)) = false := by decide) (he : starEach (e :: es) X.env = (false, eval e X.env) :: starEach es X.env := by rfl) (hpl : (backTo pos (starEach es X.env)).any (·.1) = false := by rfl) :
    SE X W (.Call (.Name x p) (e :: es) [] pos) (eCall F a) :=
  PE.mono' (pe_callS G hr hg hm hk hb (E := WE W) (fun σ => passAt tk σ) ha hdb he hpl) fun σ H Q ⟨w, sl, eH, ok, hs, h⟩ => by
    subst eH
    refine ⟨w, sl, rfl, ok, hs, ?_⟩
    unfold eCall eA at h
    unfold WpA
    cases ea : a sl w.h with
    | none => simp only [ea] at h; exact h
    | some r =>
      cases r with
      | ex x h' => simp only [ea] at h; exact h
      | ok ds h' =>
        simp only [ea] at h
        intro w1 vs l1 ok1 eh1 r1
        subst eh1
        have hlen := hal _ _ _ _ ea
        cases eu : unvs ds with
        | some qs =>
          simp only [eu] at h
          have := callR_of ok1 (G := w1.Fz) (b := false) ok1.there (fun _ _ z => z) (unvs_rep eu r1) (WpE.le h l1 ok1)
          rw [unvs_len eu, hlen, hl] at this
          exact this
        | none =>
          simp only [eu] at h
          cases ef : frzs w1.h (dep + 1) ds with
          | none => simp only [ef] at h; exact h.elim
          | some qs =>
            simp only [ef] at h
            have hq := frzs_rep ok1 (G := fun a => w1.Fz a ∨ a ∈ w1.ι) (fun _ z => .inl z) (fun _ z => .inr z) (dep + 1) r1 ef
            have := callR_of ok1 (G := fun a => w1.Fz a ∨ a ∈ w1.ι) (b := true) (fun a z => by
              rcases z with z | z
              · exact ok1.there a z
              · obtain ⟨us, e⟩ := ok1.tracked z
                rw [e]
                exact fun z => by cases z) (fun z => by cases z) hq (WpE.le h l1 ok1)
            have e1 := hq.len
            have e2 := r1.len
            rw [show qs.length = ps.length by rw [← e1, e2, hlen, hl]] at this
            exact this
end
end Vl
set_option maxHeartbeats 4000000
namespace Vl
open PySem PySem.Spec PyProof.Rows L2

/-! ## cells -/
def Wd.newC (w : Wd) (p : Addr) (ds : List D) (vs : List V) : Wd := ⟨w.ι ++ [p], w.Fz, w.h ++ [.lst ds], upd w.H p (.lst vs)⟩
def Wd.setC (w : Wd) (n : Nat) (a : Addr) (ds : List D) (vs : List V) : Wd := ⟨w.ι, w.Fz, w.h.set n (.lst ds), upd w.H a (.lst vs)⟩
section
variable {K : KF} {w : Wd} {p a : Addr} {n : Nat} {ds : List D} {vs : List V}
theorem Wd.newC_le (hp : w.H p = none) : w.Le (w.newC p ds vs) :=
  ⟨⟨[p], rfl, fun a h => by rw [List.mem_singleton.mp h]; exact hp⟩, fun _ h => h, fun _ h => .inl h, fun b u h _ => by
    show upd w.H p _ b = some u
    rw [upd_ne (ne_of_none h hp)]
    exact h⟩
theorem Wd.newC_ok (ok : w.Ok K) (hp : w.H p = none) (r : RepDs K w ds vs) : (w.newC p ds vs).Ok K where
  nd := List.nodup_append.mpr ⟨ok.nd, by simp, fun a h b hb e => by
    rw [List.mem_singleton.mp hb] at e
    subst e
    obtain ⟨us, e⟩ := ok.tracked h
    rw [hp] at e
    cases e⟩
  len := by
    show (w.ι ++ [p]).length = (w.h ++ [Cell.lst ds]).length
    rw [List.length_append, List.length_append, ok.len]
    rfl
  cell := fun n a c ha hc => by
    have le : w.Le (w.newC p ds vs) := Wd.newC_le hp
    have ha' : (w.ι ++ [p])[n]? = some a := ha
    have hc' : (w.h ++ [Cell.lst ds])[n]? = some c := hc
    by_cases hn : n < w.ι.length
    · rw [List.getElem?_append_left hn] at ha'
      rw [List.getElem?_append_left (by rw [← ok.len]; exact hn)] at hc'
      have := ok.cell n a c ha' hc'
      cases c with
      | lst es =>
        obtain ⟨us, e, r⟩ := this
        refine ⟨us, ?_, RepDs.mono ok le es r⟩
        show upd w.H p _ a = _
        rw [upd_ne (ne_of_none e hp)]
        exact e
    · rw [List.getElem?_append_right (by omega)] at ha'
      rw [List.getElem?_append_right (by rw [← ok.len]; omega), ← ok.len] at hc'
      cases q : n - w.ι.length with
      | zero =>
        rw [q] at ha' hc'
        cases ha'
        cases hc'
        exact ⟨vs, upd_same, RepDs.mono ok le ds r⟩
      | succ k => rw [q] at ha'; simp at ha'
  apart := fun a h z => by
    rcases List.mem_append.mp (show a ∈ w.ι ++ [p] from z) with z | z
    · exact ok.apart a h z
    · rw [List.mem_singleton.mp z] at h
      exact ok.there p h hp
  there := fun a h => by
    show upd w.H p _ a ≠ none
    by_cases e : a = p
    · subst e
      rw [upd_same]
      exact fun z => by cases z
    · rw [upd_ne e]
      exact ok.there a h
theorem Wd.newC_rep (ok : w.Ok K) : RepD K (w.newC p ds vs) (.ref w.h.length) (.ref p) :=
  ⟨p, by
    show (w.ι ++ [p])[w.h.length]? = some p
    rw [← ok.len, List.getElem?_append_right (Nat.le_refl _), Nat.sub_self]
    rfl, rfl⟩
theorem Wd.setC_le (ha : w.ι[n]? = some a) : w.Le (w.setC n a ds vs) :=
  ⟨⟨[], by simp [Wd.setC], by simp⟩, fun _ h => h, fun _ h => .inl h, fun b u h hb => by
    show upd w.H a _ b = some u
    rw [upd_ne fun e : b = a => hb (e ▸ List.mem_of_getElem? ha)]
    exact h⟩
theorem nodup_get {l : List Addr} (nd : l.Nodup) {i j : Nat} {x : Addr} (h1 : l[i]? = some x) (h2 : l[j]? = some x) : i = j := by
  obtain ⟨a, e1⟩ := List.getElem?_eq_some_iff.mp h1
  obtain ⟨b, e2⟩ := List.getElem?_eq_some_iff.mp h2
  exact (List.getElem_inj nd).mp (e1.trans e2.symm)
theorem Wd.setC_ok (ok : w.Ok K) (ha : w.ι[n]? = some a) (r : RepDs K w ds vs) : (w.setC n a ds vs).Ok K where
  nd := ok.nd
  len := by
    show w.ι.length = (w.h.set n _).length
    rw [List.length_set, ok.len]
  cell := fun m b c hb hc => by
    have le : w.Le (w.setC n a ds vs) := Wd.setC_le ha
    have hc' : (w.h.set n (Cell.lst ds))[m]? = some c := hc
    by_cases hm : n = m
    · subst hm
      have hb' : w.ι[n]? = some b := hb
      rw [ha] at hb'
      cases hb'
      have hl : n < w.h.length := by rw [← ok.len]; exact (List.getElem?_eq_some_iff.mp ha).1
      rw [List.getElem?_set_self hl] at hc'
      cases hc'
      exact ⟨vs, upd_same, RepDs.mono ok le ds r⟩
    · rw [List.getElem?_set_ne hm] at hc'
      have := ok.cell m b c hb hc'
      cases c with
      | lst es =>
        obtain ⟨us, e, r⟩ := this
        refine ⟨us, ?_, RepDs.mono ok le es r⟩
        show upd w.H a _ b = _
        rw [upd_ne fun e : b = a => hm (nodup_get ok.nd ha (e ▸ hb))]
        exact e
  apart := ok.apart
  there := fun b h => by
    show upd w.H a _ b ≠ none
    rw [upd_ne fun e : b = a => ok.apart b h (e ▸ List.mem_of_getElem? ha)]
    exact ok.there b h
end
/-- a list display that is to be changed -/
def eLstN (a : AM) : EM := eA a fun ds _ h => if ds.length ≤ 1000 then some (.ok (.ref h.length) (h ++ [.lst ds])) else none
section
variable {X : Cx} {W : WX} {es : List Expr} {g : AM} {pos : Pos}
theorem se_lstN (h : SA X W es g) : SE X W (.List es pos) (eLstN g) := PE.mono' (pe_lst h) fun σ H Q ⟨w, sl, eH, ok, hs, h⟩ => by
  subst eH
  refine tIA_bind ok hs h fun ds vs w1 l1 ok1 hs1 r1 h1 => ?_
  split at h1
  · rename_i hl
    exact ⟨by rw [r1.len]; exact k_line hl, fun p hp => h1 (w1.newC p ds vs) (.ref p) (Wd.newC_le hp) (Wd.newC_ok ok1 hp r1) rfl (Wd.newC_rep ok1)⟩
  · exact h1.elim
end

/-! ## methods of built-in types -/
def After2 (K : KF) (w : Wd) (d : D) (h' : Hs) (Q : VK) : Prop := ∀ w' v, w.Le w' → w'.Ok K → w'.h = h' → RepD K w' d v → Q v w'.H
theorem After2.here {K : KF} {w : Wd} {d : D} {Q : VK} (h : After2 K w d w.h Q) (ok : w.Ok K) {v : V} (r : RepD K w d v) : Q v w.H := h w v (Wd.Le.refl w) ok rfl r
def MtD (K : KF) (r : V → List V → Hp → VK → Prop) (g : D → List D → Hs → Option (D × Hs)) : Prop :=
  ∀ (w : Wd) (x : V) (xs : List V) (dx : D) (ds : List D) (dz : D) (h' : Hs) (Q : VK), w.Ok K → RepD K w dx x → RepDs K w ds xs → g dx ds w.h = some (dz, h') → After2 K w dz h' Q → r x xs w.H Q
def eBM (T : String) (g : D → List D → Hs → Option (D × Hs)) (f : EM) (a : AM) : EM := f.bind fun o s h => if tyN o = some T then (eA a fun ds _ h => match g o ds h with
  | some (d, h') => some (.ok d h')
  | none => none) s h else none
theorem tyV_of {K : KF} {w : Wd} {o : D} {x : V} {T : String} (hT : T = "list" ∨ T = "str") (ok : w.Ok K) (r : RepD K w o x) (h : tyN o = some T) : tyV K T x w.H := by
  cases o with
  | v d =>
    cases d with
    | str z =>
      cases h
      rw [show x = _ from r]
      exact rfl
    | list ds =>
      cases h
      obtain ⟨a, vs, rfl, ht, hr⟩ := r
      exact .inl ⟨rfl, vs, ht.sql⟩
    | none => cases h; rcases hT with e | e <;> exact absurd e (by decide)
    | bool _ => cases h; rcases hT with e | e <;> exact absurd e (by decide)
    | int _ => cases h; rcases hT with e | e <;> exact absurd e (by decide)
    | tuple _ => cases h; rcases hT with e | e <;> exact absurd e (by decide)
    | dict _ => cases h; rcases hT with e | e <;> exact absurd e (by decide)
  | ref n =>
    obtain ⟨a, ha, rfl⟩ := r
    cases h
    obtain ⟨vs, e⟩ := ok.tracked (List.mem_of_getElem? ha)
    exact .inl ⟨rfl, vs, .inl (.inl e)⟩
  | mix _ => cases h; rcases hT with e | e <;> exact absurd e (by decide)
section
variable {X : Cx} {W : WX} {o e : Expr} {es : List Expr} {f : EM} {a : AM} {name : Str} {apos cpos : Pos} {T id : String} {r : V → List V → Hp → VK → Prop} {g : D → List D → Hs → Option (D × Hs)}
theorem eBM_of (hT : T = "list" ∨ T = "str") (hd : MtD X.K r g) (σ : L2.St) (H : Hp) (Q : VK) (h : tI X.K X.mg W (eBM T g f a) σ H Q) : tBM X.K T r (tI X.K X.mg W f) (tIA X.K X.mg W a) σ H Q := by
  obtain ⟨w, sl, rfl, ok, hs, h⟩ := h
  refine tI_bind ok hs h fun dx x w1 l1 ok1 hs1 rx h1 => ?_
  split at h1
  · rename_i ht
    refine ⟨tyV_of hT ok1 rx ht, tIA_bind ok1 hs1 h1 fun ds vs w2 l2 ok2 hs2 r2 h2 => ?_⟩
    cases eg : g dx ds w2.h with
    | none => simp only [eg] at h2; exact h2.elim
    | some q =>
      obtain ⟨dz, h'⟩ := q
      simp only [eg] at h2
      exact hd w2 x vs dx ds dz h' Q ok2 (RepD.mono ok1 l2 dx rx) r2 eg h2
  · exact h1.elim
theorem se_bm (hT : T = "list" ∨ T = "str") (pa : PlainAttrs T) (slot : Slot T name id) (hty : typeOf (.builtin id) = pure (.type "method_descriptor")) (hm : MtR X id r) (hd : MtD X.K r g) (ho : SE X W o f) (ha : SA X W (e :: es) a)
    (hbase : attributeBase o name X.env (eval o X.env) = eval o X.env := by rfl)
    (hfew : ((backTo cpos (starEach (e :: es) X.env)).all (fun x => !x.1) && (backToKw cpos (keywordEach [] X.env)).all (fun x => x.1.isSome)
      && decide ((e :: es).length + ([] : List Keyword).length + (if ([] : List Keyword).isEmpty then 0 else 1) < 30)) = true := by rfl)
    (hline : (apos.endLine == cpos.line) = true := by rfl) (hs : starEach (e :: es) X.env = (false, eval e X.env) :: starEach es X.env := by rfl) (hplain : (backTo cpos (starEach es X.env)).any (·.1) = false := by rfl) :
    SE X W (.Call (.Attribute o name apos) (e :: es) [] cpos) (eBM T g f a) := PE.mono' (pe_bm pa slot hty hm ho ha hbase hfew hline hs hplain) fun σ H Q h => eBM_of hT hd σ H Q h
theorem se_bm0 (hT : T = "list" ∨ T = "str") (pa : PlainAttrs T) (slot : Slot T name id) (hty : typeOf (.builtin id) = pure (.type "method_descriptor")) (hm : MtR X id r) (hd : MtD X.K r g) (ho : SE X W o f)
    (hbase : attributeBase o name X.env (eval o X.env) = eval o X.env := by rfl) (hline : (apos.endLine == cpos.line) = true := by rfl) : SE X W (.Call (.Attribute o name apos) [] [] cpos) (eBM T g f eNil) :=
  PE.mono' (pe_bm0 pa slot hty hm ho hbase hline) fun σ H Q ⟨w, sl, eH, ok, hs, h⟩ => by
    subst eH
    refine tI_bind ok hs h fun dx x w1 l1 ok1 hs1 rx h1 => ?_
    split at h1
    · rename_i ht
      refine ⟨tyV_of hT ok1 rx ht, ?_⟩
      unfold eA eNil at h1
      cases eg : g dx [] w1.h with
      | none => simp only [eg] at h1; exact h1.elim
      | some q =>
        obtain ⟨dz, h'⟩ := q
        simp only [eg] at h1
        exact hd w1 x [] dx [] dz h' Q ok1 rx rfl eg h1
    · exact h1.elim
end
section
variable {K : KF}
def appendD : D → List D → Hs → Option (D × Hs) := fun o ds h => match o, ds with
  | .ref n, [y] => match h[n]? with
    | some (.lst xs) => if xs.length < sizeLine then some (.v .none, h.set n (.lst (xs ++ [y]))) else none
    | none => none
  | _, _ => none
theorem mt_appendD : MtD K rAppend appendD := by
  intro w x xs dx ds dz h' Q ok rx rs e a
  unfold appendD at e
  split at e
  · rename_i n y
    obtain ⟨b, hb, rfl⟩ := rx
    obtain ⟨v, vr, rfl, r1, r2⟩ := rs
    cases (show vr = [] from r2)
    cases q : w.h[n]? with
    | none => simp [q] at e
    | some c =>
      cases c with
      | lst ys =>
        simp only [q] at e
        split at e
        · rename_i hz
          cases e
          obtain ⟨us, hH, hr⟩ := ok.cell n b _ hb q
          refine ⟨b, us, v, rfl, rfl, hH, by rw [hr.len]; exact hz, ?_⟩
          exact a (w.setC n b (ys ++ [y]) (us ++ [v])) .non (Wd.setC_le hb) (Wd.setC_ok ok hb (RepDs.app hr ⟨v, [], rfl, r1, rfl⟩)) rfl rfl
        · cases e
  · cases e
def popD : D → List D → Hs → Option (D × Hs) := fun o ds h => match o, ds with
  | .ref n, [] => match h[n]? with
    | some (.lst xs) => match xs[xs.length - 1]? with
      | some y => some (y, h.set n (.lst xs.dropLast))
      | none => none
    | none => none
  | _, _ => none
theorem RepDs.dropLast {w : Wd} : ∀ {ds : List D} {vs : List V}, RepDs K w ds vs → RepDs K w ds.dropLast vs.dropLast
  | [], _, h => by rw [show _ = [] from h]; rfl
  | [d], _, ⟨v, r, e, h1, h2⟩ => by
    rw [e, show r = [] from h2]
    rfl
  | d :: d2 :: ds, _, ⟨v, r, e, h1, h2⟩ => by
    obtain ⟨v2, r2, e2, h3, h4⟩ := id h2
    rw [e]
    rw [e2] at h2 ⊢
    exact ⟨v, _, rfl, h1, RepDs.dropLast h2⟩
theorem mt_popD : MtD K rPop popD := by
  intro w x xs dx ds dz h' Q ok rx rs e a
  unfold popD at e
  split at e
  · rename_i n
    obtain ⟨b, hb, rfl⟩ := rx
    cases (show xs = [] from rs)
    cases q : w.h[n]? with
    | none => simp [q] at e
    | some c =>
      cases c with
      | lst ys =>
        simp only [q] at e
        split at e
        · rename_i y hy
          cases e
          obtain ⟨us, hH, hr⟩ := ok.cell n b _ hb q
          obtain ⟨v, hv, rv⟩ := RepDs.get hr hy
          refine ⟨b, us, v, rfl, rfl, hH, by rw [hr.len]; exact hv, ?_⟩
          have le : w.Le (w.setC n b ys.dropLast us.dropLast) := Wd.setC_le hb
          exact a (w.setC n b ys.dropLast us.dropLast) v le (Wd.setC_ok ok hb (RepDs.dropLast hr)) rfl (RepD.mono ok le dz rv)
        · cases e
  · cases e
end

/-! ## texts -/
section
variable {K : KF}
def texts : List PyData → Option (List Str)
  | [] => some []
  | .str z :: r => (texts r).map (z :: ·)
  | _ :: _ => none
theorem texts_rep {Fz : Addr → Prop} {H : Hp} : ∀ {ds : List PyData} {bs : List Str} {vs : List V}, texts ds = some bs → RepPs K Fz H ds vs → vs = bs.map V.str
  | [], bs, vs, e, r => by
    have e' : [] = bs := Option.some.inj e
    subst e'
    exact r
  | .str b :: ds, bs, vs, e, ⟨v, vr, ev, r1, r2⟩ => by
    simp only [texts, Option.map_eq_some_iff] at e
    obtain ⟨bs', e1, rfl⟩ := e
    rw [ev, show v = V.str b from r1, texts_rep e1 r2]
    rfl
  | .none :: _, _, _, e, _ => by cases e
  | .int _ :: _, _, _, e, _ => by cases e
  | .bool _ :: _, _, _, e, _ => by cases e
  | .list _ :: _, _, _, e, _ => by cases e
  | .tuple _ :: _, _, _, e, _ => by cases e
  | .dict _ :: _, _, _, e, _ => by cases e
end
end Vl
set_option maxHeartbeats 4000000
namespace Vl
open PySem PySem.Spec PyProof.Rows L2

/-! ## list(text) -/
section
variable {prog : Program} {w : World} {A : Around} {E : Value → Shared → Prop} {s : Shared}
theorem noHint {x : Str} {t : Tok} {Q : Bool → Shared → Prop} (h : Q false s) : wpAny (model prog w) A (Builtin.List.listLengthHint (.str x t)) Q E s := by
  have hT : s.TypeIs (.str x t) "str" := typeIs_str s x t
  unfold Builtin.List.listLengthHint
  refine wpAny_bind (wpAny_specialOf hT PySem.F.slot_str_len.lookup ?_)
  generalize hid : ("str.__len__" : String) = id0
  wp_delta
  rw [show splitId id0 = some ("str", "__len__") from by subst hid; decide +kernel]
  subst hid
  refine wpAny_bind (wpAny_isInstance (T := "str") (b := true) hT (by rw [isSubtype_type]; kernel_rfl) ?_)
  refine wpAny_ite_split (fun hab => absurd hab (by decide)) (fun _ => ?_)
  refine wpAny_ite_split (fun _ => ?_) (fun hab => absurd (by decide +kernel) hab)
  exact wpAny_bind (wpAny_typeOf hT (wpAny_pure h))
theorem extSigns {R : Result → Shared → Prop} (hh : A.handled = none) (x : Str) (t : Tok) (S : Addr) (res : Value) (c₀ : Nat) (hS : s.heap.get? S = some { cls := .type "list", data := .seq #[] c₀ }) (hn : x.cps.size ≤ sizeLine)
    (hR : ∀ h' tk acc' c', (∀ b o, b ≠ S → s.heap.get? b = some o → h'.get? b = some o) → h'.get? S = some { cls := .type "list", dict := none, data := .seq acc' c', slots := #[] } → ItemsOf (SignAt x) acc' x.cps.size → R (.ok (.ret res)) { s with heap := h', toks := tk }) :
    wpAny (model prog w) A.in1 (Builtin.List.listExtendWith (.ref S) (.str x t) res)
      (fun fin s' => match fin with | .done f => R (.ok f) s' | .again c' => c'.quiet = true ∧ codeAny (model prog w) A c' R s') (fun e s' => R (.error e) s') s := by
  have hSI : S ≠ s.heap.objs.size := Nat.ne_of_lt (Heap.lt_size hS)
  unfold Builtin.List.listExtendWith
  refine wpAny_bind (wpAny_typeOf (T := "str") (v := .str x t) (typeIs_str s x t) ?_)
  have h1 : Builtin.List.listSameRef (.ref S) (.str x t) = false := rfl
  have h2 : (Value.type "str" == Value.type "list") = false := by decide
  have h3 : (Value.type "str" == Value.type "tuple") = false := by decide
  simp only [h1, h2, h3, Bool.or_false, Bool.false_eq_true, if_false]
  refine wpAny_bind (wpAny_pyIter_str fun o St hW hst => ?_)
  refine wpAny_bind (wpAny_holding (noHint ?_))
  rw [if_neg (by first | decide | decide +kernel)]
  refine wpAny_pure ⟨plainId_quiet PySem.F.plain_extend_loop _, codeAny_extend_loopS (hW A.in1 hh).toS hn _ (fun hm => hSI (List.mem_singleton.mp hm)) _ x.cps.size 0 _ _ _ rfl (Nat.zero_le _) hst (Heap.get?_push_of_some _ hS) (ItemsOf.nil _) fun s' acc' c' hm hS' hacc => ?_⟩
  rw [Moved.eq_with hm]
  refine hR s'.heap s'.toks acc' c' (fun b ob hb e => hm.heap b ob (fun hmem => ?_) (Heap.get?_push_of_some _ e)) hS' hacc
  rcases List.mem_cons.mp hmem with e' | hmem
  · exact hb e'
  · exact absurd (Heap.lt_size e) (by rw [List.mem_singleton.mp hmem]; exact Nat.lt_irrefl _)
theorem signList {x : Str} {t : Tok} {Q : Value → Shared → Prop} (hh : A.handled = none) (hn : x.cps.size ≤ sizeLine)
    (hQ : ∀ h' tk acc' c', (∀ b o, s.heap.get? b = some o → h'.get? b = some o) → h'.get? s.heap.objs.size = some { cls := .type "list", dict := none, data := .seq acc' c', slots := #[] } → ItemsOf (SignAt x) acc' x.cps.size → Q (.ref s.heap.objs.size) { s with heap := h', toks := tk }) :
    wpAny (model prog w) A (call (.type "list") [.str x t]) Q E s := by
  refine callType_codes (Q₁ := fun obj s₁ => obj = .ref s.heap.objs.size ∧ s₁ = { s with heap := s.heap.push { cls := .type "list", data := .seq #[] } }) PySem.F.called_list (PySem.F.typeCall_list_1 _) PySem.F.entry_list_init
    (code_list_new _ ⟨rfl, rfl⟩) fun obj s₁ h₁ => ?_
  obtain ⟨rfl, rfl⟩ := h₁
  have hS : (s.heap.push { cls := .type "list", data := .seq #[] }).get? s.heap.objs.size = some { cls := .type "list", data := .seq #[] } := Heap.get?_push_size _ rfl
  refine ⟨⟨_, hS, rfl⟩, PySem.F.args_list_init_2 _ _, ?_⟩
  show wpAny _ _ (do let old ← Builtin.List.listItems (.ref s.heap.objs.size); Builtin.List.listUpdate (.ref s.heap.objs.size) (fun _ => #[]); letGo old.toList.reverse; Builtin.List.listExtendWith (.ref s.heap.objs.size) (.str x t) .none) _ _ _
  refine wpAny_bind ?_
  unfold Builtin.List.listItems
  refine wpAny_bind (wpAny_seqItems hS rfl (wpAny_pure ?_))
  show wpAny _ _ (updateSeq s.heap.objs.size (fun _ => #[]) >>= fun _ => letGo (#[] : Array Value).toList.reverse >>= fun _ => Builtin.List.listExtendWith (.ref s.heap.objs.size) (.str x t) .none) _ _ _
  refine wpAny_bind (wpAny_updateSeq hS rfl ?_)
  refine wpAny_bind (wpAny_letGo ?_)
  refine extSigns (A := A.in1) hh x t _ .none _ (Heap.get?_update_self (Obj.mapSeq (fun _ => (#[] : Array Value))) hS rfl) hn fun h' tk acc' c' hk hS' hacc => ?_
  exact ⟨rfl, hQ h' tk acc' c' (fun b o e => hk b o (Nat.ne_of_lt (Heap.lt_size e)) ((Heap.get?_update_other _ _ (Ne.symm (Nat.ne_of_lt (Heap.lt_size e)))).trans (Heap.get?_push_of_some _ e))) hS' hacc⟩
end
def signsV (z : Str) : List V := z.cps.toList.map fun c => .str ⟨#[c]⟩
theorem vals_at : ∀ (xs : List V) (us : List Value), us.length = xs.length → (∀ (j : Nat) (u : Value), us[j]? = some u → ∃ x, xs[j]? = some x ∧ RelV x u) → Vals xs us
  | [], [], _, _ => .nil
  | [], _ :: _, h, _ => by simp at h
  | _ :: _, [], h, _ => by simp at h
  | x :: xs, u :: us, h, k => by
    obtain ⟨y, e, r⟩ := k 0 u rfl
    cases e
    exact .cons r (vals_at xs us (by simpa using h) fun j v e => k (j + 1) v (by simpa using e))
theorem call_listStr {X : Cx} (hc : X.calm = true) : CallR X (.type "list") (fun xs H Q => ∃ z, xs = [.str z] ∧ z.length ≤ sizeLine ∧ ∀ l, H l = none → Q (.ref l) (upd H l (.lst (signsV z)))) := by
  intro pins s σ H xs us Q I r h
  obtain ⟨z, rfl, hz, q⟩ := h
  obtain ⟨u, rfl, t, rfl⟩ := vals1 r
  refine signList (I.ok.hd hc) hz fun h' tk acc c k e it => ?_
  have rv : Vals (signsV z) acc.toList := by
    refine vals_at _ _ (by unfold signsV; rw [Array.length_toList, it.1, List.length_map, Array.length_toList]) fun j u ej => ?_
    rw [Array.getElem?_toList] at ej
    obtain ⟨c, tk, ec, rfl⟩ := it.2 j u ej
    refine ⟨.str ⟨#[c]⟩, ?_, tk, rfl⟩
    unfold signsV
    rw [List.getElem?_map, Array.getElem?_toList, ec]
    rfl
  refine ⟨.ref s.heap.objs.size, _, I.laid (t' := tk) k (Nat.le_refl _) (show ObjOk X.prog X.w _ h' _ (.lst (signsV z)) from ⟨by unfold signsV; rw [List.length_map, Array.length_toList]; exact hz, acc.toList, c, rv, ?_⟩), rfl, q _ (I.hok.fresh (Nat.le_refl _))⟩
  rw [Array.toArray_toList]
  exact e
abbrev rListA (K : KF) : List V → Hp → VK → Prop := fun xs H Q => (∃ p ys, xs = [.ref p] ∧ (SqL K H p ys ∨ SqT K H p ys) ∧ ∀ l, H l = none → Q (.ref l) (upd H l (.lst ys))) ∨ (∃ z, xs = [.str z] ∧ z.length ≤ sizeLine ∧ ∀ l, H l = none → Q (.ref l) (upd H l (.lst (signsV z))))
theorem call_listA {X : Cx} (hc : X.calm = true) : CallR X (.type "list") (rListA X.K) := call_list_of.or (call_listStr hc)
section
variable {K : KF}
def signsP (z : Str) : List PyData := z.cps.toList.map fun c => .str ⟨#[c]⟩
theorem signs_rep {Fz : Addr → Prop} {H : Hp} (z : Str) : RepPs K Fz H (signsP z) (signsV z) := by
  unfold signsP signsV
  induction z.cps.toList with
  | nil => rfl
  | cons c r ih => exact ⟨_, _, rfl, rfl, ih⟩
def lstP : PyData → Option PyData
  | .list ds => some (.list ds)
  | .tuple ds => some (.list ds)
  | .str z => if z.length ≤ sizeLine then some (.list (signsP z)) else none
  | _ => none
theorem call_lstA : CallP K (rListA K) lstP := by
  intro w x p z Q ok rx e a
  cases p with
  | list ds =>
    cases e
    obtain ⟨b, vs, rfl, ht, hr⟩ := rx
    exact .inl ⟨b, vs, rfl, .inl ht, a.newL ok hr⟩
  | tuple ds =>
    cases e
    obtain ⟨b, vs, rfl, ht, hr⟩ := rx
    exact .inl ⟨b, vs, rfl, .inr ht, a.newL ok hr⟩
  | str t =>
    simp only [lstP] at e
    split at e
    · rename_i hz
      cases e
      exact .inr ⟨t, by rw [show x = V.str t from rx], hz, a.newL ok (signs_rep t)⟩
    · cases e
  | _ => cases e
end

/-! ## join -/
section
variable {K : KF}
abbrev rJoin (K : KF) : V → List V → Hp → VK → Prop := fun x xs H Q => ∃ a p, ∃ ys : List Str, x = .str a ∧ xs = [.ref p] ∧ (SqL K H p (ys.map V.str) ∨ SqT K H p (ys.map V.str)) ∧
    (ys.map (·.length)).sum + ys.length * a.length ≤ 16777216 ∧ Q (.str (Txt.join a ys)) H
/-- a method that changes nothing, of data -/
def MtP (K : KF) (r : V → List V → Hp → VK → Prop) (g : PyData → List PyData → Option PyData) : Prop :=
  ∀ (w : Wd) (x : V) (xs : List V) (p : PyData) (ps : List PyData) (z : PyData) (Q : VK), w.Ok K → RepS K w p x → RepSs K w ps xs → g p ps = some z → After K w (.v z) Q → r x xs w.H Q
where RepSs (K : KF) (w : Wd) : List PyData → List V → Prop
  | [], vs => vs = []
  | d :: ds, vs => ∃ v r, vs = v :: r ∧ RepS K w d v ∧ RepSs K w ds r
def shals (h : Hs) : List D → Option (List PyData)
  | [] => some []
  | d :: r => match shal h d, shals h r with
    | some p, some ps => some (p :: ps)
    | _, _ => none
def liftM (g : PyData → List PyData → Option PyData) : D → List D → Hs → Option (D × Hs) := fun o ds h => match shal h o, shals h ds with
  | some p, some ps => (g p ps).map fun z => (.v z, h)
  | _, _ => none
theorem shals_rep {w : Wd} (ok : w.Ok K) : ∀ {ds : List D} {ps : List PyData} {vs : List V}, RepDs K w ds vs → shals w.h ds = some ps → MtP.RepSs K w ps vs
  | [], ps, vs, r, e => by
    cases e
    exact r
  | d :: ds, ps, vs, ⟨v, vr, ev, h1, h2⟩, e => by
    simp only [shals] at e
    cases q : shal w.h d with
    | none => simp [q] at e
    | some p =>
      cases q2 : shals w.h ds with
      | none => simp [q, q2] at e
      | some ps' =>
        simp [q, q2] at e
        subst e
        exact ⟨v, vr, ev, shal_rep ok h1 q, shals_rep ok h2 q2⟩
theorem MtP.d {r : V → List V → Hp → VK → Prop} {g : PyData → List PyData → Option PyData} (m : MtP K r g) : MtD K r (liftM g) := by
  intro w x xs dx ds dz h' Q ok rx rs e a
  unfold liftM at e
  cases q : shal w.h dx with
  | none => simp [q] at e
  | some p =>
    cases q2 : shals w.h ds with
    | none => simp [q, q2] at e
    | some ps =>
      simp only [q, q2, Option.map_eq_some_iff] at e
      obtain ⟨z, ez, e2⟩ := e
      cases e2
      exact m w x xs p ps z Q ok (shal_rep ok rx q) (shals_rep ok rs q2) ez a
def joinOk (a : Str) (ys : List Str) : Bool := decide ((ys.map (·.length)).sum + ys.length * a.length ≤ 16777216)
def joinP : PyData → List PyData → Option PyData
  | .str a, [.list ds] => match texts ds with
    | some ys => if joinOk a ys = true then some (.str (Txt.join a ys)) else none
    | none => none
  | .str a, [.tuple ds] => match texts ds with
    | some ys => if joinOk a ys = true then some (.str (Txt.join a ys)) else none
    | none => none
  | _, _ => none
theorem mt_joinP : MtP K (rJoin K) joinP := by
  intro w x xs p ps z Q ok rx rs e a
  unfold joinP at e
  split at e
  · rename_i b ds
    obtain ⟨v, vr, rfl, ⟨q, vs, rfl, ht, hr⟩, h2⟩ := rs
    cases (show vr = [] from h2)
    cases et : texts ds with
    | none => simp [et] at e
    | some ys =>
      simp only [et] at e
      split at e
      · rename_i hj
        cases e
        rw [texts_rep et hr] at ht
        exact ⟨b, q, ys, rx, rfl, .inl ht, of_decide_eq_true hj, a.here ok rfl⟩
      · cases e
  · rename_i b ds
    obtain ⟨v, vr, rfl, ⟨q, vs, rfl, ht, hr⟩, h2⟩ := rs
    cases (show vr = [] from h2)
    cases et : texts ds with
    | none => simp [et] at e
    | some ys =>
      simp only [et] at e
      split at e
      · rename_i hj
        cases e
        rw [texts_rep et hr] at ht
        exact ⟨b, q, ys, rx, rfl, .inr ht, of_decide_eq_true hj, a.here ok rfl⟩
      · cases e
  · cases e
end
end Vl
set_option maxHeartbeats 4000000
namespace Vl
open PySem PySem.Spec PyProof.Rows L2

/-! ## dict displays -/
def ofKey : Key → PyData
  | .inl i => .int i
  | .inr z => .str z
theorem keyP_of (k : Key) : keyP (ofKey k) = some k := by cases k <;> rfl
def putG {α : Type} (kvs : List (Key × α)) (k : Key) (v : α) : List (Key × α) :=
  if (kvs.any fun kv => decide (kv.1 = k)) = true then kvs.map (fun kv => if kv.1 = k then (kv.1, v) else kv) else kvs ++ [(k, v)]
def mergeG {α : Type} (kvs more : List (Key × α)) : List (Key × α) := more.foldl (fun acc kv => putG acc kv.1 kv.2) kvs
def kvP (kvs : List (Key × PyData)) : List (PyData × PyData) := kvs.map fun kv => (ofKey kv.1, kv.2)
section
variable {K : KF} {Fz : Addr → Prop} {H : Hp}
theorem RepKs.head {k : Key} {d : PyData} {r : List (Key × PyData)} {vs : List (Key × V)} (h : RepKs K Fz H (kvP ((k, d) :: r)) vs) : ∃ v t, vs = (k, v) :: t ∧ RepP K Fz H d v ∧ RepKs K Fz H (kvP r) t := by
  obtain ⟨q, v, t, e, hk, h1, h2⟩ := h
  rw [keyP_of] at hk
  cases hk
  exact ⟨v, t, e, h1, h2⟩
theorem RepKs.mk {k : Key} {d : PyData} {r : List (Key × PyData)} {v : V} {t : List (Key × V)} (h1 : RepP K Fz H d v) (h2 : RepKs K Fz H (kvP r) t) : RepKs K Fz H (kvP ((k, d) :: r)) ((k, v) :: t) := ⟨k, v, t, rfl, keyP_of k, h1, h2⟩
theorem RepKs.any (k : Key) : ∀ {kvs : List (Key × PyData)} {vs : List (Key × V)}, RepKs K Fz H (kvP kvs) vs → (kvs.any fun kv => decide (kv.1 = k)) = vs.any fun kv => decide (kv.1 = k)
  | [], vs, h => by rw [show vs = [] from h]; rfl
  | (j, d) :: r, vs, h => by
    obtain ⟨v, t, rfl, _, h2⟩ := RepKs.head h
    rw [List.any_cons, List.any_cons, RepKs.any k h2]
theorem RepKs.len : ∀ {kvs : List (Key × PyData)} {vs : List (Key × V)}, RepKs K Fz H (kvP kvs) vs → vs.length = kvs.length
  | [], vs, h => by rw [show vs = [] from h]; rfl
  | (j, d) :: r, vs, h => by
    obtain ⟨v, t, rfl, _, h2⟩ := RepKs.head h
    rw [List.length_cons, List.length_cons, RepKs.len h2]
theorem RepKs.repl (k : Key) {d : PyData} {v : V} (h1 : RepP K Fz H d v) : ∀ {kvs : List (Key × PyData)} {vs : List (Key × V)}, RepKs K Fz H (kvP kvs) vs → RepKs K Fz H (kvP (kvs.map fun kv => if kv.1 = k then (kv.1, d) else kv)) (vs.map fun kv => if kv.1 = k then (kv.1, v) else kv)
  | [], vs, h => by rw [show vs = [] from h]; rfl
  | (j, e) :: r, vs, h => by
    obtain ⟨u, t, rfl, hu, h2⟩ := RepKs.head h
    rw [List.map_cons, List.map_cons]
    by_cases z : j = k
    · simp only [z, if_true]
      exact RepKs.mk h1 (RepKs.repl k h1 h2)
    · simp only [z, if_false]
      exact RepKs.mk hu (RepKs.repl k h1 h2)
theorem RepKs.app : ∀ {kvs more : List (Key × PyData)} {vs us : List (Key × V)}, RepKs K Fz H (kvP kvs) vs → RepKs K Fz H (kvP more) us → RepKs K Fz H (kvP (kvs ++ more)) (vs ++ us)
  | [], _, vs, _, h, h' => by rw [show vs = [] from h]; exact h'
  | (j, e) :: r, _, vs, _, h, h' => by
    obtain ⟨u, t, rfl, hu, h2⟩ := RepKs.head h
    exact RepKs.mk hu (RepKs.app h2 h')
theorem RepKs.put (k : Key) {d : PyData} {v : V} (h1 : RepP K Fz H d v) {kvs : List (Key × PyData)} {vs : List (Key × V)} (h : RepKs K Fz H (kvP kvs) vs) : RepKs K Fz H (kvP (putG kvs k d)) (putK vs k v) := by
  unfold putG putK
  rw [RepKs.any k h]
  split
  · exact RepKs.repl k h1 h
  · exact RepKs.app h (RepKs.mk h1 (show RepKs K Fz H (kvP []) [] from rfl))
theorem RepKs.merge : ∀ {more kvs : List (Key × PyData)} {us vs : List (Key × V)}, RepKs K Fz H (kvP more) us → RepKs K Fz H (kvP kvs) vs → RepKs K Fz H (kvP (mergeG kvs more)) (mergeK vs us)
  | [], _, us, _, h, h' => by rw [show us = [] from h]; exact h'
  | (j, e) :: r, _, us, _, h, h' => by
    obtain ⟨u, t, rfl, hu, h2⟩ := RepKs.head h
    have q := RepKs.merge h2 (RepKs.put j hu h')
    exact q
end
def pairsM : List (EM × EM) → Sl → Hs → Option (List (D × D) × Hs)
  | [], _, h => some ([], h)
  | (f, g) :: r, s, h => match f s h with
    | some (.ok x h1) => match g s h1 with
      | some (.ok y h2) => match pairsM r s h2 with
        | some (ps, h3) => some ((x, y) :: ps, h3)
        | none => none
      | _ => none
    | _ => none
def RepPr (K : KF) (w : Wd) : List (D × D) → List (V × V) → Prop
  | [], vs => vs = []
  | (x, y) :: r, vs => ∃ a b t, vs = (a, b) :: t ∧ RepD K w x a ∧ RepD K w y b ∧ RepPr K w r t
theorem tPairs_of {K : KF} {mg : Str → Option Value} {W : WX} {σ : L2.St} {sl : Sl} {h' : Hs} : ∀ {fs : List (EM × EM)} {ps : List (D × D)} {w : Wd} {Q : List (V × V) → Hp → Prop}, w.Ok K → SRep K w sl σ → pairsM fs sl w.h = some (ps, h') →
    (∀ w' vs, w.Le w' → w'.Ok K → w'.h = h' → RepPr K w' ps vs → Q vs w'.H) → tPairs (fs.map fun f => (tI K mg W f.1, tI K mg W f.2)) σ w.H Q
  | [], ps, w, Q, ok, hs, e, q => by
    cases e
    exact q w [] (Wd.Le.refl w) ok rfl rfl
  | (f, g) :: r, ps, w, Q, ok, hs, e, q => by
    simp only [pairsM] at e
    cases e1 : f sl w.h with
    | none => simp [e1] at e
    | some r1 =>
      cases r1 with
      | ex x h1 => simp [e1] at e
      | ok dx h1 =>
        simp only [e1] at e
        refine ⟨w, sl, rfl, ok, hs, ?_⟩
        show WpE K mg W σ (f sl w.h) w _
        rw [e1]
        intro w1 x l1 ok1 eh1 rx
        subst eh1
        cases e2 : g sl w1.h with
        | none => simp [e2] at e
        | some r2 =>
          cases r2 with
          | ex x h1 => simp [e2] at e
          | ok dy h2 =>
            simp only [e2] at e
            refine ⟨w1, sl, rfl, ok1, hs.mono ok l1, ?_⟩
            show WpE K mg W σ (g sl w1.h) w1 _
            rw [e2]
            intro w2 y l2 ok2 eh2 ry
            subst eh2
            cases e3 : pairsM r sl w2.h with
            | none => simp [e3] at e
            | some r3 =>
              obtain ⟨ps', h3⟩ := r3
              simp only [e3] at e
              cases e
              exact tPairs_of ok2 ((hs.mono ok l1).mono ok1 l2) e3 fun w3 vs l3 ok3 eh3 rp => q w3 ((x, y) :: vs) ((l1.trans l2 ok1).trans l3 ok2) ok3 eh3 ⟨x, y, vs, rfl, RepD.mono ok2 l3 dx (RepD.mono ok1 l2 dx rx), RepD.mono ok2 l3 dy ry, rp⟩
def keysOf : List (D × D) → Option (List (Key × PyData))
  | [] => some []
  | (x, y) :: r => match unv x, unv y, keysOf r with
    | some p, some q, some ks => match keyP p with
      | some k => some ((k, q) :: ks)
      | none => none
    | _, _, _ => none
theorem keyP_V {K : KF} {Fz : Addr → Prop} {H : Hp} {p : PyData} {k : Key} {v : V} (e : keyP p = some k) (r : RepP K Fz H p v) : v = kV k := by
  cases p with
  | int i => cases e; exact r
  | str i => cases e; exact r
  | _ => cases e
theorem keysOf_rep {K : KF} {w : Wd} : ∀ {ps : List (D × D)} {ks : List (Key × PyData)} {vs : List (V × V)}, keysOf ps = some ks → RepPr K w ps vs → ∃ us : List (Key × V), vs = us.map (fun kv => (kV kv.1, kv.2)) ∧ RepKs K w.Fz w.H (kvP ks) us
  | [], ks, vs, e, r => by
    cases e
    exact ⟨[], r, rfl⟩
  | (x, y) :: ps, ks, vs, e, ⟨a, b, t, ev, ra, rb, rt⟩ => by
    simp only [keysOf] at e
    cases x with
    | v p =>
      cases y with
      | v q =>
        cases e3 : keysOf ps with
        | none => simp [unv, e3] at e
        | some ks' =>
          simp only [unv, e3] at e
          cases e4 : keyP p with
          | none => simp [e4] at e
          | some k =>
            simp only [e4] at e
            cases e
            obtain ⟨us, rfl, h2⟩ := keysOf_rep e3 rt
            subst ev
            exact ⟨(k, b) :: us, by rw [List.map_cons, ← keyP_V e4 ra], RepKs.mk rb h2⟩
      | ref n => cases e
      | mix n => cases e
    | ref n => cases e
    | mix n => cases e
def eDct (fs : List (EM × EM)) : EM := fun s h => match pairsM fs s h with
  | some (ps, h1) => match keysOf ps with
    | some ks => if ks.length ≤ 15 then some (.ok (.v (.dict (kvP (mergeG [] ks)))) h1) else none
    | none => none
  | none => none
theorem Wd.fz_ok {K : KF} {w : Wd} {p : Addr} (ok : w.Ok K) (hi : p ∉ w.ι) (ht : w.H p ≠ none) : ({ w with Fz := fun a => w.Fz a ∨ a = p } : Wd).Ok K where
  nd := ok.nd
  len := ok.len
  cell := fun n a c ha hc => by
    have := ok.cell n a c ha hc
    cases c with
    | lst es =>
      obtain ⟨us, e, r⟩ := this
      exact ⟨us, e, RepDs.fz (w' := { w with Fz := fun a => w.Fz a ∨ a = p }) (fun _ z => .inl z) rfl rfl _ r⟩
  apart := fun a z => by
    rcases z with z | z
    · exact ok.apart a z
    · subst z
      exact hi
  there := fun a z => by
    rcases z with z | z
    · exact ok.there a z
    · subst z
      exact ht
section
variable {X : Cx} {W : WX} {keys : List (Option Expr)} {values : List Expr} {fs : List (EM × EM)} {pos : Pos}
theorem se_dct (h : PPs X pos keys values (fs.map fun f => (tI X.K X.mg W f.1, tI X.K X.mg W f.2))) (hall : keys.all (·.isSome) = true := by rfl) (hl : keys.length = values.length := by rfl) (h0 : keys ≠ [] := by exact fun z => by cases z) (h15 : keys.length ≤ 15 := by decide) : SE X W (.Dict keys values pos) (eDct fs) :=
  PE.mono' (pe_disp h hall hl h0 h15) fun σ H Q ⟨w, sl, eH, ok, hs, hw⟩ => by
    subst eH
    intro p hp
    unfold eDct at hw
    cases e1 : pairsM fs sl w.h with
    | none => simp only [e1] at hw; exact hw.elim
    | some r =>
      obtain ⟨ps, h1⟩ := r
      simp only [e1] at hw
      cases e2 : keysOf ps with
      | none => simp only [e2] at hw; exact hw.elim
      | some ks =>
        simp only [e2] at hw
        split at hw
        · rename_i hk
          have l0 : w.Le (w.newT p (.dK [])) := Wd.newT_le hp
          have ok0 : (w.newT p (.dK [])).Ok X.K := Wd.newT_ok ok hp
          refine tPairs_of (w := w.newT p (.dK [])) ok0 (hs.mono ok l0) e1 fun w2 vs l2 ok2 eh2 rp => ?_
          have pI : p ∉ w.ι := fun z => by
            obtain ⟨us, e⟩ := ok.tracked z
            rw [hp] at e
            cases e
          have pF : ¬ w.Fz p := fun z => ok.there p z hp
          have p0 : (w.newT p (.dK [])).H p = some (.dK []) := upd_same
          have p2 : w2.H p = some (.dK []) := l2.keep p _ p0 pI
          have i2 : p ∉ w2.ι := fun z => by
            obtain ⟨m, em, hm⟩ := l2.more
            rw [em] at z
            rcases List.mem_append.mp z with z | z
            · exact pI z
            · rw [hm p z] at p0; cases p0
          have f2 : ¬ w2.Fz p := fun z => by
            rcases l2.new p z with z | z
            · exact pF z
            · rw [p0] at z; cases z
          obtain ⟨us, rfl, hr⟩ := keysOf_rep e2 rp
          refine ⟨p2, us, rfl, by rw [RepKs.len hr]; exact hk, ?_⟩
          have hm : RepKs X.K w2.Fz w2.H (kvP (mergeG [] ks)) (mergeK [] us) := RepKs.merge hr (show RepKs X.K w2.Fz w2.H (kvP []) [] from rfl)
          have hm2 := RepKs.poke (o := .dK (mergeK [] us)) f2 p2 _ hm
          have ok3 : (w2.newT p (.dK (mergeK [] us))).Ok X.K := Wd.poke_ok ok2 f2 i2 p2
          have ok4 := Wd.fz_ok (p := p) ok3 i2 (by
            show upd w2.H p _ p ≠ none
            rw [upd_same]
            exact fun z => by cases z)
          refine hw { w2.newT p (.dK (mergeK [] us)) with Fz := fun a => w2.Fz a ∨ a = p } (.ref p) ⟨?_, fun a z => .inl (l2.up a z), fun a z => ?_, fun b o hb hi => ?_⟩ ok4 eh2 ?_
          · obtain ⟨m, em, hm⟩ := l2.more
            refine ⟨m, em, fun a ha => ?_⟩
            have := hm a ha
            by_cases e : a = p
            · subst e
              exact hp
            · rw [show (w.newT p (.dK [])).H a = w.H a from upd_ne e] at this
              exact this
          · rcases z with z | z
            · rcases l2.new a z with z | z
              · exact .inl z
              · by_cases e : a = p
                · subst e
                  exact .inr hp
                · rw [show (w.newT p (.dK [])).H a = w.H a from upd_ne e] at z
                  exact .inr z
            · subst z
              exact .inr hp
          · show upd w2.H p _ b = some o
            rw [upd_ne (ne_of_none hb hp)]
            exact l2.keep b o (by rw [show (w.newT p (.dK [])).H b = w.H b from upd_ne (ne_of_none hb hp)]; exact hb) hi
          · exact ⟨p, mergeK [] us, rfl, .inr rfl, .inl upd_same, RepKs.same (fun _ _ z => z) (fun _ z => .inl z) _ hm2⟩
        · exact hw.elim
end
end Vl
set_option maxHeartbeats 4000000
namespace Vl
open PySem PySem.Spec PyProof.Rows L2

/-! ## small things for printed texts -/
theorem u65 {k : Nat} {A : Around} (r : Room k A) : A.units + 65 < cLine := by have := r.un; omega
theorem al_nil : ∀ s h ds h', eNil s h = some (.ok ds h') → ds.length = 0 := fun s h ds h' e => by
  cases e
  rfl
theorem al_cons {n : Nat} {f : EM} {g : AM} (i : ∀ s h ds h', g s h = some (.ok ds h') → ds.length = n) : ∀ s h ds h', eCons f g s h = some (.ok ds h') → ds.length = n + 1 := fun s h ds h' e => by
  unfold eCons at e
  cases e1 : f s h with
  | none => simp [e1] at e
  | some r =>
    cases r with
    | ex x h1 => simp [e1] at e
    | ok d h1 =>
      simp only [e1] at e
      cases e2 : g s h1 with
      | none => simp [e2] at e
      | some r2 =>
        cases r2 with
        | ex x h2 => simp [e2] at e
        | ok es h2 =>
          simp only [e2] at e
          cases e
          rw [List.length_cons, i _ _ _ _ e2]
section
variable {X : Cx} {W : WX} {pos : Pos} {x : Str}
theorem se_gInt {i : Int} (hg : Gl X x) (h : ∃ t, X.mg x = some (.int i t)) (hd : (x == ("__debug__" : Str)) = false := by decide) : SE X W (.Name x pos) (eC (.int i)) :=
  let ⟨t, e⟩ := h
  se_glob (v := .int i) hg e ⟨t, rfl⟩ (fun _ => rfl) hd
theorem se_gStr {z : Str} (hg : Gl X x) (h : ∃ t, X.mg x = some (.str z t)) (hd : (x == ("__debug__" : Str)) = false := by decide) : SE X W (.Name x pos) (eC (.str z)) :=
  let ⟨t, e⟩ := h
  se_glob (v := .str z) hg e ⟨t, rfl⟩ (fun _ => rfl) hd
end
def eAdd (f g : EM) : EM := eBin (lift2 addP) f g
def eSub (f g : EM) : EM := eBin (lift2 subP) f g
def eMul (f g : EM) : EM := eBin (lift2 mulP) f g
def eFdiv (f g : EM) : EM := eBin (lift2 fdivP) f g
def eMod (f g : EM) : EM := eBin (lift2 modP) f g
def ePow (f g : EM) : EM := eBin (lift2 powP) f g
def eEq (f g : EM) : EM := eBin (eqD false) f g
def eNe (f g : EM) : EM := eBin (eqD true) f g
def eLt (f g : EM) : EM := eBin (lift2 ltP) f g
def eLe (f g : EM) : EM := eBin (lift2 leP) f g
def eGt (f g : EM) : EM := eBin (lift2 gtP) f g
def eGe (f g : EM) : EM := eBin (lift2 geP) f g
def eIn (f g : EM) : EM := eBin (lift2 (inP false)) f g
def eNin (f g : EM) : EM := eBin (lift2 (inP true)) f g
def eIsN (f g : EM) : EM := eBin (isND false) f g
def eNisN (f g : EM) : EM := eBin (isND true) f g
def eIs (f g : EM) : EM := eBin (lift2 (isBP false)) f g
def eNis (f g : EM) : EM := eBin (lift2 (isBP true)) f g
def eIx (f g : EM) : EM := eBin ixD f g
def eNeg (f : EM) : EM := eUn (lift1 negP) f
section
variable {X : Cx} {W : WX} {a b : Expr} {f g : EM} {pos : Pos}
theorem se_add (ha : SE X W a f) (hb : SE X W b g) : SE X W (.BinOp a .Add b pos) (eAdd f g) := se_op op_addR op_addP.d ha hb
theorem se_sub (ha : SE X W a f) (hb : SE X W b g) : SE X W (.BinOp a .Sub b pos) (eSub f g) := se_op op_sub op_subP.d ha hb
theorem se_mul (ha : SE X W a f) (hb : SE X W b g) : SE X W (.BinOp a .Mult b pos) (eMul f g) := se_op op_mulR op_mulP.d ha hb
theorem se_fdiv (ha : SE X W a f) (hb : SE X W b g) : SE X W (.BinOp a .FloorDiv b pos) (eFdiv f g) := se_op op_fdiv op_fdivP.d ha hb
theorem se_mod (ha : SE X W a f) (hb : SE X W b g) : SE X W (.BinOp a .Mod b pos) (eMod f g) := se_op op_mod op_modP.d ha hb
theorem se_pow (ha : SE X W a f) (hb : SE X W b g) : SE X W (.BinOp a .Pow b pos) (ePow f g) := se_op op_pow op_powP.d ha hb
theorem se_neg (ha : SE X W a f) : SE X W (.UnaryOp .USub a pos) (eNeg f) := se_un un_neg un_negP.d ha
theorem se_idx (ha : SE X W a f) (hb : SE X W b g) (hs : PlainIx b) : SE X W (.Subscript a b pos) (eIx f g) := se_ix ix_seq op_ixD ha hb hs
variable {k : Nat}
theorem se_eq (hr : Room k X.A) (ha : SE X W a f) (hb : SE X W b g) : SE X W (.Compare a [.Eq] [b] pos) (eEq f g) := se_cmp (op_eqD hr.units) op_eqDD ha hb (nomark _)
theorem se_ne (hr : Room k X.A) (ha : SE X W a f) (hb : SE X W b g) : SE X W (.Compare a [.NotEq] [b] pos) (eNe f g) := se_cmp (op_neD hr.units) op_neDD ha hb (nomark _)
theorem se_lt (ha : SE X W a f) (hb : SE X W b g) : SE X W (.Compare a [.Lt] [b] pos) (eLt f g) := se_cmp op_lt op_ltP.d ha hb (nomark _)
theorem se_le (ha : SE X W a f) (hb : SE X W b g) : SE X W (.Compare a [.LtE] [b] pos) (eLe f g) := se_cmp op_le op_leP.d ha hb (nomark _)
theorem se_gt (ha : SE X W a f) (hb : SE X W b g) : SE X W (.Compare a [.Gt] [b] pos) (eGt f g) := se_cmp op_gt op_gtP.d ha hb (nomark _)
theorem se_ge (ha : SE X W a f) (hb : SE X W b g) : SE X W (.Compare a [.GtE] [b] pos) (eGe f g) := se_cmp op_ge op_geP.d ha hb (nomark _)
theorem se_in (hr : Room k X.A) (ha : SE X W a f) (hb : SE X W b g) (hm : behindInMarks .In b = false := by with_unfolding_all rfl) : SE X W (.Compare a [.In] [b] pos) (eIn f g) := se_cmp (op_inR (u65 hr)) (op_inP false).d ha hb hm
theorem se_nin (hr : Room k X.A) (ha : SE X W a f) (hb : SE X W b g) (hm : behindInMarks .NotIn b = false := by with_unfolding_all rfl) : SE X W (.Compare a [.NotIn] [b] pos) (eNin f g) := se_cmp (op_notInR (u65 hr)) (op_inP true).d ha hb hm
theorem se_isN (ha : SE X W a f) (hb : SE X W b g) : SE X W (.Compare a [.Is] [b] pos) (eIsN f g) := se_cmp op_isN op_isNDD ha hb (nomark _)
theorem se_nisN (ha : SE X W a f) (hb : SE X W b g) : SE X W (.Compare a [.IsNot] [b] pos) (eNisN f g) := se_cmp op_notN op_notNDD ha hb (nomark _)
theorem se_is (ha : SE X W a f) (hb : SE X W b g) : SE X W (.Compare a [.Is] [b] pos) (eIs f g) := se_cmp op_isBl op_isBP.d ha hb (nomark _)
theorem se_nis (ha : SE X W a f) (hb : SE X W b g) : SE X W (.Compare a [.IsNot] [b] pos) (eNis f g) := se_cmp op_notBl op_notBP.d ha hb (nomark _)
theorem st_eq (hr : Room k X.A) (ha : SE X W a f) (hb : SE X W b g) : ST X W (.Compare a [.Eq] [b] pos) (tBl (eEq f g)) := st_cmp (op_eqD hr.units) op_eqDD ha hb (nomark _)
theorem st_ne (hr : Room k X.A) (ha : SE X W a f) (hb : SE X W b g) : ST X W (.Compare a [.NotEq] [b] pos) (tBl (eNe f g)) := st_cmp (op_neD hr.units) op_neDD ha hb (nomark _)
theorem st_lt (ha : SE X W a f) (hb : SE X W b g) : ST X W (.Compare a [.Lt] [b] pos) (tBl (eLt f g)) := st_cmp op_lt op_ltP.d ha hb (nomark _)
theorem st_le (ha : SE X W a f) (hb : SE X W b g) : ST X W (.Compare a [.LtE] [b] pos) (tBl (eLe f g)) := st_cmp op_le op_leP.d ha hb (nomark _)
theorem st_gt (ha : SE X W a f) (hb : SE X W b g) : ST X W (.Compare a [.Gt] [b] pos) (tBl (eGt f g)) := st_cmp op_gt op_gtP.d ha hb (nomark _)
theorem st_ge (ha : SE X W a f) (hb : SE X W b g) : ST X W (.Compare a [.GtE] [b] pos) (tBl (eGe f g)) := st_cmp op_ge op_geP.d ha hb (nomark _)
theorem st_in (hr : Room k X.A) (ha : SE X W a f) (hb : SE X W b g) (hm : behindInMarks .In b = false := by with_unfolding_all rfl) : ST X W (.Compare a [.In] [b] pos) (tBl (eIn f g)) := st_cmp (op_inR (u65 hr)) (op_inP false).d ha hb hm
theorem st_nin (hr : Room k X.A) (ha : SE X W a f) (hb : SE X W b g) (hm : behindInMarks .NotIn b = false := by with_unfolding_all rfl) : ST X W (.Compare a [.NotIn] [b] pos) (tBl (eNin f g)) := st_cmp (op_notInR (u65 hr)) (op_inP true).d ha hb hm
theorem st_isN (ha : SE X W a f) (hb : SE X W b g) : ST X W (.Compare a [.Is] [b] pos) (tBl (eIsN f g)) := st_cmp op_isN op_isNDD ha hb (nomark _)
theorem st_nisN (ha : SE X W a f) (hb : SE X W b g) : ST X W (.Compare a [.IsNot] [b] pos) (tBl (eNisN f g)) := st_cmp op_notN op_notNDD ha hb (nomark _)
theorem st_is (ha : SE X W a f) (hb : SE X W b g) : ST X W (.Compare a [.Is] [b] pos) (tBl (eIs f g)) := st_cmp op_isBl op_isBP.d ha hb (nomark _)
theorem st_nis (ha : SE X W a f) (hb : SE X W b g) : ST X W (.Compare a [.IsNot] [b] pos) (tBl (eNis f g)) := st_cmp op_notBl op_notBP.d ha hb (nomark _)
end
/-- the law's own body: nothing leaves it -/
theorem fn_okL {P : Program} {w : World} {K : KF} {mg : Str → Option Value} {base : Heap} {x qual : Str} {params : Arguments} {body : List Stmt} {scope : Scope} {f : Addr} {fd : FuncData} {N ps : List Str} {k : Nat} {b : SM} {F : Fn}
    (Fd : FunD K x qual params body scope [] [] f fd) (S : FnScope N ps scope) (hF : F = mkFn N.length b)
    (hb : ∀ (cdv : Value) (A : Around) (outer : List Env) (s : Shared) (H : Hp) (E : XK), Room k (A.deeper (envOfC qual scope s.heap.objs.size f cdv)) →
      SSs (cxOf CX0 P w K mg base N qual scope f cdv A outer s H E) W0 body b) : FnOk P w K mg base CX0 (k + 1) f fd ps (fun vs H Q _ => spF K mg ps.length F vs H Q fun _ _ _ => False) := by
  subst hF
  refine Fd.ok S (fun vs H Q E ⟨w, ds, _, _, r, hl, _⟩ => r.len.trans hl) fun cdv A outer s H vs Q E hr hsp => ?_
  obtain ⟨w1, ds, rfl, ok, r, hl, hw⟩ := hsp
  refine ⟨_, hb cdv A outer s w1.H E hr, ⟨w1, ds.map some ++ List.replicate (N.length - ds.length) none, rfl, ok, srep_start r, ?_⟩⟩
  unfold mkFn WpF at hw
  unfold WpS
  cases e : b (ds.map some ++ List.replicate (N.length - ds.length) none) w1.h with
  | none => simp only [e] at hw
  | some r =>
    cases r with
    | nx s1 h1 =>
      simp only [e] at hw
      exact fun w' σ' l o eh _ => hw w' .non l o eh rfl
    | rt d h1 =>
      simp only [e] at hw
      exact hw
    | bk s1 h1 => simp only [e] at hw
    | ct s1 h1 => simp only [e] at hw
    | ex s1 x h1 =>
      simp only [e] at hw
      exact fun w' σ' cls da l o eh _ r => hw w' cls da l o eh r
/-- the law answers True -/
theorem law_sp {K : KF} {mg : Str → Option Value} {F : Fn} {H : Hp} {a : Addr} {ns : List Int} (hS : SqL K H a (ns.map V.int)) (h : ∃ h', F [.v (.list (ns.map .int))] [] = some (.rt (.v (.bool true)) h')) :
    spF K mg 1 F [.ref a] H (fun v _ => v = .bl true) fun _ _ _ => False := by
  have hr : ∀ Fz, RepPs K Fz H (ns.map .int) (ns.map V.int) := fun Fz => by
    clear h hS
    induction ns with
    | nil => rfl
    | cons n r ih => exact ⟨_, _, rfl, rfl, ih⟩
  obtain ⟨h', e⟩ := h
  rcases hS with hS | hS
  · refine ⟨⟨[], fun b => b = a, [], H⟩, [.v (.list (ns.map .int))], rfl, ⟨List.nodup_nil, rfl, fun n a c h => (by simp at h), fun _ _ z => (by cases z), fun b e => ?_⟩, ⟨.ref a, [], rfl, ⟨a, _, rfl, .inl ⟨rfl, hS⟩, hr _⟩, rfl⟩, rfl, ?_⟩
    · subst e
      rcases hS with h | ⟨o, h⟩
      · show H b ≠ none
        rw [h]
        exact fun z => by cases z
      · show H b ≠ none
        rw [h]
        exact fun z => by cases z
    · unfold WpF
      show match F _ [] with
        | some (.rt d h') => _
        | some (.ex x h') => _
        | none => False
      rw [e]
      exact fun w' v _ _ _ r => r
  · refine ⟨⟨[], fun _ => False, [], H⟩, [.v (.list (ns.map .int))], rfl, ⟨List.nodup_nil, rfl, fun n a c h => (by simp at h), fun _ _ z => (by cases z), fun b e => e.elim⟩, ⟨.ref a, [], rfl, ⟨a, _, rfl, .inr hS, hr _⟩, rfl⟩, rfl, ?_⟩
    unfold WpF
    show match F _ [] with
      | some (.rt d h') => _
      | some (.ex x h') => _
      | none => False
    rw [e]
    exact fun w' v _ _ _ r => r
end Vl
set_option maxHeartbeats 4000000
namespace Vl
open PySem PySem.Spec PyProof.Rows L2

/-! ## range down -/
def downItems (lo : Int) (n : Nat) : List D := (List.range n).map fun (k : Nat) => .v (.int (lo + k * (-1)))
noncomputable def kRngD : KI := fun ds _ => match ds with
  | [.v (.int i), .v (.int j), .v (.int c)] => if (yes (c = -1) && inLine i && inLine j && yes (i - j ≤ 10000000)) = true then some (downItems i (i - j).toNat, none) else none
  | _ => none
theorem its_down {K : KF} {w : Wd} {lo : Int} {n : Nat} (hn : n ≤ sizeLine) : Its K (Itc lo (-1) n) (downItems lo n) none w where
  len := by unfold downItems; rw [List.length_map, List.length_range]; exact hn
  go := fun i w2 l2 ok2 _ hi => by
    unfold downItems at hi ⊢
    rw [List.length_map, List.length_range] at hi
    refine ⟨hi, fun x H' y => ⟨w2, .v (.int (lo + i * (-1))), Wd.Le.refl w2, ok2, rfl, y.1.symm, ?_, y.2⟩⟩
    rw [List.getElem?_map, List.getElem?_range hi]
    rfl
  stop := fun i w2 l2 ok2 _ hi _ => by
    unfold downItems at hi
    rw [List.length_map, List.length_range] at hi
    exact hi
section
variable {X : Cx} {W : WX} {tg a b c : Expr} {f g k : EM} {pos p : Pos}
theorem si_rngD (hg : Gl X "range") (hm : X.mg "range" = none) (ha : SE X W a f) (hb : SE X W b g) (hc : SE X W c k) (hs : starEach [a, b, c] X.env = (false, eval a X.env) :: starEach [b, c] X.env := by rfl) (hs2 : starEach [b, c] X.env = (false, eval b X.env) :: starEach [c] X.env := by rfl) (hs3 : starEach [c] X.env = (false, eval c X.env) :: starEach [] X.env := by rfl)
    (hpl : (backTo pos (starEach [b, c] X.env)).any (·.1) = false := by rfl) : SI X W tg (.Call (.Name "range" p) [a, b, c] [] pos) (iP (eCons f (eCons g (eCons k eNil))) kRngD) :=
  PI.mono' (pi_range3 hg hm (sa_cons ha (sa_cons hb (sa_cons hc sa_nil hs3) hs2) hs) hs hpl) fun σ H R ⟨w, sl, eH, ok, hs, h⟩ => by
    subst eH
    refine tIP_bind ok hs h fun ds vs w1 items gd l1 ok1 r1 ek q => ?_
    unfold kRngD at ek
    split at ek
    · split at ek
      · rename_i i j cc hb
        cases ek
        rw [Bool.and_eq_true, Bool.and_eq_true, Bool.and_eq_true, yes_iff, yes_iff] at hb
        obtain ⟨⟨⟨rfl, h1⟩, h2⟩, h3⟩ := hb
        obtain ⟨v, vr, rfl, q1, v2, vr2, rfl, q2, v3, vr3, rfl, q3, q4⟩ := r1
        cases (show vr3 = [] from q4)
        cases (show v = V.int i from q1)
        cases (show v2 = V.int j from q2)
        cases (show v3 = V.int (-1) from q3)
        exact ⟨i, j, -1, _, rfl, RgC.neg (inLine_ok h1).1 (inLine_ok h1).2 (inLine_ok h2).1 (inLine_ok h2).2, q _ (its_down (ten_line (by omega)))⟩
      · cases ek
    · cases ek
end
end Vl
set_option maxHeartbeats 4000000
namespace Vl
open PySem PySem.Spec PyProof.Rows L2

/-! ## zip of anything: lists, tuples, texts -/
inductive Src where
  | lst (a : Addr)
  | tup (a : Addr)
  | txt (z : Str)
def Src.v : Src → V
  | .lst a => .ref a
  | .tup a => .ref a
  | .txt z => .str z
def Src.has (K : KF) (H : Hp) : Src → List V → Prop
  | .lst a, xs => SqL K H a xs
  | .tup a, xs => SqT K H a xs
  | .txt z, xs => xs = signsV z
def Src.fp (it : Addr) : Src → List Addr
  | .lst a => [it, a]
  | .tup a => [it, a]
  | .txt _ => [it]
def Src.at (it : Addr) : Src → Nat → Heap → Prop
  | .lst a, i, h => h.IsListIter it a i
  | .tup a, i, h => h.IsTupleIter it a i
  | .txt z, i, h => ∃ t, h.IsStrIter it (strIterType z) z t i
theorem signs_at {z : Str} {i : Nat} {v : Value} (h : ∃ c u, z.cps[i]? = some c ∧ v = .str ⟨#[c]⟩ u) : ∃ x, (signsV z)[i]? = some x ∧ RelV x v := by
  obtain ⟨c, u, hc, rfl⟩ := h
  refine ⟨.str ⟨#[c]⟩, ?_, u, rfl⟩
  unfold signsV
  rw [List.getElem?_map, Array.getElem?_toList, hc]
  rfl
theorem vals_back : ∀ {xs : List V} {us : List Value} {j : Nat} {u : Value}, Vals xs us → us[j]? = some u → ∃ x, xs[j]? = some x ∧ RelV x u
  | _, _, j, _, .nil, h => by simp at h
  | _, _, 0, _, .cons r _, h => by
    cases h
    exact ⟨_, rfl, r⟩
  | _, _, j + 1, _, .cons _ t, h => vals_back (j := j) t (by simpa using h)
section
variable {X : Cx} {pins : List (Addr × Obj)} {σ : L2.St} {H : Hp} {s : Shared} {sr : Src} {it : Addr} {xs ys : List V} {i : Nat}
theorem Src.inj (I : Inv X pins σ H s) (h : sr.has X.K H xs) (h' : sr.has X.K H ys) : xs = ys := by
  cases sr with
  | lst a => exact I.list_inj h h'
  | tup a => exact I.tuple_inj h h'
  | txt z => exact (show xs = signsV z from h).trans (show ys = signsV z from h').symm
theorem Src.obj {h : Heap} (st : sr.at it i h) : ∃ o, h.get? it = some o ∧ ∀ v, o.data ≠ .cell v := by
  cases sr with
  | lst a => obtain ⟨o, e, _, d⟩ := st; exact ⟨o, e, fun v q => by rw [d] at q; cases q⟩
  | tup a => obtain ⟨o, e, _, d⟩ := st; exact ⟨o, e, fun v q => by rw [d] at q; cases q⟩
  | txt z => obtain ⟨t, o, e, _, d⟩ := st; exact ⟨o, e, fun v q => by rw [d] at q; cases q⟩
theorem Src.keep {h h' : Heap} (st : sr.at it i h) (k : ∀ o, h.get? it = some o → h'.get? it = some o) : sr.at it i h' := by
  cases sr with
  | lst a => exact st.at k
  | tup a => exact st.at k
  | txt z => obtain ⟨t, o, e, r⟩ := st; exact ⟨t, o, k o e, r⟩
theorem Src.draws (I : Inv X pins σ H s) (hc : X.calm = true) (hs : ∀ a ∈ sr.fp it, a = it ∨ a ≠ it) (ha : ∀ a, (sr = .lst a ∨ sr = .tup a) → a ≠ it) (h : sr.has X.K H xs) (st : sr.at it i s.heap) :
    ∃ (P : Nat → Value → Prop) (St : Nat → Heap → Prop), Draws X.prog X.w X.A.in1 it (sr.fp it) xs.length P St ∧ (∀ j v, P j v → ∃ x, xs[j]? = some x ∧ RelV x v) ∧ St i s.heap ∧ ∀ j h', St j h' → sr.at it j h' := by
  have hh : X.A.in1.handled = none := I.ok.hd hc
  cases sr with
  | lst a =>
    obtain ⟨its, rv, p, _⟩ := I.list h
    have e : its.toArray.size = xs.length := by rw [List.size_toArray, rv.length]
    refine ⟨fun j v => its.toArray[j]? = some v, fun j h' => h'.IsListIter it a j ∧ h'.IsList a its.toArray, e ▸ Draws.list hh it a (ha a (.inl rfl)) its.toArray, fun j v hv => ?_, ⟨st, p.isList⟩, fun j h' z => z.1⟩
    obtain ⟨x, hx, rx⟩ := vals_back rv (by simpa using hv)
    exact ⟨x, hx, rx⟩
  | tup a =>
    obtain ⟨its, rv, p, _⟩ := I.tuple h
    have e : its.toArray.size = xs.length := by rw [List.size_toArray, rv.length]
    refine ⟨fun j v => its.toArray[j]? = some v, fun j h' => h'.IsTupleIter it a j ∧ h'.IsTuple a its.toArray, e ▸ Draws.tuple hh it a (ha a (.inr rfl)) its.toArray, fun j v hv => ?_, ⟨st, p⟩, fun j h' z => z.1⟩
    obtain ⟨x, hx, rx⟩ := vals_back rv (by simpa using hv)
    exact ⟨x, hx, rx⟩
  | txt z =>
    cases (show xs = signsV z from h)
    obtain ⟨t, st⟩ := st
    have e : z.cps.size = (signsV z).length := by unfold signsV; rw [List.length_map, Array.length_toList]
    exact ⟨_, _, e ▸ Draws.text hh it z t, fun j v hv => signs_at hv, st, fun j h' q => ⟨t, q⟩⟩
theorem Src.begins (I : Inv X pins σ H s) {u : Value} (h : sr.has X.K H xs) (r : RelV sr.v u) : ∃ (o : Obj) (Hc : Heap → Prop), Begins u o Hc ∧ Hc s.heap ∧ (∀ (h' : Heap) (j : Addr), h'.get? j = some o → sr.at j 0 h') ∧ ∀ a, (sr = .lst a ∨ sr = .tup a) → a < s.heap.objs.size := by
  cases sr with
  | lst a =>
    cases r
    obtain ⟨its, rv, p, _⟩ := I.list h
    exact ⟨_, _, begins_list a its.toArray, p.isList, fun h' j e => ⟨_, e, rfl, rfl⟩, fun b e => by rcases e with e | e <;> cases e; exact p.lt⟩
  | tup a =>
    cases r
    obtain ⟨its, rv, p, _⟩ := I.tuple h
    obtain ⟨o, ho, _⟩ := id p
    exact ⟨_, _, begins_tuple a its.toArray, p, fun h' j e => ⟨_, e, rfl, rfl⟩, fun b e => by rcases e with e | e <;> cases e; exact Heap.lt_size ho⟩
  | txt z =>
    obtain ⟨t, rfl⟩ := r
    exact ⟨_, _, begins_text z t, trivial, fun h' j e => ⟨t, _, e, rfl, rfl⟩, fun b e => by rcases e with e | e <;> cases e⟩
end
/-- the sources as they stand at each turn, the items in new pairs -/
def ItzS (K : KF) (s1 s2 : Src) : It :=
  ⟨fun i H => ∃ xs ys : List V, s1.has K H xs ∧ s2.has K H ys ∧ i < min xs.length ys.length,
    fun i H v H' => ∃ T x y, v = .ref T ∧ H T = none ∧ H' = upd H T (.tup [x, y]) ∧ (∀ xs, s1.has K H xs → xs[i]? = some x) ∧ ∀ ys, s2.has K H ys → ys[i]? = some y,
    fun i H => ∃ xs ys : List V, s1.has K H xs ∧ s2.has K H ys ∧ i = min xs.length ys.length⟩
theorem turn_zipS {P : Program} {w : World} {K : KF} {elts : List Expr} {kk : Nat} {tpos : Pos} {s1 s2 : Src} {z TI TO i1 i2 : Addr} (S : ZipSep2 z TI TO i1 i2 (s1.fp i1) (s2.fp i2)) (ha : ∀ a, (s1 = .lst a ∨ s1 = .tup a) → a ≠ i1) (hb : ∀ a, (s2 = .lst a ∨ s2 = .tup a) → a ≠ i2) (h1f : ∀ a ∈ s1.fp i1, a = i1 ∨ a ≠ i1) (h2f : ∀ a ∈ s2.fp i2, a = i2 ∨ a ≠ i2) :
    Turn P w K (.Tuple elts kk tpos) (ItzS K s1 s2) [z, TI, TO, i1, i2] z (fun i h => IsZip h z TI TO .none ∧ IsTupOf2 h TI (.ref i1) (.ref i2) ∧ (∃ x y, IsTupOf2 h TO x y) ∧ s1.at i1 i h ∧ s2.at i2 i h) where
  mem := by simp
  obj := fun i h st c hc => by
    obtain ⟨hz, hTI, ⟨x, y, hTO⟩, h1, h2⟩ := st
    have e' : c = z ∨ c = TI ∨ c = TO ∨ c = i1 ∨ c = i2 := by simpa using hc
    rcases e' with rfl | rfl | rfl | rfl | rfl
    · exact ⟨_, hz, fun v q => nomatch q⟩
    · exact ⟨_, hTI, fun v q => nomatch q⟩
    · exact ⟨_, hTO, fun v q => nomatch q⟩
    · exact Src.obj h1
    · exact Src.obj h2
  keep := fun i h h' st k => by
    obtain ⟨hz, hTI, ⟨x, y, hTO⟩, h1, h2⟩ := st
    exact ⟨k z (by simp) _ hz, k TI (by simp) _ hTI, ⟨x, y, k TO (by simp) _ hTO⟩, Src.keep h1 fun o q => k i1 (by simp) o q, Src.keep h2 fun o q => k i2 (by simp) o q⟩
  item := by
    intro X hP hw hK hc i pins s σ H E I hf st hg
    subst hP hw hK
    obtain ⟨hz, hTI, ⟨x0, y0, hTO⟩, h1, h2⟩ := st
    obtain ⟨xs, ys, hx, hy, hlt⟩ := hg
    obtain ⟨P1, St1, D1, p1, st1, b1⟩ := Src.draws I hc h1f ha hx h1
    obtain ⟨P2, St2, D2, p2, st2, b2⟩ := Src.draws I hc h2f hb hy h2
    have W := GoesN.zip2 (elts := elts) (x1 := kk) (pos := tpos) S D1 D2
    refine W.goes i s (fun v s2 => ∃ x H', Inv X pins σ H' s2 ∧ RelV x v ∧ _ ∧ _ ∧ _) E hlt ⟨hz, hTI, ⟨_, _, hTO⟩, st1, st2⟩ fun v h' tk hY st' hk htk => ?_
    obtain ⟨T, u, u2, rfl, hT, q1, q2, hTT⟩ := hY
    obtain ⟨hz', hTI', ⟨x1, y1, hTO'⟩, st1', st2'⟩ := st'
    obtain ⟨x, ex, rx⟩ := p1 i u q1
    obtain ⟨y, ey, ry⟩ := p2 i u2 q2
    have new : ObjOk X.prog X.w (upd H T (.tup [x, y])) h' T (.tup [x, y]) :=
      ⟨by show 2 ≤ sizeLine; decide, [u, u2], .cons rx (.cons ry .nil), hTT⟩
    have I1 : Inv X pins σ (upd H T (.tup [x, y])) { s with heap := h', toks := tk } :=
      I.turnedNew (ch := [z, TI, TO, i1, i2]) (fun b o hb q => hk b o (fun m => hb (by
        have m' : b = z ∨ b = TO ∨ b = i1 ∨ b = i2 := by simpa using m
        rcases m' with rfl | rfl | rfl | rfl <;> simp)) q) hf hT new
    refine ⟨.ref T, _, I1, rfl, ⟨T, x, y, rfl, I.hok.fresh hT, rfl, fun l hl => by rw [Src.inj I hl hx]; exact ex, fun l hl => by rw [Src.inj I hl hy]; exact ey⟩, ⟨hz', hTI', ⟨_, _, hTO'⟩, b1 _ _ st1', b2 _ _ st2'⟩, fun c hcm => ?_⟩
    have hlt : c < s.heap.objs.size := by
      have e' : c = z ∨ c = TI ∨ c = TO ∨ c = i1 ∨ c = i2 := by simpa using hcm
      rcases e' with rfl | rfl | rfl | rfl | rfl
      · exact Heap.lt_size hz
      · exact Heap.lt_size hTI
      · exact Heap.lt_size hTO
      · obtain ⟨_, e1, _⟩ := Src.obj h1; exact Heap.lt_size e1
      · obtain ⟨_, e1, _⟩ := Src.obj h2; exact Heap.lt_size e1
    rw [upd_ne (Nat.ne_of_lt (Nat.lt_of_lt_of_le hlt hT))]
    exact (hf c hcm).1
  done := by
    intro X hP hw hK hc i pins s σ H E I hf st hg
    subst hP hw hK
    obtain ⟨hz, hTI, ⟨x0, y0, hTO⟩, h1, h2⟩ := st
    obtain ⟨xs, ys, hx, hy, rfl⟩ := hg
    obtain ⟨P1, St1, D1, p1, st1, b1⟩ := Src.draws I hc h1f ha hx h1
    obtain ⟨P2, St2, D2, p2, st2, b2⟩ := Src.draws I hc h2f hb hy h2
    have W := GoesN.zip2 (elts := elts) (x1 := kk) (pos := tpos) S D1 D2
    refine W.stops s (fun s1 => Inv X pins σ H s1) E ⟨hz, hTI, ⟨_, _, hTO⟩, st1, st2⟩ fun h' tk hk htk => ?_
    exact I.turnedL (t' := tk) (ch := [z, TI, TO, i1, i2]) (fun b o hb q => hk b o (fun m => hb (by
      have m' : b = z ∨ b = TO ∨ b = i1 ∨ b = i2 := by simpa using m
      rcases m' with rfl | rfl | rfl | rfl <;> simp)) q) hf
  self := fun A i s Q E st h => wpAny_pyIter_zip st.1 h
def iZipS (K : KF) (ta : TA) : TI := fun σ H R => ta σ H fun vs H1 => ∃ s1 s2 xs ys, vs = [s1.v, s2.v] ∧ s1.has K H1 xs ∧ s2.has K H1 ys ∧ R (ItzS K s1 s2) H1
theorem pi_zipS {X : Cx} {e e2 : Expr} {ta : TA} {p pos tpos : Pos} {elts : List Expr} {kk : Nat} (hg : Gl X "zip") (hm : X.mg "zip" = none) (ha : PA X [e, e2] ta)
    (hs : starEach [e, e2] X.env = (false, eval e X.env) :: starEach [e2] X.env := by rfl) (hpl : (backTo pos (starEach [e2] X.env)).any (·.1) = false := by rfl) :
    PI X (.Tuple elts kk tpos) (.Call (.Name "zip" p) [e, e2] [] pos) (iZipS X.K ta) := by
  refine ⟨fun pins s σ H R I h => ?_⟩
  refine Call_ (ld_blt I hg hm PyProof.Rows.boot_zip (PyProof.Rows.callWith_type1 (thn (ha.run pos pins s σ H _ I h) fun us s1 ⟨vs, H1, I1, r1, q1⟩ => ?_) hs hpl))
  obtain ⟨a, b, xs, ys, rfl, hx, hy, q⟩ := q1
  cases r1 with
  | cons r rr =>
    cases rr with
    | cons r' rr =>
      cases rr
      obtain ⟨o1, C1, B1, c1, k1, l1⟩ := Src.begins I1 hx r
      obtain ⟨o2, C2, B2, c2, k2, l2⟩ := Src.begins I1 hy r'
      refine zip_begins2 B1 B2 c1 c2 fun h' hz hTI hTO e1 e2 hsz hk => wpAny_pyIter_zip hz ?_
      have I2 : Inv X pins σ H1 { s1 with heap := h' } := I1.kept (t' := s1.toks) hk
      have m1 : ∀ c, c ∈ a.fp s1.heap.objs.size → c = s1.heap.objs.size ∨ c < s1.heap.objs.size := fun c hc => by
        cases a with
        | lst x =>
          have : c = s1.heap.objs.size ∨ c = x := by simpa [Src.fp] using hc
          rcases this with rfl | rfl
          · exact .inl rfl
          · exact .inr (l1 _ (.inl rfl))
        | tup x =>
          have : c = s1.heap.objs.size ∨ c = x := by simpa [Src.fp] using hc
          rcases this with rfl | rfl
          · exact .inl rfl
          · exact .inr (l1 _ (.inr rfl))
        | txt x => exact .inl (by simpa [Src.fp] using hc)
      have m2 : ∀ c, c ∈ b.fp (s1.heap.objs.size + 1) → c = s1.heap.objs.size + 1 ∨ c < s1.heap.objs.size := fun c hc => by
        cases b with
        | lst x =>
          have : c = s1.heap.objs.size + 1 ∨ c = x := by simpa [Src.fp] using hc
          rcases this with rfl | rfl
          · exact .inl rfl
          · exact .inr (l2 _ (.inl rfl))
        | tup x =>
          have : c = s1.heap.objs.size + 1 ∨ c = x := by simpa [Src.fp] using hc
          rcases this with rfl | rfl
          · exact .inl rfl
          · exact .inr (l2 _ (.inr rfl))
        | txt x => exact .inl (by simpa [Src.fp] using hc)
      have n1 : ∀ k : Nat, s1.heap.objs.size + (k + 1) ∉ a.fp s1.heap.objs.size := fun k m => by
        rcases m1 _ m with q | q
        · have q' : (s1.heap.objs.size + (k + 1) : Nat) = s1.heap.objs.size := q
          omega
        · have q' : (s1.heap.objs.size + (k + 1) : Nat) < s1.heap.objs.size := q
          omega
      have n2 : ∀ k : Nat, k ≠ 1 → s1.heap.objs.size + k ∉ b.fp (s1.heap.objs.size + 1) := fun k hk m => by
        rcases m2 _ m with q | q
        · have q' : (s1.heap.objs.size + k : Nat) = s1.heap.objs.size + 1 := q
          omega
        · have q' : (s1.heap.objs.size + k : Nat) < s1.heap.objs.size := q
          omega
      have ne : ∀ j k : Nat, j ≠ k → (s1.heap.objs.size + j : Nat) ≠ s1.heap.objs.size + k := fun j k h => by omega
      have S : ZipSep2 (s1.heap.objs.size + 4) (s1.heap.objs.size + 2) (s1.heap.objs.size + 3) s1.heap.objs.size (s1.heap.objs.size + 1) (a.fp s1.heap.objs.size) (b.fp (s1.heap.objs.size + 1)) :=
        ⟨ne 2 4 (by decide), ne 3 4 (by decide), ne 2 3 (by decide), ne 2 0 (by decide), by cases a <;> simp [Src.fp], n1 3, n1 2, ne 2 1 (by decide), by cases b <;> simp [Src.fp], n2 4 (by decide), n2 3 (by decide), n2 0 (by decide), n1 0⟩
      refine ⟨s1.heap.objs.size + 4, [s1.heap.objs.size + 4, s1.heap.objs.size + 2, s1.heap.objs.size + 3, s1.heap.objs.size, s1.heap.objs.size + 1], _, _, H1, rfl, I2,
        turn_zipS S (fun x hx => Nat.ne_of_lt (l1 x hx)) (fun x hx => Nat.ne_of_lt (Nat.lt_succ_of_lt (l2 x hx))) (fun c _ => Classical.em _) (fun c _ => Classical.em _), ⟨hz, hTI, ⟨_, _, hTO⟩, k1 _ _ e1, k2 _ _ e2⟩, fun c hcm => ?_, q⟩
      have hle : s1.heap.objs.size ≤ c := by
        have e' : c = s1.heap.objs.size + 4 ∨ c = s1.heap.objs.size + 2 ∨ c = s1.heap.objs.size + 3 ∨ c = s1.heap.objs.size ∨ c = s1.heap.objs.size + 1 := by simpa using hcm
        rcases e' with rfl | rfl | rfl | rfl | rfl
        · exact Nat.le_add_right _ _
        · exact Nat.le_add_right _ _
        · exact Nat.le_add_right _ _
        · exact Nat.le_refl _
        · exact Nat.le_add_right _ _
      exact I1.fpOk hle (I1.hok.fresh hle)
def srcD (d : D) (h : Hs) : Option (List D × Option (Nat × List D)) := match d with
  | .v (.list ds) => some (ds.map .v, none)
  | .v (.tuple ds) => some (ds.map .v, none)
  | .v (.str z) => if z.length ≤ sizeLine then some (signsD z, none) else none
  | .ref n => match h[n]? with
    | some (.lst xs) => some (xs, some (n, xs))
    | none => none
  | .mix xs => some (xs, none)
  | _ => none
theorem signsD_rep {K : KF} {w : Wd} (z : Str) : RepDs K w (signsD z) (signsV z) := by
  unfold signsD signsV
  induction z.cps.toList with
  | nil => rfl
  | cons c r ih => exact ⟨_, _, rfl, rfl, ih⟩
theorem src_at {K : KF} {w : Wd} {d : D} {x : V} {items : List D} {gd : Option (Nat × List D)} (ok : w.Ok K) (r : RepD K w d x) (e : srcD d w.h = some (items, gd)) :
    ∃ sr : Src, x = sr.v ∧ ∀ w2, w.Le w2 → w2.Ok K → gok gd w2.h → ∃ vs, sr.has K w2.H vs ∧ RepDs K w2 items vs := by
  cases d with
  | v d =>
    cases d with
    | list ds =>
      cases e
      obtain ⟨a, vs, rfl, ht, hr⟩ := r
      exact ⟨.lst a, rfl, fun w2 l2 ok2 _ => ⟨vs, (LRd.keepW ok l2 ht).sql, RepDs.ofP (RepPs.mono ok l2 ds hr)⟩⟩
    | tuple ds =>
      cases e
      obtain ⟨a, vs, rfl, ht, hr⟩ := r
      exact ⟨.tup a, rfl, fun w2 l2 ok2 _ => ⟨vs, SqT.keepW ok l2 ht, RepDs.ofP (RepPs.mono ok l2 ds hr)⟩⟩
    | str z =>
      simp only [srcD] at e
      split at e
      · cases e
        exact ⟨.txt z, r, fun w2 l2 ok2 _ => ⟨signsV z, rfl, signsD_rep z⟩⟩
      · cases e
    | _ => cases e
  | ref n =>
    obtain ⟨a, ha, rfl⟩ := r
    simp only [srcD] at e
    cases q : w.h[n]? with
    | none => simp [q] at e
    | some c =>
      cases c with
      | lst ys =>
        simp [q] at e
        obtain ⟨rfl, rfl⟩ := e
        refine ⟨.lst a, rfl, fun w2 l2 ok2 hg => ?_⟩
        obtain ⟨m, em, _⟩ := l2.more
        have ha2 : w2.ι[n]? = some a := by
          rw [em, List.getElem?_append_left (List.getElem?_eq_some_iff.mp ha).1]
          exact ha
        obtain ⟨vs2, hH, hr2⟩ := ok2.cell n a _ ha2 hg
        exact ⟨vs2, .inl (.inl hH), hr2⟩
  | mix xs =>
    cases e
    obtain ⟨a, vs, rfl, ht, hr⟩ := r
    exact ⟨.tup a, rfl, fun w2 l2 ok2 _ => ⟨vs, SqT.keepW ok l2 ht, RepDs.mono ok l2 _ hr⟩⟩
theorem src_gok {h : Hs} {d : D} {items : List D} {gd : Option (Nat × List D)} (e : srcD d h = some (items, gd)) : gok gd h := by
  cases d with
  | v d =>
    cases d with
    | list ds => cases e; trivial
    | tuple ds => cases e; trivial
    | str z =>
      simp only [srcD] at e
      split at e
      · cases e; trivial
      · cases e
    | _ => cases e
  | ref n =>
    simp only [srcD] at e
    cases q : h[n]? with
    | none => simp [q] at e
    | some c =>
      cases c with
      | lst ys =>
        simp [q] at e
        obtain ⟨rfl, rfl⟩ := e
        exact q
  | mix xs => cases e; trivial
def kZipS : KI := fun ds h => match ds with
  | [d, e] => match srcD d h, srcD e h with
    | some (xs, none), some (ys, g) => if xs.length ≤ sizeLine then some (zipI xs ys, g) else none
    | some (xs, some g), some (ys, none) => if xs.length ≤ sizeLine then some (zipI xs ys, some g) else none
    | _, _ => none
  | _ => none
theorem its_zipS {K : KF} {w : Wd} {s1 s2 : Src} {xs ys : List D} {gd : Option (Nat × List D)} (hz : xs.length ≤ sizeLine) (st : ∀ w2, w.Le w2 → w2.Ok K → gok gd w2.h → ∃ vs, s1.has K w2.H vs ∧ RepDs K w2 xs vs) (st' : ∀ w2, w.Le w2 → w2.Ok K → gok gd w2.h → ∃ vs, s2.has K w2.H vs ∧ RepDs K w2 ys vs) : Its K (ItzS K s1 s2) (zipI xs ys) gd w where
  len := by rw [zipI_len]; omega
  go := fun i w2 l2 ok2 hg hi => by
    rw [zipI_len] at hi
    have h1 : i < xs.length := by omega
    have h2 : i < ys.length := by omega
    obtain ⟨vs, hS, hr⟩ := st w2 l2 ok2 hg
    obtain ⟨us, hS', hr'⟩ := st' w2 l2 ok2 hg
    obtain ⟨v, hv, rv⟩ := RepDs.get hr (List.getElem?_eq_getElem h1)
    obtain ⟨u, hu, ru⟩ := RepDs.get hr' (List.getElem?_eq_getElem h2)
    refine ⟨⟨vs, us, hS, hS', by rw [hr.len, hr'.len]; exact hi⟩, fun x H' y => ?_⟩
    obtain ⟨T, v', u', rfl, hT, rfl, hv', hu'⟩ := y
    have e1 := hv' vs hS
    have e2 := hu' us hS'
    rw [hv] at e1
    rw [hu] at e2
    cases e1
    cases e2
    obtain ⟨w3, l3, ok3, eh, eH, r3⟩ := pair_new ok2 hT rv ru
    exact ⟨w3, _, l3, ok3, eh, eH, zipI_get i xs ys _ _ (List.getElem?_eq_getElem h1) (List.getElem?_eq_getElem h2), r3⟩
  stop := fun i w2 l2 ok2 hg hi he => by
    rw [zipI_len] at he
    obtain ⟨vs, hS, hr⟩ := st w2 l2 ok2 hg
    obtain ⟨us, hS', hr'⟩ := st' w2 l2 ok2 hg
    exact ⟨vs, us, hS, hS', by rw [hr.len, hr'.len]; exact he⟩
theorem si_zipS {X : Cx} {W : WX} {a b : Expr} {f g : EM} {p pos : Pos} {tpos : Pos} {elts : List Expr} {kk : Nat} (hg : Gl X "zip") (hm : X.mg "zip" = none) (ha : SE X W a f) (hb : SE X W b g) (hs : starEach [a, b] X.env = (false, eval a X.env) :: starEach [b] X.env := by rfl) (hs2 : starEach [b] X.env = (false, eval b X.env) :: starEach [] X.env := by rfl)
    (hpl : (backTo pos (starEach [b] X.env)).any (·.1) = false := by rfl) : SI X W (.Tuple elts kk tpos) (.Call (.Name "zip" p) [a, b] [] pos) (iP (eCons f (eCons g eNil)) kZipS) :=
  PI.mono' (pi_zipS hg hm (sa_cons ha (sa_cons hb sa_nil hs2) hs) hs hpl) fun σ H R ⟨w, sl, eH, ok, hs, h⟩ => by
    subst eH
    refine tIP_bind ok hs h fun ds vs w1 items gd l1 ok1 r1 ek q => ?_
    unfold kZipS at ek
    split at ek
    · rename_i d e
      obtain ⟨v, vr, rfl, q1, v2, vr2, rfl, q2, q3⟩ := r1
      cases (show vr2 = [] from q3)
      split at ek
      · rename_i xs ys gg e1 e2
        split at ek
        · rename_i hz
          cases ek
          obtain ⟨s1, rfl, t1⟩ := src_at ok1 q1 e1
          obtain ⟨s2, rfl, t2⟩ := src_at ok1 q2 e2
          obtain ⟨us, h1, _⟩ := t1 w1 (Wd.Le.refl w1) ok1 trivial
          obtain ⟨us2, h2, _⟩ := t2 w1 (Wd.Le.refl w1) ok1 (src_gok e2)
          exact ⟨s1, s2, us, us2, rfl, h1, h2, q _ (its_zipS hz (fun w2 l2 o2 _ => t1 w2 l2 o2 trivial) t2)⟩
        · cases ek
      · rename_i xs gg ys e1 e2
        split at ek
        · rename_i hz
          cases ek
          obtain ⟨s1, rfl, t1⟩ := src_at ok1 q1 e1
          obtain ⟨s2, rfl, t2⟩ := src_at ok1 q2 e2
          obtain ⟨us, h1, _⟩ := t1 w1 (Wd.Le.refl w1) ok1 (src_gok e1)
          obtain ⟨us2, h2, _⟩ := t2 w1 (Wd.Le.refl w1) ok1 trivial
          exact ⟨s1, s2, us, us2, rfl, h1, h2, q _ (its_zipS hz t1 (fun w2 l2 o2 _ => t2 w2 l2 o2 trivial))⟩
        · cases ek
      · cases ek
    · cases ek
end Vl
set_option maxHeartbeats 4000000
namespace Vl
open PySem PySem.Spec PyProof.Rows L2

/-! ## the plain side: how the pieces reckon -/
section
variable {g : GM} {t : TM} {f : EM} {body : SM} {s : Sl} {h : Hs}
theorem compL_pure (p : D → Bool) (y : D → D) : ∀ {items : List D}, (∀ d ∈ items, ∃ s1, g d s h = some s1 ∧ t s1 h = some (.ok (p d) h) ∧ (p d = true → f s1 h = some (.ok (y d) h))) → compL none g t f items s h = some ((items.filter p).map y, h)
  | [], _ => by simp [compL, gok]
  | d :: r, H => by
    obtain ⟨s1, e1, e2, e3⟩ := H d List.mem_cons_self
    have ih := compL_pure p y (items := r) fun z hz => H z (List.mem_cons_of_mem _ hz)
    rw [compL, if_pos (show gok none h from trivial)]
    simp only [e1, e2]
    cases e : p d with
    | false =>
      rw [if_neg Bool.false_ne_true, ih, List.filter_cons_of_neg (by rw [e]; exact Bool.false_ne_true)]
    | true =>
      rw [if_pos rfl]
      simp only [e3 e, ih]
      rw [List.filter_cons_of_pos e, List.map_cons]
/-- a loop that runs through -/
theorem forL_inv {gd : Option (Nat × List D)} (I : Nat → Sl → Hs → Prop) : ∀ {items : List D} {i : Nat} {s : Sl} {h : Hs}, I i s h → (∀ j s h, I j s h → gok gd h) → (∀ (j : Nat) (d : D) s h, I (i + j) s h → items[j]? = some d → ∃ s1 s2 h2, g d s h = some s1 ∧ (body s1 h = some (.nx s2 h2) ∨ body s1 h = some (.ct s2 h2)) ∧ I (i + j + 1) s2 h2) →
    ∃ s' h', forL gd g body items s h = some (.nx s' h') ∧ I (i + items.length) s' h'
  | [], i, s, h, hi, hg, _ => ⟨s, h, by rw [forL, if_pos (hg _ _ _ hi)], by simpa using hi⟩
  | d :: r, i, s, h, hi, hg, H => by
    obtain ⟨s1, s2, h2, e1, e2, i2⟩ := H 0 d s h hi rfl
    obtain ⟨s', h', e3, i3⟩ := forL_inv (items := r) (i := i + 1) I i2 hg fun j z s h hj hz => by
      have := H (j + 1) z s h (by rw [show i + (j + 1) = i + 1 + j by omega]; exact hj) (by simpa using hz)
      rw [show i + (j + 1) + 1 = i + 1 + j + 1 by omega] at this
      exact this
    refine ⟨s', h', ?_, by rw [List.length_cons, show i + (r.length + 1) = i + 1 + r.length by omega]; exact i3⟩
    rw [forL, if_pos (hg _ _ _ hi)]
    rcases e2 with e2 | e2 <;> simp only [e1, e2, e3]
end
end Vl
set_option maxHeartbeats 4000000
namespace Vl
open PySem PySem.Spec PyProof.Rows L2

/-! ## how the pieces reckon, for simp -/
section
variable (s : Sl) (h : Hs) (f g e1 e2 e3 : EM) (a b : AM) (t u : TM) (p q : SM) (x y d : D) (gm : GM) (gs : GsM)
@[simp] theorem z_c (p : PyData) : eC p s h = some (.ok (.v p) h) := rfl
@[simp] theorem z_var (i : Nat) : eVar i s h = match s[i]? with
  | some (some d) => some (.ok d h)
  | _ => none := rfl
@[simp] theorem z_bind (k : D → EM) : EM.bind f k s h = match f s h with
  | some (.ok d h') => k d s h'
  | some (.ex x h') => some (.ex x h')
  | none => none := rfl
@[simp] theorem z_lift (k : Hs → Option D) : EM.lift k s h = match k h with
  | some d => some (.ok d h)
  | none => none := rfl
@[simp] theorem z_bin (k : D → D → Hs → Option D) : eBin k f g s h = match f s h with
  | some (.ok x h1) => (match g s h1 with
    | some (.ok y h2) => (match k x y h2 with
      | some z => some (.ok z h2)
      | none => none)
    | some (.ex x h2) => some (.ex x h2)
    | none => none)
  | some (.ex x h1) => some (.ex x h1)
  | none => none := rfl
@[simp] theorem z_un (k : D → Hs → Option D) : eUn k f s h = match f s h with
  | some (.ok x h1) => (match k x h1 with
    | some z => some (.ok z h1)
    | none => none)
  | some (.ex x h1) => some (.ex x h1)
  | none => none := rfl
@[simp] theorem z_Add : eAdd f g s h = eBin (lift2 addP) f g s h := rfl
@[simp] theorem z_Sub : eSub f g s h = eBin (lift2 subP) f g s h := rfl
@[simp] theorem z_Mul : eMul f g s h = eBin (lift2 mulP) f g s h := rfl
@[simp] theorem z_Fdiv : eFdiv f g s h = eBin (lift2 fdivP) f g s h := rfl
@[simp] theorem z_Mod : eMod f g s h = eBin (lift2 modP) f g s h := rfl
@[simp] theorem z_Pow : ePow f g s h = eBin (lift2 powP) f g s h := rfl
@[simp] theorem z_Eq : eEq f g s h = eBin (eqD false) f g s h := rfl
@[simp] theorem z_Ne : eNe f g s h = eBin (eqD true) f g s h := rfl
@[simp] theorem z_Lt : eLt f g s h = eBin (lift2 ltP) f g s h := rfl
@[simp] theorem z_Le : eLe f g s h = eBin (lift2 leP) f g s h := rfl
@[simp] theorem z_Gt : eGt f g s h = eBin (lift2 gtP) f g s h := rfl
@[simp] theorem z_Ge : eGe f g s h = eBin (lift2 geP) f g s h := rfl
@[simp] theorem z_In : eIn f g s h = eBin (lift2 (inP false)) f g s h := rfl
@[simp] theorem z_Nin : eNin f g s h = eBin (lift2 (inP true)) f g s h := rfl
@[simp] theorem z_IsN : eIsN f g s h = eBin (isND false) f g s h := rfl
@[simp] theorem z_NisN : eNisN f g s h = eBin (isND true) f g s h := rfl
@[simp] theorem z_Is : eIs f g s h = eBin (lift2 (isBP false)) f g s h := rfl
@[simp] theorem z_Nis : eNis f g s h = eBin (lift2 (isBP true)) f g s h := rfl
@[simp] theorem z_Ix : eIx f g s h = eBin (ixD) f g s h := rfl
@[simp] theorem z_neg : eNeg f s h = eUn (lift1 negP) f s h := rfl
@[simp] theorem z_nil : eNil s h = some (.ok [] h) := rfl
@[simp] theorem z_cons : eCons f a s h = match f s h with
  | some (.ok d h1) => (match a s h1 with
    | some (.ok ds h2) => some (.ok (d :: ds) h2)
    | some (.ex x h2) => some (.ex x h2)
    | none => none)
  | some (.ex x h1) => some (.ex x h1)
  | none => none := rfl
@[simp] theorem z_a (k : List D → EM) : eA a k s h = match a s h with
  | some (.ok ds h1) => k ds s h1
  | some (.ex x h1) => some (.ex x h1)
  | none => none := rfl
@[simp] theorem z_b (k : List D → Hs → Option D) : eB k a s h = match a s h with
  | some (.ok ds h1) => (match k ds h1 with
    | some z => some (.ok z h1)
    | none => none)
  | some (.ex x h1) => some (.ex x h1)
  | none => none := rfl
@[simp] theorem z_tup : eTup a s h = match a s h with
  | some (.ok ds h1) => if ds.length ≤ 1000 then some (.ok (mkTup ds) h1) else none
  | some (.ex x h1) => some (.ex x h1)
  | none => none := by
  unfold eTup eA kTup EM.lift
  cases a s h with
  | none => rfl
  | some r =>
    cases r with
    | ex x h1 => rfl
    | ok ds h1 =>
      by_cases z : ds.length ≤ 1000
      · simp only [z, if_true]
      · simp only [z, if_false]
@[simp] theorem z_lst : eLst a s h = match a s h with
  | some (.ok ds h1) => if ds.length ≤ 1000 then (match unvs ds with
    | some ps => some (.ok (.v (.list ps)) h1)
    | none => none) else none
  | some (.ex x h1) => some (.ex x h1)
  | none => none := by
  unfold eLst eA kLst EM.lift
  cases a s h with
  | none => rfl
  | some r =>
    cases r with
    | ex x h1 => rfl
    | ok ds h1 =>
      by_cases z : ds.length ≤ 1000
      · simp only [z, if_true]
        cases unvs ds <;> rfl
      · simp only [z, if_false]
@[simp] theorem z_lstN : eLstN a s h = match a s h with
  | some (.ok ds h1) => if ds.length ≤ 1000 then some (.ok (.ref h1.length) (h1 ++ [.lst ds])) else none
  | some (.ex x h1) => some (.ex x h1)
  | none => none := rfl
@[simp] theorem z_not : eNot f s h = match f s h with
  | some (.ok x h1) => (match truthD x h1 with
    | some b => some (.ok (.v (.bool (!b))) h1)
    | none => none)
  | some (.ex x h1) => some (.ex x h1)
  | none => none := rfl
@[simp] theorem z_or : eOr f g s h = match f s h with
  | some (.ok x h1) => (match truthD x h1 with
    | some b => if b = true then some (.ok x h1) else g s h1
    | none => none)
  | some (.ex x h1) => some (.ex x h1)
  | none => none := rfl
@[simp] theorem z_and : eAnd f g s h = match f s h with
  | some (.ok x h1) => (match truthD x h1 with
    | some b => if b = true then g s h1 else some (.ok x h1)
    | none => none)
  | some (.ex x h1) => some (.ex x h1)
  | none => none := rfl
@[simp] theorem z_if : eIf t f g s h = match t s h with
  | some (.ok b h1) => if b = true then f s h1 else g s h1
  | some (.ex x h1) => some (.ex x h1)
  | none => none := rfl
@[simp] theorem z_chain (k k' : D → D → Hs → Option D) : eChain k k' e1 e2 e3 s h = match e1 s h with
  | some (.ok x h1) => (match e2 s h1 with
    | some (.ok y h2) => (match k x y h2 with
      | some (.v (.bool b)) => if b = true then (match e3 s h2 with
        | some (.ok z h3) => (match k' y z h3 with
          | some r => some (.ok r h3)
          | none => none)
        | some (.ex x h3) => some (.ex x h3)
        | none => none) else some (.ok (.v (.bool false)) h2)
      | _ => none)
    | some (.ex x h2) => some (.ex x h2)
    | none => none)
  | some (.ex x h1) => some (.ex x h1)
  | none => none := rfl
@[simp] theorem z_part0 (k : Option Int → EM) : ePart none k s h = k none s h := rfl
@[simp] theorem z_part1 (k : Option Int → EM) : ePart (some f) k s h = match f s h with
  | some (.ok (.v (.int i)) h1) => k (some i) s h1
  | some (.ok _ h1) => none
  | some (.ex x h1) => some (.ex x h1)
  | none => none := by
  show (EM.bind f fun d => match d with
    | .v (.int i) => k (some i)
    | _ => fun _ _ => none) s h = _
  unfold EM.bind
  cases f s h with
  | none => rfl
  | some r =>
    cases r with
    | ex x h1 => rfl
    | ok d h1 =>
      cases d with
      | v p => cases p <;> rfl
      | ref n => rfl
      | mix xs => rfl
@[simp] theorem z_sl (lo hi : Option EM) : eSl f lo hi s h = match f s h with
  | some (.ok x h1) => ePart lo (fun l => ePart hi fun u => EM.lift (lift1 (sliceP l u) x)) s h1
  | some (.ex x h1) => some (.ex x h1)
  | none => none := rfl
@[simp] theorem z_isi (T : String) : eIsi T f s h = match f s h with
  | some (.ok x h1) => (match isiD T x h1 with
    | some z => some (.ok z h1)
    | none => none)
  | some (.ex x h1) => some (.ex x h1)
  | none => none := rfl
@[simp] theorem z_bm (T : String) (k : D → List D → Hs → Option (D × Hs)) : eBM T k f a s h = match f s h with
  | some (.ok o h1) => if tyN o = some T then (match a s h1 with
    | some (.ok ds h2) => (match k o ds h2 with
      | some (d, h') => some (.ok d h')
      | none => none)
    | some (.ex x h2) => some (.ex x h2)
    | none => none) else none
  | some (.ex x h1) => some (.ex x h1)
  | none => none := by
  unfold eBM EM.bind
  cases f s h with
  | none => rfl
  | some r =>
    cases r with
    | ex x h1 => rfl
    | ok o h1 =>
      by_cases z : tyN o = some T
      · simp only [z, if_true]
        unfold eA
        cases a s h1 with
        | none => rfl
        | some r => cases r <;> rfl
      · simp only [z, if_false]
@[simp] theorem z_call (F : Fn) : eCall F a s h = match a s h with
  | some (.ok ds h1) => (match unvs ds with
    | some ps => callR F ps false h1
    | none => (match frzs h1 (dep + 1) ds with
      | some ps => callR F ps true h1
      | none => none))
  | some (.ex x h1) => some (.ex x h1)
  | none => none := rfl
@[simp] theorem z_tru : tTru f s h = match f s h with
  | some (.ok d h1) => (match truthD d h1 with
    | some b => some (.ok b h1)
    | none => none)
  | some (.ex x h1) => some (.ex x h1)
  | none => none := rfl
@[simp] theorem z_bl : tBl f s h = match f s h with
  | some (.ok (.v (.bool b)) h1) => some (.ok b h1)
  | some (.ex x h1) => some (.ex x h1)
  | _ => none := rfl
@[simp] theorem z_tnot : Vl.tNot t s h = match t s h with
  | some (.ok b h1) => some (.ok (!b) h1)
  | some (.ex x h1) => some (.ex x h1)
  | none => none := rfl
@[simp] theorem z_tand : Vl.tAnd t u s h = match t s h with
  | some (.ok b h1) => if b = true then u s h1 else some (.ok false h1)
  | some (.ex x h1) => some (.ex x h1)
  | none => none := rfl
@[simp] theorem z_tor : Vl.tOr t u s h = match t s h with
  | some (.ok b h1) => if b = true then some (.ok true h1) else u s h1
  | some (.ex x h1) => some (.ex x h1)
  | none => none := rfl
@[simp] theorem z_yes : tYes' s h = some (.ok true h) := rfl
@[simp] theorem z_next : sNext s h = some (.nx s h) := rfl
@[simp] theorem z_brk : sBrk s h = some (.bk s h) := rfl
@[simp] theorem z_cnt : sCnt s h = some (.ct s h) := rfl
@[simp] theorem z_retN : sRetN s h = some (.rt (.v .none) h) := rfl
@[simp] theorem z_seq : sSeq p q s h = match p s h with
  | some (.nx s1 h1) => q s1 h1
  | r => r := rfl
@[simp] theorem z_sif : sIf t p q s h = match t s h with
  | some (.ok k h1) => if k = true then p s h1 else q s h1
  | some (.ex x h1) => some (.ex s x h1)
  | none => none := rfl
@[simp] theorem z_ret : sRet f s h = match f s h with
  | some (.ok d h1) => some (.rt d h1)
  | some (.ex x h1) => some (.ex s x h1)
  | none => none := rfl
@[simp] theorem z_expr : sExpr f s h = match f s h with
  | some (.ok d h1) => some (.nx s h1)
  | some (.ex x h1) => some (.ex s x h1)
  | none => none := rfl
@[simp] theorem z_asg : sAsg f gm s h = match f s h with
  | some (.ok d h1) => (match gm d s h1 with
    | some s1 => some (.nx s1 h1)
    | none => none)
  | some (.ex x h1) => some (.ex s x h1)
  | none => none := rfl
@[simp] theorem z_gnm (i : Nat) : gNm i d s h = some (s.set i (some d)) := rfl
@[simp] theorem z_gnil : gsNil [] s h = some s := rfl
@[simp] theorem z_gcons (ds : List D) : gsCons gm gs (d :: ds) s h = match gm d s h with
  | some s1 => gs ds s1 h
  | none => none := rfl
@[simp] theorem z_gtp (n : Nat) : gTp n gs d s h = match itemsT d with
  | some xs => if xs.length = n then gs xs s h else none
  | none => none := rfl
@[simp] theorem z_it0 (ds : List PyData) : itemsT (.v (.tuple ds)) = some (ds.map .v) := rfl
@[simp] theorem z_it1 (ds : List D) : itemsT (.mix ds) = some ds := rfl
@[simp] theorem z_for (it : IM) : sFor it gm p s h = match it s h with
  | some (.ok items gd h1) => forL gd gm p items s h1
  | some (.ex x h1) => some (.ex s x h1)
  | none => none := rfl
@[simp] theorem z_iseq : iSeq f s h = match f s h with
  | some (.ok d h1) => seqI d h1
  | some (.ex x h1) => some (.ex x h1)
  | none => none := rfl
@[simp] theorem z_ip (k : List D → Hs → Option (List D × Option (Nat × List D))) : iP a k s h = match a s h with
  | some (.ok ds h1) => (match k ds h1 with
    | some (items, gd) => some (.ok items gd h1)
    | none => none)
  | some (.ex x h1) => some (.ex x h1)
  | none => none := rfl
@[simp] theorem z_seq0 (ds : List PyData) : seqI (.v (.list ds)) h = some (.ok (ds.map .v) none h) := rfl
@[simp] theorem z_seq1 (ds : List PyData) : seqI (.v (.tuple ds)) h = some (.ok (ds.map .v) none h) := rfl
@[simp] theorem z_seq2 (z : Str) : seqI (.v (.str z)) h = if z.length ≤ sizeLine then some (.ok (signsD z) none h) else none := rfl
@[simp] theorem z_seq3 (n : Nat) : seqI (.ref n) h = match h[n]? with
  | some (.lst xs) => some (.ok xs (some (n, xs)) h)
  | none => none := rfl
@[simp] theorem z_seq4 (xs : List D) : seqI (.mix xs) h = some (.ok xs none h) := rfl
@[simp] theorem z_comp (it : IM) (vs : List Nat) : eComp it gm t f vs s h = match it s h with
  | some (.ok items gd h1) => (match compL gd gm t f items (wipeS s vs) h1 with
    | some (ds, h2) => (match unvs ds with
      | some ps => some (.ok (.v (.list ps)) h2)
      | none => none)
    | none => none)
  | some (.ex x h1) => some (.ex x h1)
  | none => none := rfl
@[simp] theorem z_w0 : wipeS s [] = s := rfl
@[simp] theorem z_w1 (i : Nat) (vs : List Nat) : wipeS s (i :: vs) = (wipeS s vs).set i none := rfl
@[simp] theorem z_unv (p : PyData) : unv (.v p) = some p := rfl
@[simp] theorem z_unv1 (n : Nat) : unv (.ref n) = none := rfl
@[simp] theorem z_unv2 (xs : List D) : unv (.mix xs) = none := rfl
@[simp] theorem z_unvs0 : unvs [] = some [] := rfl
@[simp] theorem z_unvs1 (ds : List D) : unvs (d :: ds) = match unv d, unvs ds with
  | some p, some ps => some (p :: ps)
  | _, _ => none := rfl
@[simp] theorem z_unvsM (ps : List PyData) : unvs (ps.map .v) = some ps := by
  induction ps with
  | nil => rfl
  | cons p ps ih => simp [unvs, ih]
@[simp] theorem z_sh0 (p : PyData) : shal h (.v p) = some p := rfl
@[simp] theorem z_sh1 (n : Nat) : shal h (.ref n) = match h[n]? with
  | some (.lst xs) => (unvs xs).map .list
  | none => none := rfl
@[simp] theorem z_sh2 (xs : List D) : shal h (.mix xs) = none := rfl
@[simp] theorem z_shs0 : shals h [] = some [] := rfl
@[simp] theorem z_shs1 (ds : List D) : shals h (d :: ds) = match shal h d, shals h ds with
  | some p, some ps => some (p :: ps)
  | _, _ => none := rfl
@[simp] theorem z_l1 (k : PyData → Option PyData) : lift1 k x h = match shal h x with
  | some p => (k p).map .v
  | none => none := rfl
@[simp] theorem z_l2 (k : PyData → PyData → Option PyData) : lift2 k x y h = match shal h x, shal h y with
  | some p, some q => (k p q).map .v
  | _, _ => none := rfl
@[simp] theorem z_lm (k : PyData → List PyData → Option PyData) (ds : List D) : liftM k x ds h = match shal h x, shals h ds with
  | some p, some ps => (k p ps).map fun z => (.v z, h)
  | _, _ => none := rfl
@[simp] theorem z_b1 (k : PyData → Option PyData) : b1 k [x] h = lift1 k x h := rfl
@[simp] theorem z_mk (ds : List D) : mkTup ds = match unvs ds with
  | some ps => .v (.tuple ps)
  | none => .mix ds := rfl
@[simp] theorem z_tr0 : truthD (.v .none) h = some false := rfl
@[simp] theorem z_tr1 (b : Bool) : truthD (.v (.bool b)) h = some b := rfl
@[simp] theorem z_tr2 (i : Int) : truthD (.v (.int i)) h = some (i != 0) := rfl
@[simp] theorem z_tr3 (z : Str) : truthD (.v (.str z)) h = if z.length ≤ sizeLine then some ((z.length : Int) != 0) else none := rfl
@[simp] theorem z_tr4 (ds : List PyData) : truthD (.v (.list ds)) h = some (!ds.isEmpty) := rfl
@[simp] theorem z_tr5 (ds : List PyData) : truthD (.v (.tuple ds)) h = some (!ds.isEmpty) := rfl
@[simp] theorem z_tr6 (n : Nat) : truthD (.ref n) h = match h[n]? with
  | some (.lst xs) => some (!xs.isEmpty)
  | none => none := rfl
end
section
variable (i j : Int) (xs ys : List PyData) (z v : Str) (h : Hs)
@[simp] theorem y_add0 : addP (.int i) (.int j) = some (.int (i + j)) := rfl
@[simp] theorem y_add1 : addP (.str z) (.str v) = if z.length + v.length ≤ sizeLine then some (.str (z ++ v)) else none := rfl
@[simp] theorem y_add2 : addP (.tuple xs) (.tuple ys) = if xs.length + ys.length ≤ sizeLine then some (.tuple (xs ++ ys)) else none := rfl
@[simp] theorem y_add3 : addP (.list xs) (.list ys) = if xs.length + ys.length ≤ sizeLine then some (.list (xs ++ ys)) else none := rfl
@[simp] theorem y_sub : subP (.int i) (.int j) = some (.int (i - j)) := rfl
@[simp] theorem y_mul0 : mulP (.int i) (.int j) = if cmul i j = true then some (.int (i * j)) else none := rfl
@[simp] theorem y_mul1 : mulP (.list xs) (.int j) = if (decide (-(2 ^ 63) ≤ j) && decide (j < 2 ^ 63) && decide (xs.length * j.toNat ≤ sizeLine)) = true then some (.list (List.replicate j.toNat xs).flatten) else none := rfl
@[simp] theorem y_fdiv : fdivP (.int i) (.int j) = if cdiv j = true then some (.int (i / j)) else none := rfl
@[simp] theorem y_mod : modP (.int i) (.int j) = if 0 < j then some (.int (i % j)) else none := by
  unfold modP intP
  simp
@[simp] theorem y_pow : powP (.int i) (.int j) = if cpow i j = true then some (.int (i ^ j.toNat)) else none := rfl
@[simp] theorem y_lt : ltP (.int i) (.int j) = some (.bool (decide (i < j))) := rfl
@[simp] theorem y_le : leP (.int i) (.int j) = some (.bool (decide (i ≤ j))) := rfl
@[simp] theorem y_gt : gtP (.int i) (.int j) = some (.bool (decide (j < i))) := rfl
@[simp] theorem y_ge : geP (.int i) (.int j) = some (.bool (decide (j ≤ i))) := rfl
@[simp] theorem y_neg : negP (.int i) = some (.int (-i)) := rfl
@[simp] theorem y_len0 : lenD [.v (.str z)] h = if z.length ≤ sizeLine then some (.v (.int z.length)) else none := rfl
@[simp] theorem y_len1 : lenD [.v (.list xs)] h = some (.v (.int xs.length)) := rfl
@[simp] theorem y_len2 : lenD [.v (.tuple xs)] h = some (.v (.int xs.length)) := rfl
@[simp] theorem y_len3 (n : Nat) : lenD [.ref n] h = match h[n]? with
  | some (.lst xs) => some (.v (.int xs.length))
  | none => none := rfl
@[simp] theorem y_abs : absP (.int i) = some (.int (if i < 0 then -i else i)) := rfl
@[simp] theorem y_all : allP (.list xs) = (bools xs).map fun bs => .bool (bs.all id) := rfl
theorem bools_map {α : Type} (f : α → Bool) : ∀ l : List α, bools (l.map fun x => .bool (f x)) = some (l.map f)
  | [] => rfl
  | x :: l => by simp [bools, bools_map f l]
theorem texts_map {α : Type} (f : α → Str) : ∀ l : List α, texts (l.map fun x => .str (f x)) = some (l.map f)
  | [] => rfl
  | x :: l => by simp [texts, texts_map f l]
@[simp] theorem y_lst0 : lstP (.list xs) = some (.list xs) := rfl
@[simp] theorem y_lst1 : lstP (.tuple xs) = some (.list xs) := rfl
@[simp] theorem y_lst2 : lstP (.str z) = if z.length ≤ sizeLine then some (.list (signsP z)) else none := rfl
@[simp] theorem y_tup0 : tupOfP (.list xs) = some (.tuple xs) := rfl
@[simp] theorem y_tup1 : tupOfP (.tuple xs) = some (.tuple xs) := rfl
@[simp] theorem y_join0 : joinP (.str z) [.list xs] = match texts xs with
  | some ys => if joinOk z ys = true then some (.str (Txt.join z ys)) else none
  | none => none := rfl
@[simp] theorem y_slc0 (lo hi : Option Int) : sliceP lo hi (.list xs) = some (.list (cutP xs lo hi)) := rfl
@[simp] theorem y_slc1 (lo hi : Option Int) : sliceP lo hi (.tuple xs) = some (.tuple (cutP xs lo hi)) := rfl
@[simp] theorem y_slc2 (lo hi : Option Int) : sliceP lo hi (.str z) = if z.length ≤ sizeLine then some (.str (cutS z lo hi)) else none := rfl
@[simp] theorem y_ix0 : ixD (.v (.list xs)) (.v (.int i)) h = (atI xs i).map .v := rfl
@[simp] theorem y_ix1 : ixD (.v (.tuple xs)) (.v (.int i)) h = (atI xs i).map .v := rfl
@[simp] theorem y_ix2 : ixD (.v (.str z)) (.v (.int i)) h = if z.length ≤ sizeLine then (atI z.cps.toList i).map fun c => .v (.str ⟨#[c]⟩) else none := rfl
@[simp] theorem y_ix3 (n : Nat) : ixD (.ref n) (.v (.int i)) h = match h[n]? with
  | some (.lst xs) => atI xs i
  | none => none := rfl
@[simp] theorem y_enum0 : kEnum [.v (.list xs)] h = some (enumI 0 (xs.map .v), none) := rfl
@[simp] theorem y_app (n : Nat) (y : D) : appendD (.ref n) [y] h = match h[n]? with
  | some (.lst xs) => if xs.length < sizeLine then some (.v .none, h.set n (.lst (xs ++ [y]))) else none
  | none => none := rfl
@[simp] theorem y_isN0 (neg : Bool) (d : D) : isND neg d (.v .none) h = some (.v (.bool (ngt neg (isNoneD d)))) := rfl
@[simp] theorem y_is (neg a b : Bool) : isBP neg (.bool a) (.bool b) = some (.bool (if neg = true then !decide (a = b) else decide (a = b))) := rfl
@[simp] theorem y_in0 (neg : Bool) (c : Nat) : inP neg (.str ⟨#[c]⟩) (.str z) = some (.bool (ngt neg (decide (c ∈ z.cps.toList)))) := rfl
@[simp] theorem y_frz0 (n : Nat) (p : PyData) : frz h n (.v p) = some p := frz_v h n p
@[simp] theorem y_frz1 (n k : Nat) : frz h (n + 1) (.ref k) = match h[k]? with
  | some (.lst xs) => (frzs h n xs).map .list
  | none => none := rfl
@[simp] theorem y_frzs (n : Nat) (ps : List PyData) : frzs h (n + 1) (ps.map .v) = some ps := by
  induction ps with
  | nil => rfl
  | cons p ps ih =>
    simp only [frzs, List.map_cons, List.foldr_cons, frz_v] at ih ⊢
    rw [ih]
end
theorem eqD_v {neg : Bool} {p q : PyData} {h : Hs} (hp : SeqAt.shaped p = true) (hq : SeqAt.shaped q = true) : eqD neg (.v p) (.v q) h = some (.v (.bool (if neg = true then !PyData.eqv p q else PyData.eqv p q))) := by
  unfold eqD
  rw [frz_v, frz_v]
  simp only [hp, hq, Bool.and_self, if_true]
theorem callR_rt {F : Fn} {ps : List PyData} {h h' : Hs} {d : D} {p : PyData} (e : F (ps.map .v) [] = some (.rt d h')) (ef : frz h' dep d = some p) : callR F ps false h = some (.ok (.v p) h) := by
  unfold callR
  rw [e]
  simp only [ef, Bool.false_and, Bool.false_eq_true, if_false]

@[simp] theorem x_NoneType_str (h : Hs) : isiD "str" (.v .none) h = some (.v (.bool false)) := by
  have e : kitB "NoneType" "str" = some false := by decide +kernel
  show ((kitB "NoneType" "str").map fun b => D.v (.bool b)) = _
  rw [e]
  rfl
@[simp] theorem x_NoneType_int (h : Hs) : isiD "int" (.v .none) h = some (.v (.bool false)) := by
  have e : kitB "NoneType" "int" = some false := by decide +kernel
  show ((kitB "NoneType" "int").map fun b => D.v (.bool b)) = _
  rw [e]
  rfl
@[simp] theorem x_NoneType_bool (h : Hs) : isiD "bool" (.v .none) h = some (.v (.bool false)) := by
  have e : kitB "NoneType" "bool" = some false := by decide +kernel
  show ((kitB "NoneType" "bool").map fun b => D.v (.bool b)) = _
  rw [e]
  rfl
@[simp] theorem x_NoneType_list (h : Hs) : isiD "list" (.v .none) h = some (.v (.bool false)) := by
  have e : kitB "NoneType" "list" = some false := by decide +kernel
  show ((kitB "NoneType" "list").map fun b => D.v (.bool b)) = _
  rw [e]
  rfl
@[simp] theorem x_NoneType_tuple (h : Hs) : isiD "tuple" (.v .none) h = some (.v (.bool false)) := by
  have e : kitB "NoneType" "tuple" = some false := by decide +kernel
  show ((kitB "NoneType" "tuple").map fun b => D.v (.bool b)) = _
  rw [e]
  rfl
@[simp] theorem x_NoneType_dict (h : Hs) : isiD "dict" (.v .none) h = some (.v (.bool false)) := by
  have e : kitB "NoneType" "dict" = some false := by decide +kernel
  show ((kitB "NoneType" "dict").map fun b => D.v (.bool b)) = _
  rw [e]
  rfl
@[simp] theorem x_bool_str (b : Bool) (h : Hs) : isiD "str" (.v (.bool b)) h = some (.v (.bool false)) := by
  have e : kitB "bool" "str" = some false := by decide +kernel
  show ((kitB "bool" "str").map fun b => D.v (.bool b)) = _
  rw [e]
  rfl
@[simp] theorem x_bool_int (b : Bool) (h : Hs) : isiD "int" (.v (.bool b)) h = some (.v (.bool true)) := by
  have e : kitB "bool" "int" = some true := by decide +kernel
  show ((kitB "bool" "int").map fun b => D.v (.bool b)) = _
  rw [e]
  rfl
@[simp] theorem x_bool_bool (b : Bool) (h : Hs) : isiD "bool" (.v (.bool b)) h = some (.v (.bool true)) := by
  have e : kitB "bool" "bool" = some true := by decide +kernel
  show ((kitB "bool" "bool").map fun b => D.v (.bool b)) = _
  rw [e]
  rfl
@[simp] theorem x_bool_list (b : Bool) (h : Hs) : isiD "list" (.v (.bool b)) h = some (.v (.bool false)) := by
  have e : kitB "bool" "list" = some false := by decide +kernel
  show ((kitB "bool" "list").map fun b => D.v (.bool b)) = _
  rw [e]
  rfl
@[simp] theorem x_bool_tuple (b : Bool) (h : Hs) : isiD "tuple" (.v (.bool b)) h = some (.v (.bool false)) := by
  have e : kitB "bool" "tuple" = some false := by decide +kernel
  show ((kitB "bool" "tuple").map fun b => D.v (.bool b)) = _
  rw [e]
  rfl
@[simp] theorem x_bool_dict (b : Bool) (h : Hs) : isiD "dict" (.v (.bool b)) h = some (.v (.bool false)) := by
  have e : kitB "bool" "dict" = some false := by decide +kernel
  show ((kitB "bool" "dict").map fun b => D.v (.bool b)) = _
  rw [e]
  rfl
@[simp] theorem x_int_str (b : Int) (h : Hs) : isiD "str" (.v (.int b)) h = some (.v (.bool false)) := by
  have e : kitB "int" "str" = some false := by decide +kernel
  show ((kitB "int" "str").map fun b => D.v (.bool b)) = _
  rw [e]
  rfl
@[simp] theorem x_int_int (b : Int) (h : Hs) : isiD "int" (.v (.int b)) h = some (.v (.bool true)) := by
  have e : kitB "int" "int" = some true := by decide +kernel
  show ((kitB "int" "int").map fun b => D.v (.bool b)) = _
  rw [e]
  rfl
@[simp] theorem x_int_bool (b : Int) (h : Hs) : isiD "bool" (.v (.int b)) h = some (.v (.bool false)) := by
  have e : kitB "int" "bool" = some false := by decide +kernel
  show ((kitB "int" "bool").map fun b => D.v (.bool b)) = _
  rw [e]
  rfl
@[simp] theorem x_int_list (b : Int) (h : Hs) : isiD "list" (.v (.int b)) h = some (.v (.bool false)) := by
  have e : kitB "int" "list" = some false := by decide +kernel
  show ((kitB "int" "list").map fun b => D.v (.bool b)) = _
  rw [e]
  rfl
@[simp] theorem x_int_tuple (b : Int) (h : Hs) : isiD "tuple" (.v (.int b)) h = some (.v (.bool false)) := by
  have e : kitB "int" "tuple" = some false := by decide +kernel
  show ((kitB "int" "tuple").map fun b => D.v (.bool b)) = _
  rw [e]
  rfl
@[simp] theorem x_int_dict (b : Int) (h : Hs) : isiD "dict" (.v (.int b)) h = some (.v (.bool false)) := by
  have e : kitB "int" "dict" = some false := by decide +kernel
  show ((kitB "int" "dict").map fun b => D.v (.bool b)) = _
  rw [e]
  rfl
@[simp] theorem x_str_str (b : Str) (h : Hs) : isiD "str" (.v (.str b)) h = some (.v (.bool true)) := by
  have e : kitB "str" "str" = some true := by decide +kernel
  show ((kitB "str" "str").map fun b => D.v (.bool b)) = _
  rw [e]
  rfl
@[simp] theorem x_str_int (b : Str) (h : Hs) : isiD "int" (.v (.str b)) h = some (.v (.bool false)) := by
  have e : kitB "str" "int" = some false := by decide +kernel
  show ((kitB "str" "int").map fun b => D.v (.bool b)) = _
  rw [e]
  rfl
@[simp] theorem x_str_bool (b : Str) (h : Hs) : isiD "bool" (.v (.str b)) h = some (.v (.bool false)) := by
  have e : kitB "str" "bool" = some false := by decide +kernel
  show ((kitB "str" "bool").map fun b => D.v (.bool b)) = _
  rw [e]
  rfl
@[simp] theorem x_str_list (b : Str) (h : Hs) : isiD "list" (.v (.str b)) h = some (.v (.bool false)) := by
  have e : kitB "str" "list" = some false := by decide +kernel
  show ((kitB "str" "list").map fun b => D.v (.bool b)) = _
  rw [e]
  rfl
@[simp] theorem x_str_tuple (b : Str) (h : Hs) : isiD "tuple" (.v (.str b)) h = some (.v (.bool false)) := by
  have e : kitB "str" "tuple" = some false := by decide +kernel
  show ((kitB "str" "tuple").map fun b => D.v (.bool b)) = _
  rw [e]
  rfl
@[simp] theorem x_str_dict (b : Str) (h : Hs) : isiD "dict" (.v (.str b)) h = some (.v (.bool false)) := by
  have e : kitB "str" "dict" = some false := by decide +kernel
  show ((kitB "str" "dict").map fun b => D.v (.bool b)) = _
  rw [e]
  rfl
@[simp] theorem x_list_str (b : List PyData) (h : Hs) : isiD "str" (.v (.list b)) h = some (.v (.bool false)) := by
  have e : kitB "list" "str" = some false := by decide +kernel
  show ((kitB "list" "str").map fun b => D.v (.bool b)) = _
  rw [e]
  rfl
@[simp] theorem x_list_int (b : List PyData) (h : Hs) : isiD "int" (.v (.list b)) h = some (.v (.bool false)) := by
  have e : kitB "list" "int" = some false := by decide +kernel
  show ((kitB "list" "int").map fun b => D.v (.bool b)) = _
  rw [e]
  rfl
@[simp] theorem x_list_bool (b : List PyData) (h : Hs) : isiD "bool" (.v (.list b)) h = some (.v (.bool false)) := by
  have e : kitB "list" "bool" = some false := by decide +kernel
  show ((kitB "list" "bool").map fun b => D.v (.bool b)) = _
  rw [e]
  rfl
@[simp] theorem x_list_list (b : List PyData) (h : Hs) : isiD "list" (.v (.list b)) h = some (.v (.bool true)) := by
  have e : kitB "list" "list" = some true := by decide +kernel
  show ((kitB "list" "list").map fun b => D.v (.bool b)) = _
  rw [e]
  rfl
@[simp] theorem x_list_tuple (b : List PyData) (h : Hs) : isiD "tuple" (.v (.list b)) h = some (.v (.bool false)) := by
  have e : kitB "list" "tuple" = some false := by decide +kernel
  show ((kitB "list" "tuple").map fun b => D.v (.bool b)) = _
  rw [e]
  rfl
@[simp] theorem x_list_dict (b : List PyData) (h : Hs) : isiD "dict" (.v (.list b)) h = some (.v (.bool false)) := by
  have e : kitB "list" "dict" = some false := by decide +kernel
  show ((kitB "list" "dict").map fun b => D.v (.bool b)) = _
  rw [e]
  rfl
@[simp] theorem x_tuple_str (b : List PyData) (h : Hs) : isiD "str" (.v (.tuple b)) h = some (.v (.bool false)) := by
  have e : kitB "tuple" "str" = some false := by decide +kernel
  show ((kitB "tuple" "str").map fun b => D.v (.bool b)) = _
  rw [e]
  rfl
@[simp] theorem x_tuple_int (b : List PyData) (h : Hs) : isiD "int" (.v (.tuple b)) h = some (.v (.bool false)) := by
  have e : kitB "tuple" "int" = some false := by decide +kernel
  show ((kitB "tuple" "int").map fun b => D.v (.bool b)) = _
  rw [e]
  rfl
@[simp] theorem x_tuple_bool (b : List PyData) (h : Hs) : isiD "bool" (.v (.tuple b)) h = some (.v (.bool false)) := by
  have e : kitB "tuple" "bool" = some false := by decide +kernel
  show ((kitB "tuple" "bool").map fun b => D.v (.bool b)) = _
  rw [e]
  rfl
@[simp] theorem x_tuple_list (b : List PyData) (h : Hs) : isiD "list" (.v (.tuple b)) h = some (.v (.bool false)) := by
  have e : kitB "tuple" "list" = some false := by decide +kernel
  show ((kitB "tuple" "list").map fun b => D.v (.bool b)) = _
  rw [e]
  rfl
@[simp] theorem x_tuple_tuple (b : List PyData) (h : Hs) : isiD "tuple" (.v (.tuple b)) h = some (.v (.bool true)) := by
  have e : kitB "tuple" "tuple" = some true := by decide +kernel
  show ((kitB "tuple" "tuple").map fun b => D.v (.bool b)) = _
  rw [e]
  rfl
@[simp] theorem x_tuple_dict (b : List PyData) (h : Hs) : isiD "dict" (.v (.tuple b)) h = some (.v (.bool false)) := by
  have e : kitB "tuple" "dict" = some false := by decide +kernel
  show ((kitB "tuple" "dict").map fun b => D.v (.bool b)) = _
  rw [e]
  rfl
@[simp] theorem x_dict_str (b : List (PyData × PyData)) (h : Hs) : isiD "str" (.v (.dict b)) h = some (.v (.bool false)) := by
  have e : kitB "dict" "str" = some false := by decide +kernel
  show ((kitB "dict" "str").map fun b => D.v (.bool b)) = _
  rw [e]
  rfl
@[simp] theorem x_dict_int (b : List (PyData × PyData)) (h : Hs) : isiD "int" (.v (.dict b)) h = some (.v (.bool false)) := by
  have e : kitB "dict" "int" = some false := by decide +kernel
  show ((kitB "dict" "int").map fun b => D.v (.bool b)) = _
  rw [e]
  rfl
@[simp] theorem x_dict_bool (b : List (PyData × PyData)) (h : Hs) : isiD "bool" (.v (.dict b)) h = some (.v (.bool false)) := by
  have e : kitB "dict" "bool" = some false := by decide +kernel
  show ((kitB "dict" "bool").map fun b => D.v (.bool b)) = _
  rw [e]
  rfl
@[simp] theorem x_dict_list (b : List (PyData × PyData)) (h : Hs) : isiD "list" (.v (.dict b)) h = some (.v (.bool false)) := by
  have e : kitB "dict" "list" = some false := by decide +kernel
  show ((kitB "dict" "list").map fun b => D.v (.bool b)) = _
  rw [e]
  rfl
@[simp] theorem x_dict_tuple (b : List (PyData × PyData)) (h : Hs) : isiD "tuple" (.v (.dict b)) h = some (.v (.bool false)) := by
  have e : kitB "dict" "tuple" = some false := by decide +kernel
  show ((kitB "dict" "tuple").map fun b => D.v (.bool b)) = _
  rw [e]
  rfl
@[simp] theorem x_dict_dict (b : List (PyData × PyData)) (h : Hs) : isiD "dict" (.v (.dict b)) h = some (.v (.bool true)) := by
  have e : kitB "dict" "dict" = some true := by decide +kernel
  show ((kitB "dict" "dict").map fun b => D.v (.bool b)) = _
  rw [e]
  rfl
@[simp] theorem x_tyref (n : Nat) : tyN (.ref n) = some "list" := rfl
@[simp] theorem x_tystr (z : Str) : tyN (.v (.str z)) = some "str" := rfl
@[simp] theorem x_tylst (z : List PyData) : tyN (.v (.list z)) = some "list" := rfl
end Vl
namespace Vl
open PySem PySem.Spec PyProof.Rows L2
/-! ## shaped data -/
def okS (z : Str) : Prop := ∀ c ∈ z.cps.toList, c < 0x110000
def Sh (n : Nat) (d : PyData) : Prop := d.canLay0 = true ∧ d.depth ≤ n
theorem Sh.shaped {n : Nat} {d : PyData} (h : Sh n d) (hn : n ≤ 64 := by decide) : SeqAt.shaped d = true := by
  unfold SeqAt.shaped
  rw [h.1, Bool.true_and]
  exact decide_eq_true (Nat.le_trans h.2 hn)
theorem Sh.mono {m n : Nat} {d : PyData} (h : Sh m d) (l : m ≤ n) : Sh n d := ⟨h.1, Nat.le_trans h.2 l⟩
theorem sh_int {n : Nat} (i : Int) : Sh n (.int i) := ⟨rfl, Nat.zero_le _⟩
theorem sh_bool {n : Nat} (i : Bool) : Sh n (.bool i) := ⟨rfl, Nat.zero_le _⟩
theorem sh_none {n : Nat} : Sh n .none := ⟨rfl, Nat.zero_le _⟩
theorem sh_str {n : Nat} {z : Str} (h : okS z) : Sh n (.str z) := ⟨by
  show z.cps.all (· < 0x110000) = true
  rw [← Array.all_toList, List.all_eq_true]
  exact fun c hc => decide_eq_true (h c hc), Nat.zero_le _⟩
theorem sh_all {n : Nat} : ∀ {xs : List PyData}, (∀ x ∈ xs, Sh n x) → PyData.canLayAll0 xs = true ∧ PyData.depthAll xs ≤ n
  | [], _ => ⟨rfl, Nat.zero_le _⟩
  | x :: r, h => by
    obtain ⟨h1, h2⟩ := h x List.mem_cons_self
    obtain ⟨h3, h4⟩ := sh_all (xs := r) fun z hz => h z (List.mem_cons_of_mem _ hz)
    exact ⟨by rw [PyData.canLayAll0, h1, h3]; rfl, by rw [PyData.depthAll]; exact Nat.max_le.mpr ⟨h2, h4⟩⟩
theorem sh_list {n : Nat} {xs : List PyData} (h : ∀ x ∈ xs, Sh n x) : Sh (n + 1) (.list xs) := ⟨(sh_all h).1, Nat.succ_le_succ (sh_all h).2⟩
theorem sh_tup {n : Nat} {xs : List PyData} (h : ∀ x ∈ xs, Sh n x) : Sh (n + 1) (.tuple xs) := ⟨(sh_all h).1, Nat.succ_le_succ (sh_all h).2⟩
mutual
theorem eqv_refl : ∀ {d : PyData}, d.canLay0 = true → PyData.eqv d d = true
  | .none, _ => rfl
  | .bool b, _ => by simp [PyData.eqv]
  | .int b, _ => by simp [PyData.eqv]
  | .str b, _ => by simp [PyData.eqv]
  | .list xs, h => by
    rw [PyData.eqv]
    exact eqvs_refl (by simpa [PyData.canLay0] using h)
  | .tuple xs, h => by
    rw [PyData.eqv]
    exact eqvs_refl (by simpa [PyData.canLay0] using h)
  | .dict xs, h => by simp [PyData.canLay0] at h
theorem eqvs_refl : ∀ {ds : List PyData}, PyData.canLayAll0 ds = true → PyData.eqvAll ds ds = true
  | [], _ => rfl
  | d :: ds, h => by
    rw [PyData.canLayAll0, Bool.and_eq_true] at h
    rw [PyData.eqvAll, eqv_refl h.1, eqvs_refl h.2]
    rfl
end
@[simp] theorem z_unvsC {α : Type} (f : α → PyData) (l : List α) : unvs (l.map (D.v ∘ f)) = some (l.map f) := by
  rw [← List.map_map, z_unvsM]
@[simp] theorem z_unvsC' {α : Type} (f : α → PyData) (l : List α) : unvs (l.map fun x => D.v (f x)) = some (l.map f) := z_unvsC f l
theorem compSigns {s : Sl} {h : Hs} (z : Str) (gm : GM) (t : TM) (f : EM) (p : Nat → Bool) (y : Nat → PyData) (H : ∀ c, ∃ s1, gm (.v (.str ⟨#[c]⟩)) s h = some s1 ∧ t s1 h = some (.ok (p c) h) ∧ (p c = true → f s1 h = some (.ok (.v (y c)) h))) :
    compL none gm t f (signsD z) s h = some (((z.cps.toList.filter p).map y).map .v, h) := by
  unfold signsD
  generalize z.cps.toList = l
  induction l with
  | nil => simp [compL, gok]
  | cons c r ih =>
    obtain ⟨s1, e1, e2, e3⟩ := H c
    rw [List.map_cons, compL, if_pos (show gok none h from trivial)]
    simp only [e1, e2]
    cases e : p c with
    | false =>
      rw [if_neg Bool.false_ne_true, ih, List.filter_cons_of_neg (by rw [e]; exact Bool.false_ne_true)]
    | true =>
      rw [if_pos rfl]
      simp only [e3 e, ih]
      rw [List.filter_cons_of_pos e, List.map_cons, List.map_cons]
/-- a comprehension over data -/
theorem compData {α : Type} {s : Sl} {h : Hs} (l : List α) (i : α → D) (gm : GM) (t : TM) (f : EM) (p : α → Bool) (y : α → PyData) (H : ∀ c ∈ l, ∃ s1, gm (i c) s h = some s1 ∧ t s1 h = some (.ok (p c) h) ∧ (p c = true → f s1 h = some (.ok (.v (y c)) h))) :
    compL none gm t f (l.map i) s h = some (((l.filter p).map y).map .v, h) := by
  induction l with
  | nil => simp [compL, gok]
  | cons c r ih =>
    obtain ⟨s1, e1, e2, e3⟩ := H c List.mem_cons_self
    have ih := ih fun z hz => H z (List.mem_cons_of_mem _ hz)
    rw [List.map_cons, compL, if_pos (show gok none h from trivial)]
    simp only [e1, e2]
    cases e : p c with
    | false =>
      rw [if_neg Bool.false_ne_true, ih, List.filter_cons_of_neg (by rw [e]; exact Bool.false_ne_true)]
    | true =>
      rw [if_pos rfl]
      simp only [e3 e, ih]
      rw [List.filter_cons_of_pos e, List.map_cons, List.map_cons]
end Vl
set_option maxHeartbeats 4000000
namespace Vl
open PySem PySem.Spec PyProof.Rows L2

/-! ## the digits that the laws draw -/
noncomputable def digBody : SM := sSeq (sIf (Vl.tAnd (Vl.tTru (eVar 4)) (tBl (eGt (eVar 3) (eC (.int 0))))) (sSeq (sExpr (eBM "list" appendD (eVar 6) (eCons (eMod (eVar 3) (eVar 8)) (eNil)))) (sSeq (sAsg (eFdiv (eVar 3) (eVar 8)) (gNm 3)) (sNext))) (sSeq (sAsg (eMod (ePow (eAdd (eVar 5) (eMul (eC (.int 104729)) (eAdd (eVar 7) (eC (.int 1))))) (eC (.int 2))) (eC (.int 2147483587))) (gNm 5)) (sSeq (sExpr (eBM "list" appendD (eVar 6) (eCons (eMod (eFdiv (eVar 5) (eC (.int 16))) (eVar 8)) (eNil)))) (sNext)))) (sNext)
noncomputable def digB : SM := sSeq (sAsg (eB (b1 absP) (eCons (eVar 0) (eNil))) (gNm 3)) (sSeq (sAsg (eGe (eVar 3) (ePow (eC (.int 10)) (eC (.int 18)))) (gNm 4)) (sSeq (sAsg (eAdd (eMod (eVar 3) (eC (.int 2147483647))) (eMul (eC (.int 7919)) (eVar 1))) (gNm 5)) (sSeq (sAsg (eLstN (eNil)) (gNm 6)) (sSeq (sFor (iP (eCons (eVar 2) eNil) kEnum) (gTp 2 (gsCons (gNm 7) (gsCons (gNm 8) (gsNil)))) digBody) (sSeq (sRet (eVar 6)) (sNext))))))
noncomputable def digF : Fn := mkFn 9 digB
/-- within the sizes -/
def Dig : List Int → List Int → Prop
  | [], [] => True
  | s :: ss, d :: ds => (0 ≤ d ∧ d < s) ∧ Dig ss ds
  | _, _ => False
theorem Dig.snoc : ∀ {ss ds : List Int} {s d : Int}, Dig ss ds → 0 ≤ d → d < s → Dig (ss ++ [s]) (ds ++ [d])
  | [], [], _, _, _, h1, h2 => ⟨⟨h1, h2⟩, trivial⟩
  | [], _ :: _, _, _, h, _, _ => h.elim
  | _ :: _, [], _, _, h, _, _ => h.elim
  | _ :: _, _ :: _, _, _, h, h1, h2 => ⟨h.1, Dig.snoc h.2 h1 h2⟩
theorem Dig.len : ∀ {ss ds : List Int}, Dig ss ds → ds.length = ss.length
  | [], [], _ => rfl
  | [], _ :: _, h => h.elim
  | _ :: _, [], h => h.elim
  | _ :: _, _ :: _, h => by rw [List.length_cons, List.length_cons, Dig.len h.2]
theorem Dig.at : ∀ {ss ds : List Int} {i : Nat} {s : Int}, Dig ss ds → ss[i]? = some s → ∃ d, ds[i]? = some d ∧ 0 ≤ d ∧ d < s
  | [], [], i, _, _, h => by simp at h
  | [], _ :: _, _, _, h, _ => h.elim
  | _ :: _, [], _, _, h, _ => h.elim
  | s :: ss, d :: ds, 0, _, h, e => by
    cases e
    exact ⟨d, rfl, h.1⟩
  | s :: ss, d :: ds, i + 1, t, h, e => Dig.at (i := i) h.2 (by simpa using e)
theorem cmulL {i j : Int} (h1 : -(2 ^ 64) < i) (h2 : i < 2 ^ 64) : cmul i j = true := by
  unfold cmul
  rw [decide_eq_true h1, decide_eq_true h2]
  rfl
theorem ten_line' {n : Nat} (h : n ≤ 10000000) : n ≤ sizeLine := Nat.le_trans h (by rw [sizeLine_eq]; decide)
theorem lt_line {n : Nat} (h : n < 10000000) : n < sizeLine := Nat.lt_of_lt_of_le h (by rw [sizeLine_eq]; decide)
theorem dig_step {c t z a b : D} {num seed s : Int} {k : Nat} {wide : Bool} {ds : List D} (hs : 0 < s) (hs2 : s < 1073741824) (h0 : 0 ≤ num) (h1 : 0 ≤ seed) (h2 : seed < 4294967296) (hk : k < 1000) (hd : ds.length ≤ 1000) :
    ∃ num' seed' d : Int, 0 ≤ num' ∧ 0 ≤ seed' ∧ seed' < 4294967296 ∧ 0 ≤ d ∧ d < s ∧
      digBody [some c, some t, some z, some (.v (.int num)), some (.v (.bool wide)), some (.v (.int seed)), some (.ref 0), some (.v (.int k)), some (.v (.int s))] [.lst ds] =
      some (.nx [some c, some t, some z, some (.v (.int num')), some (.v (.bool wide)), some (.v (.int seed')), some (.ref 0), some (.v (.int k)), some (.v (.int s))] [.lst (ds ++ [.v (.int d)])]) := by
  have hl : ds.length < sizeLine := lt_line (by omega)
  by_cases hw : wide = true ∧ 0 < num
  · obtain ⟨rfl, hn⟩ := hw
    refine ⟨num / s, seed, num % s, Int.ediv_nonneg h0 (by omega), h1, h2, Int.emod_nonneg _ (by omega), Int.emod_lt_of_pos _ hs, ?_⟩
    have hc : cdiv s = true := by
      unfold cdiv
      rw [decide_eq_true hs, decide_eq_true hs2]
      rfl
    simp [digBody, hn, hs, hl, hc]
  · have hp : cpow (seed + 104729 * ((k : Int) + 1)) 2 = true := by
      unfold cpow
      rw [decide_eq_true (by decide), decide_eq_true (by decide), decide_eq_true (by omega)]
      rfl
    have hm : cmul 104729 ((k : Int) + 1) = true := cmulL (by decide) (by decide)
    refine ⟨num, (seed + 104729 * ((k : Int) + 1)) ^ 2 % 2147483587, (seed + 104729 * ((k : Int) + 1)) ^ 2 % 2147483587 / 16 % s, h0, Int.emod_nonneg _ (by decide), Int.lt_trans (Int.emod_lt_of_pos _ (by decide)) (by decide), Int.emod_nonneg _ (by omega), Int.emod_lt_of_pos _ hs, ?_⟩
    have hd : cdiv 16 = true := by decide
    cases wide with
    | false => simp [digBody, hm, hp, hd, hl, hs]
    | true =>
      have hn : ¬ 0 < num := fun z => hw ⟨rfl, z⟩
      simp [digBody, hn, hm, hp, hd, hl, hs]
theorem dig_loop {c t z : D} {wide : Bool} : ∀ {sizes : List Int} {k : Nat} {num seed : Int} {a b : Option D} {pre : List Int} {ds : List Int}, (∀ s ∈ sizes, 0 < s ∧ s < 1073741824) → k + sizes.length ≤ 1000 → 0 ≤ num → 0 ≤ seed → seed < 4294967296 → Dig pre ds → ds.length = k →
    ∃ s' es, forL none (gTp 2 (gsCons (gNm 7) (gsCons (gNm 8) (gsNil)))) digBody (enumI k ((sizes.map PyData.int).map .v)) [some c, some t, some z, some (.v (.int num)), some (.v (.bool wide)), some (.v (.int seed)), some (.ref 0), a, b] [.lst ((ds.map PyData.int).map .v)] =
      some (.nx s' [.lst ((es.map PyData.int).map .v)]) ∧ s'[6]? = some (some (.ref 0)) ∧ Dig (pre ++ sizes) es
  | [], k, num, seed, a, b, pre, ds, _, _, _, _, _, hd, _ => ⟨_, ds, by rw [List.map_nil, List.map_nil, enumI, forL, if_pos (show gok none _ from trivial)], rfl, by rw [List.append_nil]; exact hd⟩
  | s :: r, k, num, seed, a, b, pre, ds, hs, hk, h0, h1, h2, hd, hl => by
    rw [List.length_cons] at hk
    obtain ⟨p1, p2⟩ := hs s List.mem_cons_self
    obtain ⟨num', seed', d, q0, q1, q2, q3, q4, e⟩ := dig_step (c := c) (t := t) (z := z) (a := .v .none) (b := .v .none) (k := k) (wide := wide) (ds := (ds.map PyData.int).map .v) p1 p2 h0 h1 h2 (by omega) (by rw [List.length_map, List.length_map]; omega)
    obtain ⟨s', es, e3, e4, e5⟩ := dig_loop (c := c) (t := t) (z := z) (wide := wide) (sizes := r) (k := k + 1) (num := num') (seed := seed') (a := some (.v (.int k))) (b := some (.v (.int s))) (pre := pre ++ [s]) (ds := ds ++ [d]) (fun x hx => hs x (List.mem_cons_of_mem _ hx)) (by omega) q0 q1 q2 (Dig.snoc hd q3 q4) (by rw [List.length_append, hl]; rfl)
    refine ⟨s', es, ?_, e4, by rw [List.append_assoc] at e5; exact e5⟩
    rw [List.map_cons, List.map_cons, enumI, forL, if_pos (show gok none _ from trivial)]
    have eg : gTp 2 (gsCons (gNm 7) (gsCons (gNm 8) gsNil)) (mkTup [.v (.int k), .v (.int s)]) [some c, some t, some z, some (.v (.int num)), some (.v (.bool wide)), some (.v (.int seed)), some (.ref 0), a, b] [.lst ((ds.map PyData.int).map .v)] =
        some [some c, some t, some z, some (.v (.int num)), some (.v (.bool wide)), some (.v (.int seed)), some (.ref 0), some (.v (.int k)), some (.v (.int s))] := by simp
    simp only [eg, e]
    rw [List.map_append, List.map_append] at e3
    exact e3
theorem dig_ok {cell turn : Int} {sizes : List Int} (hs : ∀ s ∈ sizes, 0 < s ∧ s < 1073741824) (hl : sizes.length ≤ 1000) (h0 : 0 ≤ turn) (h1 : turn ≤ 1000) :
    ∃ s' es, digF [.v (.int cell), .v (.int turn), .v (.list (sizes.map .int))] [] = some (.rt (.ref 0) [.lst ((es.map PyData.int).map .v)]) ∧ Dig sizes es ∧ s' = es := by
  have hn : 0 ≤ (if cell < 0 then -cell else cell) := by split <;> omega
  generalize hN : (if cell < 0 then -cell else cell) = num at hn
  have hp : cpow 10 18 = true := by decide
  have hm : cmul 7919 turn = true := cmulL (by decide) (by decide)
  have q1 : 0 ≤ num % 2147483647 := Int.emod_nonneg _ (by decide)
  have q2 : num % 2147483647 < 2147483647 := Int.emod_lt_of_pos _ (by decide)
  obtain ⟨s', es, e3, e4, e5⟩ := dig_loop (c := .v (.int cell)) (t := .v (.int turn)) (z := .v (.list (sizes.map .int))) (wide := decide (1000000000000000000 ≤ num)) (sizes := sizes) (k := 0) (num := num) (seed := num % 2147483647 + 7919 * turn) (a := none) (b := none) (pre := []) (ds := []) hs (by omega) hn (by omega) (by omega) trivial rfl
  refine ⟨es, es, ?_, e5, rfl⟩
  have e3' : forL none (gTp 2 (gsCons (gNm 7) (gsCons (gNm 8) (gsNil)))) digBody (enumI 0 ((sizes.map PyData.int).map .v)) [some (.v (.int cell)), some (.v (.int turn)), some (.v (.list (sizes.map .int))), some (.v (.int num)), some (.v (.bool (decide (1000000000000000000 ≤ num)))), some (.v (.int (num % 2147483647 + 7919 * turn))), some (.ref 0), none, none] [.lst []] = _ := e3
  unfold digF mkFn digB
  simp [hN, hp, hm, -List.map_map, e3', e4]
theorem dig_call {cell turn : Int} {sizes : List Int} {h : Hs} (hs : ∀ s ∈ sizes, 0 < s ∧ s < 1073741824) (hl : sizes.length ≤ 1000) (h0 : 0 ≤ turn) (h1 : turn ≤ 1000) :
    ∃ es : List Int, callR digF [.int cell, .int turn, .list (sizes.map .int)] false h = some (.ok (.v (.list (es.map .int))) h) ∧ Dig sizes es := by
  obtain ⟨_, es, e, d, _⟩ := dig_ok (cell := cell) hs hl h0 h1
  refine ⟨es, callR_rt e ?_, d⟩
  show frz _ (11 + 1) (.ref 0) = _
  rw [y_frz1]
  simp only [List.getElem?_cons_zero]
  rw [y_frzs]
  rfl
end Vl
set_option maxHeartbeats 4000000
namespace Vl
open PySem PySem.Spec PyProof.Rows L2

/-! ## texts, places -/
def Tx (n : Nat) (z : Str) : Prop := okS z ∧ z.length ≤ n
theorem Tx.line {n : Nat} {z : Str} (h : Tx n z) (l : n ≤ 10000000 := by omega) : z.length ≤ sizeLine := ten_line' (Nat.le_trans h.2 l)
theorem Tx.mono {m n : Nat} {z : Str} (h : Tx m z) (l : m ≤ n) : Tx n z := ⟨h.1, Nat.le_trans h.2 l⟩
theorem len_tl (z : Str) : z.cps.toList.length = z.length := Array.length_toList
theorem tl_app (a b : Str) : (a ++ b).cps.toList = a.cps.toList ++ b.cps.toList := TL.tl_append a b
theorem tx_app {m n : Nat} {a b : Str} (ha : Tx m a) (hb : Tx n b) : Tx (m + n) (a ++ b) := by
  refine ⟨fun c hc => ?_, ?_⟩
  · rw [tl_app] at hc
    rcases List.mem_append.mp hc with h | h
    · exact ha.1 c h
    · exact hb.1 c h
  · rw [← len_tl, tl_app, List.length_append, len_tl, len_tl]
    exact Nat.add_le_add ha.2 hb.2
theorem tl_cut (z : Str) (lo hi : Option Int) : (cutS z lo hi).cps.toList = (z.cps.toList.drop (HT.sIx z.length 0 lo)).take (HT.sIx z.length z.length hi - HT.sIx z.length 0 lo) := rfl
theorem tx_cut {n : Nat} {z : Str} (lo hi : Option Int) (h : Tx n z) : Tx n (cutS z lo hi) := by
  refine ⟨fun c hc => ?_, ?_⟩
  · rw [tl_cut] at hc
    exact h.1 c (List.mem_of_mem_drop (List.mem_of_mem_take hc))
  · rw [← len_tl, tl_cut, List.length_take, List.length_drop, len_tl]
    have := h.2
    omega
theorem tx_sign {c : Nat} (h : c < 0x110000) : Tx 1 ⟨#[c]⟩ := ⟨fun d hd => by
  have e : d = c := by simpa using hd
  rw [e]
  exact h, Nat.le_refl _⟩
theorem tl_join0 (ys : List Str) : (Txt.join (Str.ofString "") ys).cps.toList = (ys.map fun y => y.cps.toList).flatten := by
  have e : (Txt.join (Str.ofString "") ys).cps.toList = TL.joinL [] (ys.map TL.tl) := (congrArg TL.tl (TL.join_eq (Str.ofString "") ys)).trans (TL.tl_join (Str.ofString "") ys)
  rw [e]
  clear e
  induction ys with
  | nil => rfl
  | cons y r ih =>
    cases r with
    | nil => simp [TL.joinL, TL.tl]
    | cons y2 r2 =>
      rw [List.map_cons, List.map_cons, TL.joinL, ← List.map_cons, ih]
      rfl
theorem tx_join0 {ys : List Str} (h : ∀ y ∈ ys, Tx 1 y) : Tx ys.length (Txt.join (Str.ofString "") ys) := by
  refine ⟨fun c hc => ?_, ?_⟩
  · rw [tl_join0] at hc
    obtain ⟨l, hl, hc⟩ := List.mem_flatten.mp hc
    obtain ⟨y, hy, rfl⟩ := List.mem_map.mp hl
    exact (h y hy).1 c hc
  · rw [← len_tl, tl_join0]
    induction ys with
    | nil => exact Nat.le_refl _
    | cons y r ih =>
      rw [List.map_cons, List.flatten_cons, List.length_append, List.length_cons]
      have h1 := (h y List.mem_cons_self).2
      rw [← len_tl] at h1
      have h2 := ih fun z hz => h z (List.mem_cons_of_mem _ hz)
      omega
theorem joinOk0 {ys : List Str} (h : ∀ y ∈ ys, Tx 1 y) (hl : ys.length ≤ 10000000) : joinOk (Str.ofString "") ys = true := by
  have hs : (ys.map (·.length)).sum ≤ ys.length := by
    clear hl
    induction ys with
    | nil => exact Nat.le_refl _
    | cons y r ih =>
      rw [List.map_cons, List.sum_cons, List.length_cons]
      have h1 := (h y List.mem_cons_self).2
      have h2 := ih fun z hz => h z (List.mem_cons_of_mem _ hz)
      omega
  unfold joinOk
  refine decide_eq_true ?_
  rw [show (Str.ofString "").length = 0 from rfl, Nat.mul_zero]
  omega
theorem atI_in {α : Type} {xs : List α} {i : Int} (h0 : 0 ≤ i) (h1 : i < xs.length) : ∃ x, atI xs i = some x ∧ x ∈ xs ∧ xs[i.toNat]? = some x := by
  have hl : i.toNat < xs.length := by omega
  refine ⟨xs[i.toNat], ?_, List.getElem_mem hl, List.getElem?_eq_getElem hl⟩
  unfold atI ixN
  rw [if_pos h0, if_pos h1]
  exact List.getElem?_eq_getElem hl
theorem Dig.ix {ss ds : List Int} (h : Dig ss ds) {i : Nat} {s : Int} (e : ss[i]? = some s) : ∃ d, atI ds (i : Int) = some d ∧ 0 ≤ d ∧ d < s := by
  obtain ⟨d, e1, h1, h2⟩ := h.at e
  refine ⟨d, ?_, h1, h2⟩
  obtain ⟨hl, _⟩ := List.getElem?_eq_some_iff.mp e1
  obtain ⟨x, q, _, q2⟩ := atI_in (xs := ds) (i := i) (by omega) (by omega)
  rw [Int.toNat_natCast, e1] at q2
  cases q2
  exact q
@[simp] theorem atI_map {α β : Type} (f : α → β) (xs : List α) (i : Int) : atI (xs.map f) i = (atI xs i).map f := by
  unfold atI
  rw [List.length_map]
  cases ixN xs.length i with
  | none => rfl
  | some j => simp
theorem cutP_map {α β : Type} (f : α → β) (xs : List α) (lo hi : Option Int) : cutP (xs.map f) lo hi = (cutP xs lo hi).map f := by
  unfold cutP
  rw [List.length_map, ← List.map_drop, ← List.map_take]
theorem cutP_mem {α : Type} {xs : List α} {lo hi : Option Int} {x : α} (h : x ∈ cutP xs lo hi) : x ∈ xs := List.mem_of_mem_drop (List.mem_of_mem_take h)
theorem cutP_len {α : Type} (xs : List α) (lo hi : Option Int) : (cutP xs lo hi).length ≤ xs.length := by
  unfold cutP
  rw [List.length_take, List.length_drop]
  omega
theorem seq_nx {p q : SM} {s s1 : Sl} {h h1 : Hs} (e : p s h = some (.nx s1 h1)) : sSeq p q s h = q s1 h1 := by
  unfold sSeq
  rw [e]
theorem ip_eq {a : AM} {k : KI} {s : Sl} {h h1 : Hs} {ds items : List D} {gd : Option (Nat × List D)} (e1 : a s h = some (.ok ds h1)) (e2 : k ds h1 = some (items, gd)) : iP a k s h = some (.ok items gd h1) := by
  unfold iP
  rw [e1]
  simp only [e2]
theorem for_eq {it : IM} {g : GM} {b : SM} {s : Sl} {h h1 : Hs} {items : List D} {gd : Option (Nat × List D)} {r : Option SR} (e1 : it s h = some (.ok items gd h1)) (e2 : forL gd g b items s h1 = r) : sFor it g b s h = r := by
  unfold sFor
  rw [e1]
  exact e2
theorem Dig.drop : ∀ (n : Nat) {ss ds : List Int}, Dig ss ds → Dig (ss.drop n) (ds.drop n)
  | 0, _, _, h => h
  | n + 1, [], [], _ => trivial
  | n + 1, [], _ :: _, h => h.elim
  | n + 1, _ :: _, [], h => h.elim
  | n + 1, _ :: _, _ :: _, h => Dig.drop n h.2
theorem Dig.all {B : Int} : ∀ {ss ds : List Int}, Dig ss ds → (∀ s ∈ ss, s ≤ B) → ∀ d ∈ ds, 0 ≤ d ∧ d < B
  | [], [], _, _, _, hd => by cases hd
  | [], _ :: _, h, _, _, _ => h.elim
  | _ :: _, [], h, _, _, _ => h.elim
  | s :: ss, d :: ds, h, hs, x, hx => by
    rcases List.mem_cons.mp hx with e | e
    · subst e
      have := hs s List.mem_cons_self
      exact ⟨h.1.1, Int.lt_of_lt_of_le h.1.2 this⟩
    · exact Dig.all h.2 (fun t ht => hs t (List.mem_cons_of_mem _ ht)) x e
/-- a comprehension of no test, over data -/
theorem compMap {α : Type} {s : Sl} {h : Hs} (l : List α) (i : α → D) (gm : GM) (f : EM) (y : α → PyData) (H : ∀ c ∈ l, ∃ s1, gm (i c) s h = some s1 ∧ f s1 h = some (.ok (.v (y c)) h)) :
    compL none gm tYes' f (l.map i) s h = some (l.map (fun c => .v (y c)), h) := by
  rw [compData l i gm tYes' f (fun _ => true) y fun c hc => let ⟨s1, e1, e2⟩ := H c hc; ⟨s1, e1, rfl, fun _ => e2⟩, List.filter_eq_self.mpr (fun _ _ => rfl), List.map_map]
  rfl
theorem sz {n : Nat} (h : n ≤ 10000000) : (n ≤ sizeLine) = True := eq_true (ten_line' h)
theorem szI {n : Nat} (h : n ≤ 10000000) : (n < sizeLine) = True := eq_true (Nat.lt_of_le_of_lt h (by rw [sizeLine_eq]; decide))
end Vl
set_option maxHeartbeats 0
namespace G01
open PySem PySem.Spec PyProof.Rows L2 Vl
def top (i : Nat) : Stmt := PySem.Challenge.pw_roundhand_k01_stores_by_numbers.main.body.getD i (.Pass ⟨0, 0, 0, 0⟩)
abbrev s_many_stores : Stmt := top 1
abbrev s_first_store : Stmt := top 2
abbrev s_store_number : Stmt := top 3
abbrev s_store_by : Stmt := top 4
abbrev s__law_digits : Stmt := top 6
abbrev s__law_boxes : Stmt := top 7
abbrev s__law_number : Stmt := top 8
abbrev s__law_whole : Stmt := top 9
abbrev s__law_right : Stmt := top 10
abbrev s_law : Stmt := top 11
abbrev FnP (K : KF) (x : Str) (st : Stmt) (f : Addr) (fd : FuncData) : Prop := FunD K x x (defArgs st) (defBody st) (defScope st) [] [] f fd
abbrev N_many_stores : List Str := ["boxes", "many", "name", "worths", "first"]
theorem sc_many_stores : FnScope N_many_stores ["boxes"] (defScope s_many_stores) := ⟨rfl, rfl, rfl, by decide +kernel, rfl, by decide +kernel, by decide +kernel⟩
abbrev N_first_store : List Str := ["boxes", "name", "worths", "first"]
theorem sc_first_store : FnScope N_first_store ["boxes"] (defScope s_first_store) := ⟨rfl, rfl, rfl, by decide +kernel, rfl, by decide +kernel, by decide +kernel⟩
abbrev N_store_number : List Str := ["boxes", "store", "found", "times", "box", "holds"]
theorem sc_store_number : FnScope N_store_number ["boxes", "store"] (defScope s_store_number) := ⟨rfl, rfl, rfl, by decide +kernel, rfl, by decide +kernel, by decide +kernel⟩
abbrev N_store_by : List Str := ["boxes", "number", "found", "name", "worths", "first"]
theorem sc_store_by : FnScope N_store_by ["boxes", "number"] (defScope s_store_by) := ⟨rfl, rfl, rfl, by decide +kernel, rfl, by decide +kernel, by decide +kernel⟩
abbrev N__law_digits : List Str := ["_law_cell", "_law_turn", "_law_sizes", "_law_number_here", "_law_wide", "_law_seed", "_law_found", "_law_k", "_law_size"]
theorem sc__law_digits : FnScope N__law_digits ["_law_cell", "_law_turn", "_law_sizes"] (defScope s__law_digits) := ⟨rfl, rfl, rfl, by decide +kernel, rfl, by decide +kernel, by decide +kernel⟩
abbrev N__law_boxes : List Str := ["_law_d", "_law_worths", "_law_found", "_law_k", "_law_stem"]
theorem sc__law_boxes : FnScope N__law_boxes ["_law_d"] (defScope s__law_boxes) := ⟨rfl, rfl, rfl, by decide +kernel, rfl, by decide +kernel, by decide +kernel⟩
abbrev N__law_number : List Str := ["_law_boxes_here", "_law_store", "_law_found", "_law_k"]
theorem sc__law_number : FnScope N__law_number ["_law_boxes_here", "_law_store"] (defScope s__law_number) := ⟨rfl, rfl, rfl, by decide +kernel, rfl, by decide +kernel, by decide +kernel⟩
abbrev N__law_whole : List Str := ["_law_found"]
theorem sc__law_whole : FnScope N__law_whole ["_law_found"] (defScope s__law_whole) := ⟨rfl, rfl, rfl, by decide +kernel, rfl, by decide +kernel, by decide +kernel⟩
abbrev N__law_right : List Str := ["_law_boxes_here", "_law_firsts", "_law_d", "_law_many", "_law_name", "_law_worths", "_law_first", "_law_told", "_law_store", "_law_number_here", "_law_asked", "_law_found", "_law_k", "_law_one"]
theorem sc__law_right : FnScope N__law_right ["_law_boxes_here", "_law_firsts", "_law_d"] (defScope s__law_right) := ⟨rfl, rfl, rfl, by decide +kernel, rfl, by decide +kernel, by decide +kernel⟩
abbrev N_law : List Str := ["_law_script", "_law_turn", "_law_cell", "_law_d", "_law_boxes_here", "_law_handed", "_law_box"]
theorem sc_law : FnScope N_law ["_law_script"] (defScope s_law) := ⟨rfl, rfl, rfl, by decide +kernel, rfl, by decide +kernel, by decide +kernel⟩
noncomputable def L_many_stores_1 : SM := sSeq (sAsg (eMul (eVar 1) (eVar 3)) (gNm 1)) (sNext)
noncomputable def B_many_stores : SM := sSeq (sAsg (eC (.int 1)) (gNm 1)) (sSeq (sFor (iSeq (eVar 0)) (gTp 3 (gsCons (gNm 2) (gsCons (gNm 3) (gsCons (gNm 4) (gsNil))))) (L_many_stores_1)) (sSeq (sRet (eVar 1)) (sNext)))
noncomputable def F_many_stores : Fn := mkFn N_many_stores.length B_many_stores
noncomputable def B_first_store : SM := sSeq (sRet (eB (b1 tupOfP) (eCons (eComp (iSeq (eVar 0)) (gTp 3 (gsCons (gNm 1) (gsCons (gNm 2) (gsCons (gNm 3) (gsNil))))) (tYes') (eVar 3) [1, 2, 3]) (eNil)))) (sNext)
noncomputable def F_first_store : Fn := mkFn N_first_store.length B_first_store
noncomputable def L_store_number_1 : SM := sSeq (sAsg (eAdd (eVar 2) (eMul (eVar 5) (eVar 3))) (gNm 2)) (sSeq (sAsg (eMul (eVar 3) (eIx (eVar 4) (eC (.int 1)))) (gNm 3)) (sNext))
noncomputable def B_store_number : SM := sSeq (sAsg (eC (.int 0)) (gNm 2)) (sSeq (sAsg (eC (.int 1)) (gNm 3)) (sSeq (sFor (iP (eCons (eVar 0) (eCons (eVar 1) eNil)) kZipS) (gTp 2 (gsCons (gNm 4) (gsCons (gNm 5) (gsNil)))) (L_store_number_1)) (sSeq (sRet (eVar 2)) (sNext))))
noncomputable def F_store_number : Fn := mkFn N_store_number.length B_store_number
noncomputable def L_store_by_1 : SM := sSeq (sExpr (eBM "list" appendD (eVar 2) (eCons (eMod (eVar 1) (eVar 4)) (eNil)))) (sSeq (sAsg (eFdiv (eVar 1) (eVar 4)) (gNm 1)) (sNext))
noncomputable def B_store_by : SM := sSeq (sAsg (eLstN (eNil)) (gNm 2)) (sSeq (sFor (iSeq (eVar 0)) (gTp 3 (gsCons (gNm 3) (gsCons (gNm 4) (gsCons (gNm 5) (gsNil))))) (L_store_by_1)) (sSeq (sRet (eB (b1 tupOfP) (eCons (eVar 2) (eNil)))) (sNext)))
noncomputable def F_store_by : Fn := mkFn N_store_by.length B_store_by
noncomputable def L__law_digits_1 : SM := sSeq (sIf (tAnd (tTru (eVar 4)) (tBl (eGt (eVar 3) (eC (.int 0))))) (sSeq (sExpr (eBM "list" appendD (eVar 6) (eCons (eMod (eVar 3) (eVar 8)) (eNil)))) (sSeq (sAsg (eFdiv (eVar 3) (eVar 8)) (gNm 3)) (sNext))) (sSeq (sAsg (eMod (ePow (eAdd (eVar 5) (eMul (eC (.int 104729)) (eAdd (eVar 7) (eC (.int 1))))) (eC (.int 2))) (eC (.int 2147483587))) (gNm 5)) (sSeq (sExpr (eBM "list" appendD (eVar 6) (eCons (eMod (eFdiv (eVar 5) (eC (.int 16))) (eVar 8)) (eNil)))) (sNext)))) (sNext)
noncomputable def B__law_digits : SM := sSeq (sAsg (eB (b1 absP) (eCons (eVar 0) (eNil))) (gNm 3)) (sSeq (sAsg (eGe (eVar 3) (ePow (eC (.int 10)) (eC (.int 18)))) (gNm 4)) (sSeq (sAsg (eAdd (eMod (eVar 3) (eC (.int 2147483647))) (eMul (eC (.int 7919)) (eVar 1))) (gNm 5)) (sSeq (sAsg (eLstN (eNil)) (gNm 6)) (sSeq (sFor (iP (eCons (eVar 2) eNil) kEnum) (gTp 2 (gsCons (gNm 7) (gsCons (gNm 8) (gsNil)))) (L__law_digits_1)) (sSeq (sRet (eVar 6)) (sNext))))))
noncomputable def F__law_digits : Fn := mkFn N__law_digits.length B__law_digits
noncomputable def L__law_boxes_1 : SM := sSeq (sAsg (eIx (eC (.str "abcdefghijklmnopqrstuvwxyz")) (eMod (eAdd (eIx (eVar 0) (eC (.int 1))) (eMul (eC (.int 7)) (eVar 3))) (eC (.int 26)))) (gNm 4)) (sSeq (sExpr (eBM "list" appendD (eVar 2) (eCons (eTup (eCons (eAdd (eVar 4) (eSl (eC (.str "lattice")) none (some (eIx (eVar 0) (eC (.int 2)))))) (eCons (eIx (eVar 1) (eVar 3)) (eCons (eMod (eIx (eVar 0) (eAdd (eC (.int 3)) (eVar 3))) (eIx (eVar 1) (eVar 3))) (eNil))))) (eNil)))) (sNext))
noncomputable def B__law_boxes : SM := sSeq (sAsg (eIx (eLst (eCons (eTup (eCons (eC (.int 2)) (eNil))) (eCons (eTup (eCons (eC (.int 3)) (eNil))) (eCons (eTup (eCons (eC (.int 4)) (eNil))) (eCons (eTup (eCons (eC (.int 5)) (eNil))) (eCons (eTup (eCons (eC (.int 6)) (eNil))) (eCons (eTup (eCons (eC (.int 2)) (eCons (eC (.int 2)) (eNil)))) (eCons (eTup (eCons (eC (.int 2)) (eCons (eC (.int 3)) (eNil)))) (eCons (eTup (eCons (eC (.int 3)) (eCons (eC (.int 2)) (eNil)))) (eCons (eTup (eCons (eC (.int 2)) (eCons (eC (.int 4)) (eNil)))) (eCons (eTup (eCons (eC (.int 4)) (eCons (eC (.int 2)) (eNil)))) (eCons (eTup (eCons (eC (.int 2)) (eCons (eC (.int 2)) (eCons (eC (.int 2)) (eNil))))) (eNil))))))))))))) (eIx (eVar 0) (eC (.int 0)))) (gNm 1)) (sSeq (sAsg (eLstN (eNil)) (gNm 2)) (sSeq (sFor (iP (eCons (eB (lenD) (eCons (eVar 1) (eNil))) eNil) kRng1) (gNm 3) (L__law_boxes_1)) (sSeq (sRet (eVar 2)) (sNext))))
noncomputable def F__law_boxes : Fn := mkFn N__law_boxes.length B__law_boxes
noncomputable def L__law_number_1 : SM := sSeq (sAsg (eAdd (eMul (eVar 2) (eIx (eIx (eVar 0) (eVar 3)) (eC (.int 1)))) (eIx (eVar 1) (eVar 3))) (gNm 2)) (sNext)
noncomputable def B__law_number : SM := sSeq (sAsg (eC (.int 0)) (gNm 2)) (sSeq (sFor (iP (eCons (eSub (eB (lenD) (eCons (eVar 0) (eNil))) (eC (.int 1))) (eCons (eNeg (eC (.int 1))) (eCons (eNeg (eC (.int 1))) eNil))) kRngD) (gNm 3) (L__law_number_1)) (sSeq (sRet (eVar 2)) (sNext)))
noncomputable def F__law_number : Fn := mkFn N__law_number.length B__law_number
noncomputable def B__law_whole : SM := sSeq (sRet (eAnd (eIsi "int" (eVar 0)) (eNot (eIsi "bool" (eVar 0))))) (sNext)
noncomputable def F__law_whole : Fn := mkFn N__law_whole.length B__law_whole
noncomputable def L__law_right_1 : SM := sSeq (sAsg (eCall F_store_by (eCons (eB (b1 lstP) (eCons (eVar 0) (eNil))) (eCons (eVar 10) (eNil)))) (gNm 11)) (sSeq (sIf (tOr (tNot (tTru (eIsi "tuple" (eVar 11)))) (tOr (tBl (eNe (eB (lenD) (eCons (eVar 11) (eNil))) (eB (lenD) (eCons (eVar 0) (eNil))))) (tNot (tTru (eB (b1 allP) (eCons (eComp (iSeq (eVar 11)) (gNm 13) (tYes') (eCall F__law_whole (eCons (eVar 13) (eNil))) [13]) (eNil))))))) (sSeq (sRet (eC (.bool false))) (sNext)) (sNext)) (sSeq (sIf (tOr (tBl (eNe (eCall F__law_number (eCons (eVar 0) (eCons (eVar 11) (eNil)))) (eVar 10))) (tBl (eNe (eCall F_store_number (eCons (eB (b1 lstP) (eCons (eVar 0) (eNil))) (eCons (eVar 11) (eNil)))) (eVar 10)))) (sSeq (sRet (eC (.bool false))) (sNext)) (sNext)) (sSeq (sIf (tBl (eNe (eComp (iP (eCons (eB (lenD) (eCons (eVar 0) (eNil))) eNil) kRng1) (gNm 12) (tNot (tBl (eChain (lift2 leP) (lift2 ltP) (eC (.int 0)) (eIx (eVar 11) (eVar 12)) (eIx (eIx (eVar 0) (eVar 12)) (eC (.int 1)))))) (eVar 12) [12]) (eLst (eNil)))) (sSeq (sRet (eC (.bool false))) (sNext)) (sNext)) (sNext))))
noncomputable def L__law_right_2 : SM := sSeq (sAsg (eMul (eVar 3) (eVar 5)) (gNm 3)) (sNext)
noncomputable def B__law_right : SM := sSeq (sAsg (eC (.int 1)) (gNm 3)) (sSeq (sFor (iSeq (eVar 0)) (gTp 3 (gsCons (gNm 4) (gsCons (gNm 5) (gsCons (gNm 6) (gsNil))))) (L__law_right_2)) (sSeq (sAsg (eLst (eCons (eCall F_many_stores (eCons (eB (b1 lstP) (eCons (eVar 0) (eNil))) (eNil))) (eCons (eCall F_first_store (eCons (eB (b1 lstP) (eCons (eVar 0) (eNil))) (eNil))) (eNil)))) (gNm 7)) (sSeq (sIf (tOr (tNot (tTru (eCall F__law_whole (eCons (eIx (eVar 7) (eC (.int 0))) (eNil))))) (tOr (tBl (eNe (eVar 7) (eLst (eCons (eVar 3) (eCons (eVar 1) (eNil)))))) (tNot (tTru (eIsi "tuple" (eIx (eVar 7) (eC (.int 1)))))))) (sSeq (sRet (eC (.bool false))) (sNext)) (sNext)) (sSeq (sAsg (eB (b1 tupOfP) (eCons (eComp (iP (eCons (eB (lenD) (eCons (eVar 0) (eNil))) eNil) kRng1) (gNm 12) (tYes') (eMod (eIx (eVar 2) (eVar 12)) (eIx (eIx (eVar 0) (eVar 12)) (eC (.int 1)))) [12]) (eNil))) (gNm 8)) (sSeq (sAsg (eCall F_store_number (eCons (eB (b1 lstP) (eCons (eVar 0) (eNil))) (eCons (eVar 8) (eNil)))) (gNm 9)) (sSeq (sIf (tOr (tNot (tTru (eCall F__law_whole (eCons (eVar 9) (eNil))))) (tBl (eNe (eVar 9) (eCall F__law_number (eCons (eVar 0) (eCons (eVar 8) (eNil))))))) (sSeq (sRet (eC (.bool false))) (sNext)) (sNext)) (sSeq (sFor (iP (eCons (eVar 3) eNil) kRng1) (gNm 10) (L__law_right_1)) (sSeq (sRet (eEq (eCall F_store_by (eCons (eB (b1 lstP) (eCons (eVar 0) (eNil))) (eCons (eVar 9) (eNil)))) (eVar 8))) (sNext)))))))))
noncomputable def F__law_right : Fn := mkFn N__law_right.length B__law_right
noncomputable def L_law_1 : SM := sSeq (sAsg (eCall F__law_digits (eCons (eVar 2) (eCons (eVar 1) (eCons (eLst (eCons (eC (.int 11)) (eCons (eC (.int 26)) (eCons (eC (.int 8)) (eCons (eC (.int 6)) (eCons (eC (.int 6)) (eCons (eC (.int 6)) (eCons (eC (.int 6)) (eCons (eC (.int 6)) (eCons (eC (.int 6)) (eNil))))))))))) (eNil))))) (gNm 3)) (sSeq (sAsg (eCall F__law_boxes (eCons (eVar 3) (eNil))) (gNm 4)) (sSeq (sAsg (eB (b1 lstP) (eCons (eVar 4) (eNil))) (gNm 5)) (sSeq (sIf (tOr (tNot (tTru (eCall F__law_right (eCons (eVar 5) (eCons (eB (b1 tupOfP) (eCons (eComp (iSeq (eVar 4)) (gNm 6) (tYes') (eIx (eVar 6) (eC (.int 2))) [6]) (eNil))) (eCons (eSl (eVar 3) (some (eC (.int 6))) none) (eNil))))))) (tBl (eNe (eVar 5) (eVar 4)))) (sSeq (sRet (eC (.bool false))) (sNext)) (sNext)) (sNext))))
noncomputable def B_law : SM := sSeq (sFor (iP (eCons (eOr (eSl (eVar 0) none (some (eC (.int 20)))) (eLst (eCons (eC (.int 0)) (eNil)))) eNil) kEnum) (gTp 2 (gsCons (gNm 1) (gsCons (gNm 2) (gsNil)))) (L_law_1)) (sSeq (sRet (eC (.bool true))) (sNext))
noncomputable def F_law : Fn := mkFn N_law.length B_law
structure Cfg (K : KF) (mg : Str → Option Value) where
  f_many_stores : Addr
  d_many_stores : FuncData
  F_many_stores : FnP K "many_stores" s_many_stores f_many_stores d_many_stores
  g_many_stores : mg "many_stores" = some (.ref f_many_stores)
  f_first_store : Addr
  d_first_store : FuncData
  F_first_store : FnP K "first_store" s_first_store f_first_store d_first_store
  g_first_store : mg "first_store" = some (.ref f_first_store)
  f_store_number : Addr
  d_store_number : FuncData
  F_store_number : FnP K "store_number" s_store_number f_store_number d_store_number
  g_store_number : mg "store_number" = some (.ref f_store_number)
  f_store_by : Addr
  d_store_by : FuncData
  F_store_by : FnP K "store_by" s_store_by f_store_by d_store_by
  g_store_by : mg "store_by" = some (.ref f_store_by)
  f__law_digits : Addr
  d__law_digits : FuncData
  F__law_digits : FnP K "_law_digits" s__law_digits f__law_digits d__law_digits
  g__law_digits : mg "_law_digits" = some (.ref f__law_digits)
  f__law_boxes : Addr
  d__law_boxes : FuncData
  F__law_boxes : FnP K "_law_boxes" s__law_boxes f__law_boxes d__law_boxes
  g__law_boxes : mg "_law_boxes" = some (.ref f__law_boxes)
  f__law_number : Addr
  d__law_number : FuncData
  F__law_number : FnP K "_law_number" s__law_number f__law_number d__law_number
  g__law_number : mg "_law_number" = some (.ref f__law_number)
  f__law_whole : Addr
  d__law_whole : FuncData
  F__law_whole : FnP K "_law_whole" s__law_whole f__law_whole d__law_whole
  g__law_whole : mg "_law_whole" = some (.ref f__law_whole)
  f__law_right : Addr
  d__law_right : FuncData
  F__law_right : FnP K "_law_right" s__law_right f__law_right d__law_right
  g__law_right : mg "_law_right" = some (.ref f__law_right)
  b_abs : mg "abs" = none
  b_all : mg "all" = none
  b_bool : mg "bool" = none
  b_enumerate : mg "enumerate" = none
  b_int : mg "int" = none
  b_isinstance : mg "isinstance" = none
  b_len : mg "len" = none
  b_list : mg "list" = none
  b_range : mg "range" = none
  b_tuple : mg "tuple" = none
  b_zip : mg "zip" = none
section
variable {P : Program} {w : World} {K : KF} {mg : Str → Option Value} {base : Heap}
theorem b_many_stores (c : Cfg K mg) : Binds K c.d_many_stores ["boxes"] [] := c.F_many_stores.bindsN fun _ _ _ _ _ _ us hl => match us, hl with | [_], _ => rfl
theorem ok_many_stores (c : Cfg K mg) : FnOk P w K mg base (L2.CX P w) (0 + 1) c.f_many_stores c.d_many_stores ["boxes"] (spF K mg 1 F_many_stores) :=
  fn_ok c.F_many_stores sc_many_stores rfl fun cdv A outer s H E hr =>
  ss_cons (ss_set (i := 1) sc_many_stores.nd rfl (.inl rfl) (se_int)) (ss_cons (ss_for (passes_of rfl) rfl (si_seq (se_var 0)) (sg_tup (n := 3) rfl (sgs_cons (sg_name (i := 2) sc_many_stores.nd rfl (.inl rfl)) (sgs_cons (sg_name (i := 3) sc_many_stores.nd rfl (.inl rfl)) (sgs_cons (sg_name (i := 4) sc_many_stores.nd rfl (.inl rfl)) (sgs_nil))))) (ss_cons (ss_set (i := 1) sc_many_stores.nd rfl (.inl rfl) (se_mul (se_var 1) (se_var 3))) (ss_nil))) (ss_cons (ss_ret (se_var 1)) (ss_nil)))
theorem b_first_store (c : Cfg K mg) : Binds K c.d_first_store ["boxes"] [] := c.F_first_store.bindsN fun _ _ _ _ _ _ us hl => match us, hl with | [_], _ => rfl
theorem ok_first_store (c : Cfg K mg) : FnOk P w K mg base (L2.CX P w) (0 + 1) c.f_first_store c.d_first_store ["boxes"] (spF K mg 1 F_first_store) :=
  fn_ok c.F_first_store sc_first_store rfl fun cdv A outer s H E hr =>
  ss_cons (ss_ret (se_callTy call_tuple_of call_tupP.d rfl c.b_tuple (by decide +kernel) (sa_cons (se_comp (own := [("name", 1), ("worths", 2), ("first", 3)]) rfl sc_first_store.nd (si_seq (se_var 0)) (show BlkOk N_first_store (defScope s_first_store) _ _ from ⟨by rfl, by decide +kernel, by decide +kernel, by decide +kernel, by decide +kernel⟩) (fun _ _ _ _ _ => sg_tup (n := 3) rfl (sgs_cons (sg_name (i := 1) sc_first_store.nd rfl (.inl rfl)) (sgs_cons (sg_name (i := 2) sc_first_store.nd rfl (.inl rfl)) (sgs_cons (sg_name (i := 3) sc_first_store.nd rfl (.inl rfl)) (sgs_nil))))) (fun _ _ _ _ _ => sts_nil) (fun _ _ _ _ _ => se_var 3)) (sa_nil)))) (ss_nil)
theorem b_store_number (c : Cfg K mg) : Binds K c.d_store_number ["boxes", "store"] [] := c.F_store_number.bindsN fun _ _ _ _ _ _ us hl => match us, hl with | [_, _], _ => rfl
theorem ok_store_number (c : Cfg K mg) : FnOk P w K mg base (L2.CX P w) (0 + 1) c.f_store_number c.d_store_number ["boxes", "store"] (spF K mg 2 F_store_number) :=
  fn_ok c.F_store_number sc_store_number rfl fun cdv A outer s H E hr =>
  ss_cons (ss_set (i := 2) sc_store_number.nd rfl (.inl rfl) (se_int)) (ss_cons (ss_set (i := 3) sc_store_number.nd rfl (.inl rfl) (se_int)) (ss_cons (ss_for (passes_of rfl) rfl (si_zipS rfl c.b_zip (se_var 0) (se_var 1)) (sg_tup (n := 2) rfl (sgs_cons (sg_name (i := 4) sc_store_number.nd rfl (.inl rfl)) (sgs_cons (sg_name (i := 5) sc_store_number.nd rfl (.inl rfl)) (sgs_nil)))) (ss_cons (ss_set (i := 2) sc_store_number.nd rfl (.inl rfl) (se_add (se_var 2) (se_mul (se_var 5) (se_var 3)))) (ss_cons (ss_set (i := 3) sc_store_number.nd rfl (.inl rfl) (se_mul (se_var 3) (se_idx (se_var 4) (se_int) (fun _ _ => rfl)))) (ss_nil)))) (ss_cons (ss_ret (se_var 2)) (ss_nil))))
theorem b_store_by (c : Cfg K mg) : Binds K c.d_store_by ["boxes", "number"] [] := c.F_store_by.bindsN fun _ _ _ _ _ _ us hl => match us, hl with | [_, _], _ => rfl
theorem ok_store_by (c : Cfg K mg) : FnOk P w K mg base (L2.CX P w) (0 + 1) c.f_store_by c.d_store_by ["boxes", "number"] (spF K mg 2 F_store_by) :=
  fn_ok c.F_store_by sc_store_by rfl fun cdv A outer s H E hr =>
  ss_cons (ss_set (i := 2) sc_store_by.nd rfl (.inl rfl) (se_lstN (sa_nil))) (ss_cons (ss_for (passes_of rfl) rfl (si_seq (se_var 0)) (sg_tup (n := 3) rfl (sgs_cons (sg_name (i := 3) sc_store_by.nd rfl (.inl rfl)) (sgs_cons (sg_name (i := 4) sc_store_by.nd rfl (.inl rfl)) (sgs_cons (sg_name (i := 5) sc_store_by.nd rfl (.inl rfl)) (sgs_nil))))) (ss_cons (ss_expr (se_bm (.inl rfl) PySem.F.plainAttrs_list PySem.F.slot_list_append PySem.F.type_list_append mt_append mt_appendD (se_var 2) (sa_cons (se_mod (se_var 1) (se_var 4)) (sa_nil)))) (ss_cons (ss_set (i := 1) sc_store_by.nd rfl (.inl rfl) (se_fdiv (se_var 1) (se_var 4))) (ss_nil)))) (ss_cons (ss_ret (se_callTy call_tuple_of call_tupP.d rfl c.b_tuple (by decide +kernel) (sa_cons (se_var 2) (sa_nil)))) (ss_nil)))
theorem b__law_digits (c : Cfg K mg) : Binds K c.d__law_digits ["_law_cell", "_law_turn", "_law_sizes"] [] := c.F__law_digits.bindsN fun _ _ _ _ _ _ us hl => match us, hl with | [_, _, _], _ => rfl
theorem ok__law_digits (c : Cfg K mg) : FnOk P w K mg base (L2.CX P w) (0 + 1) c.f__law_digits c.d__law_digits ["_law_cell", "_law_turn", "_law_sizes"] (spF K mg 3 F__law_digits) :=
  fn_ok c.F__law_digits sc__law_digits rfl fun cdv A outer s H E hr =>
  ss_cons (ss_set (i := 3) sc__law_digits.nd rfl (.inl rfl) (se_callB call_abs call_absP.d rfl c.b_abs (by decide +kernel) (sa_cons (se_var 0) (sa_nil)))) (ss_cons (ss_set (i := 4) sc__law_digits.nd rfl (.inl rfl) (se_ge (se_var 3) (se_pow (se_int) (se_int)))) (ss_cons (ss_set (i := 5) sc__law_digits.nd rfl (.inl rfl) (se_add (se_mod (se_var 3) (se_int)) (se_mul (se_int) (se_var 1)))) (ss_cons (ss_set (i := 6) sc__law_digits.nd rfl (.inl rfl) (se_lstN (sa_nil))) (ss_cons (ss_for (passes_of rfl) rfl (si_enum rfl c.b_enumerate (se_var 2)) (sg_tup (n := 2) rfl (sgs_cons (sg_name (i := 7) sc__law_digits.nd rfl (.inl rfl)) (sgs_cons (sg_name (i := 8) sc__law_digits.nd rfl (.inl rfl)) (sgs_nil)))) (ss_cons (ss_if (st_of (sw_and (st_tru (se_var 4)) (sw_and1 (st_gt (se_var 3) (se_int))))) (ss_cons (ss_expr (se_bm (.inl rfl) PySem.F.plainAttrs_list PySem.F.slot_list_append PySem.F.type_list_append mt_append mt_appendD (se_var 6) (sa_cons (se_mod (se_var 3) (se_var 8)) (sa_nil)))) (ss_cons (ss_set (i := 3) sc__law_digits.nd rfl (.inl rfl) (se_fdiv (se_var 3) (se_var 8))) (ss_nil))) (ss_cons (ss_set (i := 5) sc__law_digits.nd rfl (.inl rfl) (se_mod (se_pow (se_add (se_var 5) (se_mul (se_int) (se_add (se_var 7) (se_int)))) (se_int)) (se_int))) (ss_cons (ss_expr (se_bm (.inl rfl) PySem.F.plainAttrs_list PySem.F.slot_list_append PySem.F.type_list_append mt_append mt_appendD (se_var 6) (sa_cons (se_mod (se_fdiv (se_var 5) (se_int)) (se_var 8)) (sa_nil)))) (ss_nil)))) (ss_nil))) (ss_cons (ss_ret (se_var 6)) (ss_nil))))))
theorem b__law_boxes (c : Cfg K mg) : Binds K c.d__law_boxes ["_law_d"] [] := c.F__law_boxes.bindsN fun _ _ _ _ _ _ us hl => match us, hl with | [_], _ => rfl
theorem ok__law_boxes (c : Cfg K mg) : FnOk P w K mg base (L2.CX P w) (0 + 1) c.f__law_boxes c.d__law_boxes ["_law_d"] (spF K mg 1 F__law_boxes) :=
  fn_ok c.F__law_boxes sc__law_boxes rfl fun cdv A outer s H E hr =>
  ss_cons (ss_set (i := 1) sc__law_boxes.nd rfl (.inl rfl) (se_idx (se_lst (sa_cons (se_tup (sa_cons (se_int) (sa_nil))) (sa_cons (se_tup (sa_cons (se_int) (sa_nil))) (sa_cons (se_tup (sa_cons (se_int) (sa_nil))) (sa_cons (se_tup (sa_cons (se_int) (sa_nil))) (sa_cons (se_tup (sa_cons (se_int) (sa_nil))) (sa_cons (se_tup (sa_cons (se_int) (sa_cons (se_int) (sa_nil)))) (sa_cons (se_tup (sa_cons (se_int) (sa_cons (se_int) (sa_nil)))) (sa_cons (se_tup (sa_cons (se_int) (sa_cons (se_int) (sa_nil)))) (sa_cons (se_tup (sa_cons (se_int) (sa_cons (se_int) (sa_nil)))) (sa_cons (se_tup (sa_cons (se_int) (sa_cons (se_int) (sa_nil)))) (sa_cons (se_tup (sa_cons (se_int) (sa_cons (se_int) (sa_cons (se_int) (sa_nil))))) (sa_nil))))))))))))) (se_idx (se_var 0) (se_int) (fun _ _ => rfl)) (fun _ _ => rfl))) (ss_cons (ss_set (i := 2) sc__law_boxes.nd rfl (.inl rfl) (se_lstN (sa_nil))) (ss_cons (ss_for (passes_of rfl) rfl (si_rng1 rfl c.b_range (se_callB call_len call_lenD rfl c.b_len (by decide +kernel) (sa_cons (se_var 1) (sa_nil)))) (sg_name (i := 3) sc__law_boxes.nd rfl (.inl rfl)) (ss_cons (ss_set (i := 4) sc__law_boxes.nd rfl (.inl rfl) (se_idx (se_str) (se_mod (se_add (se_idx (se_var 0) (se_int) (fun _ _ => rfl)) (se_mul (se_int) (se_var 3))) (se_int)) (fun _ _ => rfl))) (ss_cons (ss_expr (se_bm (.inl rfl) PySem.F.plainAttrs_list PySem.F.slot_list_append PySem.F.type_list_append mt_append mt_appendD (se_var 2) (sa_cons (se_tup (sa_cons (se_add (se_var 4) (se_slice (se_str) (ol := none) rfl ⟨_, rfl, se_idx (se_var 0) (se_int) (fun _ _ => rfl)⟩)) (sa_cons (se_idx (se_var 1) (se_var 3) (fun _ _ => rfl)) (sa_cons (se_mod (se_idx (se_var 0) (se_add (se_int) (se_var 3)) (fun _ _ => rfl)) (se_idx (se_var 1) (se_var 3) (fun _ _ => rfl))) (sa_nil))))) (sa_nil)))) (ss_nil)))) (ss_cons (ss_ret (se_var 2)) (ss_nil))))
theorem b__law_number (c : Cfg K mg) : Binds K c.d__law_number ["_law_boxes_here", "_law_store"] [] := c.F__law_number.bindsN fun _ _ _ _ _ _ us hl => match us, hl with | [_, _], _ => rfl
theorem ok__law_number (c : Cfg K mg) : FnOk P w K mg base (L2.CX P w) (0 + 1) c.f__law_number c.d__law_number ["_law_boxes_here", "_law_store"] (spF K mg 2 F__law_number) :=
  fn_ok c.F__law_number sc__law_number rfl fun cdv A outer s H E hr =>
  ss_cons (ss_set (i := 2) sc__law_number.nd rfl (.inl rfl) (se_int)) (ss_cons (ss_for (passes_of rfl) rfl (si_rngD rfl c.b_range (se_sub (se_callB call_len call_lenD rfl c.b_len (by decide +kernel) (sa_cons (se_var 0) (sa_nil))) (se_int)) (se_neg (se_int)) (se_neg (se_int))) (sg_name (i := 3) sc__law_number.nd rfl (.inl rfl)) (ss_cons (ss_set (i := 2) sc__law_number.nd rfl (.inl rfl) (se_add (se_mul (se_var 2) (se_idx (se_idx (se_var 0) (se_var 3) (fun _ _ => rfl)) (se_int) (fun _ _ => rfl))) (se_idx (se_var 1) (se_var 3) (fun _ _ => rfl)))) (ss_nil))) (ss_cons (ss_ret (se_var 2)) (ss_nil)))
theorem b__law_whole (c : Cfg K mg) : Binds K c.d__law_whole ["_law_found"] [] := c.F__law_whole.bindsN fun _ _ _ _ _ _ us hl => match us, hl with | [_], _ => rfl
theorem ok__law_whole (c : Cfg K mg) : FnOk P w K mg base (L2.CX P w) (0 + 1) c.f__law_whole c.d__law_whole ["_law_found"] (spF K mg 1 F__law_whole) :=
  fn_ok c.F__law_whole sc__law_whole rfl fun cdv A outer s H E hr =>
  ss_cons (ss_ret (se_and (se_isi (T := "int") (se_var 0) rfl c.b_isinstance rfl c.b_int (by decide +kernel)) (se_one (se_not (se_isi (T := "bool") (se_var 0) rfl c.b_isinstance rfl c.b_bool (by decide +kernel)))))) (ss_nil)
theorem b__law_right (c : Cfg K mg) : Binds K c.d__law_right ["_law_boxes_here", "_law_firsts", "_law_d"] [] := c.F__law_right.bindsN fun _ _ _ _ _ _ us hl => match us, hl with | [_, _, _], _ => rfl
theorem ok__law_right (c : Cfg K mg) : FnOk P w K mg base (L2.CX P w) (1 + 1) c.f__law_right c.d__law_right ["_law_boxes_here", "_law_firsts", "_law_d"] (spF K mg 3 F__law_right) :=
  fn_ok c.F__law_right sc__law_right rfl fun cdv A outer s H E hr =>
  ss_cons (ss_set (i := 3) sc__law_right.nd rfl (.inl rfl) (se_int)) (ss_cons (ss_for (passes_of rfl) rfl (si_seq (se_var 0)) (sg_tup (n := 3) rfl (sgs_cons (sg_name (i := 4) sc__law_right.nd rfl (.inl rfl)) (sgs_cons (sg_name (i := 5) sc__law_right.nd rfl (.inl rfl)) (sgs_cons (sg_name (i := 6) sc__law_right.nd rfl (.inl rfl)) (sgs_nil))))) (ss_cons (ss_set (i := 3) sc__law_right.nd rfl (.inl rfl) (se_mul (se_var 3) (se_var 5))) (ss_nil))) (ss_cons (ss_set (i := 7) sc__law_right.nd rfl (.inl rfl) (se_lst (sa_cons (se_call (ok_many_stores c) (takes_of rfl rfl rfl rfl) (hr.mono (by decide)) rfl c.g_many_stores c.F_many_stores.kp (b_many_stores c) rfl (sa_cons (se_callTy (call_listA rfl) call_lstA.d rfl c.b_list (by decide +kernel) (sa_cons (se_var 0) (sa_nil))) (sa_nil)) (al_cons (al_nil))) (sa_cons (se_call (ok_first_store c) (takes_of rfl rfl rfl rfl) (hr.mono (by decide)) rfl c.g_first_store c.F_first_store.kp (b_first_store c) rfl (sa_cons (se_callTy (call_listA rfl) call_lstA.d rfl c.b_list (by decide +kernel) (sa_cons (se_var 0) (sa_nil))) (sa_nil)) (al_cons (al_nil))) (sa_nil))))) (ss_cons (ss_if (st_of (sw_or (st_not (st_tru (se_call (ok__law_whole c) (takes_of rfl rfl rfl rfl) (hr.mono (by decide)) rfl c.g__law_whole c.F__law_whole.kp (b__law_whole c) rfl (sa_cons (se_idx (se_var 7) (se_int) (fun _ _ => rfl)) (sa_nil)) (al_cons (al_nil))))) (sw_or (st_ne hr (se_var 7) (se_lst (sa_cons (se_var 3) (sa_cons (se_var 1) (sa_nil))))) (sw_or1 (st_not (st_tru (se_isi (T := "tuple") (se_idx (se_var 7) (se_int) (fun _ _ => rfl)) rfl c.b_isinstance rfl c.b_tuple (by decide +kernel)))))))) (ss_cons (ss_ret (se_bl)) (ss_nil)) (ss_nil)) (ss_cons (ss_set (i := 8) sc__law_right.nd rfl (.inl rfl) (se_callTy call_tuple_of call_tupP.d rfl c.b_tuple (by decide +kernel) (sa_cons (se_comp (own := [("_law_k", 12)]) rfl sc__law_right.nd (si_rng1 rfl c.b_range (se_callB call_len call_lenD rfl c.b_len (by decide +kernel) (sa_cons (se_var 0) (sa_nil)))) (show BlkOk N__law_right (defScope s__law_right) _ _ from ⟨by rfl, by decide +kernel, by decide +kernel, by decide +kernel, by decide +kernel⟩) (fun _ _ _ _ _ => sg_name (i := 12) sc__law_right.nd rfl (.inl rfl)) (fun _ _ _ _ _ => sts_nil) (fun _ _ _ _ _ => se_mod (se_idx (se_var 2) (se_var 12) (fun _ _ => rfl)) (se_idx (se_idx (se_var 0) (se_var 12) (fun _ _ => rfl)) (se_int) (fun _ _ => rfl)))) (sa_nil)))) (ss_cons (ss_set (i := 9) sc__law_right.nd rfl (.inl rfl) (se_call (ok_store_number c) (takes_of rfl rfl rfl rfl) (hr.mono (by decide)) rfl c.g_store_number c.F_store_number.kp (b_store_number c) rfl (sa_cons (se_callTy (call_listA rfl) call_lstA.d rfl c.b_list (by decide +kernel) (sa_cons (se_var 0) (sa_nil))) (sa_cons (se_var 8) (sa_nil))) (al_cons (al_cons (al_nil))))) (ss_cons (ss_if (st_of (sw_or (st_not (st_tru (se_call (ok__law_whole c) (takes_of rfl rfl rfl rfl) (hr.mono (by decide)) rfl c.g__law_whole c.F__law_whole.kp (b__law_whole c) rfl (sa_cons (se_var 9) (sa_nil)) (al_cons (al_nil))))) (sw_or1 (st_ne hr (se_var 9) (se_call (ok__law_number c) (takes_of rfl rfl rfl rfl) (hr.mono (by decide)) rfl c.g__law_number c.F__law_number.kp (b__law_number c) rfl (sa_cons (se_var 0) (sa_cons (se_var 8) (sa_nil))) (al_cons (al_cons (al_nil)))))))) (ss_cons (ss_ret (se_bl)) (ss_nil)) (ss_nil)) (ss_cons (ss_for (passes_of rfl) rfl (si_rng1 rfl c.b_range (se_var 3)) (sg_name (i := 10) sc__law_right.nd rfl (.inl rfl)) (ss_cons (ss_set (i := 11) sc__law_right.nd rfl (.inr rfl) (se_call (ok_store_by c) (takes_of rfl rfl rfl rfl) (hr.mono (by decide)) rfl c.g_store_by c.F_store_by.kp (b_store_by c) rfl (sa_cons (se_callTy (call_listA rfl) call_lstA.d rfl c.b_list (by decide +kernel) (sa_cons (se_var 0) (sa_nil))) (sa_cons (se_var 10) (sa_nil))) (al_cons (al_cons (al_nil))))) (ss_cons (ss_if (st_of (sw_or (st_not (st_tru (se_isi (T := "tuple") (se_var 11) rfl c.b_isinstance rfl c.b_tuple (by decide +kernel)))) (sw_or (st_ne hr (se_callB call_len call_lenD rfl c.b_len (by decide +kernel) (sa_cons (se_var 11) (sa_nil))) (se_callB call_len call_lenD rfl c.b_len (by decide +kernel) (sa_cons (se_var 0) (sa_nil)))) (sw_or1 (st_not (st_tru (se_callB (cr_all rfl) call_allP.d rfl c.b_all (by decide +kernel) (sa_cons (se_comp (own := [("_law_one", 13)]) rfl sc__law_right.nd (si_seq (se_var 11)) (show BlkOk N__law_right (defScope s__law_right) _ _ from ⟨by rfl, by decide +kernel, by decide +kernel, by decide +kernel, by decide +kernel⟩) (fun _ _ _ _ _ => sg_name (i := 13) sc__law_right.nd rfl (.inl rfl)) (fun _ _ _ _ _ => sts_nil) (fun _ _ _ _ _ => se_call (ok__law_whole c) takes0 (hr.mono (by decide)) rfl c.g__law_whole c.F__law_whole.kp (b__law_whole c) rfl (sa_cons (se_var 13) (sa_nil)) (al_cons (al_nil)))) (sa_nil))))))))) (ss_cons (ss_ret (se_bl)) (ss_nil)) (ss_nil)) (ss_cons (ss_if (st_of (sw_or (st_ne hr (se_call (ok__law_number c) (takes_of rfl rfl rfl rfl) (hr.mono (by decide)) rfl c.g__law_number c.F__law_number.kp (b__law_number c) rfl (sa_cons (se_var 0) (sa_cons (se_var 11) (sa_nil))) (al_cons (al_cons (al_nil)))) (se_var 10)) (sw_or1 (st_ne hr (se_call (ok_store_number c) (takes_of rfl rfl rfl rfl) (hr.mono (by decide)) rfl c.g_store_number c.F_store_number.kp (b_store_number c) rfl (sa_cons (se_callTy (call_listA rfl) call_lstA.d rfl c.b_list (by decide +kernel) (sa_cons (se_var 0) (sa_nil))) (sa_cons (se_var 11) (sa_nil))) (al_cons (al_cons (al_nil)))) (se_var 10))))) (ss_cons (ss_ret (se_bl)) (ss_nil)) (ss_nil)) (ss_cons (ss_if (st_ne hr (se_comp (own := [("_law_k", 12)]) rfl sc__law_right.nd (si_rng1 rfl c.b_range (se_callB call_len call_lenD rfl c.b_len (by decide +kernel) (sa_cons (se_var 0) (sa_nil)))) (show BlkOk N__law_right (defScope s__law_right) _ _ from ⟨by rfl, by decide +kernel, by decide +kernel, by decide +kernel, by decide +kernel⟩) (fun _ _ _ _ _ => sg_name (i := 12) sc__law_right.nd rfl (.inl rfl)) (fun _ _ _ _ _ => sts_one (st_not (st_chain op_le op_leP.d op_lt op_ltP.d (se_int) (se_idx (se_var 11) (se_var 12) (fun _ _ => rfl)) (se_idx (se_idx (se_var 0) (se_var 12) (fun _ _ => rfl)) (se_int) (fun _ _ => rfl))))) (fun _ _ _ _ _ => se_var 12)) (se_lst (sa_nil))) (ss_cons (ss_ret (se_bl)) (ss_nil)) (ss_nil)) (ss_nil)))))) (ss_cons (ss_ret (se_eq hr (se_call (ok_store_by c) (takes_of rfl rfl rfl rfl) (hr.mono (by decide)) rfl c.g_store_by c.F_store_by.kp (b_store_by c) rfl (sa_cons (se_callTy (call_listA rfl) call_lstA.d rfl c.b_list (by decide +kernel) (sa_cons (se_var 0) (sa_nil))) (sa_cons (se_var 9) (sa_nil))) (al_cons (al_cons (al_nil)))) (se_var 8))) (ss_nil)))))))))
theorem ok_law {f : Addr} {fd : FuncData} (Fd : FnP K "law" s_law f fd) (c : Cfg K mg) : FnOk P w K mg base CX0 (2 + 1) f fd ["_law_script"] (fun vs H Q _ => spF K mg 1 F_law vs H Q fun _ _ _ => False) :=
  fn_okL Fd sc_law rfl fun cdv A outer s H E hr =>
  ss_cons (ss_for (passes_of rfl) rfl (si_enum rfl c.b_enumerate (se_or (se_slice (se_var 0) (ol := none) rfl ⟨_, rfl, se_int⟩) (se_one (se_lst (sa_cons (se_int) (sa_nil)))))) (sg_tup (n := 2) rfl (sgs_cons (sg_name (i := 1) sc_law.nd rfl (.inl rfl)) (sgs_cons (sg_name (i := 2) sc_law.nd rfl (.inl rfl)) (sgs_nil)))) (ss_cons (ss_set (i := 3) sc_law.nd rfl (.inl rfl) (se_call (ok__law_digits c) takes0 (hr.mono (by decide)) rfl c.g__law_digits c.F__law_digits.kp (b__law_digits c) rfl (sa_cons (se_var 2) (sa_cons (se_var 1) (sa_cons (se_lst (sa_cons (se_int) (sa_cons (se_int) (sa_cons (se_int) (sa_cons (se_int) (sa_cons (se_int) (sa_cons (se_int) (sa_cons (se_int) (sa_cons (se_int) (sa_cons (se_int) (sa_nil))))))))))) (sa_nil)))) (al_cons (al_cons (al_cons (al_nil)))))) (ss_cons (ss_set (i := 4) sc_law.nd rfl (.inl rfl) (se_call (ok__law_boxes c) takes0 (hr.mono (by decide)) rfl c.g__law_boxes c.F__law_boxes.kp (b__law_boxes c) rfl (sa_cons (se_var 3) (sa_nil)) (al_cons (al_nil)))) (ss_cons (ss_set (i := 5) sc_law.nd rfl (.inl rfl) (se_callTy (call_listA rfl) call_lstA.d rfl c.b_list (by decide +kernel) (sa_cons (se_var 4) (sa_nil)))) (ss_cons (ss_if (st_of (sw_or (st_not (st_tru (se_call (ok__law_right c) takes0 (hr.mono (by decide)) rfl c.g__law_right c.F__law_right.kp (b__law_right c) rfl (sa_cons (se_var 5) (sa_cons (se_callTy call_tuple_of call_tupP.d rfl c.b_tuple (by decide +kernel) (sa_cons (se_comp (own := [("_law_box", 6)]) rfl sc_law.nd (si_seq (se_var 4)) (show BlkOk N_law (defScope s_law) _ _ from ⟨by rfl, by decide +kernel, by decide +kernel, by decide +kernel, by decide +kernel⟩) (fun _ _ _ _ _ => sg_name (i := 6) sc_law.nd rfl (.inl rfl)) (fun _ _ _ _ _ => sts_nil) (fun _ _ _ _ _ => se_idx (se_var 6) (se_int) (fun _ _ => rfl))) (sa_nil))) (sa_cons (se_slice (se_var 3) ⟨_, rfl, se_int⟩ (oh := none) rfl) (sa_nil)))) (al_cons (al_cons (al_cons (al_nil))))))) (sw_or1 (st_ne hr (se_var 5) (se_var 4))))) (ss_cons (ss_ret (se_bl)) (ss_nil)) (ss_nil)) (ss_nil)))))) (ss_cons (ss_ret (se_bl)) (ss_nil))
end
abbrev R : PySem.W.OpenRow := PySem.W.OpenLaw.row PySem.Challenge.rw_roundhand_k01_stores_by_numbers
def dd_many_stores : He.DefD := ⟨("many_stores", none), "many_stores", "many_stores", defArgs s_many_stores, defBody s_many_stores, defScope s_many_stores, [], []⟩
def dd_first_store : He.DefD := ⟨("first_store", none), "first_store", "first_store", defArgs s_first_store, defBody s_first_store, defScope s_first_store, [], []⟩
def dd_store_number : He.DefD := ⟨("store_number", none), "store_number", "store_number", defArgs s_store_number, defBody s_store_number, defScope s_store_number, [], []⟩
def dd_store_by : He.DefD := ⟨("store_by", none), "store_by", "store_by", defArgs s_store_by, defBody s_store_by, defScope s_store_by, [], []⟩
def dd__law_digits : He.DefD := ⟨("_law_digits", none), "_law_digits", "_law_digits", defArgs s__law_digits, defBody s__law_digits, defScope s__law_digits, [], []⟩
def dd__law_boxes : He.DefD := ⟨("_law_boxes", none), "_law_boxes", "_law_boxes", defArgs s__law_boxes, defBody s__law_boxes, defScope s__law_boxes, [], []⟩
def dd__law_number : He.DefD := ⟨("_law_number", none), "_law_number", "_law_number", defArgs s__law_number, defBody s__law_number, defScope s__law_number, [], []⟩
def dd__law_whole : He.DefD := ⟨("_law_whole", none), "_law_whole", "_law_whole", defArgs s__law_whole, defBody s__law_whole, defScope s__law_whole, [], []⟩
def dd__law_right : He.DefD := ⟨("_law_right", none), "_law_right", "_law_right", defArgs s__law_right, defBody s__law_right, defScope s__law_right, [], []⟩
def dd_law : He.DefD := ⟨("law", none), "law", "law", defArgs s_law, defBody s_law, defScope s_law, [], []⟩
def fn : List He.DefD := [dd_many_stores, dd_first_store, dd_store_number, dd_store_by, dd__law_digits, dd__law_boxes, dd__law_number, dd__law_whole, dd__law_right, dd_law]
def fa : List He.Fa := [.glo "many_stores", .glo "first_store", .glo "store_number", .glo "store_by", .glo "_law_digits", .glo "_law_boxes", .glo "_law_number", .glo "_law_whole", .glo "_law_right", .glo "law", .free "abs", .free "all", .free "bool", .free "enumerate", .free "int", .free "isinstance", .free "len", .free "list", .free "range", .free "tuple", .free "zip"]
abbrev hk : PySem.W.Hook := He.hookD 4 fa fn
def ob (s : PySem.W.SharedT) : He.AlD := He.obsDG 4 fa fn (HandSHeadRun.getT s)
theorem ob_eq (s : PySem.W.SharedT) : ob s = hk.obs s.abs := He.obsDG_eq (HandSHeadRun.getT_eq s)
def loose : List Str := (["many_stores", "first_store", "store_number", "store_by", "_law_digits", "_law_boxes", "_law_number", "_law_whole", "_law_right"] : List Str)
theorem run (w : World) : HandSHeadRun.RunEq R (PySem.W.view R.prog [11]) hk ob 400 loose w := by
  intro os
  kernel_rfl
theorem cfg {K : KF} {h : Heap} {mg : Str → Option Value} (X : K.In h) (G : h.Ns mainGlobals mg) (c : He.SaysD fa fn K) : Nonempty (Cfg K mg) := by
  obtain ⟨d0, F0⟩ := c.def_ 0 (d := dd_many_stores) rfl
  obtain ⟨d1, F1⟩ := c.def_ 1 (d := dd_first_store) rfl
  obtain ⟨d2, F2⟩ := c.def_ 2 (d := dd_store_number) rfl
  obtain ⟨d3, F3⟩ := c.def_ 3 (d := dd_store_by) rfl
  obtain ⟨d4, F4⟩ := c.def_ 4 (d := dd__law_digits) rfl
  obtain ⟨d5, F5⟩ := c.def_ 5 (d := dd__law_boxes) rfl
  obtain ⟨d6, F6⟩ := c.def_ 6 (d := dd__law_number) rfl
  obtain ⟨d7, F7⟩ := c.def_ 7 (d := dd__law_whole) rfl
  obtain ⟨d8, F8⟩ := c.def_ 8 (d := dd__law_right) rfl
  exact ⟨⟨_, d0, F0, (He.glo_ok X G (c.fact 0 (f := .glo "many_stores") rfl)), _, d1, F1, (He.glo_ok X G (c.fact 1 (f := .glo "first_store") rfl)), _, d2, F2, (He.glo_ok X G (c.fact 2 (f := .glo "store_number") rfl)), _, d3, F3, (He.glo_ok X G (c.fact 3 (f := .glo "store_by") rfl)), _, d4, F4, (He.glo_ok X G (c.fact 4 (f := .glo "_law_digits") rfl)), _, d5, F5, (He.glo_ok X G (c.fact 5 (f := .glo "_law_boxes") rfl)), _, d6, F6, (He.glo_ok X G (c.fact 6 (f := .glo "_law_number") rfl)), _, d7, F7, (He.glo_ok X G (c.fact 7 (f := .glo "_law_whole") rfl)), _, d8, F8, (He.glo_ok X G (c.fact 8 (f := .glo "_law_right") rfl)), (He.free_ok X G (c.fact 10 (f := .free "abs") rfl)), (He.free_ok X G (c.fact 11 (f := .free "all") rfl)), (He.free_ok X G (c.fact 12 (f := .free "bool") rfl)), (He.free_ok X G (c.fact 13 (f := .free "enumerate") rfl)), (He.free_ok X G (c.fact 14 (f := .free "int") rfl)), (He.free_ok X G (c.fact 15 (f := .free "isinstance") rfl)), (He.free_ok X G (c.fact 16 (f := .free "len") rfl)), (He.free_ok X G (c.fact 17 (f := .free "list") rfl)), (He.free_ok X G (c.fact 18 (f := .free "range") rfl)), (He.free_ok X G (c.fact 19 (f := .free "tuple") rfl)), (He.free_ok X G (c.fact 20 (f := .free "zip") rfl))⟩⟩
theorem facts {P : Program} {w : World} {K : KF} {h : Heap} {mg : Str → Option Value} {f : Addr} (X : K.In h) (G : h.Ns mainGlobals mg) (hfa : mg ("law" : Str) = some (.ref f)) (c : He.SaysD fa fn K) :
    ∃ fd : FuncData, (∀ (s : Shared) (v : Value), BindsTo s fd ⟨[v], []⟩ [("_law_script", v)]) ∧ ∀ base : Heap, K.In base → base.Ns mainGlobals mg → FnOk P w K mg base CX0 3 f fd ["_law_script"] (fun vs H Q _ => spF K mg 1 F_law vs H Q fun _ _ _ => False) := by
  obtain ⟨fd, F⟩ := c.def_ 9 (d := dd_law) rfl
  obtain ⟨cf⟩ := cfg X G c
  have e := hfa.symm.trans (He.glo_ok X G (c.fact 9 (f := .glo "law") rfl))
  cases e
  have b := FunD.bindsA (ps := ["_law_script"]) F fun _ _ _ _ _ _ us hl => match us, hl with | [_], _ => rfl
  exact ⟨fd, fun s v => b s [v] rfl, fun base _ _ => ok_law F cf⟩
end G01
open PySem PySem.W PySem.Calls PyProof.Rows
theorem G01.holds_of (H : ∀ ns : List Int, ns.length ≤ 63 → ∃ h', G01.F_law [.v (.list (ns.map .int))] [] = some (.rt (.v (.bool true)) h')) : PySem.Challenge.rw_roundhand_k01_stores_by_numbers.Holds := by
  w_on; o_law
  refine HandSHeadRun.head_any (r := OpenLaw.row PySem.Challenge.rw_roundhand_k01_stores_by_numbers) (q := view (OpenLaw.row PySem.Challenge.rw_roundhand_k01_stores_by_numbers).prog [11]) (H := G01.hk) (ob := G01.ob) (M := 400) (loose := G01.loose) (d := HandSHeadRun.topDef (OpenLaw.row PySem.Challenge.rw_roundhand_k01_stores_by_numbers).prog 11) (kwd := []) G01.ob_eq
    (by kernel_rfl) (fun s => by kernel_rfl) G01.run (by kernel_rfl) (by kernel_rfl) (by kernel_rfl) (by rfl) (by first | assumption | decide +kernel) (by decide +kernel) ⟨rfl, rfl, rfl, rfl, rfl, by decide +kernel⟩ ?hw ?hc
  case hw => w_witness2
  case hc =>
    refine L2.walk_ofE (l := PySem.Challenge.rw_roundhand_k01_stores_by_numbers) (n := 63) (k := 3) (x := "_law_script") (CX := L2.CX0) rfl (by decide) (by kernel_rfl) ⟨rfl, by decide, by decide⟩ ?F (fun _ _ _ _ z => z)
    intro w mg fa h Y G hmg0
    obtain ⟨K, KX, c⟩ := Y
    have hmg : mg ("law" : PySem.Str) = some (.ref fa) := by
      have e : (HandSHeadRun.topDef (OpenLaw.row PySem.Challenge.rw_roundhand_k01_stores_by_numbers).prog 11).name = ("law" : PySem.Str) := by kernel_rfl
      rw [← e]
      exact hmg0
    obtain ⟨fd, hb, hF⟩ := G01.facts (P := (PySem.Challenge.rw_roundhand_k01_stores_by_numbers).prog) (w := w) KX G hmg c
    exact ⟨K, fd, (fun vs H Q _ => Vl.spF K mg 1 G01.F_law vs H Q fun _ _ _ => False), KX, hb, fun Hp a ns hl _ hS => Vl.law_sp hS (H ns hl), hF⟩
set_option maxHeartbeats 4000000
namespace G01
open PySem PySem.Spec PyProof.Rows L2 Vl
abbrev Bx := Str × Int × Int
def bx (b : Bx) : PyData := .tuple [.str b.1, .int b.2.1, .int b.2.2]
def prod : List Bx → Int
  | [] => 1
  | b :: r => b.2.1 * prod r
def snum : List Bx → List Int → Int
  | b :: r, s :: t => s + b.2.1 * snum r t
  | _, _ => 0
def sby : List Bx → Int → List Int
  | [], _ => []
  | b :: r, n => n % b.2.1 :: sby r (n / b.2.1)
def Wd (bs : List Bx) : Prop := ∀ b ∈ bs, 0 < b.2.1 ∧ b.2.1 < 1000
theorem Wd.tl {b : Bx} {r : List Bx} (h : Wd (b :: r)) : Wd r := fun x hx => h x (List.mem_cons_of_mem _ hx)
theorem Wd.hd {b : Bx} {r : List Bx} (h : Wd (b :: r)) : 0 < b.2.1 ∧ b.2.1 < 1000 := h b List.mem_cons_self
/-- the store st goes with the boxes -/
def In : List Bx → List Int → Prop
  | [], [] => True
  | b :: r, s :: t => (0 ≤ s ∧ s < b.2.1) ∧ In r t
  | _, _ => False
theorem In.len : ∀ {bs : List Bx} {st : List Int}, In bs st → st.length = bs.length
  | [], [], _ => rfl
  | [], _ :: _, h => h.elim
  | _ :: _, [], h => h.elim
  | _ :: _, _ :: _, h => by rw [List.length_cons, List.length_cons, In.len h.2]
theorem In.nonneg : ∀ {bs : List Bx} {st : List Int}, In bs st → ∀ s ∈ st, 0 ≤ s
  | [], [], _, _, h => by cases h
  | [], _ :: _, h, _, _ => h.elim
  | _ :: _, [], h, _, _ => h.elim
  | _ :: _, _ :: _, h, x, hx => by
    rcases List.mem_cons.mp hx with e | e
    · rw [e]; exact h.1.1
    · exact In.nonneg h.2 x e
theorem prod_pos : ∀ {bs : List Bx}, Wd bs → 0 < prod bs
  | [], _ => by decide
  | b :: r, h => Int.mul_pos h.hd.1 (prod_pos h.tl)
theorem sby_in : ∀ {bs : List Bx} (n : Int), Wd bs → In bs (sby bs n)
  | [], _, _ => trivial
  | b :: r, n, h => ⟨⟨Int.emod_nonneg _ (by have := h.hd.1; omega), Int.emod_lt_of_pos _ h.hd.1⟩, sby_in _ h.tl⟩
theorem snum_sby : ∀ {bs : List Bx} {n : Int}, Wd bs → 0 ≤ n → n < prod bs → snum bs (sby bs n) = n
  | [], n, _, h0, h1 => by
    have h1 : n < 1 := h1
    show (0 : Int) = n
    omega
  | b :: r, n, h, h0, h1 => by
    have hb := h.hd.1
    have e := snum_sby (n := n / b.2.1) h.tl (Int.ediv_nonneg h0 (by omega)) (Int.ediv_lt_of_lt_mul hb (by rw [Int.mul_comm]; exact h1))
    show n % b.2.1 + b.2.1 * snum r (sby r (n / b.2.1)) = n
    rw [e, Int.add_comm]
    exact Int.mul_ediv_add_emod n b.2.1
theorem sby_snum : ∀ {bs : List Bx} {st : List Int}, Wd bs → In bs st → sby bs (snum bs st) = st
  | [], [], _, _ => rfl
  | [], _ :: _, _, h => h.elim
  | _ :: _, [], _, h => h.elim
  | b :: r, s :: t, hw, h => by
    have hb := hw.hd.1
    show (s + b.2.1 * snum r t) % b.2.1 :: sby r ((s + b.2.1 * snum r t) / b.2.1) = s :: t
    rw [Int.add_mul_emod_self_left, Int.emod_eq_of_lt h.1.1 h.1.2, Int.add_mul_ediv_left _ _ (by omega), Int.ediv_eq_zero_of_lt h.1.1 h.1.2, Int.zero_add, sby_snum hw.tl h.2]
/-! ### the program's own -/
theorem many_loop {a : Option D} : ∀ (bs : List Bx) (m : Int) {x y z : Option D}, Wd bs → ∃ x' y' z', forL none (gTp 3 (gsCons (gNm 2) (gsCons (gNm 3) (gsCons (gNm 4) gsNil)))) L_many_stores_1 ((bs.map bx).map .v) [a, some (.v (.int m)), x, y, z] [] = some (.nx [a, some (.v (.int (m * prod bs))), x', y', z'] [])
  | [], m, x, y, z, _ => ⟨x, y, z, by rw [List.map_nil, List.map_nil, forL, if_pos (show gok none _ from trivial)]; simp [prod]⟩
  | b :: r, m, x, y, z, h => by
    obtain ⟨x', y', z', e⟩ := many_loop r (m * b.2.1) (a := a) (x := some (.v (.str b.1))) (y := some (.v (.int b.2.1))) (z := some (.v (.int b.2.2))) h.tl
    refine ⟨x', y', z', ?_⟩
    have hc : cmul m b.2.1 = true := by
      have := h.hd
      unfold cmul
      rw [Bool.or_eq_true, Bool.and_eq_true, Bool.and_eq_true, decide_eq_true_eq, decide_eq_true_eq, decide_eq_true_eq, decide_eq_true_eq]
      exact .inr ⟨by omega, by omega⟩
    rw [List.map_cons, List.map_cons, forL, if_pos (show gok none _ from trivial)]
    have eg : gTp 3 (gsCons (gNm 2) (gsCons (gNm 3) (gsCons (gNm 4) gsNil))) (.v (bx b)) [a, some (.v (.int m)), x, y, z] [] = some [a, some (.v (.int m)), some (.v (.str b.1)), some (.v (.int b.2.1)), some (.v (.int b.2.2))] := by simp [bx]
    have eb : L_many_stores_1 [a, some (.v (.int m)), some (.v (.str b.1)), some (.v (.int b.2.1)), some (.v (.int b.2.2))] [] = some (.nx [a, some (.v (.int (m * b.2.1))), some (.v (.str b.1)), some (.v (.int b.2.1)), some (.v (.int b.2.2))] []) := by simp [L_many_stores_1, hc]
    simp only [eg, eb]
    rw [e, prod, Int.mul_assoc]
theorem call_many (bs : List Bx) (h : Hs) (hw : Wd bs) : callR F_many_stores [.list (bs.map bx)] false h = some (.ok (.v (.int (prod bs))) h) := by
  refine callR_rt (h' := []) (d := .v (.int (prod bs))) ?_ (frz_v _ _ _)
  obtain ⟨x', y', z', e⟩ := many_loop bs 1 (a := some (.v (.list (bs.map bx)))) (x := none) (y := none) (z := none) hw
  show mkFn 5 B_many_stores [.v (.list (bs.map bx))] [] = _
  unfold mkFn B_many_stores
  simp [e, -List.map_map]
theorem call_first (bs : List Bx) (h : Hs) : callR F_first_store [.list (bs.map bx)] false h = some (.ok (.v (.tuple (bs.map fun b => .int b.2.2))) h) := by
  refine callR_rt (h' := []) (d := .v (.tuple (bs.map fun b => .int b.2.2))) ?_ (frz_v _ _ _)
  have hc : compL none (gTp 3 (gsCons (gNm 1) (gsCons (gNm 2) (gsCons (gNm 3) gsNil)))) tYes' (eVar 3) ((bs.map bx).map .v) [some (.v (.list (bs.map bx))), none, none, none] [] = some (bs.map (fun b => .v (.int b.2.2)), []) := by
    rw [List.map_map]
    exact compMap bs _ _ _ (fun b => .int b.2.2) fun b _ => ⟨[some (.v (.list (bs.map bx))), some (.v (.str b.1)), some (.v (.int b.2.1)), some (.v (.int b.2.2))], by simp [bx], by simp⟩
  show mkFn 4 B_first_store [.v (.list (bs.map bx))] [] = _
  unfold mkFn B_first_store
  simp [hc, -List.map_map]
theorem zip_map : ∀ (bs : List Bx) (st : List Int), zipI ((bs.map bx).map .v) ((st.map PyData.int).map .v) = (bs.zip st).map fun p => .v (.tuple [bx p.1, .int p.2])
  | [], _ => rfl
  | _ :: _, [] => rfl
  | b :: r, s :: t => by
    rw [List.map_cons, List.map_cons, List.map_cons, List.map_cons, zipI, zip_map r t, List.zip_cons_cons, List.map_cons]
    simp
theorem num_loop {a b0 : Option D} : ∀ (bs : List Bx) (st : List Int) (f t : Int) {x y : Option D}, Wd bs → In bs st → ∃ t' x' y', forL none (gTp 2 (gsCons (gNm 4) (gsCons (gNm 5) gsNil))) L_store_number_1 ((bs.zip st).map fun p => .v (.tuple [bx p.1, .int p.2])) [a, b0, some (.v (.int f)), some (.v (.int t)), x, y] [] = some (.nx [a, b0, some (.v (.int (f + t * snum bs st))), some (.v (.int t')), x', y'] [])
  | [], [], f, t, x, y, _, _ => ⟨t, x, y, by rw [List.zip_nil_left, List.map_nil, forL, if_pos (show gok none _ from trivial)]; simp [snum]⟩
  | [], _ :: _, _, _, _, _, _, h => h.elim
  | _ :: _, [], _, _, _, _, _, h => h.elim
  | b :: r, s :: st, f, t, x, y, hw, hi => by
    obtain ⟨t', x', y', e⟩ := num_loop r st (f + s * t) (t * b.2.1) (a := a) (b0 := b0) (x := some (.v (bx b))) (y := some (.v (.int s))) hw.tl hi.2
    refine ⟨t', x', y', ?_⟩
    have h1 := hw.hd
    have h2 := hi.1
    have c1 : cmul s t = true := cmulL (by omega) (by omega)
    have c2 : cmul t b.2.1 = true := by
      unfold cmul
      rw [Bool.or_eq_true, Bool.and_eq_true, Bool.and_eq_true, decide_eq_true_eq, decide_eq_true_eq, decide_eq_true_eq, decide_eq_true_eq]
      exact .inr ⟨by omega, by omega⟩
    rw [List.zip_cons_cons, List.map_cons, forL, if_pos (show gok none _ from trivial)]
    have eg : gTp 2 (gsCons (gNm 4) (gsCons (gNm 5) gsNil)) (.v (.tuple [bx b, .int s])) [a, b0, some (.v (.int f)), some (.v (.int t)), x, y] [] = some [a, b0, some (.v (.int f)), some (.v (.int t)), some (.v (bx b)), some (.v (.int s))] := by simp
    have eb : L_store_number_1 [a, b0, some (.v (.int f)), some (.v (.int t)), some (.v (bx b)), some (.v (.int s))] [] = some (.nx [a, b0, some (.v (.int (f + s * t))), some (.v (.int (t * b.2.1))), some (.v (bx b)), some (.v (.int s))] []) := by
      have ea : atI [PyData.str b.1, .int b.2.1, .int b.2.2] 1 = some (.int b.2.1) := rfl
      simp [L_store_number_1, c1, c2, bx, ea]
    simp only [eg, eb]
    rw [e, snum]
    have : f + s * t + t * b.2.1 * snum r st = f + t * (s + b.2.1 * snum r st) := by
      rw [Int.mul_add, Int.mul_comm s t, Int.add_assoc, Int.mul_assoc]
    rw [this]
theorem call_num (bs : List Bx) (st : List Int) (h : Hs) (hw : Wd bs) (hi : In bs st) (hl : bs.length ≤ 1000) : callR F_store_number [.list (bs.map bx), .tuple (st.map .int)] false h = some (.ok (.v (.int (snum bs st))) h) := by
  refine callR_rt (h' := []) (d := .v (.int (snum bs st))) ?_ (frz_v _ _ _)
  obtain ⟨t', x', y', e⟩ := num_loop bs st 0 1 (a := some (.v (.list (bs.map bx)))) (b0 := some (.v (.tuple (st.map .int)))) (x := none) (y := none) hw hi
  show mkFn 6 B_store_number [.v (.list (bs.map bx)), .v (.tuple (st.map .int))] [] = _
  unfold mkFn B_store_number
  have ek : kZipS [.v (.list (bs.map bx)), .v (.tuple (st.map .int))] [] = some ((bs.zip st).map fun p => .v (.tuple [bx p.1, .int p.2]), none) := by
    unfold kZipS
    simp only [srcD]
    rw [zip_map, if_pos (by rw [List.length_map, List.length_map]; exact ten_line' (by omega))]
  simp [ek, e, -List.map_map]
theorem by_loop {a : Option D} : ∀ (bs : List Bx) (n : Int) (ds : List Int) {x y z : Option D}, Wd bs → ds.length + bs.length ≤ 1000 → ∃ n' x' y' z', forL none (gTp 3 (gsCons (gNm 3) (gsCons (gNm 4) (gsCons (gNm 5) gsNil)))) L_store_by_1 ((bs.map bx).map .v) [a, some (.v (.int n)), some (.ref 0), x, y, z] [.lst ((ds.map PyData.int).map .v)] = some (.nx [a, some (.v (.int n')), some (.ref 0), x', y', z'] [.lst (((ds ++ sby bs n).map PyData.int).map .v)])
  | [], n, ds, x, y, z, _, _ => ⟨n, x, y, z, by rw [List.map_nil, List.map_nil, forL, if_pos (show gok none _ from trivial)]; simp [sby]⟩
  | b :: r, n, ds, x, y, z, h, hl => by
    rw [List.length_cons] at hl
    obtain ⟨n', x', y', z', e⟩ := by_loop r (n / b.2.1) (ds ++ [n % b.2.1]) (a := a) (x := some (.v (.str b.1))) (y := some (.v (.int b.2.1))) (z := some (.v (.int b.2.2))) h.tl (by rw [List.length_append]; simp; omega)
    refine ⟨n', x', y', z', ?_⟩
    have hb := h.hd
    have hc : cdiv b.2.1 = true := by
      unfold cdiv
      rw [decide_eq_true hb.1, decide_eq_true (by omega)]
      rfl
    have hz : ds.length < sizeLine := lt_line (by omega)
    rw [List.map_cons, List.map_cons, forL, if_pos (show gok none _ from trivial)]
    have eg : gTp 3 (gsCons (gNm 3) (gsCons (gNm 4) (gsCons (gNm 5) gsNil))) (.v (bx b)) [a, some (.v (.int n)), some (.ref 0), x, y, z] [.lst ((ds.map PyData.int).map .v)] = some [a, some (.v (.int n)), some (.ref 0), some (.v (.str b.1)), some (.v (.int b.2.1)), some (.v (.int b.2.2))] := by simp [bx]
    have eb : L_store_by_1 [a, some (.v (.int n)), some (.ref 0), some (.v (.str b.1)), some (.v (.int b.2.1)), some (.v (.int b.2.2))] [.lst ((ds.map PyData.int).map .v)] = some (.nx [a, some (.v (.int (n / b.2.1))), some (.ref 0), some (.v (.str b.1)), some (.v (.int b.2.1)), some (.v (.int b.2.2))] [.lst (((ds ++ [n % b.2.1]).map PyData.int).map .v)]) := by
      simp [L_store_by_1, hc, hz, hb.1]
    simp only [eg, eb]
    rw [e, sby, List.append_assoc]
    rfl
theorem call_by (bs : List Bx) (n : Int) (h : Hs) (hw : Wd bs) (hl : bs.length ≤ 1000) : callR F_store_by [.list (bs.map bx), .int n] false h = some (.ok (.v (.tuple ((sby bs n).map .int))) h) := by
  obtain ⟨n', x', y', z', e⟩ := by_loop bs n [] (a := some (.v (.list (bs.map bx)))) (x := none) (y := none) (z := none) hw (by simpa using hl)
  refine callR_rt (h' := [.lst ((([] ++ sby bs n).map PyData.int).map .v)]) (d := .v (.tuple ((sby bs n).map .int))) ?_ (frz_v _ _ _)
  show mkFn 6 B_store_by [.v (.list (bs.map bx)), .v (.int n)] [] = _
  unfold mkFn B_store_by
  simp only [List.map_nil, List.nil_append] at e
  simp [e, -List.map_map]
/-! ### the law's own -/
theorem call_whole (i : Int) (h : Hs) : callR F__law_whole [.int i] false h = some (.ok (.v (.bool true)) h) := by
  refine callR_rt (h' := []) (d := .v (.bool true)) ?_ (frz_v _ _ _)
  show mkFn 1 B__law_whole [.v (.int i)] [] = _
  unfold mkFn B__law_whole
  simp
theorem atI_nat {α : Type} {xs : List α} {k : Nat} {x : α} (h : xs[k]? = some x) : atI xs (k : Int) = some x := by
  obtain ⟨hl, _⟩ := List.getElem?_eq_some_iff.mp h
  obtain ⟨y, e1, _, e2⟩ := atI_in (xs := xs) (i := k) (by omega) (by omega)
  rw [Int.toNat_natCast, h] at e2
  cases e2
  exact e1
theorem snum_drop {bs : List Bx} {st : List Int} {k : Nat} {b : Bx} {s : Int} (h1 : bs[k]? = some b) (h2 : st[k]? = some s) : snum (bs.drop k) (st.drop k) = s + b.2.1 * snum (bs.drop (k + 1)) (st.drop (k + 1)) := by
  obtain ⟨hl, e⟩ := List.getElem?_eq_some_iff.mp h1
  obtain ⟨hl2, e2⟩ := List.getElem?_eq_some_iff.mp h2
  rw [List.drop_eq_getElem_cons hl, List.drop_eq_getElem_cons hl2, snum, e, e2]
theorem In.at : ∀ {bs : List Bx} {st : List Int} {k : Nat}, In bs st → k < bs.length → ∃ b s, bs[k]? = some b ∧ st[k]? = some s ∧ 0 ≤ s ∧ s < b.2.1
  | [], [], k, _, h => by simp at h
  | [], _ :: _, _, h, _ => h.elim
  | _ :: _, [], _, h, _ => h.elim
  | b :: r, s :: t, 0, h, _ => ⟨b, s, rfl, rfl, h.1⟩
  | b :: r, s :: t, k + 1, h, hl => by simpa using In.at (k := k) h.2 (by simpa using hl)
theorem call_lnum (bs : List Bx) (st : List Int) (h : Hs) (hw : Wd bs) (hi : In bs st) (hl : bs.length ≤ 1000) : callR F__law_number [.list (bs.map bx), .tuple (st.map .int)] false h = some (.ok (.v (.int (snum bs st))) h) := by
  refine callR_rt (h' := []) (d := .v (.int (snum bs st))) ?_ (frz_v _ _ _)
  obtain ⟨s', h', e, rfl, x, rfl⟩ := forL_inv (body := L__law_number_1) (g := gNm 3) (gd := none)
    (fun j s h => h = [] ∧ ∃ x, s = [some (.v (.list (bs.map bx))), some (.v (.tuple (st.map .int))), some (.v (.int (snum (bs.drop (bs.length - j)) (st.drop (bs.length - j))))), x])
    (items := downItems ((bs.length : Int) - 1) bs.length) (i := 0) (s := [some (.v (.list (bs.map bx))), some (.v (.tuple (st.map .int))), some (.v (.int 0)), none]) (h := [])
    ⟨rfl, none, by rw [Nat.sub_zero, List.drop_length, snum]; intro _ _ _ _ z; cases z⟩ (fun _ _ _ _ => trivial) fun j d s h hI hd => by
      obtain ⟨rfl, x, rfl⟩ := hI
      unfold downItems at hd
      obtain ⟨hj, _⟩ := List.getElem?_eq_some_iff.mp hd
      rw [List.length_map, List.length_range] at hj
      rw [List.getElem?_map, List.getElem?_range hj] at hd
      obtain rfl : D.v (.int ((bs.length : Int) - 1 + (j : Int) * (-1))) = d := Option.some.inj hd
      obtain ⟨b, s, hb, hs, s0, s1⟩ := hi.at (k := bs.length - (j + 1)) (by omega)
      have ek : (bs.length : Int) - 1 + (j : Int) * (-1) = ((bs.length - (j + 1) : Nat) : Int) := by omega
      have ea : atI (bs.map bx) ((bs.length - (j + 1) : Nat) : Int) = some (bx b) := atI_nat (by rw [List.getElem?_map, hb]; rfl)
      have es : atI (st.map PyData.int) ((bs.length - (j + 1) : Nat) : Int) = some (.int s) := atI_nat (by rw [List.getElem?_map, hs]; rfl)
      have e1 : atI [PyData.str b.1, .int b.2.1, .int b.2.2] 1 = some (.int b.2.1) := rfl
      have hbw := hw b (List.mem_of_getElem? hb)
      have hc : ∀ m, cmul m b.2.1 = true := fun m => by
        unfold cmul
        rw [Bool.or_eq_true, Bool.and_eq_true, Bool.and_eq_true, decide_eq_true_eq, decide_eq_true_eq, decide_eq_true_eq, decide_eq_true_eq]
        exact .inr ⟨by omega, by omega⟩
      have hq := snum_drop hb hs
      rw [show bs.length - (j + 1) + 1 = bs.length - j by omega] at hq
      refine ⟨_, [some (.v (.list (bs.map bx))), some (.v (.tuple (st.map .int))), some (.v (.int (snum (bs.drop (bs.length - (0 + j + 1))) (st.drop (bs.length - (0 + j + 1)))))), some (.v (.int ((bs.length - (j + 1) : Nat) : Int)))], [], rfl, .inl ?_, rfl, _, rfl⟩
      rw [Nat.zero_add, ek, hq]
      generalize snum (bs.drop (bs.length - j)) (st.drop (bs.length - j)) = m
      unfold L__law_number_1
      simp [ea, es, hc, bx, e1, -atI_map]
      rw [Int.add_comm, Int.mul_comm]
  rw [Nat.zero_add, show (downItems ((bs.length : Int) - 1) bs.length).length = bs.length by unfold downItems; rw [List.length_map, List.length_range], Nat.sub_self, List.drop_zero, List.drop_zero] at e
  show mkFn 4 B__law_number [.v (.list (bs.map bx)), .v (.tuple (st.map .int))] [] = _
  unfold mkFn B__law_number
  have hk : kRngD [.v (.int ((bs.length : Int) - 1)), .v (.int (-1)), .v (.int (-1))] [] = some (downItems ((bs.length : Int) - 1) bs.length, none) := by
    unfold kRngD
    have a1 : inLine ((bs.length : Int) - 1) = true := yes_of ⟨by omega, by omega⟩
    have a2 : inLine (-1) = true := yes_of ⟨by decide, by decide⟩
    have a3 : yes ((bs.length : Int) - 1 - -1 ≤ 10000000) = true := yes_of (by omega)
    have a4 : yes True = true := yes_of trivial
    simp only [a1, a2, a3, a4]
    rw [show ((bs.length : Int) - 1 - -1).toNat = bs.length by omega]
    rfl
  simp [hk, e, -List.map_map]
abbrev abc : Str := Str.ofString "abcdefghijklmnopqrstuvwxyz"
abbrev lat : Str := Str.ofString "lattice"
theorem abc_ok : okS abc := by
  unfold okS
  decide +kernel
theorem abc_len : abc.cps.toList.length = 26 := by decide +kernel
theorem lat_tx : Tx 7 lat := ⟨by
  unfold okS
  decide +kernel, by decide +kernel⟩
def prodW : List Int → Int
  | [] => 1
  | w :: r => w * prodW r
theorem prod_W : ∀ bs : List Bx, prod bs = prodW (bs.map fun b => b.2.1)
  | [] => rfl
  | b :: r => by rw [prod, List.map_cons, prodW, prod_W r]
def worthsOk (W : List Int) : Prop := (∀ w ∈ W, 0 < w ∧ w < 1000) ∧ W.length ≤ 3 ∧ prodW W ≤ 1000
theorem worths_at {d : Int} (h0 : 0 ≤ d) (h1 : d < 11) : ∃ W : List Int, atI [PyData.tuple [.int 2], .tuple [.int 3], .tuple [.int 4], .tuple [.int 5], .tuple [.int 6], .tuple [.int 2, .int 2], .tuple [.int 2, .int 3], .tuple [.int 3, .int 2], .tuple [.int 2, .int 4], .tuple [.int 4, .int 2], .tuple [.int 2, .int 2, .int 2]] d = some (.tuple (W.map .int)) ∧ worthsOk W := by
  obtain ⟨x, x1, x2, _⟩ := atI_in (xs := [PyData.tuple [.int 2], .tuple [.int 3], .tuple [.int 4], .tuple [.int 5], .tuple [.int 6], .tuple [.int 2, .int 2], .tuple [.int 2, .int 3], .tuple [.int 3, .int 2], .tuple [.int 2, .int 4], .tuple [.int 4, .int 2], .tuple [.int 2, .int 2, .int 2]]) h0 (by simpa using h1)
  simp only [List.mem_cons, List.not_mem_nil, or_false] at x2
  rcases x2 with rfl | rfl | rfl | rfl | rfl | rfl | rfl | rfl | rfl | rfl | rfl
  · exact ⟨[2], x1, by unfold worthsOk; decide⟩
  · exact ⟨[3], x1, by unfold worthsOk; decide⟩
  · exact ⟨[4], x1, by unfold worthsOk; decide⟩
  · exact ⟨[5], x1, by unfold worthsOk; decide⟩
  · exact ⟨[6], x1, by unfold worthsOk; decide⟩
  · exact ⟨[2, 2], x1, by unfold worthsOk; decide⟩
  · exact ⟨[2, 3], x1, by unfold worthsOk; decide⟩
  · exact ⟨[3, 2], x1, by unfold worthsOk; decide⟩
  · exact ⟨[2, 4], x1, by unfold worthsOk; decide⟩
  · exact ⟨[4, 2], x1, by unfold worthsOk; decide⟩
  · exact ⟨[2, 2, 2], x1, by unfold worthsOk; decide⟩
def Good (bs : List Bx) : Prop := ∀ b ∈ bs, okS b.1
theorem rng_at {n j : Nat} {d : D} (h : (rngItems 0 n)[j]? = some d) : j < n ∧ d = .v (.int (j : Int)) := by
  unfold rngItems at h
  obtain ⟨hj, _⟩ := List.getElem?_eq_some_iff.mp h
  rw [List.length_map, List.length_range] at hj
  rw [List.getElem?_map, List.getElem?_range hj] at h
  cases h
  exact ⟨hj, by simp⟩
theorem rng_len (n : Nat) : (rngItems 0 n).length = n := by unfold rngItems; rw [List.length_map, List.length_range]
theorem kRng1_nat {n : Nat} {h : Hs} (hn : n ≤ 10000000) : kRng1 [.v (.int (n : Int))] h = some (rngItems 0 n, none) := by
  unfold kRng1
  have a1 : inLine (n : Int) = true := yes_of ⟨by omega, by omega⟩
  have a3 : yes ((n : Int) ≤ 10000000) = true := yes_of (by omega)
  simp only [a1, a3, Int.toNat_natCast]
  rfl
theorem call_boxes {es : List Int} (h : Hs) (hd : Dig [11, 26, 8, 6, 6, 6, 6, 6, 6] es) : ∃ bs : List Bx, callR F__law_boxes [.list (es.map .int)] false h = some (.ok (.v (.list (bs.map bx))) h) ∧ Wd bs ∧ Good bs ∧ bs.length ≤ 3 ∧ prod bs ≤ 1000 := by
  obtain ⟨d0, e0, p0, q0⟩ := hd.ix (i := 0) rfl
  have e0 : atI es 0 = some d0 := e0
  obtain ⟨d1, e1, p1, q1⟩ := hd.ix (i := 1) rfl
  have e1 : atI es 1 = some d1 := e1
  obtain ⟨d2, e2, p2, q2⟩ := hd.ix (i := 2) rfl
  have e2 : atI es 2 = some d2 := e2
  obtain ⟨W, eW, hW1, hW2, hW3⟩ := worths_at p0 q0
  obtain ⟨s', h', e, bs, rfl, hl, hg, x, y, rfl⟩ := forL_inv (body := L__law_boxes_1) (g := gNm 3) (gd := none)
    (fun j s h => ∃ bs : List Bx, h = [.lst ((bs.map bx).map .v)] ∧ bs.map (fun b => b.2.1) = W.take j ∧ Good bs ∧ ∃ x y, s = [some (.v (.list (es.map .int))), some (.v (.tuple (W.map .int))), some (.ref 0), x, y])
    (items := rngItems 0 W.length) (i := 0) (s := [some (.v (.list (es.map .int))), some (.v (.tuple (W.map .int))), some (.ref 0), none, none]) (h := [.lst []])
    ⟨[], rfl, by simp, (show Good [] from fun _ hb => by cases hb), _, _, rfl⟩ (fun _ _ _ _ => trivial) fun j d s h hI hjj => by
      obtain ⟨bs, rfl, hm, hg, x, y, rfl⟩ := hI
      obtain ⟨hj, rfl⟩ := rng_at hjj
      rw [Nat.zero_add] at hm ⊢
      obtain ⟨hw1, hw2⟩ := hW1 W[j] (List.getElem_mem hj)
      have ew : atI W (j : Int) = some W[j] := atI_nat (List.getElem?_eq_getElem hj)
      have hbl : bs.length ≤ 3 := by
        have := congrArg List.length hm
        rw [List.length_map, List.length_take] at this
        omega
      obtain ⟨d3, e3, p3, q3⟩ := hd.ix (i := 3 + j) (s := 6) (by
        have : j = 0 ∨ j = 1 ∨ j = 2 := by omega
        rcases this with rfl | rfl | rfl <;> rfl)
      have e3 : atI es (3 + (j : Int)) = some d3 := by
        rw [show (3 : Int) + (j : Int) = ((3 + j : Nat) : Int) by omega]
        exact e3
      obtain ⟨c, ec, mc, _⟩ := atI_in (xs := abc.cps.toList) (i := (d1 + 7 * (j : Int)) % 26) (Int.emod_nonneg _ (by decide)) (by rw [abc_len]; exact Int.emod_lt_of_pos _ (by decide))
      have t1 : Tx 1 ⟨#[c]⟩ := tx_sign (abc_ok c mc)
      have t2 := tx_cut none (some d2) lat_tx
      have t3 := tx_app t1 t2
      have hm7 : cmul 7 (j : Int) = true := cmulL (by decide) (by decide)
      have g1 : abc.length ≤ sizeLine := ten_line' (by rw [show abc.length = 26 by decide +kernel]; decide)
      have g2 : lat.length ≤ sizeLine := lat_tx.line
      have g3 : (⟨#[c]⟩ : Str).length + (cutS lat none (some d2)).length ≤ sizeLine := ten_line' (by have := t1.2; have := t2.2; omega)
      have g4 : bs.length < sizeLine := lt_line (by omega)
      refine ⟨_, [some (.v (.list (es.map .int))), some (.v (.tuple (W.map .int))), some (.ref 0), some (.v (.int (j : Int))), some (.v (.str ⟨#[c]⟩))], [.lst (((bs ++ [(⟨#[c]⟩ ++ cutS lat none (some d2), W[j], d3 % W[j])]).map bx).map .v)], rfl, .inl ?_, _, rfl, ?_, ?_, _, _, rfl⟩
      · unfold L__law_boxes_1
        simp [e1, e2, e3, ec, ew, hm7, g1, g2, g3, g4, hw1, bx]
      · rw [List.map_append, hm, List.take_succ, List.getElem?_eq_getElem hj]
        rfl
      · intro b hb
        rcases List.mem_append.mp hb with z | z
        · exact hg b z
        · rw [List.mem_singleton.mp z]
          exact t3.1
  rw [Nat.zero_add, rng_len, List.take_length] at hl
  refine ⟨bs, ?_, fun b hb => ?_, hg, ?_, ?_⟩
  · refine callR_rt (h' := [.lst ((bs.map bx).map .v)]) (d := .ref 0) ?_ ?_
    · show mkFn 5 B__law_boxes [.v (.list (es.map .int))] [] = _
      unfold mkFn B__law_boxes
      have hk : kRng1 [.v (.int (W.length : Int))] [.lst []] = some (rngItems 0 W.length, none) := kRng1_nat (by omega)
      rw [List.map_cons, List.map_nil]
      show (match sSeq _ _ [some (.v (.list (es.map .int))), none, none, none, none] [] with
        | some (.rt d h') => some (FR.rt d h')
        | some (.nx _ h') => some (FR.rt (.v .none) h')
        | some (.ex _ x h') => some (FR.ex x h')
        | _ => none) = _
      rw [seq_nx (s1 := [some (.v (.list (es.map .int))), some (.v (.tuple (W.map .int))), none, none, none]) (h1 := []) (by simp [e0, eW])]
      rw [seq_nx (s1 := [some (.v (.list (es.map .int))), some (.v (.tuple (W.map .int))), some (.ref 0), none, none]) (h1 := [.lst []]) (by simp)]
      rw [seq_nx (s1 := [some (.v (.list (es.map .int))), some (.v (.tuple (W.map .int))), some (.ref 0), x, y]) (h1 := [.lst ((bs.map bx).map .v)]) (by
        have hq : iP (eCons (eB lenD (eCons (eVar 1) eNil)) eNil) kRng1 [some (.v (.list (es.map .int))), some (.v (.tuple (W.map .int))), some (.ref 0), none, none] [.lst []] = some (.ok (rngItems 0 W.length) none [.lst []]) := by
          have q1 : eCons (eB lenD (eCons (eVar 1) eNil)) eNil [some (.v (.list (es.map .int))), some (.v (.tuple (W.map .int))), some (.ref 0), none, none] [.lst []] = some (.ok [.v (.int (W.length : Int))] [.lst []]) := by simp
          exact ip_eq q1 hk
        exact for_eq hq e)]
      simp
    · show frz _ (11 + 1) (.ref 0) = _
      rw [y_frz1]
      simp only [List.getElem?_cons_zero]
      rw [y_frzs]
      rfl
  · exact hW1 _ (by rw [← hl]; exact List.mem_map_of_mem hb)
  · have := congrArg List.length hl
    rw [List.length_map] at this
    omega
  · rw [prod_W, hl]
    exact hW3
theorem bx_ok {bs : List Bx} (hg : Good bs) : Sh 2 (.list (bs.map bx)) := sh_list fun x hx => by
  obtain ⟨b, hb, rfl⟩ := List.mem_map.mp hx
  refine sh_tup fun y hy => ?_
  simp only [List.mem_cons, List.not_mem_nil, or_false] at hy
  rcases hy with rfl | rfl | rfl
  · exact sh_str (hg b hb)
  · exact sh_int _
  · exact sh_int _
theorem ne_same {p : PyData} {n : Nat} {h : Hs} (hp : Sh n p) (hn : n ≤ 64) : eqD true (.v p) (.v p) h = some (.v (.bool false)) := by
  rw [eqD_v (hp.shaped hn) (hp.shaped hn), eqv_refl hp.1]
  rfl
theorem eq_same {p : PyData} {n : Nat} {h : Hs} (hp : Sh n p) (hn : n ≤ 64) : eqD false (.v p) (.v p) h = some (.v (.bool true)) := by
  rw [eqD_v (hp.shaped hn) (hp.shaped hn), eqv_refl hp.1]
  rfl
theorem ints_sh (xs : List Int) : Sh 1 (.tuple (xs.map .int)) := sh_tup fun x hx => by
  obtain ⟨i, _, rfl⟩ := List.mem_map.mp hx
  exact sh_int _
/-- one asked number -/
theorem asked {bs : List Bx} (hw : Wd bs) (hl : bs.length ≤ 3) {a1 a2 a4 a5 a6 a7 a8 a9 a11 a12 a13 : Option D} (m n : Int) (h0 : 0 ≤ n) (h1 : n < prod bs) :
    L__law_right_1 [some (.v (.list (bs.map bx))), a1, a2, some (.v (.int m)), a4, a5, a6, a7, a8, a9, some (.v (.int n)), a11, a12, a13] [] = some (.nx [some (.v (.list (bs.map bx))), a1, a2, some (.v (.int m)), a4, a5, a6, a7, a8, a9, some (.v (.int n)), some (.v (.tuple ((sby bs n).map .int))), a12, a13] []) := by
  have hi := sby_in n hw
  have c1 := call_by bs n [] hw (by omega)
  have c2 := call_lnum bs (sby bs n) [] hw hi (by omega)
  have c3 := call_num bs (sby bs n) [] hw hi (by omega)
  rw [snum_sby hw h0 h1] at c2 c3
  have hs : (sby bs n).length = bs.length := hi.len
  unfold L__law_right_1
  rw [seq_nx (s1 := [some (.v (.list (bs.map bx))), a1, a2, some (.v (.int m)), a4, a5, a6, a7, a8, a9, some (.v (.int n)), some (.v (.tuple ((sby bs n).map .int))), a12, a13]) (h1 := []) (by simp [c1])]
  have w1 : compL none (gNm 13) tYes' (eCall F__law_whole (eCons (eVar 13) eNil)) (((sby bs n).map PyData.int).map .v) [some (.v (.list (bs.map bx))), a1, a2, some (.v (.int m)), a4, a5, a6, a7, a8, a9, some (.v (.int n)), some (.v (.tuple ((sby bs n).map .int))), a12, none] [] = some ((sby bs n).map (fun _ => .v (.bool true)), []) := by
    rw [List.map_map]
    exact compMap _ _ _ _ (fun _ => .bool true) fun c _ => ⟨_, rfl, by simp [call_whole]⟩
  have w2 : bools ((sby bs n).map fun _ => PyData.bool true) = some ((sby bs n).map fun _ => true) := bools_map _ _
  have w3 : ((sby bs n).map fun _ => true).all id = true := by simp
  have nn : ∀ (k : Int) h, eqD true (.v (.int k)) (.v (.int k)) h = some (.v (.bool false)) := fun k h => ne_same (n := 0) (sh_int k) (by decide)
  rw [seq_nx (s1 := [some (.v (.list (bs.map bx))), a1, a2, some (.v (.int m)), a4, a5, a6, a7, a8, a9, some (.v (.int n)), some (.v (.tuple ((sby bs n).map .int))), a12, a13]) (h1 := []) (by simp [hs, nn, w1, w2, -List.map_map])]
  rw [seq_nx (s1 := [some (.v (.list (bs.map bx))), a1, a2, some (.v (.int m)), a4, a5, a6, a7, a8, a9, some (.v (.int n)), some (.v (.tuple ((sby bs n).map .int))), a12, a13]) (h1 := []) (by simp [c2, c3, nn])]
  have w4 : compL none (gNm 12) (Vl.tNot (tBl (eChain (lift2 leP) (lift2 ltP) (eC (.int 0)) (eIx (eVar 11) (eVar 12)) (eIx (eIx (eVar 0) (eVar 12)) (eC (.int 1)))))) (eVar 12) (rngItems 0 bs.length) [some (.v (.list (bs.map bx))), a1, a2, some (.v (.int m)), a4, a5, a6, a7, a8, a9, some (.v (.int n)), some (.v (.tuple ((sby bs n).map .int))), none, a13] [] = some ([], []) := by
    unfold rngItems
    rw [compData (List.range bs.length) _ _ _ _ (fun _ => false) (fun k => .int (k : Int)) fun k hk => ?_]
    · simp
    · obtain ⟨b, s, hb, hs, s0, s1⟩ := hi.at (k := k) (List.mem_range.mp hk)
      have ea : atI (bs.map bx) (k : Int) = some (bx b) := atI_nat (by rw [List.getElem?_map, hb]; rfl)
      have es : atI ((sby bs n).map PyData.int) (k : Int) = some (.int s) := atI_nat (by rw [List.getElem?_map, hs]; rfl)
      have e1 : atI [PyData.str b.1, .int b.2.1, .int b.2.2] 1 = some (.int b.2.1) := rfl
      refine ⟨[some (.v (.list (bs.map bx))), a1, a2, some (.v (.int m)), a4, a5, a6, a7, a8, a9, some (.v (.int n)), some (.v (.tuple ((sby bs n).map .int))), some (.v (.int (k : Int))), a13], by simp, ?_, fun z => by cases z⟩
      simp [ea, es, e1, bx, s0, s1, -atI_map]
  have hq : iP (eCons (eB lenD (eCons (eVar 0) eNil)) eNil) kRng1 [some (.v (.list (bs.map bx))), a1, a2, some (.v (.int m)), a4, a5, a6, a7, a8, a9, some (.v (.int n)), some (.v (.tuple ((sby bs n).map .int))), a12, a13] [] = some (.ok (rngItems 0 bs.length) none []) := by
    refine ip_eq (ds := [.v (.int (bs.length : Int))]) (h1 := []) (by simp) (kRng1_nat (by omega))
  have nn2 : ∀ h, eqD true (.v (.list [])) (.v (.list [])) h = some (.v (.bool false)) := fun h => ne_same (n := 1) (sh_list fun _ z => by cases z) (by decide)
  simp [-z_ip, hq, w4, nn2]
theorem call_right {bs : List Bx} (hw : Wd bs) (hl : bs.length ≤ 3) (hp : prod bs ≤ 1000) {es : List Int} (he : es.length = 3) (h0 : ∀ e ∈ es, 0 ≤ e) (h : Hs) :
    callR F__law_right [.list (bs.map bx), .tuple (bs.map fun b => .int b.2.2), .list (es.map .int)] false h = some (.ok (.v (.bool true)) h) := by
  refine callR_rt (h' := []) (d := .v (.bool true)) ?_ (frz_v _ _ _)
  have p0 := prod_pos hw
  show mkFn 14 B__law_right [.v (.list (bs.map bx)), .v (.tuple (bs.map fun b => .int b.2.2)), .v (.list (es.map .int))] [] = _
  unfold mkFn B__law_right
  generalize hF : (.v (.tuple (bs.map fun b => .int b.2.2)) : D) = F
  generalize hE : (.v (.list (es.map PyData.int)) : D) = E
  show (match sSeq _ _ [some (.v (.list (bs.map bx))), some F, some E, none, none, none, none, none, none, none, none, none, none, none] [] with
    | some (.rt d h') => some (FR.rt d h')
    | some (.nx _ h') => some (FR.rt (.v .none) h')
    | some (.ex _ x h') => some (FR.ex x h')
    | _ => none) = _
  rw [seq_nx (s1 := [some (.v (.list (bs.map bx))), some F, some E, some (.v (.int 1)), none, none, none, none, none, none, none, none, none, none]) (h1 := []) (by simp)]
  have loop2 : ∀ (cs : List Bx) (m : Int) {x y z : Option D}, Wd cs → ∃ x' y' z', forL none (gTp 3 (gsCons (gNm 4) (gsCons (gNm 5) (gsCons (gNm 6) gsNil)))) L__law_right_2 ((cs.map bx).map .v) [some (.v (.list (bs.map bx))), some F, some E, some (.v (.int m)), x, y, z, none, none, none, none, none, none, none] [] = some (.nx [some (.v (.list (bs.map bx))), some F, some E, some (.v (.int (m * prod cs))), x', y', z', none, none, none, none, none, none, none] []) := by
    intro cs
    induction cs with
    | nil => exact fun m x y z _ => ⟨x, y, z, by rw [List.map_nil, List.map_nil, forL, if_pos (show gok none _ from trivial)]; simp [prod]⟩
    | cons b r ih =>
      intro m x y z hc
      obtain ⟨x', y', z', e⟩ := ih (m * b.2.1) (x := some (.v (.str b.1))) (y := some (.v (.int b.2.1))) (z := some (.v (.int b.2.2))) hc.tl
      refine ⟨x', y', z', ?_⟩
      have hcm : cmul m b.2.1 = true := by
        have := hc.hd
        unfold cmul
        rw [Bool.or_eq_true, Bool.and_eq_true, Bool.and_eq_true, decide_eq_true_eq, decide_eq_true_eq, decide_eq_true_eq, decide_eq_true_eq]
        exact .inr ⟨by omega, by omega⟩
      rw [List.map_cons, List.map_cons, forL, if_pos (show gok none _ from trivial)]
      have eg : gTp 3 (gsCons (gNm 4) (gsCons (gNm 5) (gsCons (gNm 6) gsNil))) (.v (bx b)) [some (.v (.list (bs.map bx))), some F, some E, some (.v (.int m)), x, y, z, none, none, none, none, none, none, none] [] = some [some (.v (.list (bs.map bx))), some F, some E, some (.v (.int m)), some (.v (.str b.1)), some (.v (.int b.2.1)), some (.v (.int b.2.2)), none, none, none, none, none, none, none] := by simp [bx]
      have eb : L__law_right_2 [some (.v (.list (bs.map bx))), some F, some E, some (.v (.int m)), some (.v (.str b.1)), some (.v (.int b.2.1)), some (.v (.int b.2.2)), none, none, none, none, none, none, none] [] = some (.nx [some (.v (.list (bs.map bx))), some F, some E, some (.v (.int (m * b.2.1))), some (.v (.str b.1)), some (.v (.int b.2.1)), some (.v (.int b.2.2)), none, none, none, none, none, none, none] []) := by simp [L__law_right_2, hcm]
      simp only [eg, eb]
      rw [e, prod, Int.mul_assoc]
  obtain ⟨x', y', z', e2⟩ := loop2 bs 1 (x := none) (y := none) (z := none) hw
  rw [Int.one_mul] at e2
  rw [seq_nx (s1 := [some (.v (.list (bs.map bx))), some F, some E, some (.v (.int (prod bs))), x', y', z', none, none, none, none, none, none, none]) (h1 := []) (by simp [e2, -List.map_map])]
  have c1 := call_many bs [] hw
  have c2 := call_first bs []
  rw [seq_nx (s1 := [some (.v (.list (bs.map bx))), some F, some E, some (.v (.int (prod bs))), x', y', z', some (.v (.list [.int (prod bs), .tuple (bs.map fun b => .int b.2.2)])), none, none, none, none, none, none]) (h1 := []) (by simp [c1, c2])]
  have nn : ∀ (k : Int) h, eqD true (.v (.int k)) (.v (.int k)) h = some (.v (.bool false)) := fun k h => ne_same (n := 0) (sh_int k) (by decide)
  have hSh : Sh 2 (.list [.int (prod bs), .tuple (bs.map fun b => .int b.2.2)]) := sh_list fun x hx => by
    simp only [List.mem_cons, List.not_mem_nil, or_false] at hx
    rcases hx with rfl | rfl
    · exact sh_int _
    · exact sh_tup fun y hy => by
        obtain ⟨b, _, rfl⟩ := List.mem_map.mp hy
        exact sh_int _
  have nn3 : ∀ h, eqD true (.v (.list [.int (prod bs), .tuple (bs.map fun b => .int b.2.2)])) (.v (.list [.int (prod bs), .tuple (bs.map fun b => .int b.2.2)])) h = some (.v (.bool false)) := fun h => ne_same hSh (by decide)
  have i0 : atI [PyData.int (prod bs), .tuple (bs.map fun b => .int b.2.2)] 0 = some (.int (prod bs)) := rfl
  have i1 : atI [PyData.int (prod bs), .tuple (bs.map fun b => .int b.2.2)] 1 = some (.tuple (bs.map fun b => .int b.2.2)) := rfl
  subst hF
  rw [seq_nx (s1 := [some (.v (.list (bs.map bx))), some (.v (.tuple (bs.map fun b => .int b.2.2))), some E, some (.v (.int (prod bs))), x', y', z', some (.v (.list [.int (prod bs), .tuple (bs.map fun b => .int b.2.2)])), none, none, none, none, none, none]) (h1 := []) (by simp [i0, i1, call_whole, nn3])]
  subst hE
  obtain ⟨st, w5, hst⟩ : ∃ st : List Int, compL none (gNm 12) tYes' (eMod (eIx (eVar 2) (eVar 12)) (eIx (eIx (eVar 0) (eVar 12)) (eC (.int 1)))) (rngItems 0 bs.length) [some (.v (.list (bs.map bx))), some (.v (.tuple (bs.map fun b => .int b.2.2))), some (.v (.list (es.map .int))), some (.v (.int (prod bs))), x', y', z', some (.v (.list [.int (prod bs), .tuple (bs.map fun b => .int b.2.2)])), none, none, none, none, none, none] [] = some (st.map (fun s => .v (.int s)), []) ∧ In bs st := by
    let g : Nat → Int := fun k => (es[k]?).getD 0 % ((bs[k]?).map (fun b => b.2.1)).getD 1
    refine ⟨(List.range bs.length).map g, ?_, ?_⟩
    · unfold rngItems
      rw [compMap (List.range bs.length) _ _ _ (fun k => .int (g k)) fun k hk => ?_]
      · rw [List.map_map]
        rfl
      · have hk := List.mem_range.mp hk
        have e1 : atI es (k : Int) = some es[k] := atI_nat (List.getElem?_eq_getElem (by omega))
        have ea : atI (bs.map bx) (k : Int) = some (bx bs[k]) := atI_nat (by rw [List.getElem?_map, List.getElem?_eq_getElem hk]; rfl)
        have e3 : atI [PyData.str bs[k].1, .int bs[k].2.1, .int bs[k].2.2] 1 = some (.int bs[k].2.1) := rfl
        have hb := (hw bs[k] (List.getElem_mem hk)).1
        refine ⟨_, rfl, ?_⟩
        have eg : g k = es[k] % bs[k].2.1 := by
          show (es[k]?).getD 0 % ((bs[k]?).map (fun b => b.2.1)).getD 1 = _
          rw [List.getElem?_eq_getElem hk, List.getElem?_eq_getElem (show k < es.length by omega)]
          rfl
        simp [e1, ea, bx, e3, hb, eg]
    · have key : ∀ (cs : List Bx) (n : Nat), Wd cs → (∀ k, cs[k]? = bs[n + k]?) → In cs ((List.range cs.length).map fun k => g (n + k)) := by
        intro cs
        induction cs with
        | nil => exact fun _ _ _ => trivial
        | cons b r ih =>
          intro n hc hk
          rw [List.length_cons, List.range_succ_eq_map, List.map_cons, List.map_map]
          have hb : bs[n]? = some b := by
            have := hk 0
            simpa using this.symm
          refine ⟨?_, ?_⟩
          · show 0 ≤ (es[n + 0]?).getD 0 % ((bs[n + 0]?).map (fun b => b.2.1)).getD 1 ∧ (es[n + 0]?).getD 0 % ((bs[n + 0]?).map (fun b => b.2.1)).getD 1 < b.2.1
            rw [Nat.add_zero, hb]
            have := hc.hd.1
            exact ⟨Int.emod_nonneg _ (show b.2.1 ≠ 0 by omega), Int.emod_lt_of_pos _ this⟩
          · have := ih (n + 1) hc.tl fun k => by
              have := hk (k + 1)
              rw [show n + (k + 1) = n + 1 + k by omega] at this
              simpa using this
            have ef : (fun k => g (n + k)) ∘ Nat.succ = fun k => g (n + 1 + k) := by
              funext k
              show g (n + (k + 1)) = g (n + 1 + k)
              rw [show n + (k + 1) = n + 1 + k by omega]
            rw [ef]
            exact this
      have := key bs 0 hw fun k => by rw [Nat.zero_add]
      simpa using this
  have hq : ∀ (a1 a2 a3 a4 a5 a6 a7 a8 a9 a10 a11 a12 a13 : Option D), iP (eCons (eB lenD (eCons (eVar 0) eNil)) eNil) kRng1 [some (.v (.list (bs.map bx))), a1, a2, a3, a4, a5, a6, a7, a8, a9, a10, a11, a12, a13] [] = some (.ok (rngItems 0 bs.length) none []) := fun _ _ _ _ _ _ _ _ _ _ _ _ _ => by
    refine ip_eq (ds := [.v (.int (bs.length : Int))]) (h1 := []) (by simp) (kRng1_nat (by omega))
  rw [seq_nx (s1 := [some (.v (.list (bs.map bx))), some (.v (.tuple (bs.map fun b => .int b.2.2))), some (.v (.list (es.map .int))), some (.v (.int (prod bs))), x', y', z', some (.v (.list [.int (prod bs), .tuple (bs.map fun b => .int b.2.2)])), some (.v (.tuple (st.map .int))), none, none, none, none, none]) (h1 := []) (by simp [-z_ip, hq, w5])]
  have c3 := call_num bs st [] hw hst (by omega)
  rw [seq_nx (s1 := [some (.v (.list (bs.map bx))), some (.v (.tuple (bs.map fun b => .int b.2.2))), some (.v (.list (es.map .int))), some (.v (.int (prod bs))), x', y', z', some (.v (.list [.int (prod bs), .tuple (bs.map fun b => .int b.2.2)])), some (.v (.tuple (st.map .int))), some (.v (.int (snum bs st))), none, none, none, none]) (h1 := []) (by simp [c3])]
  have c4 := call_lnum bs st [] hw hst (by omega)
  rw [seq_nx (s1 := [some (.v (.list (bs.map bx))), some (.v (.tuple (bs.map fun b => .int b.2.2))), some (.v (.list (es.map .int))), some (.v (.int (prod bs))), x', y', z', some (.v (.list [.int (prod bs), .tuple (bs.map fun b => .int b.2.2)])), some (.v (.tuple (st.map .int))), some (.v (.int (snum bs st))), none, none, none, none]) (h1 := []) (by simp [call_whole, c4, nn])]
  obtain ⟨s', h', e5, rfl, a10, a11, rfl⟩ := forL_inv (body := L__law_right_1) (g := gNm 10) (gd := none)
    (fun _ s h => h = [] ∧ ∃ a10 a11, s = [some (.v (.list (bs.map bx))), some (.v (.tuple (bs.map fun b => .int b.2.2))), some (.v (.list (es.map .int))), some (.v (.int (prod bs))), x', y', z', some (.v (.list [.int (prod bs), .tuple (bs.map fun b => .int b.2.2)])), some (.v (.tuple (st.map .int))), some (.v (.int (snum bs st))), a10, a11, none, none])
    (items := rngItems 0 (prod bs).toNat) (i := 0) (s := [some (.v (.list (bs.map bx))), some (.v (.tuple (bs.map fun b => .int b.2.2))), some (.v (.list (es.map .int))), some (.v (.int (prod bs))), x', y', z', some (.v (.list [.int (prod bs), .tuple (bs.map fun b => .int b.2.2)])), some (.v (.tuple (st.map .int))), some (.v (.int (snum bs st))), none, none, none, none]) (h := [])
    ⟨rfl, _, _, rfl⟩ (fun _ _ _ _ => trivial) fun j d s h hI hjj => by
      obtain ⟨rfl, a10, a11, rfl⟩ := hI
      obtain ⟨hj, rfl⟩ := rng_at hjj
      exact ⟨_, _, _, rfl, .inl (asked hw hl (prod bs) (j : Int) (by omega) (by omega)), rfl, _, _, rfl⟩
  have hq2 : ∀ (a0 a1 a2 a4 a5 a6 a7 a8 a9 a10 a11 a12 a13 : Option D), iP (eCons (eVar 3) eNil) kRng1 [a0, a1, a2, some (.v (.int (prod bs))), a4, a5, a6, a7, a8, a9, a10, a11, a12, a13] [] = some (.ok (rngItems 0 (prod bs).toNat) none []) := fun _ _ _ _ _ _ _ _ _ _ _ _ _ => by
    refine ip_eq (ds := [.v (.int (prod bs))]) (h1 := []) (by simp) ?_
    have := kRng1_nat (n := (prod bs).toNat) (h := []) (by omega)
    rw [Int.toNat_of_nonneg (by omega)] at this
    exact this
  rw [seq_nx (for_eq (hq2 _ _ _ _ _ _ _ _ _ _ _ _ _) e5)]
  have c6 := call_by bs (snum bs st) [] hw (by omega)
  rw [sby_snum hw hst] at c6
  have ee : ∀ h, eqD false (.v (.tuple (st.map .int))) (.v (.tuple (st.map .int))) h = some (.v (.bool true)) := fun h => eq_same (ints_sh st) (by decide)
  simp [c6, ee]
theorem Dig.nonneg : ∀ {ss ds : List Int}, Dig ss ds → ∀ d ∈ ds, 0 ≤ d
  | [], [], _, _, hd => by cases hd
  | [], _ :: _, h, _, _ => h.elim
  | _ :: _, [], h, _, _ => h.elim
  | s :: ss, d :: ds, h, x, hx => by
    rcases List.mem_cons.mp hx with e | e
    · rw [e]; exact h.1.1
    · exact Dig.nonneg h.2 x e
theorem step {a0 a3 a4 a5 a6 : Option D} (turn cell : Int) (h0 : 0 ≤ turn) (h1 : turn ≤ 1000) :
    ∃ b3 b4 b5 b6, L_law_1 [a0, some (.v (.int turn)), some (.v (.int cell)), a3, a4, a5, a6] [] = some (.nx [a0, some (.v (.int turn)), some (.v (.int cell)), b3, b4, b5, b6] []) := by
  obtain ⟨es, ed, hd⟩ := dig_call (cell := cell) (turn := turn) (sizes := [11, 26, 8, 6, 6, 6, 6, 6, 6]) (h := []) (by decide) (by decide) h0 h1
  have ed' : callR F__law_digits [.int cell, .int turn, .list [.int 11, .int 26, .int 8, .int 6, .int 6, .int 6, .int 6, .int 6, .int 6]] false [] = some (.ok (.v (.list (es.map .int))) []) := ed
  have hlen : es.length = 9 := hd.len
  obtain ⟨bs, eb, hw, hg, hl, hp⟩ := call_boxes [] hd
  unfold L_law_1
  rw [seq_nx (s1 := [a0, some (.v (.int turn)), some (.v (.int cell)), some (.v (.list (es.map .int))), a4, a5, a6]) (h1 := []) (by simp [ed'])]
  rw [seq_nx (s1 := [a0, some (.v (.int turn)), some (.v (.int cell)), some (.v (.list (es.map .int))), some (.v (.list (bs.map bx))), a5, a6]) (h1 := []) (by simp [eb])]
  rw [seq_nx (s1 := [a0, some (.v (.int turn)), some (.v (.int cell)), some (.v (.list (es.map .int))), some (.v (.list (bs.map bx))), some (.v (.list (bs.map bx))), a6]) (h1 := []) (by simp)]
  have w1 : compL none (gNm 6) tYes' (eIx (eVar 6) (eC (.int 2))) ((bs.map bx).map .v) [a0, some (.v (.int turn)), some (.v (.int cell)), some (.v (.list (es.map .int))), some (.v (.list (bs.map bx))), some (.v (.list (bs.map bx))), none] [] = some (bs.map (fun b => .v (.int b.2.2)), []) := by
    rw [List.map_map]
    exact compMap bs _ _ _ (fun b => .int b.2.2) fun b _ => ⟨_, rfl, by
      have e1 : atI [PyData.str b.1, .int b.2.1, .int b.2.2] 2 = some (.int b.2.2) := rfl
      simp [bx, e1]⟩
  have hc : cutP es (some 6) none = es.drop 6 := by
    unfold cutP
    rw [hlen]
    show (es.drop 6).take 3 = es.drop 6
    exact List.take_of_length_le (by rw [List.length_drop, hlen]; decide)
  have cr := call_right hw hl hp (es := es.drop 6) (by rw [List.length_drop, hlen]) (fun e he => Dig.nonneg hd e (List.mem_of_mem_drop he)) []
  have nn : ∀ h, eqD true (.v (.list (bs.map bx))) (.v (.list (bs.map bx))) h = some (.v (.bool false)) := fun h => ne_same (bx_ok hg) (by decide)
  refine ⟨some (.v (.list (es.map .int))), some (.v (.list (bs.map bx))), some (.v (.list (bs.map bx))), a6, ?_⟩
  simp [w1, cutP_map, hc, cr, nn, -List.map_map, -List.map_drop]
theorem loop {a0 : Option D} : ∀ (cells : List Int) (k : Nat) {a1 a2 a3 a4 a5 a6 : Option D}, k + cells.length ≤ 1000 → ∃ s', forL none (gTp 2 (gsCons (gNm 1) (gsCons (gNm 2) gsNil))) L_law_1 (enumI k ((cells.map PyData.int).map .v)) [a0, a1, a2, a3, a4, a5, a6] [] = some (.nx s' [])
  | [], k, _, _, _, _, _, _, _ => ⟨_, by rw [List.map_nil, List.map_nil, enumI, forL, if_pos (show gok none _ from trivial)]⟩
  | c :: r, k, a1, a2, a3, a4, a5, a6, hk => by
    rw [List.length_cons] at hk
    obtain ⟨b3, b4, b5, b6, e⟩ := step (a0 := a0) (a3 := a3) (a4 := a4) (a5 := a5) (a6 := a6) k c (by omega) (by omega)
    obtain ⟨s', e2⟩ := loop r (k + 1) (a0 := a0) (a1 := some (.v (.int k))) (a2 := some (.v (.int c))) (a3 := b3) (a4 := b4) (a5 := b5) (a6 := b6) (by omega)
    refine ⟨s', ?_⟩
    rw [List.map_cons, List.map_cons, enumI, forL, if_pos (show gok none _ from trivial)]
    have eg : gTp 2 (gsCons (gNm 1) (gsCons (gNm 2) gsNil)) (mkTup [.v (.int k), .v (.int c)]) [a0, a1, a2, a3, a4, a5, a6] [] = some [a0, some (.v (.int k)), some (.v (.int c)), a3, a4, a5, a6] := by simp
    simp only [eg, e]
    exact e2
theorem law_true (ns : List Int) (hn : ns.length ≤ 63) : ∃ h', F_law [.v (.list (ns.map .int))] [] = some (.rt (.v (.bool true)) h') := by
  obtain ⟨s1, e1⟩ := loop (a0 := some (.v (.list (ns.map .int)))) (if (cutP ns none (some 20)).isEmpty = true then [0] else cutP ns none (some 20)) 0 (a1 := none) (a2 := none) (a3 := none) (a4 := none) (a5 := none) (a6 := none) (by
    have := cutP_len ns none (some 20)
    split
    · simp
    · omega)
  refine ⟨[], ?_⟩
  unfold F_law mkFn B_law
  cases he : cutP ns none (some 20) with
  | nil =>
    rw [he] at e1
    simp [cutP_map, he] at e1 ⊢
    simp [e1]
  | cons c r =>
    rw [he] at e1
    simp [cutP_map, he, -List.map_map] at e1 ⊢
    simp [e1, -List.map_map]
end G01
theorem PySem.Challenge.cw_roundhand_k01_stores_by_numbers_holds : PySem.Challenge.rw_roundhand_k01_stores_by_numbers.Holds := by
  exact G01.holds_of G01.law_true
