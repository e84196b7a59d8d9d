import PyProof.Rows.All
import Wide.All
import OpenK.AllK
import Wide.FinOn
import KE.KStateDown
import Lean
import HandS.ForMost
import HandS.Exc
import HandS.ExcOwn
import HandS.TryOnly
import HandS.TryMany
import HandS.Flow
import HandS.WordsExc
import HandS.Style
import HandS.TupAny
import HandS.TupMul
import HandS.Deep
import HandS.Wide
import HandS.Text
import HandS.IsInst
import HandS.Defaults
import HandS.Walk
import HandS.Zip
import HandS.More
import HandS.Dict
import KE.GoesNew
import KE.GoesMore
import KE.GoesZip
import KE.GoesEnum
import HandS.Ends
import HandS.RaiseMore
import HandS.ExcInit
import HandS.ClsMeth
import HandS.ExcIs
import HandS.ExcField
import HandS.Head0
import HandS.Head1
import HandS.Head2
import HandS.HeadEnd
import HandS.HeadHook1
import HandS.HeadHook2
import HandS.Conv
import PyProof.AutoSeq1
import HandS.Iter
import PyProof.EqKinds
import PyProof.FactsAll.dict_1
import PyProof.FactsAll.subtypes_4
import HandS.Sort
import PyProof.P3In
import HandS.ExcValue
import HandS.Steps
import HandS.HeadHook3
import PySem.Challenge.RW_roundhand_k22_no_looms
set_option Elab.async false
set_option linter.all false
set_option maxRecDepth 100000
set_option maxHeartbeats 4000000
namespace Vl
open PySem PySem.Spec PyProof.Rows L2

/-- a test that nothing unfolds -/
noncomputable def yes (p : Prop) : Bool := @decide p (Classical.propDecidable p)
theorem yes_iff {p : Prop} : (yes p = true) = p := propext ⟨fun h => @of_decide_eq_true p (Classical.propDecidable p) h, fun h => @decide_eq_true p (Classical.propDecidable p) h⟩
theorem yes_of {p : Prop} (h : p) : yes p = true := yes_iff ▸ h
/-! ## values -/
/-- a value: frozen data, a cell of this activation, or a tuple with cells in it -/
inductive D where
  | v (d : PyData)
  | ref (n : Nat)
  | mix (xs : List D)
  | exc (c : Str) (fs : List (Str × PyData))
inductive Cell where
  | lst (xs : List D)
  | dct (kvs : List (Key × D))
  | ins (c : Str) (fs : List (Str × D))
abbrev Hs := List Cell
abbrev Sl := List (Option D)
abbrev KF := PySem.W.Frag

/-- the name of the own class at C -/
def clsN (K : KF) (C : Addr) : Option Str := match K.lookup C with
  | some o => (match o.data with
    | .cls cd => some cd.name
    | _ => none)
  | none => none
/-- an exception that was caught -/
def exw (a C : Addr) (da : Option Addr) : HO := .ext fun h => ∃ vs sl, h.get? a = some (⟨.ref C, da, .fields vs, sl⟩ : Obj)

/-- the world as the interpreter sees it -/
structure Wd where
  ι : List Addr
  Fz : Addr → Prop
  h : Hs
  H : Hp

/-- a list of the module's own text -/
def KL (K : KF) (a : Addr) (xs : List V) : Prop := ∃ (o : Obj) (its : Array Value) (n : Nat), K.lookup a = some o ∧ o.cls = .type "list" ∧ o.dict = none ∧ o.data = .seq its n ∧ its.size ≤ sizeLine ∧ Vals xs its.toList
/-- a list that nobody changes any more -/
def LRd (K : KF) (Fz : Addr → Prop) (H : Hp) (a : Addr) (vs : List V) : Prop := (Fz a ∧ Rd H a (.lst vs)) ∨ KL K a vs
theorem LRd.sql {K : KF} {Fz : Addr → Prop} {H : Hp} {a : Addr} {vs : List V} (h : LRd K Fz H a vs) : SqL K H a vs := h.elim (fun z => .inl z.2) .inr
/-- a key of a dict -/
def keyP : PyData → Option Key
  | .int i => some (.inl i)
  | .str z => some (.inr z)
  | _ => none
mutual
def RepP (K : KF) (Fz : Addr → Prop) (H : Hp) : PyData → V → Prop
  | .none, v => v = .non
  | .bool b, v => v = .bl b
  | .int i, v => v = .int i
  | .str x, v => v = .str x
  | .list ds, v => ∃ a vs, v = .ref a ∧ LRd K Fz H a vs ∧ RepPs K Fz H ds vs
  | .tuple ds, v => ∃ a vs, v = .ref a ∧ SqT K H a vs ∧ RepPs K Fz H ds vs
  | .dict kvs, v => ∃ a ks, v = .ref a ∧ Fz a ∧ H a = some (.dK ks) ∧ RepKs K Fz H kvs ks
def RepPs (K : KF) (Fz : Addr → Prop) (H : Hp) : List PyData → List V → Prop
  | [], vs => vs = []
  | d :: ds, vs => ∃ v r, vs = v :: r ∧ RepP K Fz H d v ∧ RepPs K Fz H ds r
def RepKs (K : KF) (Fz : Addr → Prop) (H : Hp) : List (PyData × PyData) → List (Key × V) → Prop
  | [], ks => ks = []
  | (k, d) :: r, ks => ∃ q v ks', ks = (q, v) :: ks' ∧ keyP k = some q ∧ RepP K Fz H d v ∧ RepKs K Fz H r ks'
end
mutual
def RepD (K : KF) (w : Wd) : D → V → Prop
  | .v d, v => RepP K w.Fz w.H d v
  | .ref n, v => ∃ a, w.ι[n]? = some a ∧ v = .ref a
  | .mix ds, v => ∃ a vs, v = .ref a ∧ SqT K w.H a vs ∧ RepDs K w ds vs
  | .exc c fs, v => ∃ a C da, v = .ref a ∧ clsN K C = some c ∧ w.H a = some (exw a C da) ∧ ((fs = [] ∧ da = none) ∨
      ∃ d fv, da = some d ∧ w.H d = some (.xd fv) ∧ fv.map (·.1) = fs.map (·.1) ∧ RepPs K w.Fz w.H (fs.map (·.2)) (fv.map (·.2)))
def RepDs (K : KF) (w : Wd) : List D → List V → Prop
  | [], vs => vs = []
  | d :: ds, vs => ∃ v r, vs = v :: r ∧ RepD K w d v ∧ RepDs K w ds r
end
def CellOk (K : KF) (w : Wd) (a : Addr) : Cell → Prop
  | .lst ds => ∃ vs, w.H a = some (.lst vs) ∧ RepDs K w ds vs
  | .dct kvs => ∃ ks, w.H a = some (.dK ks) ∧ ks.map (·.1) = kvs.map (·.1) ∧ RepDs K w (kvs.map (·.2)) (ks.map (·.2))
  | .ins c fs => ∃ C dx fv, clsN K C = some c ∧ w.H a = some (.ins C dx fv) ∧ w.H dx = some (.own a) ∧ fv.map (·.1) = fs.map (·.1) ∧ RepDs K w (fs.map (·.2)) (fv.map (·.2))
/-- what a cell may be -/
def Mut : HO → Prop
  | .lst _ => True
  | .dK _ => True
  | .ins _ _ _ => True
  | _ => False

structure Wd.Ok (K : KF) (w : Wd) : Prop where
  nd : w.ι.Nodup
  len : w.ι.length = w.h.length
  cell : ∀ (n : Nat) a c, w.ι[n]? = some a → w.h[n]? = some c → CellOk K w a c
  apart : ∀ a, w.Fz a → a ∉ w.ι
  there : ∀ a, w.Fz a → w.H a ≠ none

structure Wd.Le (w w' : Wd) : Prop where
  more : ∃ m, w'.ι = w.ι ++ m ∧ ∀ a ∈ m, w.H a = none
  up : ∀ a, w.Fz a → w'.Fz a
  new : ∀ a, w'.Fz a → w.Fz a ∨ w.H a = none
  keep : ∀ b o, w.H b = some o → b ∉ w.ι → w'.H b = some o

section
variable {K : KF} {w w' w'' : Wd}
theorem CellOk.mut {a : Addr} : ∀ {c : Cell}, CellOk K w a c → ∃ o, w.H a = some o ∧ Mut o
  | .lst _, ⟨_, e, _⟩ => ⟨_, e, trivial⟩
  | .dct _, ⟨_, e, _⟩ => ⟨_, e, trivial⟩
  | .ins _ _, ⟨_, _, _, _, e, _⟩ => ⟨_, e, trivial⟩
theorem Wd.Ok.tracked (ok : w.Ok K) {a : Addr} (h : a ∈ w.ι) : ∃ o, w.H a = some o ∧ Mut o := by
  obtain ⟨n, hn, e⟩ := List.getElem_of_mem h
  have hl : n < w.h.length := by rw [← ok.len]; exact hn
  have c := ok.cell n a _ (by rw [List.getElem?_eq_getElem hn, e]) (List.getElem?_eq_getElem hl)
  exact c.mut
theorem Wd.Le.refl (w : Wd) : w.Le w := ⟨⟨[], by simp, by simp⟩, fun _ h => h, fun _ h => .inl h, fun _ _ h _ => h⟩
theorem Wd.Le.trans (a : w.Le w') (b : w'.Le w'') (ok : w'.Ok K) : w.Le w'' := by
  obtain ⟨m, em, hm⟩ := a.more
  obtain ⟨m', em', hm'⟩ := b.more
  have back : ∀ x, w'.H x = none → w.H x = none := fun x hx => by
    cases q : w.H x with
    | none => rfl
    | some o =>
      by_cases hi : x ∈ w.ι
      · have : x ∈ w'.ι := by rw [em]; exact List.mem_append_left _ hi
        obtain ⟨_, e, _⟩ := ok.tracked this
        rw [hx] at e; cases e
      · have := a.keep x o q hi
        rw [hx] at this; cases this
  refine ⟨⟨m ++ m', by rw [em', em, List.append_assoc], fun x hx => ?_⟩, fun x h => b.up x (a.up x h), fun x h => ?_, fun x o h hi => ?_⟩
  · rcases List.mem_append.mp hx with h | h
    · exact hm x h
    · exact back x (hm' x h)
  · rcases b.new x h with h | h
    · exact a.new x h
    · exact .inr (back x h)
  · have h1 := a.keep x o h hi
    refine b.keep x o h1 fun hx => ?_
    rw [em] at hx
    rcases List.mem_append.mp hx with h' | h'
    · exact hi h'
    · rw [hm x h'] at h; cases h
theorem Rd.keepW (ok : w.Ok K) (le : w.Le w') {a : Addr} {u : HO} (h : Rd w.H a u) (hi : a ∉ w.ι) : Rd w'.H a u := by
  rcases h with h | ⟨o, h⟩
  · exact .inl (le.keep _ _ h hi)
  · exact .inr ⟨o, le.keep _ _ h hi⟩
theorem SqT.keepW (ok : w.Ok K) (le : w.Le w') {a : Addr} {vs : List V} (h : SqT K w.H a vs) : SqT K w'.H a vs := by
  rcases h with h | h
  · refine .inl (Rd.keepW ok le h fun hi => ?_)
    obtain ⟨u, e, m⟩ := ok.tracked hi
    rcases h with h | ⟨o, h⟩
    · rw [e] at h; cases h; exact m
    · rw [e] at h; cases h; exact m
  · exact .inr h
theorem LRd.keepW (ok : w.Ok K) (le : w.Le w') {a : Addr} {vs : List V} (h : LRd K w.Fz w.H a vs) : LRd K w'.Fz w'.H a vs := by
  rcases h with h | h
  · exact .inl ⟨le.up _ h.1, Rd.keepW ok le h.2 (ok.apart _ h.1)⟩
  · exact .inr h
theorem keep_not (ok : w.Ok K) (le : w.Le w') {a : Addr} {o : HO} (h : w.H a = some o) (n : ¬ Mut o) : w'.H a = some o := le.keep _ _ h fun z => by
  obtain ⟨u, e, m⟩ := ok.tracked z
  rw [h] at e
  cases e
  exact n m
theorem CellOk.mono (ok : w.Ok K) (le : w.Le w') {a : Addr} : ∀ {c : Cell}, CellOk K w a c → (∀ o, w.H a = some o → w'.H a = some o) → (∀ {ds : List D} {vs : List V}, RepDs K w ds vs → RepDs K w' ds vs) → CellOk K w' a c
  | .lst _, ⟨vs, e, r⟩, k, i => ⟨vs, k _ e, i r⟩
  | .dct _, ⟨ks, e, n, r⟩, k, i => ⟨ks, k _ e, n, i r⟩
  | .ins _ _, ⟨C, dx, fv, hc, e, hd, n, r⟩, k, i => ⟨C, dx, fv, hc, k _ e, keep_not ok le hd (fun z => z), n, i r⟩
mutual
theorem RepP.mono (ok : w.Ok K) (le : w.Le w') : ∀ (d : PyData) {v : V}, RepP K w.Fz w.H d v → RepP K w'.Fz w'.H d v
  | .none, _, h => h
  | .bool _, _, h => h
  | .int _, _, h => h
  | .str _, _, h => h
  | .list ds, _, ⟨a, vs, e, hr, hs⟩ => ⟨a, vs, e, LRd.keepW ok le hr, RepPs.mono ok le ds hs⟩
  | .tuple ds, _, ⟨a, vs, e, hr, hs⟩ => ⟨a, vs, e, SqT.keepW ok le hr, RepPs.mono ok le ds hs⟩
  | .dict ks, _, ⟨a, us, e, hf, hr, hs⟩ => ⟨a, us, e, le.up _ hf, le.keep _ _ hr (ok.apart _ hf), RepKs.mono ok le ks hs⟩
theorem RepPs.mono (ok : w.Ok K) (le : w.Le w') : ∀ (ds : List PyData) {vs : List V}, RepPs K w.Fz w.H ds vs → RepPs K w'.Fz w'.H ds vs
  | [], _, h => h
  | d :: ds, _, ⟨v, r, e, h1, h2⟩ => ⟨v, r, e, RepP.mono ok le d h1, RepPs.mono ok le ds h2⟩
theorem RepKs.mono (ok : w.Ok K) (le : w.Le w') : ∀ (ds : List (PyData × PyData)) {vs : List (Key × V)}, RepKs K w.Fz w.H ds vs → RepKs K w'.Fz w'.H ds vs
  | [], _, h => h
  | (k, d) :: ds, _, ⟨q, v, r, e, hk, h1, h2⟩ => ⟨q, v, r, e, hk, RepP.mono ok le d h1, RepKs.mono ok le ds h2⟩
end
mutual
theorem RepD.mono (ok : w.Ok K) (le : w.Le w') : ∀ (d : D) {v : V}, RepD K w d v → RepD K w' d v
  | .v d, _, h => RepP.mono ok le d h
  | .ref n, _, ⟨a, e, r⟩ => by
    obtain ⟨m, em, _⟩ := le.more
    refine ⟨a, ?_, r⟩
    rw [em, List.getElem?_append_left (List.getElem?_eq_some_iff.mp e).1]
    exact e
  | .mix ds, _, ⟨a, vs, e, hr, hs⟩ => ⟨a, vs, e, SqT.keepW ok le hr, RepDs.mono ok le ds hs⟩
  | .exc c fs, _, ⟨a, C, da, e, hc, ha, hf⟩ => ⟨a, C, da, e, hc, keep_not ok le ha (fun z => z), hf.imp id fun ⟨d, fv, e1, h1, h2, h3⟩ => ⟨d, fv, e1, keep_not ok le h1 (fun z => z), h2, RepPs.mono ok le _ h3⟩⟩
theorem RepDs.mono (ok : w.Ok K) (le : w.Le w') : ∀ (ds : List D) {vs : List V}, RepDs K w ds vs → RepDs K w' ds vs
  | [], _, h => h
  | d :: ds, _, ⟨v, r, e, h1, h2⟩ => ⟨v, r, e, RepD.mono ok le d h1, RepDs.mono ok le ds h2⟩
end
theorem RepPs.len : ∀ {ds : List PyData} {vs : List V} {Fz : Addr → Prop} {H : Hp}, RepPs K Fz H ds vs → vs.length = ds.length
  | [], _, _, _, h => by
    rw [show _ = [] from h]
    rfl
  | d :: ds, _, _, _, ⟨v, r, e, _, h2⟩ => by
    rw [e, List.length_cons, List.length_cons, RepPs.len h2]
theorem RepDs.len : ∀ {ds : List D} {vs : List V}, RepDs K w ds vs → vs.length = ds.length
  | [], _, h => by
    rw [show _ = [] from h]
    rfl
  | d :: ds, _, ⟨v, r, e, _, h2⟩ => by
    rw [e, List.length_cons, List.length_cons, RepDs.len h2]
end

/-! ## what the caller of a piece of code wants -/
/-- an exception as it is told: its class by name, its fields -/
structure Ex where
  c : Str
  fs : List (Str × D)
inductive ER where
  | ok (d : D) (h : Hs)
  | ex (x : Ex) (h : Hs)
abbrev EM := Sl → Hs → Option ER

/-- how an exception lies in the heap -/
def ExRep (K : KF) (mg : Str → Option Value) (w : Wd) (x : Ex) (cls : Value) (da : Option Addr) : Prop :=
  ∃ C, mg x.c = some (.ref C) ∧ cls = .ref C ∧ ((x.fs = [] ∧ da = none) ∨
    ∃ d fv, da = some d ∧ w.H d = some (.xd fv) ∧ RepDs K w (x.fs.map (·.2)) (fv.map (·.2)) ∧ fv.map (·.1) = x.fs.map (·.1))

structure SRep (K : KF) (w : Wd) (sl : Sl) (σ : L2.St) : Prop where
  len : sl.length = σ.length
  at' : ∀ (i : Nat) d, sl[i]? = some (some d) → ∃ v, σ[i]? = some (some v) ∧ RepD K w d v
theorem SRep.mono {K : KF} {w w' : Wd} {sl : Sl} {σ : L2.St} (s : SRep K w sl σ) (ok : w.Ok K) (le : w.Le w') : SRep K w' sl σ :=
  ⟨s.len, fun i d h => let ⟨v, e, r⟩ := s.at' i d h; ⟨v, e, RepD.mono ok le d r⟩⟩

section
variable (K : KF) (mg : Str → Option Value) (W : WX)
def WpE (σ : L2.St) (r : Option ER) (w : Wd) (R : D → V → Wd → Prop) : Prop :=
  match r with
  | some (.ok d h') => ∀ w' v, w.Le w' → w'.Ok K → w'.h = h' → RepD K w' d v → R d v w'
  | some (.ex x h') => ∀ w' cls da, w.Le w' → w'.Ok K → w'.h = h' → ExRep K mg w' x cls da → W cls da σ w'.H
  | none => False
def tI (f : EM) : TE := fun σ H Q => ∃ (w : Wd) (sl : Sl), w.H = H ∧ w.Ok K ∧ SRep K w sl σ ∧ WpE K mg W σ (f sl w.h) w fun _ v w' => Q v w'.H
end
/-- an expression does what f says -/
def SE (X : Cx) (W : WX) (e : Expr) (f : EM) : Prop := PE X e (tI X.K X.mg W f)

theorem PE.mono' {X : Cx} {e : Expr} {t t' : TE} (h : PE X e t) (i : ∀ σ H Q, t' σ H Q → t σ H Q) : PE X e t' := ⟨fun pins s σ H Q I q => h.run pins s σ H Q I (i σ H Q q)⟩
theorem PT.mono' {X : Cx} {e : Expr} {t t' : TT} (h : PT X e t) (i : ∀ σ H Q, t' σ H Q → t σ H Q) : PT X e t' := ⟨fun pins s σ H Q I q => h.run pins s σ H Q I (i σ H Q q)⟩
theorem PA.mono' {X : Cx} {e : List Expr} {t t' : TA} (h : PA X e t) (i : ∀ σ H Q, t' σ H Q → t σ H Q) : PA X e t' := ⟨fun pos pins s σ H Q I q => h.run pos pins s σ H Q I (i σ H Q q)⟩
theorem PS.mono' {X : Cx} {e : Stmt} {t t' : TS} (h : PS X e t) (i : ∀ D σ H, t' D σ H → t D σ H) : PS X e t' := ⟨fun pins s σ H D I q => h.run pins s σ H D I (i D σ H q)⟩
theorem PSs.mono' {X : Cx} {e : List Stmt} {t t' : TS} (h : PSs X e t) (i : ∀ D σ H, t' D σ H → t D σ H) : PSs X e t' := ⟨fun pins s σ H D I q => h.run pins s σ H D I (i D σ H q)⟩

section
variable {K : KF} {mg : Str → Option Value} {W : WX} {σ : L2.St} {w w1 : Wd} {sl : Sl}
theorem WpE.le {r : Option ER} {R : D → V → Wd → Prop} (h : WpE K mg W σ r w R) (le : w.Le w1) (ok : w1.Ok K) : WpE K mg W σ r w1 R := by
  unfold WpE at h ⊢
  split
  · exact fun w' v l o e r => h w' v (le.trans l ok) o e r
  · exact fun w' v da l o e r => h w' v da (le.trans l ok) o e r
  · exact h
theorem WpE.imp {r : Option ER} {R R' : D → V → Wd → Prop} (h : WpE K mg W σ r w R) (i : ∀ d v w', w.Le w' → w'.Ok K → RepD K w' d v → R d v w' → R' d v w') : WpE K mg W σ r w R' := by
  unfold WpE at h ⊢
  split
  · exact fun w' v l o e r => i _ v w' l o r (h w' v l o e r)
  · exact h
  · exact h
def EM.bind (f : EM) (k : D → EM) : EM := fun s h => match f s h with
  | some (.ok d h') => k d s h'
  | some (.ex x h') => some (.ex x h')
  | none => none
def EM.lift (g : Hs → Option D) : EM := fun _ h => match g h with
  | some d => some (.ok d h)
  | none => none
/-- what is known behind the first of several pieces -/
theorem tI_bind {f : EM} {k : D → EM} {R : D → V → Wd → Prop} {Q : VK} (ok : w.Ok K) (hs : SRep K w sl σ) (h : WpE K mg W σ ((f.bind k) sl w.h) w R)
    (q : ∀ d v w1, w.Le w1 → w1.Ok K → SRep K w1 sl σ → RepD K w1 d v → WpE K mg W σ (k d sl w1.h) w1 R → Q v w1.H) : tI K mg W f σ w.H Q := by
  refine ⟨w, sl, rfl, ok, hs, ?_⟩
  unfold EM.bind at h
  unfold WpE
  cases e : f sl w.h with
  | none =>
    rw [e] at h
    exact h
  | some r =>
    cases r with
    | ok d h' =>
      rw [e] at h
      exact fun w' v l o eh r => q d v w' l o (hs.mono ok l) r (by rw [eh]; exact WpE.le h l o)
    | ex x h' =>
      rw [e] at h
      exact h
theorem WpE.lift {g : Hs → Option D} {R : D → V → Wd → Prop} (h : WpE K mg W σ (EM.lift g sl w.h) w R) : ∃ d, g w.h = some d ∧ ∀ w' v, w.Le w' → w'.Ok K → w'.h = w.h → RepD K w' d v → R d v w' := by
  unfold EM.lift at h
  cases e : g w.h with
  | none =>
    rw [e] at h
    exact h.elim
  | some d =>
    rw [e] at h
    exact ⟨d, rfl, h⟩
end

/-! ## operators by values -/
/-- behind an operation: the value v, the world w' -/
def After (K : KF) (w : Wd) (d : D) (Q : VK) : Prop := ∀ w' v, w.Le w' → w'.Ok K → w'.h = w.h → RepD K w' d v → Q v w'.H
def OpD (K : KF) (r : R2) (g : D → D → Hs → Option D) : Prop :=
  ∀ (w : Wd) (x y : V) (dx dy dz : D) (Q : VK), w.Ok K → RepD K w dx x → RepD K w dy y → g dx dy w.h = some dz → After K w dz Q → r x y w.H Q
def UnD (K : KF) (r : V → Hp → VK → Prop) (g : D → Hs → Option D) : Prop :=
  ∀ (w : Wd) (x : V) (dx dz : D) (Q : VK), w.Ok K → RepD K w dx x → g dx w.h = some dz → After K w dz Q → r x w.H Q
def CallD (K : KF) (r : List V → Hp → VK → Prop) (g : List D → Hs → Option D) : Prop :=
  ∀ (w : Wd) (xs : List V) (ds : List D) (dz : D) (Q : VK), w.Ok K → RepDs K w ds xs → g ds w.h = some dz → After K w dz Q → r xs w.H Q
def eUn (g : D → Hs → Option D) (a : EM) : EM := a.bind fun x => EM.lift (g x)
def eBin (g : D → D → Hs → Option D) (a b : EM) : EM := a.bind fun x => b.bind fun y => EM.lift (g x y)
theorem After.here {K : KF} {w : Wd} {d : D} {Q : VK} (h : After K w d Q) (ok : w.Ok K) {v : V} (r : RepD K w d v) : Q v w.H := h w v (Wd.Le.refl w) ok rfl r

section
variable {X : Cx} {W : WX} {a b : Expr} {f g : EM} {pos : Pos}
theorem tOp_of {r : R2} {gd : D → D → Hs → Option D} (hd : OpD X.K r gd) (σ : L2.St) (H : Hp) (Q : VK) (h : tI X.K X.mg W (eBin gd f g) σ H Q) : tOp r (tI X.K X.mg W f) (tI X.K X.mg W g) σ H Q := by
  obtain ⟨w, sl, rfl, ok, hs, h⟩ := h
  refine tI_bind ok hs h fun dx x w1 l1 ok1 hs1 rx h1 => ?_
  refine tI_bind ok1 hs1 h1 fun dy y w2 l2 ok2 hs2 ry h2 => ?_
  obtain ⟨dz, e, q⟩ := WpE.lift h2
  exact hd w2 x y dx dy dz Q ok2 (RepD.mono ok1 l2 dx rx) ry e q
theorem se_op {op : Operator} {r : R2} {gd : D → D → Hs → Option D} (ho : OpR X (binaryOp op) r) (hd : OpD X.K r gd) (ha : SE X W a f) (hb : SE X W b g) : SE X W (.BinOp a op b pos) (eBin gd f g) :=
  PE.mono' (pe_op ho ha hb) fun σ H Q h => tOp_of hd σ H Q h
theorem se_cmp {op : CmpOp} {r : R2} {gd : D → D → Hs → Option D} (ho : OpR X (compareOp op) r) (hd : OpD X.K r gd) (ha : SE X W a f) (hb : SE X W b g) (hm : behindInMarks op b = false) : SE X W (.Compare a [op] [b] pos) (eBin gd f g) :=
  PE.mono' (pe_cmpR ho ha hb hm) fun σ H Q h => tOp_of hd σ H Q h
theorem se_ix {r : R2} {gd : D → D → Hs → Option D} (hr : IxR X r) (hd : OpD X.K r gd) (ha : SE X W a f) (hb : SE X W b g) (hs : PlainIx b) : SE X W (.Subscript a b pos) (eBin gd f g) :=
  PE.mono' (pe_ix hr ha hb hs) fun σ H Q h => tOp_of hd σ H Q h
theorem se_un {op : UnaryOp} {r : V → Hp → VK → Prop} {gd : D → Hs → Option D} (ho : UnR X (unaryOp op) r) (hd : UnD X.K r gd) (ha : SE X W a f) : SE X W (.UnaryOp op a pos) (eUn gd f) :=
  PE.mono' (pe_un ho ha) fun σ H Q h => by
    obtain ⟨w, sl, rfl, ok, hs, h⟩ := h
    refine tI_bind ok hs h fun dx x w1 l1 ok1 hs1 rx h1 => ?_
    obtain ⟨dz, e, q⟩ := WpE.lift h1
    exact hd w1 x dx dz Q ok1 rx e q
end
def wipeS (s : Sl) : List Nat → Sl
  | [] => s
  | v :: vs => (wipeS s vs).set v none
theorem wipeS_len (s : Sl) : ∀ vs : List Nat, (wipeS s vs).length = s.length
  | [] => rfl
  | v :: vs => by rw [wipeS, List.length_set, wipeS_len s vs]
theorem wipeS_none {s : Sl} {j : Nat} {d : D} : ∀ {vs : List Nat}, (wipeS s vs)[j]? = some (some d) → s[j]? = some (some d)
  | [], h => h
  | v :: vs, h => by
    rw [wipeS] at h
    by_cases e : v = j
    · subst e
      by_cases hl : v < (wipeS s vs).length
      · rw [List.getElem?_set_self hl] at h
        cases h
      · rw [List.getElem?_eq_none (by rw [List.length_set]; omega)] at h
        cases h
    · rw [List.getElem?_set_ne e] at h
      exact wipeS_none h
/-- names that are not asked any more may be forgotten -/
theorem SRep.wipeL {K : KF} {w : Wd} {sl : Sl} {σ : L2.St} (hs : SRep K w sl σ) (vs : List Nat) : SRep K w (wipeS sl vs) σ where
  len := by rw [wipeS_len]; exact hs.len
  at' := fun i d h => hs.at' i d (wipeS_none h)
end Vl
set_option maxHeartbeats 4000000
namespace Vl
open PySem PySem.Spec PyProof.Rows L2

/-! ## shallow views -/
def unv : D → Option PyData
  | .v d => some d
  | _ => none
def unvs : List D → Option (List PyData)
  | [] => some []
  | d :: r => match unv d, unvs r with
    | some p, some ps => some (p :: ps)
    | _, _ => none
/-- a value as data, its own cell read -/
def shal (h : Hs) : D → Option PyData
  | .v d => some d
  | .ref n => match h[n]? with
    | some (.lst xs) => (unvs xs).map .list
    | _ => none
  | .mix _ => none
  | .exc _ _ => none
/-- a value that is read now: a list may be a cell -/
def RepS (K : KF) (w : Wd) : PyData → V → Prop
  | .list ds, v => ∃ a vs, v = .ref a ∧ SqL K w.H a vs ∧ RepPs K w.Fz w.H ds vs
  | d, v => RepP K w.Fz w.H d v
section
variable {K : KF} {w w' : Wd}
theorem RepP.s : ∀ {d : PyData} {v : V}, RepP K w.Fz w.H d v → RepS K w d v
  | .none, _, h => h
  | .bool _, _, h => h
  | .int _, _, h => h
  | .str _, _, h => h
  | .list _, _, ⟨a, vs, e, r, s⟩ => ⟨a, vs, e, r.sql, s⟩
  | .tuple _, _, h => h
  | .dict _, _, h => h
theorem unvs_rep : ∀ {xs : List D} {ps : List PyData} {vs : List V}, unvs xs = some ps → RepDs K w xs vs → RepPs K w.Fz w.H ps vs
  | [], ps, vs, e, r => by
    have e' : [] = ps := Option.some.inj e
    subst e'
    exact r
  | d :: r, ps, vs, e, ⟨v, vr, ev, h1, h2⟩ => by
    unfold unvs at e
    cases d with
    | v p =>
      cases q : unvs r with
      | none => rw [q] at e; cases e
      | some qs =>
        rw [q] at e
        have e' : p :: qs = ps := Option.some.inj e
        subst e'
        exact ⟨v, vr, ev, h1, unvs_rep q h2⟩
    | ref n => cases e
    | mix xs => cases e
    | exc c fs => cases e
theorem shal_rep (ok : w.Ok K) : ∀ {d : D} {p : PyData} {v : V}, RepD K w d v → shal w.h d = some p → RepS K w p v
  | .v d, p, v, r, e => by
    have e' : d = p := Option.some.inj e
    subst e'
    exact RepP.s r
  | .ref n, p, v, ⟨a, ha, ev⟩, e => by
    simp only [shal] at e
    cases q : w.h[n]? with
    | none => simp [q] at e
    | some c =>
      cases c with
      | lst xs =>
        cases u : unvs xs with
        | none => simp [q, u] at e
        | some ps =>
          simp [q, u] at e
          subst e
          obtain ⟨vs, hH, hr⟩ := ok.cell n a _ ha q
          exact ⟨a, vs, ev, .inl (.inl hH), unvs_rep u hr⟩
      | _ => simp [q] at e
  | .mix _, _, _, _, e => by cases e
  | .exc _ _, _, _, _, e => by cases e
end

/-! ## operators over data -/
def OpP (K : KF) (r : R2) (g : PyData → PyData → Option PyData) : Prop :=
  ∀ (w : Wd) (x y : V) (p q z : PyData) (Q : VK), w.Ok K → RepS K w p x → RepS K w q y → g p q = some z → After K w (.v z) Q → r x y w.H Q
def UnP (K : KF) (r : V → Hp → VK → Prop) (g : PyData → Option PyData) : Prop :=
  ∀ (w : Wd) (x : V) (p z : PyData) (Q : VK), w.Ok K → RepS K w p x → g p = some z → After K w (.v z) Q → r x w.H Q
def lift1 (g : PyData → Option PyData) : D → Hs → Option D := fun x h => match shal h x with
  | some p => (g p).map .v
  | none => none
def lift2 (g : PyData → PyData → Option PyData) : D → D → Hs → Option D := fun x y h => match shal h x, shal h y with
  | some p, some q => (g p q).map .v
  | _, _ => none
theorem OpP.d {K : KF} {r : R2} {g : PyData → PyData → Option PyData} (h : OpP K r g) : OpD K r (lift2 g) := by
  intro w x y dx dy dz Q ok rx ry e a
  unfold lift2 at e
  cases ex : shal w.h dx with
  | none => rw [ex] at e; cases e
  | some p =>
    cases ey : shal w.h dy with
    | none => rw [ex, ey] at e; cases e
    | some q =>
      rw [ex, ey] at e
      cases ez : g p q with
      | none => simp [ez] at e
      | some z =>
        simp [ez] at e
        subst e
        exact h w x y p q z Q ok (shal_rep ok rx ex) (shal_rep ok ry ey) ez a
theorem UnP.d {K : KF} {r : V → Hp → VK → Prop} {g : PyData → Option PyData} (h : UnP K r g) : UnD K r (lift1 g) := by
  intro w x dx dz Q ok rx e a
  unfold lift1 at e
  cases ex : shal w.h dx with
  | none => rw [ex] at e; cases e
  | some p =>
    rw [ex] at e
    cases ez : g p with
    | none => simp [ez] at e
    | some z =>
      simp [ez] at e
      subst e
      exact h w x p z Q ok (shal_rep ok rx ex) ez a
/-- one rule or the other, by what g chooses -/
theorem OpP.or {K : KF} {r r' : R2} {g g' : PyData → PyData → Option PyData} (h : OpP K r g) (h' : OpP K r' g') : OpP K (fun x y H Q => r x y H Q ∨ r' x y H Q) fun p q => match g p q with
    | some z => some z
    | none => g' p q := by
  intro w x y p q z Q ok rx ry e a
  simp only at e
  cases ez : g p q with
  | none =>
    rw [ez] at e
    exact .inr (h' w x y p q z Q ok rx ry e a)
  | some z' =>
    rw [ez] at e
    have e' : z' = z := Option.some.inj e
    subst e'
    exact .inl (h w x y p q z' Q ok rx ry ez a)

/-! ### new objects -/
/-- a list that was just made, as a frozen one -/
def Wd.newL (w : Wd) (p : Addr) (o : HO) : Wd := { w with H := upd w.H p o, Fz := fun a => w.Fz a ∨ a = p }
def Wd.newT (w : Wd) (p : Addr) (o : HO) : Wd := { w with H := upd w.H p o }
section
variable {K : KF} {w : Wd} {p : Addr} {o : HO}
theorem Wd.newT_le (hp : w.H p = none) : w.Le (w.newT p o) :=
  ⟨⟨[], by simp [Wd.newT], by simp⟩, fun _ h => h, fun _ h => .inl h, fun b u h _ => by
    show upd w.H p o b = some u
    rw [upd_ne (ne_of_none h hp)]
    exact h⟩
theorem Wd.newL_le (hp : w.H p = none) : w.Le (w.newL p o) :=
  ⟨⟨[], by simp [Wd.newL], by simp⟩, fun _ h => .inl h, fun a h => by
    rcases h with h | h
    · exact .inl h
    · subst h
      exact .inr hp, fun b u h _ => by
    show upd w.H p o b = some u
    rw [upd_ne (ne_of_none h hp)]
    exact h⟩
mutual
/-- a representation stays where all that is tracked stays -/
theorem RepP.same {Fz Fz' : Addr → Prop} {H H' : Hp} (k : ∀ b u, H b = some u → H' b = some u) (f : ∀ a, Fz a → Fz' a) : ∀ (d : PyData) {v : V}, RepP K Fz H d v → RepP K Fz' H' d v
  | .none, _, h => h
  | .bool _, _, h => h
  | .int _, _, h => h
  | .str _, _, h => h
  | .list ds, _, ⟨a, vs, e, hr, hs⟩ => ⟨a, vs, e, by
      rcases hr with ⟨hf, h | ⟨o, h⟩⟩ | h
      · exact .inl ⟨f _ hf, .inl (k _ _ h)⟩
      · exact .inl ⟨f _ hf, .inr ⟨o, k _ _ h⟩⟩
      · exact .inr h, RepPs.same k f ds hs⟩
  | .tuple ds, _, ⟨a, vs, e, hr, hs⟩ => ⟨a, vs, e, by
      rcases hr with (h | ⟨o, h⟩) | h
      · exact .inl (.inl (k _ _ h))
      · exact .inl (.inr ⟨o, k _ _ h⟩)
      · exact .inr h, RepPs.same k f ds hs⟩
  | .dict ds, _, ⟨a, us, e, hf, hr, hs⟩ => ⟨a, us, e, f _ hf, k _ _ hr, RepKs.same k f ds hs⟩
theorem RepPs.same {Fz Fz' : Addr → Prop} {H H' : Hp} (k : ∀ b u, H b = some u → H' b = some u) (f : ∀ a, Fz a → Fz' a) : ∀ (ds : List PyData) {vs : List V}, RepPs K Fz H ds vs → RepPs K Fz' H' ds vs
  | [], _, h => h
  | d :: ds, _, ⟨v, r, e, h1, h2⟩ => ⟨v, r, e, RepP.same k f d h1, RepPs.same k f ds h2⟩
theorem RepKs.same {Fz Fz' : Addr → Prop} {H H' : Hp} (k : ∀ b u, H b = some u → H' b = some u) (f : ∀ a, Fz a → Fz' a) : ∀ (ds : List (PyData × PyData)) {vs : List (Key × V)}, RepKs K Fz H ds vs → RepKs K Fz' H' ds vs
  | [], _, h => h
  | (_, d) :: ds, _, ⟨q, v, r, e, hk, h1, h2⟩ => ⟨q, v, r, e, hk, RepP.same k f d h1, RepKs.same k f ds h2⟩
end
theorem Wd.newT_ok (ok : w.Ok K) (hp : w.H p = none) : (w.newT p o).Ok K where
  nd := ok.nd
  len := ok.len
  cell := fun n a c ha hc => by
    have le : w.Le (w.newT p o) := Wd.newT_le hp
    have := ok.cell n a c ha hc
    exact this.mono ok le (fun u e => by
      show upd w.H p o a = _
      rw [upd_ne (ne_of_none e hp)]
      exact e) fun r => RepDs.mono ok le _ r
  apart := ok.apart
  there := fun a h => by
    show upd w.H p o a ≠ none
    by_cases e : a = p
    · subst e
      rw [upd_same]
      exact fun z => by cases z
    · rw [upd_ne e]
      exact ok.there a h
theorem Wd.newL_ok (ok : w.Ok K) (hp : w.H p = none) : (w.newL p o).Ok K where
  nd := ok.nd
  len := ok.len
  cell := fun n a c ha hc => by
    have le : w.Le (w.newL p o) := Wd.newL_le hp
    have := ok.cell n a c ha hc
    exact this.mono ok le (fun u e => by
      show upd w.H p o a = _
      rw [upd_ne (ne_of_none e hp)]
      exact e) fun r => RepDs.mono ok le _ r
  apart := fun a h => by
    rcases h with h | h
    · exact ok.apart a h
    · subst h
      intro hi
      obtain ⟨_, e, _⟩ := ok.tracked hi
      rw [hp] at e
      cases e
  there := fun a h => by
    show upd w.H p o a ≠ none
    by_cases e : a = p
    · subst e
      rw [upd_same]
      exact fun z => by cases z
    · rw [upd_ne e]
      rcases h with h | h
      · exact ok.there a h
      · exact absurd h e
/-- a new list of known things -/
theorem After.newL {ds : List PyData} {vs : List V} {Q : VK} (a : After K w (.v (.list ds)) Q) (ok : w.Ok K) (r : RepPs K w.Fz w.H ds vs) : ∀ p, w.H p = none → Q (.ref p) (upd w.H p (.lst vs)) := fun p hp =>
  a (w.newL p (.lst vs)) (.ref p) (Wd.newL_le hp) (Wd.newL_ok ok hp) rfl ⟨p, vs, rfl, .inl ⟨.inr rfl, .inl upd_same⟩, RepPs.mono ok (Wd.newL_le hp) ds r⟩
theorem After.newT {ds : List PyData} {vs : List V} {Q : VK} (a : After K w (.v (.tuple ds)) Q) (ok : w.Ok K) (r : RepPs K w.Fz w.H ds vs) : ∀ p, w.H p = none → Q (.ref p) (upd w.H p (.tup vs)) := fun p hp =>
  a (w.newT p (.tup vs)) (.ref p) (Wd.newT_le hp) (Wd.newT_ok ok hp) rfl ⟨p, vs, rfl, .inl (.inl upd_same), RepPs.mono ok (Wd.newT_le hp) ds r⟩
theorem RepPs.append {Fz : Addr → Prop} {H : Hp} : ∀ {ds es : List PyData} {vs us : List V}, RepPs K Fz H ds vs → RepPs K Fz H es us → RepPs K Fz H (ds ++ es) (vs ++ us)
  | [], _, _, _, h, h' => by
    rw [show _ = [] from h]
    exact h'
  | d :: ds, _, _, _, ⟨v, r, e, h1, h2⟩, h' => ⟨v, r ++ _, by rw [e]; rfl, h1, RepPs.append h2 h'⟩
theorem RepPs.get {Fz : Addr → Prop} {H : Hp} : ∀ {ds : List PyData} {vs : List V} {i : Nat} {d : PyData}, RepPs K Fz H ds vs → ds[i]? = some d → ∃ v, vs[i]? = some v ∧ RepP K Fz H d v
  | [], _, _, _, _, h => by simp at h
  | d :: ds, _, 0, _, ⟨v, r, e, h1, h2⟩, h => by
    simp at h
    subst h
    exact ⟨v, by rw [e]; rfl, h1⟩
  | d :: ds, _, i + 1, _, ⟨v, r, e, h1, h2⟩, h => by
    obtain ⟨u, e', r'⟩ := RepPs.get (i := i) h2 (by simpa using h)
    exact ⟨u, by rw [e]; simpa using e', r'⟩
theorem RepDs.get : ∀ {ds : List D} {vs : List V} {i : Nat} {d : D}, RepDs K w ds vs → ds[i]? = some d → ∃ v, vs[i]? = some v ∧ RepD K w d v
  | [], _, _, _, _, h => by simp at h
  | d :: ds, _, 0, _, ⟨v, r, e, h1, h2⟩, h => by
    simp at h
    subst h
    exact ⟨v, by rw [e]; rfl, h1⟩
  | d :: ds, _, i + 1, _, ⟨v, r, e, h1, h2⟩, h => by
    obtain ⟨u, e', r'⟩ := RepDs.get (i := i) h2 (by simpa using h)
    exact ⟨u, by rw [e]; simpa using e', r'⟩
theorem RepPs.take {Fz : Addr → Prop} {H : Hp} : ∀ {ds : List PyData} {vs : List V} (n : Nat), RepPs K Fz H ds vs → RepPs K Fz H (ds.take n) (vs.take n)
  | _, _, 0, _ => by simp [RepPs]
  | [], _, n + 1, h => by
    rw [show _ = [] from h]
    simp [RepPs]
  | d :: ds, _, n + 1, ⟨v, r, e, h1, h2⟩ => ⟨v, r.take n, by rw [e]; rfl, h1, RepPs.take n h2⟩
theorem RepPs.drop {Fz : Addr → Prop} {H : Hp} : ∀ {ds : List PyData} {vs : List V} (n : Nat), RepPs K Fz H ds vs → RepPs K Fz H (ds.drop n) (vs.drop n)
  | _, _, 0, h => h
  | [], _, n + 1, h => by
    rw [show _ = [] from h]
    simp [RepPs]
  | d :: ds, _, n + 1, ⟨v, r, e, h1, h2⟩ => by
    rw [e]
    exact RepPs.drop n h2
theorem RepPs.reverse {Fz : Addr → Prop} {H : Hp} : ∀ {ds : List PyData} {vs : List V}, RepPs K Fz H ds vs → RepPs K Fz H ds.reverse vs.reverse
  | [], _, h => by
    rw [show _ = [] from h]
    rfl
  | d :: ds, _, ⟨v, r, e, h1, h2⟩ => by
    rw [e, List.reverse_cons, List.reverse_cons]
    exact RepPs.append (RepPs.reverse h2) ⟨v, [], rfl, h1, rfl⟩
theorem RepPs.rep {Fz : Addr → Prop} {H : Hp} {ds : List PyData} {vs : List V} (h : RepPs K Fz H ds vs) : ∀ k : Nat, RepPs K Fz H (List.replicate k ds).flatten (List.replicate k vs).flatten
  | 0 => rfl
  | k + 1 => by
    rw [List.replicate_succ, List.replicate_succ, List.flatten_cons, List.flatten_cons]
    exact RepPs.append h (RepPs.rep h k)
end
end Vl
set_option maxHeartbeats 4000000
namespace Vl
open PySem PySem.Spec PyProof.Rows L2

/-! ## ints -/
noncomputable def cmul (i j : Int) : Bool := yes ((-(2 ^ 64) < i ∧ i < 2 ^ 64) ∨ (-(2 ^ 64) < j ∧ j < 2 ^ 64))
theorem cmul_ok {i j : Int} (h : cmul i j = true) : CMul i j := by
  unfold cmul at h
  rw [yes_iff] at h
  exact h
noncomputable def cdiv (j : Int) : Bool := yes (0 < j ∧ j < 2 ^ 64)
noncomputable def cpow (i j : Int) : Bool := yes ((0 ≤ j ∧ j ≤ 1000000) ∧ i.natAbs < 2 ^ 64)
theorem cmulL {i j : Int} (h1 : -(2 ^ 64) < i) (h2 : i < 2 ^ 64) : cmul i j = true := yes_of (.inl ⟨h1, h2⟩)
theorem cmulR {i j : Int} (h1 : -(2 ^ 64) < j) (h2 : j < 2 ^ 64) : cmul i j = true := yes_of (.inr ⟨h1, h2⟩)
theorem cdivI {j : Int} (h1 : 0 < j) (h2 : j < 1073741824) : cdiv j = true := yes_of ⟨h1, by omega⟩
theorem cpowI {i j : Int} (h1 : 0 ≤ j) (h2 : j ≤ 1000000) (h3 : i.natAbs < 2 ^ 64) : cpow i j = true := yes_of ⟨⟨h1, h2⟩, h3⟩
section
variable {K : KF}
theorem int_of {w : Wd} {i : Int} {v : V} (h : RepS K w (.int i) v) : v = .int i := h
theorem str_of {w : Wd} {i : Str} {v : V} (h : RepS K w (.str i) v) : v = .str i := h
theorem bl_of {w : Wd} {i : Bool} {v : V} (h : RepS K w (.bool i) v) : v = .bl i := h
/-- an int operator as data -/
def intP (C : Int → Int → Bool) (g : Int → Int → Int) : PyData → PyData → Option PyData
  | .int i, .int j => if C i j = true then some (.int (g i j)) else none
  | _, _ => none
def cmpP (g : Int → Int → Bool) : PyData → PyData → Option PyData
  | .int i, .int j => some (.bool (g i j))
  | _, _ => none
theorem op_intP {C : Int → Int → Prop} {Cb : Int → Int → Bool} {g : Int → Int → Int} (hC : ∀ i j, Cb i j = true → C i j) : OpP K (rI C fun i j => .int (g i j)) (intP Cb g) := by
  intro w x y p q z Q ok rx ry e a
  cases p with
  | int i =>
    cases q with
    | int j =>
      simp only [intP] at e
      split at e
      · rename_i hc
        cases e
        cases int_of rx
        cases int_of ry
        exact ⟨i, j, rfl, rfl, hC i j hc, a.here ok rfl⟩
      · cases e
    | _ => cases e
  | _ => cases e
theorem op_intP0 {g : Int → Int → Int} : OpP K (rI0 fun i j => .int (g i j)) (intP (fun _ _ => true) g) := by
  intro w x y p q z Q ok rx ry e a
  cases p with
  | int i =>
    cases q with
    | int j =>
      cases e
      cases int_of rx
      cases int_of ry
      exact ⟨i, j, rfl, rfl, a.here ok rfl⟩
    | _ => cases e
  | _ => cases e
theorem op_cmpP {g : Int → Int → Bool} : OpP K (rI0 fun i j => .bl (g i j)) (cmpP g) := by
  intro w x y p q z Q ok rx ry e a
  cases p with
  | int i =>
    cases q with
    | int j =>
      cases e
      cases int_of rx
      cases int_of ry
      exact ⟨i, j, rfl, rfl, a.here ok rfl⟩
    | _ => cases e
  | _ => cases e

/-! ## + -/
def catStrP : PyData → PyData → Option PyData
  | .str i, .str j => if i.length + j.length ≤ sizeLine then some (.str (i ++ j)) else none
  | _, _ => none
def catTupP : PyData → PyData → Option PyData
  | .tuple i, .tuple j => if i.length + j.length ≤ sizeLine then some (.tuple (i ++ j)) else none
  | _, _ => none
def catLstP : PyData → PyData → Option PyData
  | .list i, .list j => if i.length + j.length ≤ sizeLine then some (.list (i ++ j)) else none
  | _, _ => none
theorem op_catStrP : OpP K (fun x y H Q => ∃ i j, x = .str i ∧ y = .str j ∧ i.length + j.length ≤ sizeLine ∧ Q (.str (i ++ j)) H) catStrP := by
  intro w x y p q z Q ok rx ry e a
  cases p with
  | str i =>
    cases q with
    | str j =>
      simp only [catStrP] at e
      split at e
      · rename_i hc
        cases e
        cases str_of rx
        cases str_of ry
        exact ⟨i, j, rfl, rfl, hc, a.here ok rfl⟩
      · cases e
    | _ => cases e
  | _ => cases e
theorem op_catTupP : OpP K (rCatA K) catTupP := by
  intro w x y p q z Q ok rx ry e a
  cases p with
  | tuple i =>
    cases q with
    | tuple j =>
      simp only [catTupP] at e
      split at e
      · rename_i hc
        cases e
        obtain ⟨b, vs, rfl, ht, hr⟩ := rx
        obtain ⟨c, us, rfl, ht', hr'⟩ := ry
        refine ⟨b, c, vs, us, rfl, rfl, ht, ht', by rw [hr.len, hr'.len]; exact hc, fun e0 => ?_, fun _ e0 => ?_, fun _ _ p hp => ?_⟩
        · have : i = [] := by
            have := hr.len
            rw [e0] at this
            exact List.length_eq_zero_iff.mp this.symm
          subst this
          exact a.here ok ⟨c, us, rfl, ht', hr'⟩
        · have : j = [] := by
            have := hr'.len
            rw [e0] at this
            exact List.length_eq_zero_iff.mp this.symm
          subst this
          rw [List.append_nil] at a
          exact a.here ok ⟨b, vs, rfl, ht, hr⟩
        · exact a.newT ok (RepPs.append hr hr') p hp
      · cases e
    | _ => cases e
  | _ => cases e
/-- list + list, whatever the lists are -/
def rCatL (K : KF) : R2 := fun x y H Q => ∃ l b xs zs, x = .ref l ∧ y = .ref b ∧ SqL K H l xs ∧ SqL K H b zs ∧ xs.length + zs.length ≤ sizeLine ∧ ∀ p, H p = none → Q (.ref p) (upd H p (.lst (xs ++ zs)))
theorem op_catL {X : Cx} : OpR X (binaryOp .Add) (rCatL X.K) := by
  intro pins s σ H x y v u Q I rx ry h
  obtain ⟨l, b, xs, zs, rfl, rfl, hH, hB, hz, q⟩ := h
  cases rx
  cases ry
  obtain ⟨its, r, ⟨⟨cls, dd, data, sl⟩, n, ho, hc, _, hd⟩, z⟩ := I.list hH
  obtain ⟨its2, r2, ⟨⟨cls2, dd2, data2, sl2⟩, n2, ho2, hc2, _, hd2⟩, z2⟩ := I.list hB
  simp only at hc hd hc2 hd2
  subst hc hd hc2 hd2
  have e : its.toArray ++ its2.toArray = (its ++ its2).toArray := by simp
  have hl := r.length
  have hl2 := r2.length
  refine concat_meets ⟨_, ho, rfl⟩ ⟨_, ho2, rfl⟩ noFill_list_add seq_list_add PySem.F.slot_list_add PySem.F.entry_list_add (PySem.F.args_list_add_2 _ _) (list_addW l b its.toArray its2.toArray n n2 dd dd2 sl sl2 (by rw [List.size_toArray, List.size_toArray]; omega)) ⟨ho, ho2, ?_⟩
  rw [e]
  exact ⟨.ref _, _, I.lnew (t' := s.toks) (r.append r2) (by rw [List.length_append]; omega), rfl, q _ I.fresh⟩
theorem op_catLstP : OpP K (rCatL K) catLstP := by
  intro w x y p q z Q ok rx ry e a
  cases p with
  | list i =>
    cases q with
    | list j =>
      simp only [catLstP] at e
      split at e
      · rename_i hc
        cases e
        obtain ⟨b, vs, rfl, ht, hr⟩ := rx
        obtain ⟨c, us, rfl, ht', hr'⟩ := ry
        exact ⟨b, c, vs, us, rfl, rfl, ht, ht', by rw [hr.len, hr'.len]; exact hc, a.newL ok (RepPs.append hr hr')⟩
      · cases e
    | _ => cases e
  | _ => cases e
def addP : PyData → PyData → Option PyData
  | .int i, .int j => some (.int (i + j))
  | .str i, .str j => if i.length + j.length ≤ sizeLine then some (.str (i ++ j)) else none
  | .tuple i, .tuple j => if i.length + j.length ≤ sizeLine then some (.tuple (i ++ j)) else none
  | .list i, .list j => if i.length + j.length ≤ sizeLine then some (.list (i ++ j)) else none
  | _, _ => none
abbrev rAddA (K : KF) : R2 := fun x y H Q => (((rI0 fun i j => .int (i + j)) x y H Q ∨ (∃ i j, x = .str i ∧ y = .str j ∧ i.length + j.length ≤ sizeLine ∧ Q (.str (i ++ j)) H)) ∨ rCatA K x y H Q) ∨ rCatL K x y H Q
theorem op_addR {X : Cx} : OpR X (binaryOp .Add) (rAddA X.K) := ((op_add.or op_add_str).or op_catA).or op_catL
theorem op_addP : OpP K (rAddA K) addP := by
  intro w x y p q z Q ok rx ry e a
  cases p with
  | int i =>
    cases q with
    | int j => exact .inl (.inl (.inl (op_intP0 w x y _ _ z Q ok rx ry e a)))
    | _ => cases e
  | str i =>
    cases q with
    | str j => exact .inl (.inl (.inr (op_catStrP w x y _ _ z Q ok rx ry e a)))
    | _ => cases e
  | tuple i =>
    cases q with
    | tuple j => exact .inl (.inr (op_catTupP w x y _ _ z Q ok rx ry e a))
    | _ => cases e
  | list i =>
    cases q with
    | list j => exact .inr (op_catLstP w x y _ _ z Q ok rx ry e a)
    | _ => cases e
  | _ => cases e

/-! ## * -/
noncomputable def mulP : PyData → PyData → Option PyData
  | .int i, .int j => if cmul i j = true then some (.int (i * j)) else none
  | .list xs, .int k => if yes (-(2 ^ 63) ≤ k ∧ k < 2 ^ 63 ∧ xs.length * k.toNat ≤ sizeLine) = true then some (.list (List.replicate k.toNat xs).flatten) else none
  | .tuple xs, .int k => if yes (xs ≠ [] ∧ 2 ≤ k ∧ (xs.length : Int) * k ≤ 1000000) = true then some (.tuple (List.replicate k.toNat xs).flatten) else none
  | _, _ => none
theorem int_rmul_listW (a : Int) (t : Tok) (l : Addr) (items : Array Value) (n : Nat) (dd : Option Addr) (sl : Array (Option Value)) :
    Meets (Builtin.«int.__rmul__» ⟨[.int a t, .ref l], []⟩) (fun _ R s => s.heap.get? l = some { cls := .type "list", dict := dd, data := .seq items n, slots := sl } ∧ R (.ok (.ret Value.notImplemented)) s) :=
  .of_wp fun prog w A R s h => by obtain ⟨hp, g, d, tk, os⟩ := s; obtain ⟨hl, h⟩ := h; wp_walk using wpAny_loadPart' hl; exact ⟨_, rfl, h⟩
theorem list_mulW (l : Addr) (items : Array Value) (n : Nat) (dd : Option Addr) (sl : Array (Option Value)) (x : Int) (u : Tok) (hc0 : ¬(!Builtin.List.listFitsIndex x) = true) (hc1 : ¬items.size * x.toNat > (2 ^ 63 - 1) / 8) (hc2 : ¬Builtin.List.listTooLong (items.size * x.toNat) = true)
    (hsz : (List.foldl (fun x1 x2 => x1 ++ x2) #[] (List.replicate (if items.isEmpty = true then 0 else x.toNat) items)).size ≤ sizeLine) :
    Meets (Builtin.«list.__mul__» ⟨[.ref l, .int x u], []⟩) (fun _ R s => s.heap.get? l = some { cls := .type "list", dict := dd, data := .seq items n, slots := sl } ∧ R (.ok (.ret (Value.ref s.heap.objs.size))) { s with heap := s.heap.push { cls := Value.type "list", data := Data.seq (List.foldl (fun x1 x2 => x1 ++ x2) #[] (List.replicate (if items.isEmpty = true then 0 else x.toNat) items)) }, toks := s.toks }) :=
  .of_wp fun prog w A R s h => by
    obtain ⟨hp, g, d, tk, os⟩ := s
    obtain ⟨hl, h⟩ := h
    have f1 := AutoSeq1.idx_int
    wp_walk using wpAny_loadPart' hl
    repeat (first
      | (refine wpAny_ite_false (decide_eq_false hc0) ?_; wp_walk using wpAny_loadPart' hl)
      | (refine wpAny_ite_false (decide_eq_false hc1) ?_; wp_walk using wpAny_loadPart' hl)
      | (refine wpAny_ite_false (decide_eq_false hc2) ?_; wp_walk using wpAny_loadPart' hl)
      | (refine wpAny_ite_false (decide_eq_false (Nat.not_lt.mpr hsz)) ?_; wp_walk using wpAny_loadPart' hl))
    exact ⟨_, rfl, h⟩
/-- as op_rep, whatever the list is -/
def rRepL (K : KF) : R2 := fun x y H Q => ∃ l k xs, x = .ref l ∧ y = .int k ∧ SqL K H l xs ∧ -(2 ^ 63) ≤ k ∧ k < 2 ^ 63 ∧ xs.length * k.toNat ≤ sizeLine ∧
  ∀ p, H p = none → Q (.ref p) (upd H p (.lst (List.replicate k.toNat xs).flatten))
theorem op_repL {X : Cx} : OpR X (binaryOp .Mult) (rRepL X.K) := by
  intro pins s σ H x y v u Q I rx ry h
  obtain ⟨l, k, xs, rfl, rfl, hH, h1, h2, hz, q⟩ := h
  cases rx
  obtain ⟨t, rfl⟩ := ry
  obtain ⟨its, r, ⟨⟨cls, dd, data, sl⟩, n, ho, hc, hdn, hd⟩, z⟩ := I.list hH
  simp only at hc hd hdn
  subst hc hd hdn
  have hl := r.length
  have hlen : its.toArray.size * k.toNat ≤ sizeLine := by rw [List.size_toArray, ← hl]; exact hz
  have hcap : ¬ its.toArray.size * k.toNat > (2 ^ 63 - 1) / 8 := by
    have : (sizeLine : Nat) ≤ (2 ^ 63 - 1) / 8 := by decide
    omega
  have hfit : ¬ (!Builtin.List.listFitsIndex k) = true := by
    rw [fitsIndex_both h1 h2]
    exact Bool.false_ne_true
  have hlong : ¬ Builtin.List.listTooLong (its.toArray.size * k.toNat) = true := by
    rw [notLongL hlen]
    exact Bool.false_ne_true
  have hnew : List.foldl (fun x1 x2 => x1 ++ x2) #[] (List.replicate (if its.toArray.isEmpty = true then 0 else k.toNat) its.toArray) = (List.replicate k.toNat its).flatten.toArray := by
    have f0 : ∀ m : Nat, List.foldl (fun x1 x2 => x1 ++ x2) #[] (List.replicate m its.toArray) = (List.replicate m its).flatten.toArray := fun m => by
      have := foldl_rep its m []
      rw [List.nil_append] at this
      exact this
    rw [f0]
    cases its with
    | nil => simp
    | cons a r' => rw [if_neg (by simp)]
  have flen : (List.replicate k.toNat its).flatten.length ≤ sizeLine := by
    rw [PyProof.Rows.lm_len_rep_flat, Nat.mul_comm, ← hl]
    exact hz
  refine wpAny_binaryOp_repeat_ref (T := "list") (U := "int") (by decide) ⟨_, ho, rfl⟩ (fun s' => typeIs_int s' k t) noFill_list_mul F.fills_int_mul F.slot_int_rmul repeat_list F.slot_int_index.lookup
    (call_meets F.slot_int_rmul (typeIs_int s k t) F.entry_int_rmul (F.args_int_rmul_2 _ _) (int_rmul_listW k t l its.toArray n none sl)
      ⟨ho, rfl, ⟨_, ho, rfl⟩, call_meets F.slot_list_mul ⟨_, ho, rfl⟩ F.entry_list_mul (F.args_list_mul_2 _ _) (list_mulW l its.toArray n none sl k t hfit hcap hlong (by rw [hnew, List.size_toArray]; exact flen)) ⟨ho, ?_⟩⟩)
  rw [hnew]
  exact ⟨.ref _, _, I.lnew (t' := s.toks) (r.rep k.toNat) (by rw [PyProof.Rows.lm_len_rep_flat, Nat.mul_comm]; exact hz), rfl, q _ I.fresh⟩
/-- a tuple so many times, up to a million things -/
def rRepTw (K : KF) : R2 := fun x y H Q => ∃ l k xs, x = .ref l ∧ y = .int k ∧ SqT K H l xs ∧ xs ≠ [] ∧ 2 ≤ k ∧ (xs.length : Int) * k ≤ 1000000 ∧ ∀ p, H p = none → Q (.ref p) (upd H p (.tup (List.replicate k.toNat xs).flatten))
theorem op_repTw {X : Cx} : OpR X (binaryOp .Mult) (rRepTw X.K) := by
  intro pins s σ H x y v u Q I rx ry h
  obtain ⟨l, k, xs, rfl, rfl, hT, hne, h1, hm, q⟩ := h
  cases rx
  obtain ⟨t, rfl⟩ := ry
  obtain ⟨its, r, ⟨⟨cl, dd, dt, sl⟩, ho, q1, n, q2⟩, hs⟩ := I.tuple hT
  simp only at q1 q2
  subst q1 q2
  have hle : its.length = xs.length := r.length.symm
  cases its with
  | nil =>
    cases xs with
    | nil => exact absurd rfl hne
    | cons a b => cases hle
  | cons i0 ir =>
    have s0 : (i0 :: ir).toArray.size = xs.length := by rw [List.size_toArray, hle]
    have x1 : 1 ≤ (xs.length : Int) := by rw [← hle, List.length_cons]; omega
    have kb : k ≤ 1000000 := by
      have := Int.mul_le_mul_of_nonneg_right x1 (show 0 ≤ k by omega)
      omega
    have kn : ((k.toNat * xs.length : Nat) : Int) ≤ 1000000 := by
      rw [Int.natCast_mul, Int.mul_comm, Int.toNat_of_nonneg (by omega)]
      exact hm
    have flen : (List.replicate k.toNat (i0 :: ir)).flatten.length ≤ sizeLine := by
      rw [PyProof.Rows.lm_len_rep_flat, hle, sizeLine_eq]
      omega
    have big : Builtin.Tuple.tupleTooMany (((i0 :: ir).toArray.size : Nat) * k) = false := by
      unfold Builtin.Tuple.tupleTooMany
      rw [s0, sizeLine_eq]
      exact decide_eq_false (by omega)
    have b1 : ((i0 :: ir).toArray.isEmpty || k == 1) = false := by
      rw [show (i0 :: ir).toArray.isEmpty = false from rfl, Bool.false_or]
      exact beq_eq_false_iff_ne.mpr (by omega)
    have b2 : (decide (k ≤ 0) || (i0 :: ir).toArray.isEmpty) = false := by
      rw [show (i0 :: ir).toArray.isEmpty = false from rfl, Bool.or_false]
      exact decide_eq_false (by omega)
    have b0 : (decide (k < -(2 ^ 63)) || decide (k ≥ 2 ^ 63)) = false := by
      rw [decide_eq_false (by omega), decide_eq_false (by omega)]
      rfl
    have mw := tuple_mulW l (i0 :: ir).toArray n dd sl k t b0 b1 b2 (by rw [s0]; omega) big (by rw [L2.size_rep, List.size_toArray]; exact flen)
    refine wpAny_binaryOp_repeat_ref (T := "tuple") (U := "int") (by decide) ⟨_, ho, rfl⟩ (fun s' => typeIs_int s' k t) noFill_tuple_mul F.fills_int_mul F.slot_int_rmul repeat_tuple F.slot_int_index.lookup ?_
    refine call_meets F.slot_int_rmul (typeIs_int s k t) F.entry_int_rmul (F.args_int_rmul_2 _ _) (int_rmul_tuple k t l (i0 :: ir).toArray n dd sl) ⟨ho, rfl, ⟨_, ho, rfl⟩, ?_⟩
    refine call_meets F.slot_tuple_mul ⟨_, ho, rfl⟩ F.entry_tuple_mul (F.args_tuple_mul_2 _ _) mw ⟨ho, ?_⟩
    rw [L2.size_rep]
    refine ⟨.ref s.heap.objs.size, _, I.laid (t' := s.toks) (o := .tup (List.replicate k.toNat xs).flatten) (fun b ob q => Heap.get?_push_of_some _ q) (Nat.le_refl _) ?_, rfl, q _ (I.hok.fresh (Nat.le_refl _))⟩
    exact ⟨by rw [PyProof.Rows.lm_len_rep_flat, sizeLine_eq]; omega, _, r.rep k.toNat, IsTup.new _ _⟩
abbrev rMulA (K : KF) : R2 := fun x y H Q => ((rI CMul fun i j => .int (i * j)) x y H Q ∨ rRepL K x y H Q) ∨ rRepTw K x y H Q
theorem op_mulR {X : Cx} : OpR X (binaryOp .Mult) (rMulA X.K) := (op_mul.or op_repL).or op_repTw
theorem op_mulP : OpP K (rMulA K) mulP := by
  intro w x y p q z Q ok rx ry e a
  cases p with
  | int i =>
    cases q with
    | int j => exact .inl (.inl (op_intP (Cb := cmul) (g := fun i j => i * j) (fun _ _ => cmul_ok) w x y _ _ z Q ok rx ry e a))
    | _ => cases e
  | list i =>
    cases q with
    | int j =>
      simp only [mulP] at e
      split at e
      · rename_i hc
        cases e
        rw [yes_iff] at hc
        obtain ⟨b, vs, rfl, ht, hr⟩ := rx
        cases int_of ry
        exact .inl (.inr ⟨b, j, vs, rfl, rfl, ht, hc.1, hc.2.1, by rw [hr.len]; exact hc.2.2, a.newL ok (RepPs.rep hr _)⟩)
      · cases e
    | _ => cases e
  | tuple i =>
    cases q with
    | int j =>
      simp only [mulP] at e
      split at e
      · rename_i hc
        cases e
        rw [yes_iff] at hc
        obtain ⟨b, vs, rfl, ht, hr⟩ := rx
        cases int_of ry
        refine .inr ⟨b, j, vs, rfl, rfl, ht, fun e0 => hc.1 ?_, hc.2.1, by rw [hr.len]; exact hc.2.2, a.newT ok (RepPs.rep hr _)⟩
        have := hr.len
        rw [e0] at this
        exact List.length_eq_zero_iff.mp this.symm
      · cases e
    | _ => cases e
  | _ => cases e

/-! ## others on ints -/
def subP := intP (fun _ _ => true) fun i j => i - j
noncomputable def fdivP := intP (fun _ j => cdiv j) fun i j => i / j
def modP := intP (fun _ j => decide (0 < j)) fun i j => i % j
noncomputable def powP := intP cpow fun i j => i ^ j.toNat
theorem op_subP : OpP K (rI0 fun i j => .int (i - j)) subP := op_intP0
theorem op_fdivP : OpP K (rI CDivW fun i j => .int (i / j)) fdivP := op_intP fun i j h => by
  unfold cdiv at h
  rw [yes_iff] at h
  exact wide_div (b := 64) h.1 (by have := h.1; have := h.2; omega) (by decide) (by decide)
theorem op_modP : OpP K (rI (fun _ j => 0 < j) fun i j => .int (i % j)) modP := op_intP fun i j h => of_decide_eq_true h
theorem op_powP : OpP K (rI CPow fun i j => .int (i ^ j.toNat)) powP := op_intP fun i j h => by
  unfold cpow at h
  rw [yes_iff] at h
  exact ⟨h.1.1, h.1.2, h.2⟩
def ltP := cmpP fun i j => decide (i < j)
def leP := cmpP fun i j => decide (i ≤ j)
def gtP := cmpP fun i j => decide (j < i)
def geP := cmpP fun i j => decide (j ≤ i)
theorem op_ltP : OpP K (rI0 fun i j => .bl (decide (i < j))) ltP := op_cmpP
theorem op_leP : OpP K (rI0 fun i j => .bl (decide (i ≤ j))) leP := op_cmpP
theorem op_gtP : OpP K (rI0 fun i j => .bl (decide (j < i))) gtP := op_cmpP
theorem op_geP : OpP K (rI0 fun i j => .bl (decide (j ≤ i))) geP := op_cmpP
def negP : PyData → Option PyData
  | .int i => some (.int (-i))
  | _ => none
theorem un_negP : UnP K (rU fun i => .int (-i)) negP := by
  intro w x p z Q ok rx e a
  cases p with
  | int i =>
    cases e
    cases int_of rx
    exact ⟨i, rfl, a.here ok rfl⟩
  | _ => cases e

/-! ## deep views: ==, in -/
mutual
def frz (h : Hs) : Nat → D → Option PyData
  | 0, d => unv d
  | n + 1, d => match d with
    | .v p => some p
    | .ref k => match h[k]? with
      | some (.lst xs) => (frzs h n xs).map .list
      | _ => none
    | .mix xs => (frzs h n xs).map .tuple
    | .exc _ _ => none
def frzs (h : Hs) : Nat → List D → Option (List PyData)
  | 0, _ => none
  | n + 1, xs => xs.foldr (fun d r => match frz h n d, r with
    | some p, some ps => some (p :: ps)
    | _, _ => none) (some [])
end
theorem frz_v (h : Hs) (n : Nat) (p : PyData) : frz h n (.v p) = some p := by cases n <;> rfl
mutual
theorem RepP.dp {Fz : Addr → Prop} {H : Hp} : ∀ {d : PyData} {v : V}, d.canLay0 = true → RepP K Fz H d v → Dp K H v d
  | .none, _, _, h => by rw [show _ = V.non from h]; exact .non
  | .bool b, _, _, h => by rw [show _ = V.bl b from h]; exact .bl b
  | .int i, _, _, h => by rw [show _ = V.int i from h]; exact .int i
  | .str x, _, _, h => by rw [show _ = V.str x from h]; exact .str x
  | .list ds, _, c, ⟨a, vs, e, r, s⟩ => by rw [e]; exact .lst r.sql (RepPs.dp (by simpa [PyData.canLay0] using c) s)
  | .tuple ds, _, c, ⟨a, vs, e, r, s⟩ => by rw [e]; exact .tup r (RepPs.dp (by simpa [PyData.canLay0] using c) s)
  | .dict _, _, c, _ => by simp [PyData.canLay0] at c
theorem RepPs.dp {Fz : Addr → Prop} {H : Hp} : ∀ {ds : List PyData} {vs : List V}, PyData.canLayAll0 ds = true → RepPs K Fz H ds vs → DpAll K H vs ds
  | [], _, _, h => by rw [show _ = [] from h]; exact .nil
  | d :: ds, _, c, ⟨v, r, e, h1, h2⟩ => by
    rw [PyData.canLayAll0, Bool.and_eq_true] at c
    rw [e]; exact .cons (RepP.dp c.1 h1) (RepPs.dp c.2 h2)
end
mutual
/-- the deep view stands in the heap; its lists are frozen ones or cells -/
theorem frz_rep {w : Wd} (ok : w.Ok K) {G : Addr → Prop} (f : ∀ a, w.Fz a → G a) (i : ∀ a, a ∈ w.ι → G a) : ∀ (n : Nat) {d : D} {p : PyData} {v : V}, RepD K w d v → frz w.h n d = some p → RepP K G w.H p v
  | 0, .v d, p, v, r, e => by
    have e' : d = p := Option.some.inj e
    subst e'
    exact RepP.same (fun _ _ h => h) f _ r
  | 0, .ref _, _, _, _, e => by cases e
  | 0, .mix _, _, _, _, e => by cases e
  | 0, .exc _ _, _, _, _, e => by cases e
  | n + 1, .exc _ _, _, _, _, e => by simp [frz] at e
  | n + 1, .v d, p, v, r, e => by
    have e' : d = p := Option.some.inj e
    subst e'
    exact RepP.same (fun _ _ h => h) f _ r
  | n + 1, .ref k, p, v, ⟨a, ha, ev⟩, e => by
    simp only [frz] at e
    cases q : w.h[k]? with
    | none => simp [q] at e
    | some c =>
      cases c with
      | lst xs =>
        cases u : frzs w.h n xs with
        | none => simp [q, u] at e
        | some ps =>
          simp [q, u] at e
          subst e
          obtain ⟨vs, hH, hr⟩ := ok.cell k a _ ha q
          exact ⟨a, vs, ev, .inl ⟨i a (List.mem_of_getElem? ha), .inl hH⟩, frzs_rep ok f i n hr u⟩
      | _ => simp [q] at e
  | n + 1, .mix xs, p, v, ⟨a, vs, ev, ht, hr⟩, e => by
    simp only [frz] at e
    cases u : frzs w.h n xs with
    | none => simp [u] at e
    | some ps =>
      simp [u] at e
      subst e
      exact ⟨a, vs, ev, ht, frzs_rep ok f i n hr u⟩
theorem frzs_rep {w : Wd} (ok : w.Ok K) {G : Addr → Prop} (f : ∀ a, w.Fz a → G a) (i : ∀ a, a ∈ w.ι → G a) : ∀ (n : Nat) {xs : List D} {ps : List PyData} {vs : List V}, RepDs K w xs vs → frzs w.h n xs = some ps → RepPs K G w.H ps vs
  | 0, _, _, _, _, e => by cases e
  | n + 1, xs, ps, vs, r, e => by
    induction xs generalizing ps vs with
    | nil =>
      have e' : [] = ps := Option.some.inj e
      subst e'
      exact r
    | cons d xs ih =>
      obtain ⟨v, vr, ev, h1, h2⟩ := r
      simp only [frzs, List.foldr_cons] at e
      cases q : frz w.h n d with
      | none => simp [q] at e
      | some p =>
        cases q2 : frzs w.h (n + 1) xs with
        | none =>
          simp only [frzs] at q2
          simp [q, q2] at e
        | some ps' =>
          have q3 := q2
          simp only [frzs] at q2
          simp [q, q2] at e
          subst e
          exact ⟨v, vr, ev, frz_rep ok f i n h1 q, ih _ _ h2 q3⟩
end
/-- the depth of the views that are taken -/
abbrev dep : Nat := 12
def isStr : PyData → Bool
  | .str _ => true
  | _ => false
def eqD (neg : Bool) : D → D → Hs → Option D := fun x y h => match frz h dep x, frz h dep y with
  | some p, some q => if (SeqAt.shaped p && SeqAt.shaped q || isStr p && isStr q) = true then some (.v (.bool (if neg = true then !PyData.eqv p q else PyData.eqv p q))) else none
  | _, _ => none
abbrev rEqA (K : KF) : R2 := fun x y H Q => rEqD K x y H Q ∨ rEq x y H Q
abbrev rNeA (K : KF) : R2 := fun x y H Q => rNeD K x y H Q ∨ rNe x y H Q
theorem op_eqA {X : Cx} (hu : X.A.units + 64 < cLine) : OpR X (compareOp .Eq) (rEqA X.K) := (op_eqD hu).or op_eq
theorem op_neA {X : Cx} (hu : X.A.units + 64 < cLine) : OpR X (compareOp .NotEq) (rNeA X.K) := (op_neD hu).or op_ne
theorem dec_strs {a b : Str} : decide (V.str a = V.str b) = PyData.eqv (.str a) (.str b) := by
  rw [PyData.eqv, Bool.eq_iff_iff, decide_eq_true_eq, beq_iff_eq]
  exact ⟨fun h => (by cases h; rfl), fun h => (by rw [h])⟩
theorem isStr_of {w : Wd} {G : Addr → Prop} {p : PyData} {v : V} (e : isStr p = true) (r : RepP K G w.H p v) : ∃ z, p = .str z ∧ v = .str z := by
  cases p with
  | str z => exact ⟨z, rfl, r⟩
  | _ => cases e
theorem op_eqDD : OpD K (rEqA K) (eqD false) := by
  intro w x y dx dy dz Q ok rx ry e a
  unfold eqD at e
  cases ex : frz w.h dep dx with
  | none => simp [ex] at e
  | some p =>
    cases ey : frz w.h dep dy with
    | none => simp [ex, ey] at e
    | some q =>
      rw [ex, ey] at e
      simp only at e
      have r1 := frz_rep ok (G := fun _ => True) (fun _ _ => trivial) (fun _ _ => trivial) dep rx ex
      have r2 := frz_rep ok (G := fun _ => True) (fun _ _ => trivial) (fun _ _ => trivial) dep ry ey
      split at e
      · rename_i hs
        cases e
        rw [Bool.or_eq_true, Bool.and_eq_true, Bool.and_eq_true] at hs
        rcases hs with hs | hs
        · exact .inl ⟨p, q, r1.dp (SeqAt.canLay_of_shaped hs.1), r2.dp (SeqAt.canLay_of_shaped hs.2), hs.1, hs.2, a.here ok rfl⟩
        · obtain ⟨s, rfl, rfl⟩ := isStr_of hs.1 r1
          obtain ⟨t, rfl, rfl⟩ := isStr_of hs.2 r2
          refine .inr ⟨rfl, ?_⟩
          rw [dec_strs]
          exact a.here ok rfl
      · cases e
theorem op_neDD : OpD K (rNeA K) (eqD true) := by
  intro w x y dx dy dz Q ok rx ry e a
  unfold eqD at e
  cases ex : frz w.h dep dx with
  | none => simp [ex] at e
  | some p =>
    cases ey : frz w.h dep dy with
    | none => simp [ex, ey] at e
    | some q =>
      rw [ex, ey] at e
      simp only at e
      have r1 := frz_rep ok (G := fun _ => True) (fun _ _ => trivial) (fun _ _ => trivial) dep rx ex
      have r2 := frz_rep ok (G := fun _ => True) (fun _ _ => trivial) (fun _ _ => trivial) dep ry ey
      split at e
      · rename_i hs
        cases e
        rw [Bool.or_eq_true, Bool.and_eq_true, Bool.and_eq_true] at hs
        rcases hs with hs | hs
        · exact .inl ⟨p, q, r1.dp (SeqAt.canLay_of_shaped hs.1), r2.dp (SeqAt.canLay_of_shaped hs.2), hs.1, hs.2, a.here ok rfl⟩
        · obtain ⟨s, rfl, rfl⟩ := isStr_of hs.1 r1
          obtain ⟨t, rfl, rfl⟩ := isStr_of hs.2 r2
          refine .inr ⟨rfl, ?_⟩
          rw [dec_strs]
          exact a.here ok rfl
      · cases e
/-- is None, is not None -/
def isNoneD : D → Bool
  | .v .none => true
  | _ => false
def ngt (neg b : Bool) : Bool := if neg = true then !b else b
def isND (neg : Bool) : D → D → Hs → Option D := fun x y _ => match y with
  | .v .none => some (.v (.bool (ngt neg (isNoneD x))))
  | _ => none
theorem repD_non {w : Wd} {x : V} {dx : D} (r : RepD K w dx x) : decide (x = V.non) = isNoneD dx := by
  cases dx with
  | v d =>
    cases d with
    | none => exact decide_eq_true r
    | bool b => exact decide_eq_false fun e => by rw [show x = _ from r] at e; cases e
    | int b => exact decide_eq_false fun e => by rw [show x = _ from r] at e; cases e
    | str b => exact decide_eq_false fun e => by rw [show x = _ from r] at e; cases e
    | list b => obtain ⟨a, vs, ev, _⟩ := r; exact decide_eq_false fun e => by rw [ev] at e; cases e
    | tuple b => obtain ⟨a, vs, ev, _⟩ := r; exact decide_eq_false fun e => by rw [ev] at e; cases e
    | dict b => obtain ⟨a, ks, rfl, _⟩ := r; simp [isNoneD]
  | ref n => obtain ⟨a, _, ev⟩ := r; exact decide_eq_false fun e => by rw [ev] at e; cases e
  | mix xs => obtain ⟨a, vs, ev, _⟩ := r; exact decide_eq_false fun e => by rw [ev] at e; cases e
  | exc c fs => obtain ⟨a, C, da, ev, _⟩ := r; exact decide_eq_false fun e => by rw [ev] at e; cases e
theorem op_isNDD : OpD K (fun x y H Q => y = .non ∧ Q (.bl (decide (x = .non))) H) (isND false) := by
  intro w x y dx dy dz Q ok rx ry e a
  unfold isND at e
  split at e
  · refine ⟨ry, ?_⟩
    rw [repD_non rx]
    cases e
    exact a.here ok rfl
  · cases e
theorem op_notNDD : OpD K (fun x y H Q => y = .non ∧ Q (.bl (!decide (x = .non))) H) (isND true) := by
  intro w x y dx dy dz Q ok rx ry e a
  unfold isND at e
  split at e
  · refine ⟨ry, ?_⟩
    rw [repD_non rx]
    cases e
    exact a.here ok rfl
  · cases e
/-- is, is not of truths -/
def isBP (neg : Bool) : PyData → PyData → Option PyData
  | .bool a, .bool b => some (.bool (if neg = true then !decide (a = b) else decide (a = b)))
  | _, _ => none
/-! ## in -/
def isFlat : PyData → Bool
  | .none => true
  | .bool _ => true
  | .int _ => true
  | .str _ => true
  | _ => false
theorem flat_of {Fz : Addr → Prop} {H : Hp} {d : PyData} {v : V} (f : isFlat d = true) (r : RepP K Fz H d v) : flatV v = true := by
  cases d with
  | none => rw [show v = _ from r]; rfl
  | bool b => rw [show v = _ from r]; rfl
  | int b => rw [show v = _ from r]; rfl
  | str b => rw [show v = _ from r]; rfl
  | _ => cases f
theorem eqV_of {Fz : Addr → Prop} {H : Hp} {d e : PyData} {v u : V} (f : isFlat d = true) (g : isFlat e = true) (r : RepP K Fz H d v) (s : RepP K Fz H e u) : eqV v u = PyData.eqv d e := by
  cases d with
  | none =>
    cases e with
    | none => rw [show v = _ from r, show u = _ from s]; rfl
    | bool b => rw [show v = _ from r, show u = _ from s]; rfl
    | int b => rw [show v = _ from r, show u = _ from s]; rfl
    | str b => rw [show v = _ from r, show u = _ from s]; rfl
    | _ => cases g
  | bool b =>
    cases e with
    | none => rw [show v = _ from r, show u = _ from s]; rfl
    | bool b => rw [show v = _ from r, show u = _ from s]; rfl
    | int b => rw [show v = _ from r, show u = _ from s]; rfl
    | str b => rw [show v = _ from r, show u = _ from s]; rfl
    | _ => cases g
  | int b =>
    cases e with
    | none => rw [show v = _ from r, show u = _ from s]; rfl
    | bool b => rw [show v = _ from r, show u = _ from s]; rfl
    | int b => rw [show v = _ from r, show u = _ from s]; rfl
    | str b => rw [show v = _ from r, show u = _ from s]; rfl
    | _ => cases g
  | str b =>
    cases e with
    | none => rw [show v = _ from r, show u = _ from s]; rfl
    | bool b => rw [show v = _ from r, show u = _ from s]; rfl
    | int b => rw [show v = _ from r, show u = _ from s]; rfl
    | str b => rw [show v = _ from r, show u = _ from s]; rfl
    | _ => cases g
  | _ => cases f
theorem inV_of {Fz : Addr → Prop} {H : Hp} {d : PyData} {v : V} (f : isFlat d = true) (r : RepP K Fz H d v) : ∀ {ds : List PyData} {vs : List V}, ds.all isFlat = true → RepPs K Fz H ds vs → vs.all flatV = true ∧ inV v vs = ds.any fun z => PyData.eqv z d
  | [], _, _, h => by
    rw [show _ = [] from h]
    exact ⟨rfl, rfl⟩
  | e :: ds, _, g, ⟨u, us, ev, h1, h2⟩ => by
    rw [List.all_cons, Bool.and_eq_true] at g
    obtain ⟨i1, i2⟩ := inV_of f r g.2 h2
    rw [ev]
    refine ⟨by rw [List.all_cons, flat_of g.1 h1, i1]; rfl, ?_⟩
    unfold inV at i2 ⊢
    rw [List.any_cons, List.any_cons, i2, eqV_of g.1 f h1 r]
def inP (neg : Bool) : PyData → PyData → Option PyData
  | x, .tuple ys => if (isFlat x && ys.all isFlat) = true then some (.bool (ngt neg (ys.any fun z => PyData.eqv z x))) else none
  | x, .list ys => if (SeqAt.shaped x && SeqAt.shaped (.list ys)) = true then some (.bool (ngt neg (ys.any fun z => PyData.eqv z x))) else none
  | .str x, .str y => match x.cps.toList with
    | [c] => some (.bool (ngt neg (decide (c ∈ y.cps.toList))))
    | _ => none
  | _, _ => none
abbrev rInSign (neg : Bool) : R2 := fun x y H Q => ∃ (c : Nat) (z : Str), x = .str ⟨#[c]⟩ ∧ y = .str z ∧ Q (.bl (ngt neg (decide (c ∈ z.cps.toList)))) H
abbrev rInA (K : KF) (neg : Bool) : R2 := fun x y H Q => (rIn K neg x y H Q ∨ (if neg = true then rNotInD K x y H Q else rInD K x y H Q)) ∨ rInSign neg x y H Q
theorem op_inR {X : Cx} (hu : X.A.units + 65 < cLine) : OpR X (compareOp .In) (rInA X.K false) := (op_in_seq.or (r' := fun x y H Q => if false = true then rNotInD X.K x y H Q else rInD X.K x y H Q) (op_inD hu)).or (r' := rInSign false) op_in_sign
theorem op_notInR {X : Cx} (hu : X.A.units + 65 < cLine) : OpR X (compareOp .NotIn) (rInA X.K true) := (op_notIn_seq.or (r' := fun x y H Q => if true = true then rNotInD X.K x y H Q else rInD X.K x y H Q) (op_notInD hu)).or (r' := rInSign true) op_notIn_sign
theorem RepS.dp {w : Wd} : ∀ {d : PyData} {v : V}, d.canLay0 = true → RepS K w d v → Dp K w.H v d
  | .none, _, c, h => RepP.dp (Fz := w.Fz) (d := .none) c h
  | .bool _, _, c, h => RepP.dp (Fz := w.Fz) (d := .bool _) c h
  | .int _, _, c, h => RepP.dp (Fz := w.Fz) (d := .int _) c h
  | .str _, _, c, h => RepP.dp (Fz := w.Fz) (d := .str _) c h
  | .list ds, _, c, ⟨a, vs, e, r, s⟩ => by rw [e]; exact .lst r (RepPs.dp (by simpa [PyData.canLay0] using c) s)
  | .tuple _, _, c, h => RepP.dp (Fz := w.Fz) (d := .tuple _) c h
  | .dict _, _, c, h => by simp [PyData.canLay0] at c
theorem op_inP (neg : Bool) : OpP K (rInA K neg) (inP neg) := by
  intro w x y p q z Q ok rx ry e a
  cases q with
  | tuple ys =>
    have e' : (if (isFlat p && ys.all isFlat) = true then some (PyData.bool (ngt neg (ys.any fun z => PyData.eqv z p))) else none) = some z := by
      cases p <;> exact e
    split at e'
    · rename_i hc
      cases e'
      rw [Bool.and_eq_true] at hc
      obtain ⟨b, vs, rfl, ht, hr⟩ := ry
      have rx' : RepP K w.Fz w.H p x := by
        cases p <;> first | exact rx | (exact absurd hc.1 (by simp [isFlat]))
      obtain ⟨i1, i2⟩ := inV_of hc.1 rx' hc.2 hr
      refine .inl (.inl ⟨b, vs, rfl, .inr ht, flat_of hc.1 rx', i1, ?_⟩)
      rw [i2]
      exact a.here ok rfl
    · cases e'
  | list ys =>
    have e' : (if (SeqAt.shaped p && SeqAt.shaped (.list ys)) = true then some (PyData.bool (ngt neg (ys.any fun z => PyData.eqv z p))) else none) = some z := by
      cases p <;> exact e
    split at e'
    · rename_i hc
      cases e'
      rw [Bool.and_eq_true] at hc
      refine .inl (.inr ?_)
      cases neg with
      | true => exact ⟨p, ys, rx.dp (SeqAt.canLay_of_shaped hc.1), ry.dp (SeqAt.canLay_of_shaped hc.2), hc.1, hc.2, a.here ok rfl⟩
      | false => exact ⟨p, ys, rx.dp (SeqAt.canLay_of_shaped hc.1), ry.dp (SeqAt.canLay_of_shaped hc.2), hc.1, hc.2, a.here ok rfl⟩
    · cases e'
  | str t =>
    cases p with
    | str s =>
      simp only [inP] at e
      split at e
      · rename_i c hc
        cases e
        cases str_of rx
        cases str_of ry
        refine .inr ⟨c, t, ?_, rfl, a.here ok rfl⟩
        obtain ⟨⟨l⟩⟩ := s
        simp only at hc
        subst hc
        rfl
      · cases e
    | _ => cases e
  | _ => cases p <;> cases e

/-! ## subscripts -/
def ixD : D → D → Hs → Option D := fun x i h => match i with
  | .v (.int k) => match x with
    | .v (.list ds) => (atI ds k).map .v
    | .v (.tuple ds) => (atI ds k).map .v
    | .v (.str z) => if z.length ≤ sizeLine then (atI z.cps.toList k).map fun c => .v (.str ⟨#[c]⟩) else none
    | .ref n => match h[n]? with
      | some (.lst xs) => atI xs k
      | _ => none
    | .mix xs => atI xs k
    | _ => none
  | _ => none
theorem atI_of {α β : Type} {xs : List α} {ys : List β} {k : Int} {x : α} (h : atI xs k = some x) (hl : ys.length = xs.length) : ∃ j : Nat, xs[j]? = some x ∧ ∀ y, ys[j]? = some y → atI ys k = some y := by
  unfold atI at h ⊢
  rw [hl]
  cases e : ixN xs.length k with
  | none => rw [e] at h; cases h
  | some j =>
    rw [e] at h
    exact ⟨j, h, fun y hy => hy⟩
theorem op_ixD : OpD K (rIx K) ixD := by
  intro w x y dx dy dz Q ok rx ry e a
  cases dy with
  | v d =>
    cases d with
    | int k =>
      cases (show y = V.int k from ry)
      simp only [ixD] at e
      cases dx with
      | v d =>
        cases d with
        | list ds =>
          obtain ⟨b, vs, rfl, ht, hr⟩ := rx
          simp only [Option.map_eq_some_iff] at e
          obtain ⟨p, ep, rfl⟩ := e
          obtain ⟨j, hj, hy⟩ := atI_of ep hr.len
          obtain ⟨u, hu, ru⟩ := RepPs.get hr hj
          exact .inl ⟨b, vs, k, u, rfl, rfl, ht.sql, hy u hu, a.here ok ru⟩
        | tuple ds =>
          obtain ⟨b, vs, rfl, ht, hr⟩ := rx
          simp only [Option.map_eq_some_iff] at e
          obtain ⟨p, ep, rfl⟩ := e
          obtain ⟨j, hj, hy⟩ := atI_of ep hr.len
          obtain ⟨u, hu, ru⟩ := RepPs.get hr hj
          exact .inr (.inl ⟨b, vs, k, u, rfl, rfl, ht, hy u hu, a.here ok ru⟩)
        | str z =>
          cases (show x = V.str z from rx)
          simp only at e
          split at e
          · rename_i hz
            simp only [Option.map_eq_some_iff] at e
            obtain ⟨c, ec, rfl⟩ := e
            exact .inr (.inr ⟨z, k, c, rfl, rfl, hz, ec, a.here ok rfl⟩)
          · cases e
        | _ => cases e
      | ref n =>
        obtain ⟨b, hb, rfl⟩ := rx
        simp only at e
        cases q : w.h[n]? with
        | none => simp [q] at e
        | some c =>
          cases c with
          | lst xs =>
            simp only [q] at e
            obtain ⟨vs, hH, hr⟩ := ok.cell n b _ hb q
            obtain ⟨j, hj, hy⟩ := atI_of e hr.len
            obtain ⟨u, hu, ru⟩ := RepDs.get hr hj
            exact .inl ⟨b, vs, k, u, rfl, rfl, .inl (.inl hH), hy u hu, a.here ok ru⟩
          | _ => simp [q] at e
      | mix xs =>
        obtain ⟨b, vs, rfl, ht, hr⟩ := rx
        obtain ⟨j, hj, hy⟩ := atI_of e hr.len
        obtain ⟨u, hu, ru⟩ := RepDs.get hr hj
        exact .inr (.inl ⟨b, vs, k, u, rfl, rfl, ht, hy u hu, a.here ok ru⟩)
      | exc c fs => cases e
    | _ => cases e
  | _ => cases e
end
end Vl
set_option maxHeartbeats 4000000
namespace Vl
open PySem PySem.Spec PyProof.Rows L2

/-! ## names, constants -/
def eVar (i : Nat) : EM := fun s h => match s[i]? with
  | some (some d) => some (.ok d h)
  | _ => none
def eC (d : PyData) : EM := fun _ h => some (.ok (.v d) h)
section
variable {X : Cx} {W : WX} {pos : Pos}
theorem se_var (i : Nat) {x : Str} (hN : X.N[i]? = some x := by rfl) (hv : Vis X.env.scope x := by first | exact Or.inl rfl | exact Or.inr (Or.inl rfl) | exact Or.inr (Or.inr rfl)) (hd : (x == ("__debug__" : Str)) = false := by decide)
    (hcd : (x == ("__classdict__" : Str)) = false := by decide) : SE X W (.Name x pos) (eVar i) :=
  PE.mono' (pe_var hN hv hd hcd) fun σ H Q ⟨w, sl, eH, ok, hs, h⟩ => by
    subst eH
    unfold WpE eVar at h
    cases e : sl[i]? with
    | none => simp [e] at h
    | some o =>
      cases o with
      | none => simp [e] at h
      | some d =>
        simp only [e] at h
        obtain ⟨v, ev, r⟩ := hs.at' i d e
        exact ⟨v, ev, h w v (Wd.Le.refl w) ok rfl r⟩
theorem se_const {e : Expr} {v : V} {d : PyData} (h : PE X e (tC v)) (r : ∀ w : Wd, RepP X.K w.Fz w.H d v) : SE X W e (eC d) :=
  PE.mono' h fun σ H Q ⟨w, sl, eH, ok, hs, h⟩ => by
    subst eH
    exact h w v (Wd.Le.refl w) ok rfl (r w)
theorem se_int {i : Int} {j} : SE X W (.Constant (.int i) j pos) (eC (.int i)) := se_const pe_int fun _ => rfl
theorem se_bl {b j} : SE X W (.Constant (.bool b) j pos) (eC (.bool b)) := se_const pe_bl fun _ => rfl
theorem se_non {j} : SE X W (.Constant .none j pos) (eC .none) := se_const pe_non fun _ => rfl
theorem se_str {x j} : SE X W (.Constant (.str x) j pos) (eC (.str x)) := se_const pe_str fun _ => rfl
theorem se_glob {x : Str} {v : V} {u : Value} {d : PyData} (hg : Gl X x) (hm : X.mg x = some u) (r : RelV v u) (rd : ∀ w : Wd, RepP X.K w.Fz w.H d v) (hd : (x == ("__debug__" : Str)) = false := by decide) : SE X W (.Name x pos) (eC d) :=
  se_const (pe_glob hg hm r hd) rd
end

/-! ## arguments -/
inductive AR where
  | ok (ds : List D) (h : Hs)
  | ex (x : Ex) (h : Hs)
abbrev AM := Sl → Hs → Option AR
section
variable (K : KF) (mg : Str → Option Value) (W : WX)
def WpA (σ : L2.St) (r : Option AR) (w : Wd) (R : List D → List V → Wd → Prop) : Prop :=
  match r with
  | some (.ok ds h') => ∀ w' vs, w.Le w' → w'.Ok K → w'.h = h' → RepDs K w' ds vs → R ds vs w'
  | some (.ex x h') => ∀ w' cls da, w.Le w' → w'.Ok K → w'.h = h' → ExRep K mg w' x cls da → W cls da σ w'.H
  | none => False
def tIA (f : AM) : TA := fun σ H Q => ∃ (w : Wd) (sl : Sl), w.H = H ∧ w.Ok K ∧ SRep K w sl σ ∧ WpA K mg W σ (f sl w.h) w fun _ vs w' => Q vs w'.H
end
def SA (X : Cx) (W : WX) (es : List Expr) (f : AM) : Prop := PA X es (tIA X.K X.mg W f)
def eNil : AM := fun _ h => some (.ok [] h)
def eCons (f : EM) (g : AM) : AM := fun s h => match f s h with
  | some (.ok d h1) => match g s h1 with
    | some (.ok ds h2) => some (.ok (d :: ds) h2)
    | some (.ex x h2) => some (.ex x h2)
    | none => none
  | some (.ex x h1) => some (.ex x h1)
  | none => none
/-- a list of arguments, then k -/
def eA (a : AM) (k : List D → EM) : EM := fun s h => match a s h with
  | some (.ok ds h1) => k ds s h1
  | some (.ex x h1) => some (.ex x h1)
  | none => none
section
variable {K : KF} {mg : Str → Option Value} {W : WX} {σ : L2.St} {w : Wd} {sl : Sl}
theorem tIA_bind {a : AM} {k : List D → EM} {R : D → V → Wd → Prop} {Q : List V → Hp → Prop} (ok : w.Ok K) (hs : SRep K w sl σ) (h : WpE K mg W σ ((eA a k) sl w.h) w R)
    (q : ∀ ds vs w1, w.Le w1 → w1.Ok K → SRep K w1 sl σ → RepDs K w1 ds vs → WpE K mg W σ (k ds sl w1.h) w1 R → Q vs w1.H) : tIA K mg W a σ w.H Q := by
  refine ⟨w, sl, rfl, ok, hs, ?_⟩
  unfold eA at h
  unfold WpA
  cases e : a sl w.h with
  | none =>
    rw [e] at h
    exact h
  | some r =>
    cases r with
    | ok d h' =>
      rw [e] at h
      exact fun w' v l o eh r => q d v w' l o (hs.mono ok l) r (by rw [eh]; exact WpE.le h l o)
    | ex x h' =>
      rw [e] at h
      exact h
end
section
variable {X : Cx} {W : WX} {e : Expr} {es : List Expr} {f : EM} {g : AM} {pos : Pos}
theorem sa_nil : SA X W [] eNil := PA.mono' pa_nil fun σ H Q ⟨w, sl, eH, ok, hs, h⟩ => by
  subst eH
  exact h w [] (Wd.Le.refl w) ok rfl rfl
theorem sa_cons (ha : SE X W e f) (hr : SA X W es g) (hs : starEach (e :: es) X.env = (false, eval e X.env) :: starEach es X.env := by rfl) : SA X W (e :: es) (eCons f g) :=
  PA.mono' (pa_cons ha hr hs) fun σ H Q ⟨w, sl, eH, ok, hs, h⟩ => by
    subst eH
    refine ⟨w, sl, rfl, ok, hs, ?_⟩
    unfold eCons WpA at h
    unfold WpE
    cases e1 : f sl w.h with
    | none => simp [e1] at h
    | some r =>
      cases r with
      | ex x h' => simpa [e1] using h
      | ok d h' =>
        simp only [e1] at h
        intro w1 v l1 ok1 eh1 r1
        subst eh1
        refine ⟨w1, sl, rfl, ok1, hs.mono ok l1, ?_⟩
        unfold WpA
        cases e2 : g sl w1.h with
        | none => simp [e2] at h
        | some r2 =>
          cases r2 with
          | ex x h' =>
            simp only [e2] at h
            exact fun w2 cls da l2 => h w2 cls da (l1.trans l2 ok1)
          | ok ds h'' =>
            simp only [e2] at h
            exact fun w2 vs l2 ok2 eh2 r2 => h w2 (v :: vs) (l1.trans l2 ok1) ok2 eh2 ⟨v, vs, rfl, RepD.mono ok1 l2 d r1, r2⟩
end

/-! ## displays -/
theorem k_line {n : Nat} (h : n ≤ 1000) : n ≤ sizeLine := Nat.le_trans h (by rw [sizeLine_eq]; decide)
def mkTup (ds : List D) : D := match unvs ds with
  | some ps => .v (.tuple ps)
  | none => .mix ds
def kTup (ds : List D) : EM := EM.lift fun _ => if ds.length ≤ 1000 then some (mkTup ds) else none
def kLst (ds : List D) : EM := EM.lift fun _ => if ds.length ≤ 1000 then (unvs ds).map fun ps => .v (.list ps) else none
def eTup (a : AM) : EM := eA a kTup
def eLst (a : AM) : EM := eA a kLst
theorem After.mk {K : KF} {w : Wd} {ds : List D} {vs : List V} {Q : VK} (a : After K w (mkTup ds) Q) (ok : w.Ok K) (r : RepDs K w ds vs) : ∀ p, w.H p = none → Q (.ref p) (upd w.H p (.tup vs)) := by
  unfold mkTup at a
  cases e : unvs ds with
  | some ps =>
    rw [e] at a
    exact a.newT ok (unvs_rep e r)
  | none =>
    rw [e] at a
    exact fun p hp => a (w.newT p (.tup vs)) (.ref p) (Wd.newT_le hp) (Wd.newT_ok ok hp) rfl ⟨p, vs, rfl, .inl (.inl upd_same), RepDs.mono ok (Wd.newT_le hp) ds r⟩
section
variable {X : Cx} {W : WX} {es : List Expr} {g : AM} {pos : Pos}
theorem se_tup {k} (h : SA X W es g) : SE X W (.Tuple es k pos) (eTup g) := PE.mono' (pe_tup h) fun σ H Q ⟨w, sl, eH, ok, hs, h⟩ => by
  subst eH
  refine tIA_bind ok hs h fun ds vs w1 l1 ok1 hs1 r1 h1 => ?_
  obtain ⟨d, e, q⟩ := WpE.lift h1
  split at e
  · rename_i hl
    cases e
    exact ⟨by rw [r1.len]; exact k_line hl, After.mk q ok1 r1⟩
  · cases e
theorem se_lst (h : SA X W es g) : SE X W (.List es pos) (eLst g) := PE.mono' (pe_lst h) fun σ H Q ⟨w, sl, eH, ok, hs, h⟩ => by
  subst eH
  refine tIA_bind ok hs h fun ds vs w1 l1 ok1 hs1 r1 h1 => ?_
  obtain ⟨d, e, q⟩ := WpE.lift h1
  split at e
  · rename_i hl
    rw [Option.map_eq_some_iff] at e
    obtain ⟨ps, ep, rfl⟩ := e
    exact ⟨by rw [r1.len]; exact k_line hl, After.newL q ok1 (unvs_rep ep r1)⟩
  · cases e
end

/-! ## built-in calls -/
def eB (g : List D → Hs → Option D) (a : AM) : EM := eA a fun ds => EM.lift (g ds)
section
variable {X : Cx} {W : WX} {e : Expr} {es : List Expr} {g : List D → Hs → Option D} {a : AM} {pos p : Pos} {id T : String} {x : Str} {r : List V → Hp → VK → Prop}
theorem tCB_of (hd : CallD X.K r g) (σ : L2.St) (H : Hp) (Q : VK) (h : tI X.K X.mg W (eB g a) σ H Q) : tCB r (tIA X.K X.mg W a) σ H Q := by
  obtain ⟨w, sl, rfl, ok, hs, h⟩ := h
  refine tIA_bind ok hs h fun ds vs w1 l1 ok1 hs1 r1 h1 => ?_
  obtain ⟨d, e, q⟩ := WpE.lift h1
  exact hd w1 vs ds d Q ok1 r1 e q
theorem se_callB (hc : CallR X (.builtin id) r) (hd : CallD X.K r g) (hg : Gl X x) (hm : X.mg x = none) (hv : bootBuiltins x = some (.builtin id)) (ha : SA X W (e :: es) a) (hn : x ≠ "__name__" := by decide) (hdb : (x == ("__debug__" : Str)) = false := by decide)
    (he : starEach (e :: es) X.env = (false, eval e X.env) :: starEach es X.env := by rfl) (hpl : (backTo pos (starEach es X.env)).any (·.1) = false := by rfl) : SE X W (.Call (.Name x p) (e :: es) [] pos) (eB g a) :=
  PE.mono' (pe_callB hc hg hm hv ha hn hdb he hpl) fun σ H Q h => tCB_of hd σ H Q h
theorem se_callTy (hc : CallR X (.type T) r) (hd : CallD X.K r g) (hg : Gl X x) (hm : X.mg x = none) (hv : bootBuiltins x = some (.type T)) (ha : SA X W (e :: es) a) (hn : x ≠ "__name__" := by decide) (hdb : (x == ("__debug__" : Str)) = false := by decide)
    (he : starEach (e :: es) X.env = (false, eval e X.env) :: starEach es X.env := by rfl) (hpl : (backTo pos (starEach es X.env)).any (·.1) = false := by rfl) : SE X W (.Call (.Name x p) (e :: es) [] pos) (eB g a) :=
  PE.mono' (pe_callTy hc hg hm hv ha hn hdb he hpl) fun σ H Q h => tCB_of hd σ H Q h
end
/-- one argument, as data -/
def b1 (g : PyData → Option PyData) : List D → Hs → Option D := fun ds h => match ds with
  | [x] => lift1 g x h
  | _ => none
def CallP (K : KF) (r : List V → Hp → VK → Prop) (g : PyData → Option PyData) : Prop :=
  ∀ (w : Wd) (x : V) (p z : PyData) (Q : VK), w.Ok K → RepS K w p x → g p = some z → After K w (.v z) Q → r [x] w.H Q
theorem CallP.d {K : KF} {r : List V → Hp → VK → Prop} {g : PyData → Option PyData} (h : CallP K r g) : CallD K r (b1 g) := by
  intro w xs ds dz Q ok rx e a
  unfold b1 at e
  split at e
  · rename_i d
    obtain ⟨v, vr, rfl, r1, r2⟩ := rx
    cases (show vr = [] from r2)
    unfold lift1 at e
    cases ex : shal w.h d with
    | none => rw [ex] at e; cases e
    | some p =>
      rw [ex] at e
      cases ez : g p with
      | none => simp [ez] at e
      | some z =>
        simp [ez] at e
        subst e
        exact h w v p z Q ok (shal_rep ok r1 ex) ez a
  · cases e
section
variable {K : KF}
/-- len -/
def lenD : List D → Hs → Option D := fun ds h => match ds with
  | [.v (.str z)] => if z.length ≤ sizeLine then some (.v (.int z.length)) else none
  | [.v (.list xs)] => some (.v (.int xs.length))
  | [.v (.tuple xs)] => some (.v (.int xs.length))
  | [.ref n] => match h[n]? with
    | some (.lst xs) => some (.v (.int xs.length))
    | _ => none
  | [.mix xs] => some (.v (.int xs.length))
  | _ => none
theorem call_lenD : CallD K (fun xs H Q => ∃ x n, xs = [x] ∧ LenV K x H n ∧ Q (.int n) H) lenD := by
  intro w xs ds dz Q ok rx e a
  unfold lenD at e
  split at e
  · obtain ⟨v, vr, rfl, r1, r2⟩ := rx
    cases (show vr = [] from r2)
    split at e
    · rename_i hz
      cases e
      cases (show v = _ from r1)
      exact ⟨_, _, rfl, ⟨hz, rfl⟩, a.here ok rfl⟩
    · cases e
  · obtain ⟨v, vr, rfl, r1, r2⟩ := rx
    cases (show vr = [] from r2)
    cases e
    obtain ⟨b, vs, rfl, ht, hr⟩ := r1
    exact ⟨_, _, rfl, .inl ⟨vs, ht.sql, rfl⟩, by rw [hr.len]; exact a.here ok rfl⟩
  · obtain ⟨v, vr, rfl, r1, r2⟩ := rx
    cases (show vr = [] from r2)
    cases e
    obtain ⟨b, vs, rfl, ht, hr⟩ := r1
    exact ⟨_, _, rfl, .inr ⟨vs, ht, rfl⟩, by rw [hr.len]; exact a.here ok rfl⟩
  · rename_i n
    obtain ⟨v, vr, rfl, r1, r2⟩ := rx
    cases (show vr = [] from r2)
    obtain ⟨b, hb, rfl⟩ := r1
    cases q : w.h[n]? with
    | none => simp [q] at e
    | some c =>
      cases c with
      | lst ys =>
        simp only [q] at e
        cases e
        obtain ⟨vs, hH, hr⟩ := ok.cell n b _ hb q
        exact ⟨_, _, rfl, .inl ⟨vs, .inl (.inl hH), rfl⟩, by rw [hr.len]; exact a.here ok rfl⟩
      | _ => simp [q] at e
  · obtain ⟨v, vr, rfl, r1, r2⟩ := rx
    cases (show vr = [] from r2)
    cases e
    obtain ⟨b, vs, rfl, ht, hr⟩ := r1
    exact ⟨_, _, rfl, .inr ⟨vs, ht, rfl⟩, by rw [hr.len]; exact a.here ok rfl⟩
  · cases e
/-- abs -/
def absP : PyData → Option PyData
  | .int i => some (.int (if i < 0 then -i else i))
  | _ => none
theorem call_absP : CallP K (fun xs H Q => ∃ i, xs = [.int i] ∧ Q (.int (if i < 0 then -i else i)) H) absP := by
  intro w x p z Q ok rx e a
  cases p with
  | int i =>
    cases e
    cases int_of rx
    exact ⟨i, rfl, a.here ok rfl⟩
  | _ => cases e
/-- int of an int, of a truth -/
def intOfP : PyData → Option PyData
  | .int i => some (.int i)
  | .bool b => some (.int (if b then 1 else 0))
  | _ => none
theorem call_intP : CallP K (fun xs H Q => (∃ i, xs = [.int i] ∧ Q (.int i) H) ∨ ∃ k, xs = [.bl k] ∧ Q (.int (if k then 1 else 0)) H) intOfP := by
  intro w x p z Q ok rx e a
  cases p with
  | int i =>
    cases e
    cases int_of rx
    exact .inl ⟨i, rfl, a.here ok rfl⟩
  | bool b =>
    cases e
    cases bl_of rx
    exact .inr ⟨b, rfl, a.here ok rfl⟩
  | _ => cases e
/-- truths of a list -/
def bools : List PyData → Option (List Bool)
  | [] => some []
  | .bool b :: r => (bools r).map (b :: ·)
  | _ :: _ => none
theorem bools_rep {Fz : Addr → Prop} {H : Hp} : ∀ {ds : List PyData} {bs : List Bool} {vs : List V}, bools ds = some bs → RepPs K Fz H ds vs → vs = bs.map V.bl
  | [], bs, vs, e, r => by
    have e' : [] = bs := Option.some.inj e
    subst e'
    exact r
  | .bool b :: ds, bs, vs, e, ⟨v, vr, ev, r1, r2⟩ => by
    simp only [bools, Option.map_eq_some_iff] at e
    obtain ⟨bs', e1, rfl⟩ := e
    rw [ev, show v = V.bl b from r1, bools_rep e1 r2]
    rfl
  | .none :: _, _, _, e, _ => by cases e
  | .int _ :: _, _, _, e, _ => by cases e
  | .str _ :: _, _, _, e, _ => by cases e
  | .list _ :: _, _, _, e, _ => by cases e
  | .tuple _ :: _, _, _, e, _ => by cases e
  | .dict _ :: _, _, _, e, _ => by cases e
def allP : PyData → Option PyData
  | .list ds => (bools ds).map fun bs => .bool (bs.all id)
  | _ => none
theorem call_allP : CallP K (rAll K) allP := by
  intro w x p z Q ok rx e a
  cases p with
  | list ds =>
    simp only [allP, Option.map_eq_some_iff] at e
    obtain ⟨bs, e1, rfl⟩ := e
    obtain ⟨b, vs, rfl, ht, hr⟩ := rx
    refine ⟨b, bs, rfl, ?_, a.here ok rfl⟩
    rw [← bools_rep e1 hr]
    exact ht
  | _ => cases e
/-- tuple(xs), list(xs) -/
def tupOfP : PyData → Option PyData
  | .list ds => some (.tuple ds)
  | .tuple ds => some (.tuple ds)
  | _ => none
theorem call_tupP : CallP K (fun xs H Q => ∃ p ys, xs = [.ref p] ∧ ((SqL K H p ys ∧ ∀ l, H l = none → Q (.ref l) (upd H l (.tup ys))) ∨ (SqT K H p ys ∧ Q (.ref p) H))) tupOfP := by
  intro w x p z Q ok rx e a
  cases p with
  | list ds =>
    cases e
    obtain ⟨b, vs, rfl, ht, hr⟩ := rx
    exact ⟨b, vs, rfl, .inl ⟨ht, a.newT ok hr⟩⟩
  | tuple ds =>
    cases e
    obtain ⟨b, vs, rfl, ht, hr⟩ := rx
    exact ⟨b, vs, rfl, .inr ⟨ht, a.here ok ⟨b, vs, rfl, ht, hr⟩⟩⟩
  | _ => cases e
end
end Vl
set_option maxHeartbeats 4000000
namespace Vl
open PySem PySem.Spec PyProof.Rows L2

/-! ## truth -/
def truthD : D → Hs → Option Bool
  | .v .none, _ => some false
  | .v (.bool b), _ => some b
  | .v (.int i), _ => some (i != 0)
  | .v (.str z), _ => if z.length ≤ sizeLine then some ((z.length : Int) != 0) else none
  | .v (.list ds), _ => some (!ds.isEmpty)
  | .v (.tuple ds), _ => some (!ds.isEmpty)
  | .v (.dict _), _ => none
  | .ref n, h => match h[n]? with
    | some (.lst xs) => some (!xs.isEmpty)
    | _ => none
  | .mix xs, _ => some (!xs.isEmpty)
  | .exc _ _, _ => none
theorem emp_len {α β : Type} {xs : List α} {ys : List β} (h : xs.length = ys.length) : xs.isEmpty = ys.isEmpty := by
  cases xs <;> cases ys <;> first | rfl | (simp at h)
theorem truth_of {K : KF} {w : Wd} {d : D} {v : V} {b : Bool} (ok : w.Ok K) (r : RepD K w d v) (h : truthD d w.h = some b) : TruV K v w.H b := by
  cases d with
  | v d =>
    cases d with
    | none => cases h; rw [show v = _ from r]; exact rfl
    | bool b => cases h; rw [show v = _ from r]; exact rfl
    | int b => cases h; rw [show v = _ from r]; exact rfl
    | str z =>
      simp only [truthD] at h
      split at h
      · rename_i hz
        cases h
        rw [show v = _ from r]
        exact ⟨hz, rfl⟩
      · cases h
    | list ds =>
      cases h
      obtain ⟨a, vs, rfl, ht, hr⟩ := r
      exact .inl ⟨vs, ht.sql, by rw [emp_len hr.len]⟩
    | tuple ds =>
      cases h
      obtain ⟨a, vs, rfl, ht, hr⟩ := r
      exact .inr (.inl ⟨vs, ht, by rw [emp_len hr.len]⟩)
    | dict _ => cases h
  | ref n =>
    obtain ⟨a, ha, rfl⟩ := r
    simp only [truthD] at h
    cases q : w.h[n]? with
    | none => simp [q] at h
    | some c =>
      cases c with
      | lst xs =>
        simp only [q] at h
        cases h
        obtain ⟨vs, hH, hr⟩ := ok.cell n a _ ha q
        exact .inl ⟨vs, .inl (.inl hH), by rw [emp_len hr.len]⟩
      | _ => simp [q] at h
  | mix xs =>
    cases h
    obtain ⟨a, vs, rfl, ht, hr⟩ := r
    exact .inr (.inl ⟨vs, ht, by rw [emp_len hr.len]⟩)
  | exc c fs => cases h

/-! ## tests -/
inductive TR where
  | ok (b : Bool) (h : Hs)
  | ex (x : Ex) (h : Hs)
abbrev TM := Sl → Hs → Option TR
section
variable (K : KF) (mg : Str → Option Value) (W : WX)
def WpT (σ : L2.St) (r : Option TR) (w : Wd) (R : Bool → Wd → Prop) : Prop :=
  match r with
  | some (.ok b h') => ∀ w', w.Le w' → w'.Ok K → w'.h = h' → R b w'
  | some (.ex x h') => ∀ w' cls da, w.Le w' → w'.Ok K → w'.h = h' → ExRep K mg w' x cls da → W cls da σ w'.H
  | none => False
def tIT (f : TM) : TT := fun σ H Q => ∃ (w : Wd) (sl : Sl), w.H = H ∧ w.Ok K ∧ SRep K w sl σ ∧ WpT K mg W σ (f sl w.h) w fun b w' => Q b w'.H
end
def ST (X : Cx) (W : WX) (e : Expr) (f : TM) : Prop := PT X e (tIT X.K X.mg W f)
def tTru (f : EM) : TM := fun s h => match f s h with
  | some (.ok d h1) => match truthD d h1 with
    | some b => some (.ok b h1)
    | none => none
  | some (.ex x h1) => some (.ex x h1)
  | none => none
def tBl (f : EM) : TM := fun s h => match f s h with
  | some (.ok (.v (.bool b)) h1) => some (.ok b h1)
  | some (.ex x h1) => some (.ex x h1)
  | _ => none
def tNot (t : TM) : TM := fun s h => match t s h with
  | some (.ok b h1) => some (.ok (!b) h1)
  | some (.ex x h1) => some (.ex x h1)
  | none => none
def tAnd (t u : TM) : TM := fun s h => match t s h with
  | some (.ok b h1) => if b = true then u s h1 else some (.ok false h1)
  | some (.ex x h1) => some (.ex x h1)
  | none => none
def tOr (t u : TM) : TM := fun s h => match t s h with
  | some (.ok b h1) => if b = true then some (.ok true h1) else u s h1
  | some (.ex x h1) => some (.ex x h1)
  | none => none
section
variable {K : KF} {mg : Str → Option Value} {W : WX} {σ : L2.St} {w w1 : Wd} {sl : Sl}
theorem WpT.le {r : Option TR} {R : Bool → Wd → Prop} (h : WpT K mg W σ r w R) (le : w.Le w1) (ok : w1.Ok K) : WpT K mg W σ r w1 R := by
  unfold WpT at h ⊢
  split
  · exact fun w' l o e => h w' (le.trans l ok) o e
  · exact fun w' v da l o e r => h w' v da (le.trans l ok) o e r
  · exact h
theorem tITtru {f : EM} {Q : Bool → Hp → Prop} (ok : w.Ok K) (hs : SRep K w sl σ) (h : WpT K mg W σ (tTru f sl w.h) w fun b w' => Q b w'.H) :
    tI K mg W f σ w.H fun x H1 => ∃ k, TruV K x H1 k ∧ Q k H1 := by
  refine ⟨w, sl, rfl, ok, hs, ?_⟩
  unfold tTru WpT at h
  unfold WpE
  cases e : f sl w.h with
  | none => simp [e] at h
  | some r =>
    cases r with
    | ex x h' => simpa [e] using h
    | ok d h' =>
      simp only [e] at h
      cases e2 : truthD d h' with
      | none => simp [e2] at h
      | some b =>
        simp only [e2] at h
        intro w1 v l1 ok1 eh r1
        subst eh
        exact ⟨b, truth_of ok1 r1 e2, h w1 l1 ok1 rfl⟩
theorem tITbl {f : EM} {Q : Bool → Hp → Prop} (ok : w.Ok K) (hs : SRep K w sl σ) (h : WpT K mg W σ (tBl f sl w.h) w fun b w' => Q b w'.H) :
    tI K mg W f σ w.H fun x H1 => ∃ k, x = .bl k ∧ Q k H1 := by
  refine ⟨w, sl, rfl, ok, hs, ?_⟩
  unfold tBl WpT at h
  unfold WpE
  cases e : f sl w.h with
  | none => simp [e] at h
  | some r =>
    cases r with
    | ex x h' => simpa [e] using h
    | ok d h' =>
      cases d with
      | v d =>
        cases d with
        | bool b =>
          simp only [e] at h
          intro w1 v l1 ok1 eh r1
          subst eh
          exact ⟨b, r1, h w1 l1 ok1 rfl⟩
        | _ => simp [e] at h
      | _ => simp [e] at h
end
section
variable {X : Cx} {W : WX} {a b c : Expr} {rest : List Expr} {f g : EM} {t u : TM} {pos : Pos}
theorem st_tru (h : SE X W a f) (he : ∀ whole, isTrue a X.env whole = (do let v ← whole; standAt a.pos; holding [v] (truthy v)) := by intro _; rfl) : ST X W a (tTru f) :=
  PT.mono' (pt_truth h he) fun σ H Q ⟨w, sl, eH, ok, hs, h⟩ => by
    subst eH
    exact tITtru ok hs h
theorem st_cmp {op : CmpOp} {r : R2} {gd : D → D → Hs → Option D} (ho : OpR X (compareOp op) r) (hd : OpD X.K r gd) (ha : SE X W a f) (hb : SE X W b g) (hm : behindInMarks op b = false) : ST X W (.Compare a [op] [b] pos) (tBl (eBin gd f g)) :=
  PT.mono' (pt_cmpR ho ha hb hm) fun σ H Q ⟨w, sl, eH, ok, hs, h⟩ => by
    subst eH
    exact tOp_of hd σ w.H _ (tITbl ok hs h)
theorem st_not (h : ST X W a t) : ST X W (.UnaryOp .Not a pos) (tNot t) := PT.mono' (pt_not h) fun σ H Q ⟨w, sl, eH, ok, hs, h⟩ => by
  subst eH
  refine ⟨w, sl, rfl, ok, hs, ?_⟩
  unfold tNot WpT at h
  unfold WpT
  cases e : t sl w.h with
  | none => simp [e] at h
  | some r => cases r <;> simpa [e] using h
def SW (X : Cx) (W : WX) (e : Expr) (f : TM) : Prop := PW X e (tIT X.K X.mg W f)
theorem PW.mono' {X : Cx} {e : Expr} {t t' : TT} (h : PW X e t) (i : ∀ σ H Q, t' σ H Q → t σ H Q) : PW X e t' := ⟨fun wh pins s σ H Q I q => h.run wh pins s σ H Q I (i σ H Q q)⟩
theorem st_of (h : SW X W a t) : ST X W a t := L2.PW.pt h
theorem sw_and1 (h : ST X W a t) : SW X W (.BoolOp .And [a] pos) t := pw_and1 h
theorem sw_or1 (h : ST X W a t) : SW X W (.BoolOp .Or [a] pos) t := pw_or1 h
theorem sw_and (ha : ST X W a t) (hb : SW X W (.BoolOp .And (b :: rest) pos) u) : SW X W (.BoolOp .And (a :: b :: rest) pos) (tAnd t u) :=
  PW.mono' (pw_and ha hb) fun σ H Q ⟨w, sl, eH, ok, hs, h⟩ => by
    subst eH
    refine ⟨w, sl, rfl, ok, hs, ?_⟩
    unfold tAnd WpT at h
    unfold WpT
    cases e : t sl w.h with
    | none => simp [e] at h
    | some r =>
      cases r with
      | ex x h' => simpa [e] using h
      | ok b h' =>
        simp only [e] at h
        intro w1 l1 ok1 eh
        subst eh
        cases b with
        | true =>
          rw [if_pos rfl] at h ⊢
          exact ⟨w1, sl, rfl, ok1, hs.mono ok l1, WpT.le h l1 ok1⟩
        | false =>
          rw [if_neg Bool.false_ne_true] at h ⊢
          exact h w1 l1 ok1 rfl
theorem sw_or (ha : ST X W a t) (hb : SW X W (.BoolOp .Or (b :: rest) pos) u) : SW X W (.BoolOp .Or (a :: b :: rest) pos) (tOr t u) :=
  PW.mono' (pw_or ha hb) fun σ H Q ⟨w, sl, eH, ok, hs, h⟩ => by
    subst eH
    refine ⟨w, sl, rfl, ok, hs, ?_⟩
    unfold tOr WpT at h
    unfold WpT
    cases e : t sl w.h with
    | none => simp [e] at h
    | some r =>
      cases r with
      | ex x h' => simpa [e] using h
      | ok b h' =>
        simp only [e] at h
        intro w1 l1 ok1 eh
        subst eh
        cases b with
        | true =>
          rw [if_pos rfl] at h ⊢
          exact h w1 l1 ok1 rfl
        | false =>
          rw [if_neg Bool.false_ne_true] at h ⊢
          exact ⟨w1, sl, rfl, ok1, hs.mono ok l1, WpT.le h l1 ok1⟩
end

/-! ## and, or, not, if as values -/
def eOr (f g : EM) : EM := f.bind fun x s h => match truthD x h with
  | some b => if b = true then some (.ok x h) else g s h
  | none => none
def eAnd (f g : EM) : EM := f.bind fun x s h => match truthD x h with
  | some b => if b = true then g s h else some (.ok x h)
  | none => none
def eNot (f : EM) : EM := f.bind fun x s h => match truthD x h with
  | some b => some (.ok (.v (.bool (!b))) h)
  | none => none
def eIf (t : TM) (f g : EM) : EM := fun s h => match t s h with
  | some (.ok b h1) => if b = true then f s h1 else g s h1
  | some (.ex x h1) => some (.ex x h1)
  | none => none
section
variable {X : Cx} {W : WX} {a b c : Expr} {rest : List Expr} {f g : EM} {t : TM} {pos : Pos}
theorem se_one {op} (h : SE X W a f) : SE X W (.BoolOp op [a] pos) f := pe_one h
theorem se_and (ha : SE X W a f) (hb : SE X W (.BoolOp .And (b :: rest) pos) g) : SE X W (.BoolOp .And (a :: b :: rest) pos) (eAnd f g) :=
  PE.mono' (pe_andT ha hb) fun σ H Q ⟨w, sl, eH, ok, hs, h⟩ => by
    subst eH
    refine tI_bind ok hs h fun dx x w1 l1 ok1 hs1 rx h1 => ?_
    cases e : truthD dx w1.h with
    | none =>
      simp only [e] at h1
      exact h1.elim
    | some k =>
      simp only [e] at h1
      refine ⟨k, truth_of ok1 rx e, ?_⟩
      cases k with
      | true =>
        rw [if_pos rfl] at h1 ⊢
        exact ⟨w1, sl, rfl, ok1, hs1, h1⟩
      | false =>
        rw [if_neg Bool.false_ne_true] at h1 ⊢
        exact h1 w1 x (Wd.Le.refl w1) ok1 rfl rx
theorem se_not (ha : SE X W a f) : SE X W (.UnaryOp .Not a pos) (eNot f) :=
  PE.mono' (pe_notT ha) fun σ H Q ⟨w, sl, eH, ok, hs, h⟩ => by
    subst eH
    refine tI_bind ok hs h fun dx x w1 l1 ok1 hs1 rx h1 => ?_
    cases e : truthD dx w1.h with
    | none =>
      simp only [e] at h1
      exact h1.elim
    | some k =>
      simp only [e] at h1
      exact ⟨k, truth_of ok1 rx e, h1 w1 (.bl (!k)) (Wd.Le.refl w1) ok1 rfl rfl⟩
end

/-! ## a < b < c -/
def eChain (g g' : D → D → Hs → Option D) (f1 f2 f3 : EM) : EM := f1.bind fun x => f2.bind fun y s h => match g x y h with
  | some (.v (.bool k)) => if k = true then (f3.bind fun z => EM.lift (g' y z)) s h else some (.ok (.v (.bool false)) h)
  | _ => none
section
variable {X : Cx} {W : WX} {a b c : Expr} {f1 f2 f3 : EM} {pos : Pos} {op op' : CmpOp} {r r' : R2} {g g' : D → D → Hs → Option D}
theorem tChain_of (hd : OpD X.K r g) (hd' : OpD X.K r' g') (σ : L2.St) (H : Hp) (Q : VK) (h : tI X.K X.mg W (eChain g g' f1 f2 f3) σ H Q) : tChain r r' (tI X.K X.mg W f1) (tI X.K X.mg W f2) (tI X.K X.mg W f3) σ H Q := by
  obtain ⟨w, sl, rfl, ok, hs, h⟩ := h
  refine tI_bind ok hs h fun dx x w1 l1 ok1 hs1 rx h1 => ?_
  refine tI_bind ok1 hs1 h1 fun dy y w2 l2 ok2 hs2 ry h2 => ?_
  cases e : g dx dy w2.h with
  | none =>
    simp only [e] at h2
    exact h2.elim
  | some z =>
    cases z with
    | v p =>
      cases p with
      | bool k =>
        simp only [e] at h2
        refine hd w2 x y dx dy _ _ ok2 (RepD.mono ok1 l2 dx rx) ry e fun w3 v l3 ok3 eh3 r3 => ⟨k, r3, ?_⟩
        cases k with
        | true =>
          rw [if_pos rfl] at h2 ⊢
          rw [← eh3] at h2
          refine tI_bind ok3 (hs2.mono ok2 l3) (WpE.le h2 l3 ok3) fun dz z w4 l4 ok4 hs4 rz h4 => ?_
          obtain ⟨d5, e5, q5⟩ := WpE.lift h4
          exact hd' w4 y z dy dz d5 Q ok4 (RepD.mono ok3 l4 dy (RepD.mono ok2 l3 dy ry)) rz e5 q5
        | false =>
          rw [if_neg Bool.false_ne_true] at h2 ⊢
          exact h2 w3 (.bl false) l3 ok3 eh3 rfl
      | _ =>
        simp only [e] at h2
        exact h2.elim
    | _ =>
      simp only [e] at h2
      exact h2.elim
theorem se_chain (ho : OpR X (compareOp op) r) (hd : OpD X.K r g) (ho' : OpR X (compareOp op') r') (hd' : OpD X.K r' g') (ha : SE X W a f1) (hb : SE X W b f2) (hc : SE X W c f3)
    (hm : lastMarks [op, op'] [b, c] = false := by with_unfolding_all rfl) : SE X W (.Compare a [op, op'] [b, c] pos) (eChain g g' f1 f2 f3) :=
  PE.mono' (pe_chain ho ho' ha hb hc hm) fun σ H Q h => tChain_of hd hd' σ H Q h
theorem st_chain (ho : OpR X (compareOp op) r) (hd : OpD X.K r g) (ho' : OpR X (compareOp op') r') (hd' : OpD X.K r' g') (ha : SE X W a f1) (hb : SE X W b f2) (hc : SE X W c f3)
    (hm : lastMarks [op, op'] [b, c] = false := by with_unfolding_all rfl) : ST X W (.Compare a [op, op'] [b, c] pos) (tBl (eChain g g' f1 f2 f3)) :=
  PT.mono' (pt_chain ho ho' ha hb hc hm) fun σ H Q ⟨w, sl, eH, ok, hs, h⟩ => by
    subst eH
    exact tChain_of hd hd' σ w.H _ (tITbl ok hs h)
end

/-! ## slices -/
def cutP {α : Type} (xs : List α) (lo hi : Option Int) : List α := (xs.drop (HT.sIx xs.length 0 lo)).take (HT.sIx xs.length xs.length hi - HT.sIx xs.length 0 lo)
def sliceP (lo hi : Option Int) : PyData → Option PyData
  | .list ds => some (.list (cutP ds lo hi))
  | .tuple ds => some (.tuple (cutP ds lo hi))
  | .str z => if z.length ≤ sizeLine then some (.str (cutS z lo hi)) else none
  | _ => none
def ePart (o : Option EM) (k : Option Int → EM) : EM := match o with
  | none => k none
  | some f => f.bind fun d => match d with
    | .v (.int i) => k (some i)
    | _ => fun _ _ => none
def eSl (f : EM) (lo hi : Option EM) : EM := f.bind fun x => ePart lo fun l => ePart hi fun u => EM.lift (lift1 (sliceP l u) x)
def SO (X : Cx) (W : WX) (e : Option Expr) (o : Option EM) : Prop := match o with
  | none => e = none
  | some f => ∃ e', e = some e' ∧ SE X W e' f
abbrev rSlice (K : KF) : V → Option Int → Option Int → Hp → VK → Prop := fun x lo hi H Q => (rSlL K x lo hi H Q ∨ rSlA K x lo hi H Q) ∨ rSlS x lo hi H Q
section
variable {K : KF}
theorem cutV_of {Fz : Addr → Prop} {H : Hp} {ds : List PyData} {vs : List V} (lo hi : Option Int) (r : RepPs K Fz H ds vs) : RepPs K Fz H (cutP ds lo hi) (cutV vs lo hi) := by
  unfold cutP cutV
  rw [r.len]
  exact RepPs.take _ (RepPs.drop _ r)
theorem sl_sliceP {w : Wd} {x : V} {p z : PyData} {lo hi : Option Int} {Q : VK} (ok : w.Ok K) (rx : RepS K w p x) (e : sliceP lo hi p = some z) (a : After K w (.v z) Q) : rSlice K x lo hi w.H Q := by
  cases p with
  | list ds =>
    cases e
    obtain ⟨b, vs, rfl, ht, hr⟩ := rx
    exact .inl (.inl ⟨b, vs, rfl, ht, a.newL ok (cutV_of lo hi hr)⟩)
  | tuple ds =>
    cases e
    obtain ⟨b, vs, rfl, ht, hr⟩ := rx
    refine .inl (.inr ⟨b, vs, rfl, ht, fun hw => ?_, fun _ => a.newT ok (cutV_of lo hi hr)⟩)
    have : cutP ds lo hi = ds := by
      unfold cutP
      rw [← hr.len, hw.1, hw.2, List.drop_zero, Nat.sub_zero]
      exact List.take_of_length_le (Nat.le_of_eq hr.len.symm)
    rw [this] at a
    exact a.here ok ⟨b, vs, rfl, ht, hr⟩
  | str z =>
    simp only [sliceP] at e
    split at e
    · rename_i hz
      cases e
      cases str_of rx
      exact .inr ⟨z, rfl, hz, a.here ok rfl⟩
    · cases e
  | _ => cases e
end
section
variable {X : Cx} {W : WX} {e : Expr} {lo hi : Option Expr} {f : EM} {ol oh : Option EM} {pos p2 : Pos}
/-- a slice's part -/
def tPartI (X : Cx) (W : WX) (o : Option EM) : TO := match o with
  | none => tNoPart
  | some f => tPart (tI X.K X.mg W f)
theorem so_po {e : Option Expr} {o : Option EM} (h : SO X W e o) : PO X e (tPartI X W o) := by
  cases o with
  | none =>
    cases (show e = none from h)
    exact po_none
  | some f =>
    obtain ⟨e', rfl, h⟩ := h
    exact po_some h
theorem part_of {o : Option EM} {k : Option Int → EM} {σ : L2.St} {w : Wd} {sl : Sl} {R : D → V → Wd → Prop} {Q : Option Int → Hp → Prop} (ok : w.Ok X.K) (hs : SRep X.K w sl σ) (h : WpE X.K X.mg W σ (ePart o k sl w.h) w R)
    (q : ∀ i w1, w.Le w1 → w1.Ok X.K → SRep X.K w1 sl σ → WpE X.K X.mg W σ (k i sl w1.h) w1 R → Q i w1.H) : tPartI X W o σ w.H Q := by
  cases o with
  | none => exact q none w (Wd.Le.refl w) ok hs h
  | some f =>
    show tI X.K X.mg W f σ w.H fun x H1 => ∃ i, x = .int i ∧ Q (some i) H1
    refine tI_bind ok hs h fun d v w1 l1 ok1 hs1 r1 h1 => ?_
    cases d with
    | v d =>
      cases d with
      | int i => exact ⟨i, r1, q (some i) w1 l1 ok1 hs1 h1⟩
      | _ => exact h1.elim
    | _ => exact h1.elim
theorem se_slice (he : SE X W e f) (hl : SO X W lo ol) (hu : SO X W hi oh) : SE X W (.Subscript e (.Slice lo hi none p2) pos) (eSl f ol oh) :=
  PE.mono' (pe_slice ((sl_list.or sl_tupA).or sl_str) he (so_po hl) (so_po hu)) fun σ H Q ⟨w, sl, eH, ok, hs, h⟩ => by
    subst eH
    refine tI_bind ok hs h fun dx x w1 l1 ok1 hs1 rx h1 => ?_
    refine part_of ok1 hs1 h1 fun i w2 l2 ok2 hs2 h2 => ?_
    refine part_of ok2 hs2 h2 fun j w3 l3 ok3 hs3 h3 => ?_
    obtain ⟨dz, e, q⟩ := WpE.lift h3
    unfold lift1 at e
    cases ex : shal w3.h dx with
    | none => simp [ex] at e
    | some p =>
      simp only [ex, Option.map_eq_some_iff] at e
      obtain ⟨z, ez, rfl⟩ := e
      exact sl_sliceP ok3 (shal_rep ok3 (RepD.mono ok2 l3 dx (RepD.mono ok1 l2 dx rx)) ex) ez q
end

/-! ## isinstance -/
def tyN : D → Hs → Option String
  | .v .none, _ => some "NoneType"
  | .v (.bool _), _ => some "bool"
  | .v (.int _), _ => some "int"
  | .v (.str _), _ => some "str"
  | .v (.list _), _ => some "list"
  | .v (.tuple _), _ => some "tuple"
  | .v (.dict _), _ => some "dict"
  | .ref n, h => match h[n]? with
    | some (.lst _) => some "list"
    | some (.dct _) => some "dict"
    | _ => none
  | .mix _, _ => some "tuple"
  | .exc _ _, _ => none
theorem tyX_of {K : KF} {w : Wd} {d : D} {v : V} {n : String} (ok : w.Ok K) (r : RepD K w d v) (h : tyN d w.h = some n) : TyX K w.H v (.type n) := by
  cases d with
  | v d =>
    cases d with
    | none => cases h; rw [show v = _ from r]; exact .base .non
    | bool b => cases h; rw [show v = _ from r]; exact .base (.bl b)
    | int b => cases h; rw [show v = _ from r]; exact .base (.int b)
    | str b => cases h; rw [show v = _ from r]; exact .base (.str b)
    | list ds =>
      cases h
      obtain ⟨a, vs, rfl, ht, hr⟩ := r
      rcases ht with ⟨_, ht | ⟨o, ht⟩⟩ | ⟨o, its, n, hk, hc, _⟩
      · exact .base (.lst ht)
      · exact .base (.frz ht)
      · exact .kList hk hc
    | tuple ds =>
      cases h
      obtain ⟨a, vs, rfl, ht, hr⟩ := r
      rcases ht with (ht | ⟨o, ht⟩) | ⟨o, its, n, hk, hc, _⟩
      · exact .base (.tup ht)
      · exact .fTuple ht
      · exact .kTuple hk hc
    | dict _ =>
      cases h
      obtain ⟨a, ks, rfl, hf, ht, hr⟩ := r
      exact .base (.dK ht)
  | ref n =>
    obtain ⟨a, ha, rfl⟩ := r
    simp only [tyN] at h
    cases q : w.h[n]? with
    | none => simp [q] at h
    | some c =>
      cases c with
      | lst xs =>
        simp only [q] at h
        cases h
        obtain ⟨vs, e, _⟩ := ok.cell n a _ ha q
        exact .base (.lst e)
      | dct xs =>
        simp only [q] at h
        cases h
        obtain ⟨vs, e, _⟩ := ok.cell n a _ ha q
        exact .base (.dK e)
      | ins c fs => simp [q] at h
  | mix xs =>
    cases h
    obtain ⟨a, vs, rfl, ht, hr⟩ := r
    rcases ht with (ht | ⟨o, ht⟩) | ⟨o, its, n, hk, hc, _⟩
    · exact .base (.tup ht)
    · exact .fTuple ht
    · exact .kTuple hk hc
  | exc c fs => cases h
/-- by the names of two built-in types -/
def isiN (a T : String) : Option Bool := kitB a T
def isiD (T : String) : D → Hs → Option D := fun d h => match tyN d h with
  | some n => (isiN n T).map fun b => .v (.bool b)
  | none => none
def eIsi (T : String) (f : EM) : EM := f.bind fun d => EM.lift (isiD T d)
section
variable {X : Cx} {W : WX} {e : Expr} {f : EM} {pos p p2 : Pos} {T : String} {T' : Str}
theorem se_isi (he : SE X W e f) (hg : Gl X "isinstance") (hm : X.mg "isinstance" = none) (hg2 : Gl X T') (hm2 : X.mg T' = none) (hv2 : bootBuiltins T' = some (.type T)) (hn2 : T' ≠ "__name__" := by decide) (hd2 : (T' == ("__debug__" : Str)) = false := by decide)
    (hs : starEach (e :: [.Name T' p2]) X.env = (false, eval e X.env) :: starEach [.Name T' p2] X.env := by rfl) (hs2 : starEach [.Name T' p2] X.env = (false, eval (.Name T' p2) X.env) :: starEach [] X.env := by rfl) (hpl : (backTo pos (starEach [.Name T' p2] X.env)).any (·.1) = false := by rfl) :
    SE X W (.Call (.Name "isinstance" p) [e, .Name T' p2] [] pos) (eIsi T f) :=
  PE.mono' (pe_callB call_isi hg hm (by decide +kernel) (pa_cons he (pa_cons (pe_bltn (v := .ty T) hg2 hm2 hv2 rfl hn2 hd2) pa_nil hs2) hs) (by decide) (by decide) hs hpl) fun σ H Q ⟨w, sl, eH, ok, hs, h⟩ => by
    subst eH
    refine tI_bind ok hs h fun dx x w1 l1 ok1 hs1 rx h1 => ?_
    obtain ⟨dz, e, q⟩ := WpE.lift h1
    unfold isiD at e
    cases en : tyN dx w1.h with
    | none => simp [en] at e
    | some n =>
      simp only [en, Option.map_eq_some_iff] at e
      obtain ⟨b, eb, rfl⟩ := e
      exact ⟨x, .ty T, .type n, .type T, b, rfl, .ty T, tyX_of ok1 rx en, kit_ty eb, q w1 (.bl b) (Wd.Le.refl w1) ok1 rfl rfl⟩
end
end Vl
set_option maxHeartbeats 4000000
namespace Vl
open PySem PySem.Spec PyProof.Rows L2

/-! ## statements -/
inductive SR where
  | nx (s : Sl) (h : Hs)
  | rt (d : D) (h : Hs)
  | bk (s : Sl) (h : Hs)
  | ct (s : Sl) (h : Hs)
  | ex (s : Sl) (x : Ex) (h : Hs)
abbrev SM := Sl → Hs → Option SR
section
variable (K : KF) (mg : Str → Option Value) (W : WX)
def WpS (r : Option SR) (w : Wd) (E : Ends) : Prop :=
  match r with
  | some (.nx s h') => ∀ w' σ', w.Le w' → w'.Ok K → w'.h = h' → SRep K w' s σ' → E.nx σ' w'.H
  | some (.rt d h') => ∀ w' v, w.Le w' → w'.Ok K → w'.h = h' → RepD K w' d v → E.rt v w'.H
  | some (.bk s h') => ∀ w' σ', w.Le w' → w'.Ok K → w'.h = h' → SRep K w' s σ' → E.bk σ' w'.H
  | some (.ct s h') => ∀ w' σ', w.Le w' → w'.Ok K → w'.h = h' → SRep K w' s σ' → E.ct σ' w'.H
  | some (.ex s x h') => ∀ w' σ' cls da, w.Le w' → w'.Ok K → w'.h = h' → SRep K w' s σ' → ExRep K mg w' x cls da → W cls da σ' w'.H
  | none => False
def tS (f : SM) : TS := fun E σ H => ∃ (w : Wd) (sl : Sl), w.H = H ∧ w.Ok K ∧ SRep K w sl σ ∧ WpS K mg W (f sl w.h) w E
end
def SS (X : Cx) (W : WX) (st : Stmt) (f : SM) : Prop := PS X st (tS X.K X.mg W f)
def SSs (X : Cx) (W : WX) (st : List Stmt) (f : SM) : Prop := PSs X st (tS X.K X.mg W f)
section
variable {K : KF} {mg : Str → Option Value} {W : WX} {w w1 : Wd}
theorem WpS.le {r : Option SR} {E : Ends} (h : WpS K mg W r w E) (le : w.Le w1) (ok : w1.Ok K) : WpS K mg W r w1 E := by
  unfold WpS at h ⊢
  split
  · exact fun w' σ' l => h w' σ' (le.trans l ok)
  · exact fun w' σ' l => h w' σ' (le.trans l ok)
  · exact fun w' σ' l => h w' σ' (le.trans l ok)
  · exact fun w' σ' l => h w' σ' (le.trans l ok)
  · exact fun w' σ' cls da l => h w' σ' cls da (le.trans l ok)
  · exact h
end
def sNext : SM := fun s h => some (.nx s h)
def sSeq (a b : SM) : SM := fun s h => match a s h with
  | some (.nx s1 h1) => b s1 h1
  | r => r
def sBrk : SM := fun s h => some (.bk s h)
def sCnt : SM := fun s h => some (.ct s h)
/-- an expression, then k -/
def sE (f : EM) (k : D → SM) : SM := fun s h => match f s h with
  | some (.ok d h1) => k d s h1
  | some (.ex x h1) => some (.ex s x h1)
  | none => none
/-- a test, then one of two -/
def sIf (t : TM) (a b : SM) : SM := fun s h => match t s h with
  | some (.ok k h1) => if k = true then a s h1 else b s h1
  | some (.ex x h1) => some (.ex s x h1)
  | none => none
def sRet (f : EM) : SM := sE f fun d _ h => some (.rt d h)
def sRetN : SM := fun _ h => some (.rt (.v .none) h)
def sExpr (f : EM) : SM := sE f fun _ s h => some (.nx s h)
section
variable {K : KF} {mg : Str → Option Value} {W : WX} {σ : L2.St} {w : Wd} {sl : Sl}
theorem tIS_bind {f : EM} {k : D → SM} {E : Ends} {Q : VK} (ok : w.Ok K) (hs : SRep K w sl σ) (h : WpS K mg W ((sE f k) sl w.h) w E)
    (q : ∀ d v w1, w.Le w1 → w1.Ok K → SRep K w1 sl σ → RepD K w1 d v → WpS K mg W (k d sl w1.h) w1 E → Q v w1.H) : tI K mg W f σ w.H Q := by
  refine ⟨w, sl, rfl, ok, hs, ?_⟩
  unfold sE at h
  unfold WpE
  cases e : f sl w.h with
  | none =>
    simp only [e] at h
    exact h
  | some r =>
    cases r with
    | ok d h' =>
      simp only [e] at h
      exact fun w' v l o eh r => q d v w' l o (hs.mono ok l) r (by rw [eh]; exact WpS.le h l o)
    | ex x h' =>
      simp only [e] at h
      exact fun w' cls da l o eh r => h w' σ cls da l o eh (hs.mono ok l) r
theorem tITS_bind {t : TM} {a b : SM} {E : Ends} {Q : Bool → Hp → Prop} (ok : w.Ok K) (hs : SRep K w sl σ) (h : WpS K mg W ((sIf t a b) sl w.h) w E)
    (q : ∀ k w1, w.Le w1 → w1.Ok K → SRep K w1 sl σ → WpS K mg W (if k = true then a sl w1.h else b sl w1.h) w1 E → Q k w1.H) : tIT K mg W t σ w.H Q := by
  refine ⟨w, sl, rfl, ok, hs, ?_⟩
  unfold sIf at h
  unfold WpT
  cases e : t sl w.h with
  | none =>
    simp only [e] at h
    exact h
  | some r =>
    cases r with
    | ok d h' =>
      simp only [e] at h
      exact fun w' l o eh => q d w' l o (hs.mono ok l) (by rw [eh]; exact WpS.le h l o)
    | ex x h' =>
      simp only [e] at h
      exact fun w' cls da l o eh r => h w' σ cls da l o eh (hs.mono ok l) r
end
section
variable {X : Cx} {W : WX} {st : Stmt} {rest body els : List Stmt} {a b : SM} {e c : Expr} {f : EM} {t : TM} {pos : Pos}
theorem ss_nil : SSs X W [] sNext := PSs.mono' pss_nil fun E σ H ⟨w, sl, eH, ok, hs, h⟩ => by
  subst eH
  exact h w σ (Wd.Le.refl w) ok rfl hs
theorem ss_cons (h1 : SS X W st a) (h2 : SSs X W rest b) : SSs X W (st :: rest) (sSeq a b) := PSs.mono' (pss_cons h1 h2) fun E σ H ⟨w, sl, eH, ok, hs, h⟩ => by
  subst eH
  refine ⟨w, sl, rfl, ok, hs, ?_⟩
  unfold sSeq at h
  cases e : a sl w.h with
  | none => simp only [e] at h; exact h
  | some r =>
    cases r with
    | nx s1 h1 =>
      simp only [e] at h
      exact fun w' σ' l o eh hs' => ⟨w', s1, rfl, o, hs', by rw [eh]; exact WpS.le h l o⟩
    | _ => simp only [e] at h; exact h
theorem ss_expr (he : SE X W e f) (hs : swapsWith e none pos.line X.env = pure false := by rfl) : SS X W (.Expr e pos) (sExpr f) := PS.mono' (ps_expr he hs) fun E σ H ⟨w, sl, eH, ok, hs, h⟩ => by
  subst eH
  exact tIS_bind ok hs h fun d v w1 l1 ok1 hs1 r1 h1 => h1 w1 σ (Wd.Le.refl w1) ok1 rfl hs1
theorem ss_ret (he : SE X W e f) : SS X W (.Return (some e) pos) (sRet f) := PS.mono' (ps_ret he) fun E σ H ⟨w, sl, eH, ok, hs, h⟩ => by
  subst eH
  exact tIS_bind ok hs h fun d v w1 l1 ok1 hs1 r1 h1 => h1 w1 v (Wd.Le.refl w1) ok1 rfl r1
theorem ss_if (hc : ST X W c t) (ha : SSs X W body a) (hb : SSs X W els b) : SS X W (.If c body els pos) (sIf t a b) := PS.mono' (ps_if hc ha hb) fun E σ H ⟨w, sl, eH, ok, hs, h⟩ => by
  subst eH
  refine tITS_bind ok hs h fun k w1 l1 ok1 hs1 h1 => ?_
  cases k with
  | true =>
    rw [if_pos rfl] at h1 ⊢
    exact ⟨w1, sl, rfl, ok1, hs1, h1⟩
  | false =>
    rw [if_neg Bool.false_ne_true] at h1 ⊢
    exact ⟨w1, sl, rfl, ok1, hs1, h1⟩
end

/-! ## targets -/
abbrev GM := D → Sl → Hs → Option Sl
/-- all slots but those at js are as they were -/
def Else (js : List Nat) (σ σ' : L2.St) : Prop := σ'.length = σ.length ∧ ∀ j, j ∉ js → σ'[j]? = σ[j]?
def tG (K : KF) (js : List Nat) (g : GM) : TG := fun v σ H Q => ∃ (w : Wd) (sl sl' : Sl) (d : D), w.H = H ∧ w.Ok K ∧ SRep K w sl σ ∧ RepD K w d v ∧ g d sl w.h = some sl' ∧ ∀ σ', SRep K w sl' σ' → Else js σ σ' → Q σ' w.H
def SG (X : Cx) (e : Expr) (js : List Nat) (g : GM) : Prop := PG X e (tG X.K js g)
abbrev GsM := List D → Sl → Hs → Option Sl
def tGs (K : KF) (js : List Nat) (g : GsM) : TGs := fun vs σ H Q => ∃ (w : Wd) (sl sl' : Sl) (ds : List D), w.H = H ∧ w.Ok K ∧ SRep K w sl σ ∧ RepDs K w ds vs ∧ g ds sl w.h = some sl' ∧ ∀ σ', SRep K w sl' σ' → Else js σ σ' → Q σ' w.H
def SGs (X : Cx) (e : List Expr) (js : List Nat) (g : GsM) : Prop := PGs X e (tGs X.K js g)
theorem PG.mono' {X : Cx} {e : Expr} {t t' : TG} (h : PG X e t) (i : ∀ v σ H Q, t' v σ H Q → t v σ H Q) : PG X e t' := ⟨fun pins s σ H v u Q I r q => h.run pins s σ H v u Q I r (i v σ H Q q)⟩
theorem PGs.mono' {X : Cx} {e : List Expr} {t t' : TGs} (h : PGs X e t) (i : ∀ v σ H Q, t' v σ H Q → t v σ H Q) : PGs X e t' := ⟨fun pins s σ H v u Q I r q => h.run pins s σ H v u Q I r (i v σ H Q q)⟩
def gNm (i : Nat) : GM := fun d s _ => some (s.set i (some d))
def gsNil : GsM := fun ds s _ => match ds with
  | [] => some s
  | _ => none
def gsCons (g : GM) (r : GsM) : GsM := fun ds s h => match ds with
  | d :: ds' => match g d s h with
    | some s1 => r ds' s1 h
    | none => none
  | [] => none
def itemsT : D → Option (List D)
  | .v (.tuple ds) => some (ds.map .v)
  | .mix xs => some xs
  | _ => none
def gTp (n : Nat) (g : GsM) : GM := fun d s h => match itemsT d with
  | some xs => if xs.length = n then g xs s h else none
  | none => none
theorem RepDs.ofP {K : KF} {w : Wd} : ∀ {ds : List PyData} {vs : List V}, RepPs K w.Fz w.H ds vs → RepDs K w (ds.map .v) vs
  | [], _, h => h
  | d :: ds, _, ⟨v, r, e, h1, h2⟩ => ⟨v, r, e, h1, RepDs.ofP h2⟩
theorem SRep.set {K : KF} {w : Wd} {sl : Sl} {σ : L2.St} {d : D} {v : V} (hs : SRep K w sl σ) (i : Nat) (r : RepD K w d v) : SRep K w (sl.set i (some d)) (σ.set i (some v)) where
  len := by rw [List.length_set, List.length_set]; exact hs.len
  at' := fun j e h => by
    by_cases hj : i = j
    · subst hj
      by_cases hl : i < sl.length
      · rw [List.getElem?_set_self hl] at h
        cases h
        exact ⟨v, List.getElem?_set_self (by rw [← hs.len]; exact hl), r⟩
      · rw [List.set_eq_of_length_le (by omega)] at h
        rw [List.set_eq_of_length_le (by rw [← hs.len]; omega)]
        exact hs.at' i e h
    · rw [List.getElem?_set_ne hj] at h
      rw [List.getElem?_set_ne hj]
      exact hs.at' j e h
section
variable {X : Cx} {e : Expr} {es : List Expr} {g : GM} {gs : GsM} {js js' : List Nat} {pos : Pos}
theorem sg_name {i : Nat} {x : Str} (hN : X.N.Nodup) (hi : X.N[i]? = some x) (hx : Loc X.env.scope x) (hf : X.fn x = true ∨ X.env.scope.names.lookup x = some .local := by first | exact .inl rfl | exact .inr rfl | assumption) : SG X (.Name x pos) [i] (gNm i) :=
  PG.mono' (pg_name hN hi hx hf) fun v σ H Q ⟨w, sl, sl', d, eH, ok, hs, r, eg, q⟩ => by
    subst eH
    cases eg
    exact q _ (hs.set i r) ⟨List.length_set, fun j hj => List.getElem?_set_ne fun e => hj (by simp [e])⟩
theorem sgs_nil : SGs X [] [] gsNil := PGs.mono' pgs_nil fun v σ H Q ⟨w, sl, sl', ds, eH, ok, hs, r, eg, q⟩ => by
  subst eH
  unfold gsNil at eg
  split at eg
  · cases eg
    exact ⟨r, q σ hs ⟨rfl, fun _ _ => rfl⟩⟩
  · cases eg
theorem sgs_cons (h1 : SG X e js g) (h2 : SGs X es js' gs) (hs : (assignEach (e :: es) X.env).map (·.2) = assign e X.env :: (assignEach es X.env).map (·.2) := by rfl) : SGs X (e :: es) (js ++ js') (gsCons g gs) :=
  PGs.mono' (pgs_cons h1 h2 hs) fun v σ H Q ⟨w, sl, sl', ds, eH, ok, hs, r, eg, q⟩ => by
    subst eH
    unfold gsCons at eg
    split at eg
    · rename_i d ds'
      obtain ⟨v1, vr, ev, r1, r2⟩ := r
      split at eg
      · rename_i s1 e1
        exact ⟨v1, vr, ev, w, sl, s1, d, rfl, ok, hs, r1, e1, fun σ1 hs1 el1 => ⟨w, s1, sl', ds', rfl, ok, hs1, r2, eg, fun σ2 hs2 el2 => q σ2 hs2 ⟨el2.1.trans el1.1, fun j hj => (el2.2 j fun z => hj (List.mem_append_right _ z)).trans (el1.2 j fun z => hj (List.mem_append_left _ z))⟩⟩⟩
      · cases eg
    · cases eg
theorem sg_tup {k n : Nat} (hc : X.calm = true) (h : SGs X es js gs) (hn : (assignEach es X.env).length = n := by rfl) (hst : (assignEach es X.env).findIdx? (·.1) = none := by rfl) : SG X (.Tuple es k pos) js (gTp n gs) :=
  PG.mono' (pg_tup hc h hn hst) fun v σ H Q ⟨w, sl, sl', d, eH, ok, hs, r, eg, q⟩ => by
    subst eH
    unfold gTp at eg
    split at eg
    · rename_i xs ex
      split at eg
      · rename_i hl
        cases d with
        | v d =>
          cases d with
          | tuple ds =>
            cases ex
            obtain ⟨a, vs, rfl, ht, hr⟩ := r
            exact ⟨a, vs, rfl, ht, by rw [hr.len]; simpa using hl, w, sl, sl', _, rfl, ok, hs, RepDs.ofP hr, eg, q⟩
          | _ => cases ex
        | ref n => cases ex
        | mix ys =>
          cases ex
          obtain ⟨a, vs, rfl, ht, hr⟩ := r
          exact ⟨a, vs, rfl, ht, by rw [hr.len]; exact hl, w, sl, sl', _, rfl, ok, hs, hr, eg, q⟩
        | exc c fs => cases ex
      · cases eg
    · cases eg
end
def sAsg (f : EM) (g : GM) : SM := sE f fun d s h => match g d s h with
  | some s1 => some (.nx s1 h)
  | none => none
section
variable {X : Cx} {W : WX} {e tg : Expr} {f : EM} {g : GM} {js : List Nat} {pos : Pos}
theorem asg_of (σ : L2.St) (H : Hp) (E : Ends) (h : tS X.K X.mg W (sAsg f g) E σ H) : tAsg (tI X.K X.mg W f) (tG X.K js g) E σ H := by
  obtain ⟨w, sl, rfl, ok, hs, h⟩ := h
  refine tIS_bind ok hs h fun d v w1 l1 ok1 hs1 r1 h1 => ?_
  cases eg : g d sl w1.h with
  | none => simp only [eg] at h1; exact h1.elim
  | some s1 =>
    simp only [eg] at h1
    exact ⟨w1, sl, s1, d, rfl, ok1, hs1, r1, eg, fun σ' hs' _ => h1 w1 σ' (Wd.Le.refl w1) ok1 rfl hs'⟩
theorem ss_asg (he : SE X W e f) (hg : SG X tg js g) (hs : swapsWithSole [tg] e pos.line X.env = pure false := by rfl) (hw : swappedStores [tg] e X.env = pure none := by rfl)
    (h1 : (assignEach [tg] X.env).map (·.2) = [assign tg X.env] := by rfl) : SS X W (.Assign [tg] e pos) (sAsg f g) := PS.mono' (ps_asg he hg hs hw h1) fun E σ H h => asg_of σ H E h
theorem ss_set {i : Nat} {x : Str} {pos' : Pos} (hN : X.N.Nodup) (hi : X.N[i]? = some x) (hx : Loc X.env.scope x) (he : SE X W e f) (hs : swapsWith e (some (.Name x pos')) pos.line X.env = pure false := by rfl) (hf : X.fn x = true ∨ X.env.scope.names.lookup x = some .local := by first | exact .inl rfl | exact .inr rfl | assumption) :
    SS X W (.Assign [.Name x pos'] e pos) (sAsg f (gNm i)) := PS.mono' (ps_set hN hi hx he hs hf) fun E σ H ⟨w, sl, eH, ok, hs, h⟩ => by
  subst eH
  exact tIS_bind ok hs h fun d v w1 l1 ok1 hs1 r1 h1 => h1 w1 _ (Wd.Le.refl w1) ok1 rfl (hs1.set i r1)
end

/-! ## what is walked -/
inductive IR where
  | ok (items : List D) (gd : Option (Nat × List D)) (h : Hs)
  | ex (x : Ex) (h : Hs)
abbrev IM := Sl → Hs → Option IR
def gok : Option (Nat × List D) → Hs → Prop
  | none, _ => True
  | some (n, xs), h => h[n]? = some (.lst xs)
structure Its (K : KF) (J : It) (items : List D) (gd : Option (Nat × List D)) (w1 : Wd) : Prop where
  len : items.length ≤ sizeLine
  go : ∀ (i : Nat) w2, w1.Le w2 → w2.Ok K → gok gd w2.h → i < items.length → J.go i w2.H ∧ ∀ x H', J.yld i w2.H x H' → ∃ w3 d, w2.Le w3 ∧ w3.Ok K ∧ w3.h = w2.h ∧ w3.H = H' ∧ items[i]? = some d ∧ RepD K w3 d x
  stop : ∀ (i : Nat) w2, w1.Le w2 → w2.Ok K → gok gd w2.h → items.length ≤ i → i = items.length → J.stop i w2.H
section
variable (K : KF) (mg : Str → Option Value) (W : WX)
def WpI (σ : L2.St) (r : Option IR) (w : Wd) (R : It → Hp → Prop) : Prop :=
  match r with
  | some (.ok items gd h') => ∀ w' J, w.Le w' → w'.Ok K → w'.h = h' → Its K J items gd w' → R J w'.H
  | some (.ex x h') => ∀ w' cls da, w.Le w' → w'.Ok K → w'.h = h' → ExRep K mg w' x cls da → W cls da σ w'.H
  | none => False
def tII (f : IM) : TI := fun σ H R => ∃ (w : Wd) (sl : Sl), w.H = H ∧ w.Ok K ∧ SRep K w sl σ ∧ WpI K mg W σ (f sl w.h) w R
end
def SI (X : Cx) (W : WX) (tg iter : Expr) (f : IM) : Prop := PI X tg iter (tII X.K X.mg W f)
theorem PI.mono' {X : Cx} {tg e : Expr} {t t' : TI} (h : PI X tg e t) (i : ∀ σ H Q, t' σ H Q → t σ H Q) : PI X tg e t' := ⟨fun pins s σ H Q I q => h.run pins s σ H Q I (i σ H Q q)⟩

/-! ## names that are not asked any more -/
def sWp (vs : List Nat) (f : SM) : SM := fun s h => match f s h with
  | some (.nx s1 h1) => some (.nx (wipeS s1 vs) h1)
  | some (.ct s1 h1) => some (.ct (wipeS s1 vs) h1)
  | some (.bk s1 h1) => some (.bk (wipeS s1 vs) h1)
  | r => r
theorem sss_wp {X : Cx} {W : WX} {st : List Stmt} {f : SM} {vs : List Nat} (h : SSs X W st f) : SSs X W st (sWp vs f) := PSs.mono' h fun E σ H ⟨w, sl, eH, ok, hs, h⟩ => by
  subst eH
  refine ⟨w, sl, rfl, ok, hs, ?_⟩
  unfold sWp at h
  unfold WpS at h ⊢
  cases e : f sl w.h with
  | none => simp only [e] at h
  | some r =>
    cases r with
    | nx s1 h1 =>
      simp only [e] at h
      exact fun w' σ' l o eh hs1 => h w' σ' l o eh (hs1.wipeL vs)
    | ct s1 h1 =>
      simp only [e] at h
      exact fun w' σ' l o eh hs1 => h w' σ' l o eh (hs1.wipeL vs)
    | bk s1 h1 =>
      simp only [e] at h
      exact fun w' σ' l o eh hs1 => h w' σ' l o eh (hs1.wipeL vs)
    | rt d h1 => simp only [e] at h; exact h
    | ex s1 x h1 => simp only [e] at h; exact h
/-! ## for -/
open Classical in
noncomputable def forL (gd : Option (Nat × List D)) (g : GM) (body : SM) : List D → SM
  | [], s, h => if gok gd h then some (.nx s h) else none
  | d :: r, s, h => if gok gd h then match g d s h with
      | some s1 => match body s1 h with
        | some (.nx s2 h2) => forL gd g body r s2 h2
        | some (.ct s2 h2) => forL gd g body r s2 h2
        | some (.bk s2 h2) => some (.nx s2 h2)
        | some (.rt d h2) => some (.rt d h2)
        | some (.ex s2 x h2) => some (.ex s2 x h2)
        | none => none
      | none => none
    else none
/-- vs: the names that no turn and nothing behind the loop asks -/
noncomputable def sFor (vs : List Nat) (it : IM) (g : GM) (body : SM) : SM := fun s h => match it s h with
  | some (.ok items gd h1) => forL gd g body items (wipeS s vs) h1
  | some (.ex x h1) => some (.ex s x h1)
  | none => none
section
variable {X : Cx} {W : WX} {iter tg : Expr} {body : List Stmt} {it : IM} {g : GM} {js vs : List Nat} {b : SM} {pos : Pos}
theorem ss_for (hp : PassesOwn (model X.prog X.w) X.A X.env X.xe) (hc : X.calm = true) (hi : SI X W tg iter it) (hg : SG X tg js g) (hb : SSs X W body b) (hs : ∀ x, foldedSetIterable iter X.env x = pure x := by intro _; rfl) : SS X W (.For tg iter body [] pos) (sFor vs it g b) :=
  PS.mono' (ps_for hp hc hi hg hb hs) fun E σ H ⟨w, sl, eH, ok, hs, h⟩ => by
    subst eH
    refine ⟨w, sl, rfl, ok, hs, ?_⟩
    unfold sFor at h
    unfold WpI
    cases ei : it sl w.h with
    | none => simp only [ei] at h; exact h.elim
    | some r =>
      cases r with
      | ex x h' =>
        simp only [ei] at h
        exact fun w' cls da l o eh r => h w' σ cls da l o eh (hs.mono ok l) r
      | ok items gd h' =>
        simp only [ei] at h
        intro w1 J l1 ok1 eh1 T
        subst eh1
        refine ⟨fun i m σ H => m = items.length - i ∧ i ≤ items.length ∧ ∃ w2 sl2, w1.Le w2 ∧ w2.H = H ∧ w2.Ok X.K ∧ SRep X.K w2 sl2 σ ∧ WpS X.K X.mg W (forL gd g b (items.drop i) sl2 w2.h) w2 E,
          ⟨items.length, by simp, Nat.zero_le _, w1, wipeS sl vs, Wd.Le.refl w1, rfl, ok1, (hs.mono ok l1).wipeL vs, by rw [List.drop_zero]; exact WpS.le h l1 ok1⟩, ?_⟩
        rintro i m σ2 H2 ⟨rfl, hi, w2, sl2, l2, rfl, ok2, hs2, h2⟩
        by_cases hlt : i < items.length
        · rw [List.drop_eq_getElem_cons hlt] at h2
          unfold forL at h2
          split at h2
          · rename_i hg2
            obtain ⟨hgo, hy⟩ := T.go i w2 l2 ok2 hg2 hlt
            refine .inr ⟨hgo, fun σ' H' => ∃ w3 sl3, w1.Le w3 ∧ w3.H = H' ∧ w3.Ok X.K ∧ SRep X.K w3 sl3 σ' ∧ WpS X.K X.mg W (forL gd g b (items.drop (i + 1)) sl3 w3.h) w3 E,
              fun σ' H' ⟨w3, sl3, l3, e3, ok3, hs3, h3⟩ => ⟨items.length - (i + 1), by omega, rfl, hlt, w3, sl3, l3, e3, ok3, hs3, h3⟩, fun x H' y => ?_⟩
            obtain ⟨w3, d, l3, ok3, eh3, rfl, ed, rd⟩ := hy x H' y
            rw [List.getElem?_eq_getElem hlt] at ed
            cases ed
            cases eg : g items[i] sl2 w2.h with
            | none => simp only [eg] at h2; exact h2.elim
            | some s1 =>
              simp only [eg] at h2
              refine ⟨w3, sl2, s1, items[i], rfl, ok3, hs2.mono ok2 l3, rd, by rw [eh3]; exact eg, fun σ4 hs4 _ => ?_⟩
              refine ⟨w3, s1, rfl, ok3, hs4, ?_⟩
              rw [eh3]
              cases eb : b s1 w2.h with
              | none => simp only [eb] at h2; exact h2.elim
              | some r =>
                cases r with
                | nx s5 h5 =>
                  simp only [eb] at h2
                  exact fun w5 σ5 l5 ok5 e5 hs5 => ⟨w5, s5, (l2.trans l3 ok2).trans l5 ok3, rfl, ok5, hs5, by rw [e5]; exact WpS.le h2 (l3.trans l5 ok3) ok5⟩
                | ct s5 h5 =>
                  simp only [eb] at h2
                  exact fun w5 σ5 l5 ok5 e5 hs5 => ⟨w5, s5, (l2.trans l3 ok2).trans l5 ok3, rfl, ok5, hs5, by rw [e5]; exact WpS.le h2 (l3.trans l5 ok3) ok5⟩
                | bk s5 h5 =>
                  simp only [eb] at h2
                  exact fun w5 σ5 l5 => h2 w5 σ5 (l3.trans l5 ok3)
                | rt d5 h5 =>
                  simp only [eb] at h2
                  exact fun w5 σ5 l5 => h2 w5 σ5 (l3.trans l5 ok3)
                | ex s5 x h5 =>
                  simp only [eb] at h2
                  exact fun w5 σ5 cls da l5 => h2 w5 σ5 cls da (l3.trans l5 ok3)
          · exact h2.elim
        · have ei : i = items.length := by omega
          subst ei
          rw [List.drop_length] at h2
          unfold forL at h2
          split at h2
          · rename_i hg2
            exact .inl ⟨T.stop _ w2 l2 ok2 hg2 (Nat.le_refl _) rfl, h2 w2 σ2 (Wd.Le.refl w2) ok2 rfl hs2⟩
          · exact h2.elim
end

/-! ## while -/
def whileN (t : TM) (b : SM) : Nat → SM
  | 0, _, _ => none
  | n + 1, s, h => match t s h with
    | some (.ok k h1) => if k = true then match b s h1 with
        | some (.nx s2 h2) => whileN t b n s2 h2
        | some (.ct s2 h2) => whileN t b n s2 h2
        | some (.bk s2 h2) => some (.nx s2 h2)
        | some (.rt d h2) => some (.rt d h2)
        | some (.ex s2 x h2) => some (.ex s2 x h2)
        | none => none
      else some (.nx s h1)
    | some (.ex x h1) => some (.ex s x h1)
    | none => none
open Classical in
noncomputable def whileX (t : TM) (b : SM) : SM := fun s h => if e : ∃ n r, whileN t b n s h = some r then some e.choose_spec.choose else none
noncomputable def sWhile (vs : List Nat) (t : TM) (b : SM) : SM := fun s h => whileX t b (wipeS s vs) h
section
variable {X : Cx} {W : WX} {c : Expr} {body : List Stmt} {t : TM} {b : SM} {vs : List Nat} {pos : Pos}
end
end Vl
set_option maxHeartbeats 4000000
namespace Vl
open PySem PySem.Spec PyProof.Rows L2

/-! ## what is walked: a list, a tuple, a text -/
def iAny (K : KF) (te : TE) : TI := fun σ H R => te σ H fun x H1 =>
  (∃ a xs, x = .ref a ∧ SqL K H1 a xs ∧ (xs.length ≤ sizeLine → R (Itl K a) H1)) ∨ (∃ a xs, x = .ref a ∧ SqT K H1 a xs ∧ (xs.length ≤ sizeLine → R (Itt K a) H1)) ∨ (∃ z, x = .str z ∧ R (L2.Its z) H1)
theorem pi_any {X : Cx} {tg l : Expr} {tl : TE} (hl : PE X l tl) : PI X tg l (iAny X.K tl) := by
  refine ⟨fun pins s σ H R I h => ?_⟩
  refine thn (hl.run pins s σ H _ I h) fun v s1 ⟨x, H1, I1, r1, q1⟩ => ?_
  rcases q1 with ⟨a, xs, e, hq, q⟩ | ⟨a, xs, e, hq, q⟩ | ⟨z, e, q⟩
  · subst e
    cases r1
    obtain ⟨its, rv, p, hz⟩ := I1.list hq
    refine wpAny_pyIter_list p.isList ?_
    refine ⟨s1.heap.objs.size, [s1.heap.objs.size], _, _, H1, rfl, I1.kept (t' := s1.toks) fun b o e => Heap.get?_push_of_some _ e, turn_list a _, ⟨_, Heap.get?_push_size _ rfl, rfl, rfl⟩, fun b hb => ?_, q hz⟩
    have e : b = s1.heap.objs.size := by simpa using hb
    subst e
    exact I1.fpOk (Nat.le_refl _) (I1.hok.fresh (Nat.le_refl _))
  · subst e
    cases r1
    obtain ⟨its, rv, p, hz⟩ := I1.tuple hq
    refine wpAny_pyIter_tuple (show s1.heap.IsTuple a its.toArray from p) ?_
    refine ⟨s1.heap.objs.size, [s1.heap.objs.size], _, _, H1, rfl, I1.kept (t' := s1.toks) fun b o e => Heap.get?_push_of_some _ e, turn_tuple a _, ⟨_, Heap.get?_push_size _ rfl, rfl, rfl⟩, fun b hb => ?_, q hz⟩
    have e : b = s1.heap.objs.size := by simpa using hb
    subst e
    exact I1.fpOk (Nat.le_refl _) (I1.hok.fresh (Nat.le_refl _))
  · subst e
    obtain ⟨t, rfl⟩ := r1
    cases ha : z.cps.all (· < 128)
    · exact wpAny_pyIter_wide ha (pi_one (tk := s1.toks) I1 _ (turn_str _ z t "str_iterator" (.inr rfl)) ⟨_, Heap.get?_push_size _ rfl, rfl, rfl⟩ q)
    · exact wpAny_pyIter_ascii ha (pi_one (tk := s1.toks) I1 _ (turn_str _ z t "str_ascii_iterator" (.inl rfl)) ⟨_, Heap.get?_push_size _ rfl, rfl, rfl⟩ q)
def signsD (z : Str) : List D := z.cps.toList.map fun c => .v (.str ⟨#[c]⟩)
def seqI (d : D) (h : Hs) : Option IR := match d with
  | .v (.list ds) => some (.ok (ds.map .v) none h)
  | .v (.tuple ds) => some (.ok (ds.map .v) none h)
  | .v (.str z) => if z.length ≤ sizeLine then some (.ok (signsD z) none h) else none
  | .ref n => match h[n]? with
    | some (.lst xs) => some (.ok xs (some (n, xs)) h)
    | _ => none
  | .mix xs => some (.ok xs none h)
  | _ => none
def iSeq (f : EM) : IM := fun s h => match f s h with
  | some (.ok d h1) => seqI d h1
  | some (.ex x h1) => some (.ex x h1)
  | none => none
section
variable {K : KF} {w : Wd}
theorem its_list {a : Addr} {ds : List PyData} {vs : List V} (ok : w.Ok K) (ht : LRd K w.Fz w.H a vs) (hr : RepPs K w.Fz w.H ds vs) (hz : vs.length ≤ sizeLine) : Its K (Itl K a) (ds.map .v) none w where
  len := by rw [List.length_map, ← hr.len]; exact hz
  go := fun i w2 l2 ok2 _ hi => by
    have ht2 := (LRd.keepW ok l2 ht).sql
    have hr2 := RepPs.mono ok l2 ds hr
    rw [List.length_map] at hi
    obtain ⟨v, hv, rv⟩ := RepPs.get hr2 (List.getElem?_eq_getElem hi)
    refine ⟨⟨vs, v, ht2, hv⟩, fun x H' y => ⟨w2, .v ds[i], Wd.Le.refl w2, ok2, rfl, y.1.symm, by simp [hi], ?_⟩⟩
    have := y.2 vs ht2
    rw [hv] at this
    cases this
    exact rv
  stop := fun i w2 l2 ok2 _ hi _ => ⟨vs, (LRd.keepW ok l2 ht).sql, by rw [hr.len]; simpa using hi⟩
theorem its_tuple {a : Addr} {xs : List D} {vs : List V} (ok : w.Ok K) (ht : SqT K w.H a vs) (hr : RepDs K w xs vs) (hz : vs.length ≤ sizeLine) : Its K (Itt K a) xs none w where
  len := by rw [← hr.len]; exact hz
  go := fun i w2 l2 ok2 _ hi => by
    have ht2 := SqT.keepW ok l2 ht
    have hr2 := RepDs.mono ok l2 xs hr
    obtain ⟨v, hv, rv⟩ := RepDs.get hr2 (List.getElem?_eq_getElem hi)
    refine ⟨⟨vs, v, ht2, hv⟩, fun x H' y => ⟨w2, xs[i], Wd.Le.refl w2, ok2, rfl, y.1.symm, by simp [hi], ?_⟩⟩
    have := y.2 vs ht2
    rw [hv] at this
    cases this
    exact rv
  stop := fun i w2 l2 ok2 _ hi _ => ⟨vs, SqT.keepW ok l2 ht, by rw [hr.len]; exact hi⟩
theorem its_cell {a : Addr} {n : Nat} {xs : List D} {vs : List V} (ok : w.Ok K) (ha : w.ι[n]? = some a) (hr : RepDs K w xs vs) (hz : vs.length ≤ sizeLine) : Its K (Itl K a) xs (some (n, xs)) w where
  len := by rw [← hr.len]; exact hz
  go := fun i w2 l2 ok2 hg hi => by
    obtain ⟨m, em, _⟩ := l2.more
    have ha2 : w2.ι[n]? = some a := by
      rw [em, List.getElem?_append_left (List.getElem?_eq_some_iff.mp ha).1]
      exact ha
    obtain ⟨vs2, hH, hr2⟩ := ok2.cell n a _ ha2 hg
    obtain ⟨v, hv, rv⟩ := RepDs.get hr2 (List.getElem?_eq_getElem hi)
    refine ⟨⟨vs2, v, .inl (.inl hH), hv⟩, fun x H' y => ⟨w2, xs[i], Wd.Le.refl w2, ok2, rfl, y.1.symm, by simp [hi], ?_⟩⟩
    have := y.2 vs2 (.inl (.inl hH))
    rw [hv] at this
    cases this
    exact rv
  stop := fun i w2 l2 ok2 hg hi _ => by
    obtain ⟨m, em, _⟩ := l2.more
    have ha2 : w2.ι[n]? = some a := by
      rw [em, List.getElem?_append_left (List.getElem?_eq_some_iff.mp ha).1]
      exact ha
    obtain ⟨vs2, hH, hr2⟩ := ok2.cell n a _ ha2 hg
    exact ⟨vs2, .inl (.inl hH), by rw [hr2.len]; exact hi⟩
theorem its_str {z : Str} (hz : z.length ≤ sizeLine) : Its K (L2.Its z) (signsD z) none w where
  len := by
    unfold signsD
    rw [List.length_map]
    exact hz
  go := fun i w2 l2 ok2 _ hi => by
    unfold signsD at hi ⊢
    rw [List.length_map, Array.length_toList] at hi
    refine ⟨hi, fun x H' y => ?_⟩
    obtain ⟨e, c, hc, rfl⟩ := y
    refine ⟨w2, .v (.str ⟨#[c]⟩), Wd.Le.refl w2, ok2, rfl, e.symm, ?_, rfl⟩
    rw [List.getElem?_map, Array.getElem?_toList, hc]
    rfl
  stop := fun i w2 l2 ok2 _ hi _ => by
    unfold signsD at hi
    rw [List.length_map, Array.length_toList] at hi
    exact hi
end
section
variable {X : Cx} {W : WX} {tg e : Expr} {f : EM} {pos p : Pos}
theorem si_seq (he : SE X W e f) : SI X W tg e (iSeq f) := PI.mono' (pi_any he) fun σ H R ⟨w, sl, eH, ok, hs, h⟩ => by
  subst eH
  refine ⟨w, sl, rfl, ok, hs, ?_⟩
  unfold iSeq at h
  unfold WpE
  cases e1 : f sl w.h with
  | none => simp only [e1] at h; exact h.elim
  | some r =>
    cases r with
    | ex x h1 => simp only [e1] at h; exact h
    | ok d h1 =>
      simp only [e1] at h
      intro w1 v l1 ok1 eh r1
      subst eh
      cases d with
      | v d =>
        cases d with
        | list ds =>
          obtain ⟨a, vs, rfl, ht, hr⟩ := r1
          exact .inl ⟨a, vs, rfl, ht.sql, fun hz => h w1 _ l1 ok1 rfl (its_list ok1 ht hr hz)⟩
        | tuple ds =>
          obtain ⟨a, vs, rfl, ht, hr⟩ := r1
          exact .inr (.inl ⟨a, vs, rfl, ht, fun hz => h w1 _ l1 ok1 rfl (its_tuple ok1 ht (RepDs.ofP hr) hz)⟩)
        | str z =>
          simp only [seqI] at h
          split at h
          · rename_i hz
            exact .inr (.inr ⟨z, r1, h w1 _ l1 ok1 rfl (its_str hz)⟩)
          · exact h.elim
        | _ => exact h.elim
      | ref n =>
        obtain ⟨a, ha, rfl⟩ := r1
        simp only [seqI] at h
        cases q : w1.h[n]? with
        | none => simp only [q] at h; exact h.elim
        | some c =>
          cases c with
          | lst xs =>
            simp only [q] at h
            obtain ⟨vs, hH, hr⟩ := ok1.cell n a _ ha q
            exact .inl ⟨a, vs, rfl, .inl (.inl hH), fun hz => h w1 _ l1 ok1 rfl (its_cell ok1 ha hr hz)⟩
          | _ => simp only [q] at h; exact h.elim
      | mix xs =>
        obtain ⟨a, vs, rfl, ht, hr⟩ := r1
        exact .inr (.inl ⟨a, vs, rfl, ht, fun hz => h w1 _ l1 ok1 rfl (its_tuple ok1 ht hr hz)⟩)
      | exc c fs => exact h.elim
end
/-- arguments, then what is walked -/
def iP (a : AM) (k : List D → Hs → Option (List D × Option (Nat × List D))) : IM := fun s h => match a s h with
  | some (.ok ds h1) => match k ds h1 with
    | some (items, gd) => some (.ok items gd h1)
    | none => none
  | some (.ex x h1) => some (.ex x h1)
  | none => none
theorem tIP_bind {K : KF} {mg : Str → Option Value} {W : WX} {σ : L2.St} {w : Wd} {sl : Sl} {a : AM} {k : List D → Hs → Option (List D × Option (Nat × List D))} {R : It → Hp → Prop} {Q : List V → Hp → Prop} (ok : w.Ok K) (hs : SRep K w sl σ) (h : WpI K mg W σ ((iP a k) sl w.h) w R)
    (q : ∀ ds vs w1 items gd, w.Le w1 → w1.Ok K → RepDs K w1 ds vs → k ds w1.h = some (items, gd) → (∀ J, Its K J items gd w1 → R J w1.H) → Q vs w1.H) : tIA K mg W a σ w.H Q := by
  refine ⟨w, sl, rfl, ok, hs, ?_⟩
  unfold iP at h
  unfold WpA
  cases e1 : a sl w.h with
  | none => simp only [e1] at h; exact h.elim
  | some r =>
    cases r with
    | ex x h1 => simp only [e1] at h; exact h
    | ok ds h1 =>
      simp only [e1] at h
      intro w1 vs l1 ok1 eh r1
      subst eh
      cases ek : k ds w1.h with
      | none => simp only [ek] at h; exact h.elim
      | some r =>
        obtain ⟨items, gd⟩ := r
        simp only [ek] at h
        exact q ds vs w1 items gd l1 ok1 r1 ek fun J T => h w1 J l1 ok1 rfl T
def rngItems (lo : Int) (n : Nat) : List D := (List.range n).map fun (k : Nat) => .v (.int (lo + k))
noncomputable def inLine (i : Int) : Bool := yes (-(2 ^ 62) ≤ i ∧ i < 2 ^ 62)
theorem inLine_ok {i : Int} (h : inLine i = true) : -(2 ^ 62) ≤ i ∧ i < 2 ^ 62 := by
  unfold inLine at h
  rw [yes_iff] at h
  exact h
abbrev KI := List D → Hs → Option (List D × Option (Nat × List D))
noncomputable def kRng1 : KI := fun ds _ => match ds with
  | [.v (.int j)] => if (inLine j && yes (j ≤ 10000000)) = true then some (rngItems 0 j.toNat, none) else none
  | _ => none
theorem its_rng {K : KF} {w : Wd} {lo : Int} {n : Nat} (hn : n ≤ sizeLine) : Its K (Itr lo n) (rngItems lo n) none w where
  len := by unfold rngItems; rw [List.length_map, List.length_range]; exact hn
  go := fun i w2 l2 ok2 _ hi => by
    unfold rngItems at hi ⊢
    rw [List.length_map, List.length_range] at hi
    refine ⟨hi, fun x H' y => ⟨w2, .v (.int (lo + i)), Wd.Le.refl w2, ok2, rfl, y.1.symm, ?_, y.2⟩⟩
    rw [List.getElem?_map, List.getElem?_range hi]
    rfl
  stop := fun i w2 l2 ok2 _ hi _ => by
    unfold rngItems at hi
    rw [List.length_map, List.length_range] at hi
    exact hi
theorem ten_line {n : Nat} (h : n ≤ 10000000) : n ≤ sizeLine := Nat.le_trans h (by rw [sizeLine_eq]; decide)
def enumI : Nat → List D → List D
  | _, [] => []
  | k, x :: r => mkTup [.v (.int k), x] :: enumI (k + 1) r
theorem enumI_len : ∀ (k : Nat) (xs : List D), (enumI k xs).length = xs.length
  | _, [] => rfl
  | k, x :: r => by rw [enumI, List.length_cons, List.length_cons, enumI_len (k + 1) r]
theorem enumI_get : ∀ (k i : Nat) (xs : List D) (x : D), xs[i]? = some x → (enumI k xs)[i]? = some (mkTup [.v (.int (k + i : Nat)), x])
  | _, _, [], _, h => by simp at h
  | k, 0, x :: r, y, h => by
    simp at h
    subst h
    rfl
  | k, i + 1, x :: r, y, h => by
    rw [enumI, List.getElem?_cons_succ, enumI_get (k + 1) i r y (by simpa using h)]
    rw [show k + 1 + i = k + (i + 1) by omega]
/-- the items of a list that is walked -/
def lstItems (d : D) (h : Hs) : Option (List D × Option (Nat × List D)) := match d with
  | .v (.list ds) => some (ds.map .v, none)
  | .ref n => match h[n]? with
    | some (.lst xs) => some (xs, some (n, xs))
    | _ => none
  | _ => none
/-- a list, as it stands at every later moment while its guard holds -/
theorem lst_at {K : KF} {w : Wd} {d : D} {x : V} {items : List D} {gd : Option (Nat × List D)} (ok : w.Ok K) (r : RepD K w d x) (e : lstItems d w.h = some (items, gd)) :
    ∃ a, x = .ref a ∧ ∀ w2, w.Le w2 → w2.Ok K → gok gd w2.h → ∃ vs, SqL K w2.H a vs ∧ RepDs K w2 items vs := by
  cases d with
  | v d =>
    cases d with
    | list ds =>
      cases e
      obtain ⟨a, vs, rfl, ht, hr⟩ := r
      exact ⟨a, rfl, fun w2 l2 ok2 _ => ⟨vs, (LRd.keepW ok l2 ht).sql, RepDs.ofP (RepPs.mono ok l2 ds hr)⟩⟩
    | _ => cases e
  | ref n =>
    obtain ⟨a, ha, rfl⟩ := r
    simp only [lstItems] at e
    cases q : w.h[n]? with
    | none => simp [q] at e
    | some c =>
      cases c with
      | lst ys =>
        simp [q] at e
        obtain ⟨rfl, rfl⟩ := e
        refine ⟨a, rfl, fun w2 l2 ok2 hg => ?_⟩
        obtain ⟨m, em, _⟩ := l2.more
        have ha2 : w2.ι[n]? = some a := by
          rw [em, List.getElem?_append_left (List.getElem?_eq_some_iff.mp ha).1]
          exact ha
        obtain ⟨vs2, hH, hr2⟩ := ok2.cell n a _ ha2 hg
        exact ⟨vs2, .inl (.inl hH), hr2⟩
      | _ => simp [q] at e
  | mix xs => cases e
  | exc c fs => cases e
theorem lst_gok {h : Hs} {d : D} {items : List D} {gd : Option (Nat × List D)} (e : lstItems d h = some (items, gd)) : gok gd h := by
  cases d with
  | v d =>
    cases d with
    | list ds =>
      cases e
      trivial
    | _ => cases e
  | ref n =>
    simp only [lstItems] at e
    cases q : h[n]? with
    | none => simp [q] at e
    | some c =>
      cases c with
      | lst ys =>
        simp [q] at e
        obtain ⟨rfl, rfl⟩ := e
        exact q
      | _ => simp [q] at e
  | mix xs => cases e
  | exc c fs => cases e
/-- a pair that was just made -/
theorem pair_new {K : KF} {w : Wd} {T : Addr} {x y : V} {dx dy : D} (ok : w.Ok K) (hT : w.H T = none) (rx : RepD K w dx x) (ry : RepD K w dy y) :
    ∃ w3, w.Le w3 ∧ w3.Ok K ∧ w3.h = w.h ∧ w3.H = upd w.H T (.tup [x, y]) ∧ RepD K w3 (mkTup [dx, dy]) (.ref T) := by
  have hr : RepDs K w [dx, dy] [x, y] := ⟨x, [y], rfl, rx, y, [], rfl, ry, rfl⟩
  refine ⟨w.newT T (.tup [x, y]), Wd.newT_le hT, Wd.newT_ok ok hT, rfl, rfl, ?_⟩
  have a : After K w (mkTup [dx, dy]) fun v H => ∃ w3, w.Le w3 ∧ w3.H = H ∧ RepD K w3 (mkTup [dx, dy]) v := fun w' v l o e r => ⟨w', l, rfl, r⟩
  unfold mkTup
  cases e : unvs [dx, dy] with
  | some ps => exact ⟨T, _, rfl, .inl (.inl upd_same), RepPs.mono ok (Wd.newT_le hT) ps (unvs_rep e hr)⟩
  | none => exact ⟨T, _, rfl, .inl (.inl upd_same), RepDs.mono ok (Wd.newT_le hT) _ hr⟩
def kEnum : KI := fun ds h => match ds with
  | [d] => (lstItems d h).map fun q => (enumI 0 q.1, q.2)
  | _ => none
theorem its_enum {K : KF} {w : Wd} {a : Addr} {items : List D} {gd : Option (Nat × List D)} (hz : items.length ≤ sizeLine) (st : ∀ w2, w.Le w2 → w2.Ok K → gok gd w2.h → ∃ vs, SqL K w2.H a vs ∧ RepDs K w2 items vs) : Its K (Ite K a) (enumI 0 items) gd w where
  len := by rw [enumI_len]; exact hz
  go := fun i w2 l2 ok2 hg hi => by
    rw [enumI_len] at hi
    obtain ⟨vs, hS, hr⟩ := st w2 l2 ok2 hg
    obtain ⟨v, hv, rv⟩ := RepDs.get hr (List.getElem?_eq_getElem hi)
    refine ⟨⟨vs, v, hS, hv⟩, fun x H' y => ?_⟩
    obtain ⟨T, u, rfl, hT, rfl, hu⟩ := y
    have := hu vs hS
    rw [hv] at this
    cases this
    obtain ⟨w3, l3, ok3, eh, eH, r3⟩ := pair_new (dx := .v (.int (i : Nat))) ok2 hT (show RepD K w2 (.v (.int (i : Nat))) (.int (i : Nat)) from rfl) rv
    refine ⟨w3, _, l3, ok3, eh, eH, ?_, r3⟩
    have := enumI_get 0 i items _ (List.getElem?_eq_getElem hi)
    rw [Nat.zero_add] at this
    exact this
  stop := fun i w2 l2 ok2 hg hi _ => by
    rw [enumI_len] at hi
    obtain ⟨vs, hS, hr⟩ := st w2 l2 ok2 hg
    exact ⟨vs, hS, by rw [hr.len]; exact hi⟩
section
variable {X : Cx} {W : WX} {tg a b : Expr} {f g : EM} {pos p : Pos}
theorem si_rng1 (hg : Gl X "range") (hm : X.mg "range" = none) (ha : SE X W a f) (hs : starEach [a] X.env = [(false, eval a X.env)] := by rfl) : SI X W tg (.Call (.Name "range" p) [a] [] pos) (iP (eCons f eNil) kRng1) :=
  PI.mono' (pi_range1 hg hm (sa_cons ha sa_nil hs) hs) fun σ H R ⟨w, sl, eH, ok, hs, h⟩ => by
    subst eH
    refine tIP_bind ok hs h fun ds vs w1 items gd l1 ok1 r1 ek q => ?_
    unfold kRng1 at ek
    split at ek
    · split at ek
      · rename_i j hb
        cases ek
        rw [Bool.and_eq_true, yes_iff] at hb
        obtain ⟨v, vr, rfl, h1, h2⟩ := r1
        cases (show vr = [] from h2)
        cases (show v = V.int j from h1)
        exact ⟨j, rfl, (inLine_ok hb.1).1, (inLine_ok hb.1).2, q _ (its_rng (ten_line (by omega)))⟩
      · cases ek
    · cases ek
def iEnumZ (K : KF) (ta : TA) : TI := fun σ H R => ta σ H fun vs H1 => ∃ a xs, vs = [.ref a] ∧ SqL K H1 a xs ∧ (xs.length ≤ sizeLine → R (Ite K a) H1)
theorem pi_enumZ {e : Expr} {ta : TA} {tpos : Pos} {elts : List Expr} {kk : Nat} (hg : Gl X "enumerate") (hm : X.mg "enumerate" = none) (ha : PA X [e] ta) (hs : starEach [e] X.env = [(false, eval e X.env)] := by rfl) :
    PI X (.Tuple elts kk tpos) (.Call (.Name "enumerate" p) [e] [] pos) (iEnumZ X.K ta) := by
  refine ⟨fun pins s σ H R I h => ?_⟩
  refine Call_ (ld_blt I hg hm boot_enumerate (PyProof.Rows.callWith_type1 (thn (ha.run pos pins s σ H _ I h) fun us s1 ⟨vs, H1, I1, r1, q1⟩ => ?_) hs rfl))
  obtain ⟨a, xs, ex, hq, q⟩ := q1
  subst ex
  cases r1 with
  | cons r rr =>
    cases rr
    cases r
    obtain ⟨its, rv, p', hz⟩ := I1.list hq
    refine call_enumerate_list p'.isList fun h' he hit hsz hk => wpAny_pyIter_enum he ?_
    have I2 : Inv X pins σ H1 { s1 with heap := h' } := I1.kept (t' := s1.toks) hk
    refine ⟨s1.heap.objs.size + 1, [s1.heap.objs.size + 1, s1.heap.objs.size], _, _, H1, rfl, I2, turn_enum a (s1.heap.objs.size + 1) s1.heap.objs.size, ⟨⟨.none, he⟩, hit, Nat.succ_ne_self _⟩, fun b hb => ?_, q hz⟩
    have e' : b = s1.heap.objs.size + 1 ∨ b = s1.heap.objs.size := by simpa using hb
    have hle : s1.heap.objs.size ≤ b := by
      rcases e' with z | z
      · rw [z]; exact Nat.le_add_right _ _
      · rw [z]; exact Nat.le_refl _
    exact I1.fpOk hle (I1.hok.fresh hle)
theorem si_enum {tpos : Pos} {elts : List Expr} {kk : Nat} (hg : Gl X "enumerate") (hm : X.mg "enumerate" = none) (ha : SE X W a f) (hs : starEach [a] X.env = [(false, eval a X.env)] := by rfl) : SI X W (.Tuple elts kk tpos) (.Call (.Name "enumerate" p) [a] [] pos) (iP (eCons f eNil) kEnum) :=
  PI.mono' (pi_enumZ hg hm (sa_cons ha sa_nil hs) hs) fun σ H R ⟨w, sl, eH, ok, hs, h⟩ => by
    subst eH
    refine tIP_bind ok hs h fun ds vs w1 items gd l1 ok1 r1 ek q => ?_
    unfold kEnum at ek
    split at ek
    · rename_i d
      rw [Option.map_eq_some_iff] at ek
      obtain ⟨⟨xs, gd'⟩, ex, ep⟩ := ek
      cases ep
      obtain ⟨v, vr, rfl, h1, h2⟩ := r1
      cases (show vr = [] from h2)
      obtain ⟨a', rfl, st⟩ := lst_at ok1 h1 ex
      obtain ⟨us, hS, hr⟩ := st w1 (Wd.Le.refl w1) ok1 (lst_gok ex)
      exact ⟨a', us, rfl, hS, fun hz => q _ (its_enum (by rw [← hr.len]; exact hz) st)⟩
    · cases ek
end
end Vl
set_option maxHeartbeats 4000000
namespace Vl
open PySem PySem.Spec PyProof.Rows L2

/-! ## list comprehensions -/
abbrev W0 : WX := fun _ _ _ _ => False
theorem wipe_get (σ : L2.St) (j : Nat) : ∀ vs : List Nat, (wipe σ vs)[j]? = if j ∈ vs then (if j < σ.length then some none else none) else σ[j]?
  | [] => by rw [wipe, if_neg (by simp)]
  | v :: vs => by
    rw [wipe]
    by_cases h : v = j
    · subst h
      rw [if_pos (by simp)]
      by_cases hl : v < σ.length
      · rw [List.getElem?_set_self (by rw [wipe_length]; exact hl), if_pos hl]
      · rw [if_neg hl, List.getElem?_eq_none (by rw [List.length_set, wipe_length]; omega)]
    · rw [List.getElem?_set_ne h, wipe_get σ j vs]
      by_cases hj : j ∈ vs
      · rw [if_pos hj, if_pos (List.mem_cons_of_mem _ hj)]
      · rw [if_neg hj, if_neg (by simp only [List.mem_cons, not_or]; exact ⟨fun e => h e.symm, hj⟩)]
theorem wipeS_get (s : Sl) (j : Nat) : ∀ vs : List Nat, (wipeS s vs)[j]? = if j ∈ vs then (if j < s.length then some none else none) else s[j]?
  | [] => by rw [wipeS, if_neg (by simp)]
  | v :: vs => by
    rw [wipeS]
    by_cases h : v = j
    · subst h
      rw [if_pos (by simp)]
      by_cases hl : v < s.length
      · rw [List.getElem?_set_self (by rw [wipeS_len]; exact hl), if_pos hl]
      · rw [if_neg hl, List.getElem?_eq_none (by rw [List.length_set, wipeS_len]; omega)]
    · rw [List.getElem?_set_ne h, wipeS_get s j vs]
      by_cases hj : j ∈ vs
      · rw [if_pos hj, if_pos (List.mem_cons_of_mem _ hj)]
      · rw [if_neg hj, if_neg (by simp only [List.mem_cons, not_or]; exact ⟨fun e => h e.symm, hj⟩)]
theorem SRep.wipe {K : KF} {w : Wd} {sl : Sl} {σ : L2.St} (hs : SRep K w sl σ) (vs : List Nat) : SRep K w (wipeS sl vs) (L2.wipe σ vs) where
  len := by rw [wipeS_len, wipe_length]; exact hs.len
  at' := fun i d h => by
    rw [wipeS_get] at h
    rw [wipe_get]
    by_cases hi : i ∈ vs
    · rw [if_pos hi] at h
      split at h <;> cases h
    · rw [if_neg hi] at h ⊢
      exact hs.at' i d h
theorem wipe_else {σ σ2 : L2.St} {vs js : List Nat} (h : Else js (wipe σ vs) σ2) (hj : ∀ j ∈ js, j ∈ vs) : wipe σ2 vs = wipe σ vs := by
  have hl : σ2.length = σ.length := h.1.trans (wipe_length σ vs)
  apply List.ext_getElem?
  intro j
  rw [wipe_get, wipe_get, hl]
  by_cases hv : j ∈ vs
  · rw [if_pos hv, if_pos hv]
  · rw [if_neg hv, if_neg hv, h.2 j fun z => hv (hj j z), wipe_get, if_neg hv]
/-! ### a list of ours, a dict of ours is written -/
class NoT (o : HO) : Prop where
  m : Mut o
theorem NoT.a {o : HO} [n : NoT o] (xs : List V) : o ≠ .tup xs := fun z => by
  have := n.m
  rw [z] at this
  exact this
theorem NoT.b {o : HO} [n : NoT o] (q : Obj) (xs : List V) : o ≠ .frz q (.tup xs) := fun z => by
  have := n.m
  rw [z] at this
  exact this
instance {xs : List V} : NoT (.lst xs) := ⟨trivial⟩
instance {xs : List (Key × V)} : NoT (.dK xs) := ⟨trivial⟩
instance {C dx : Addr} {fs : List (Str × V)} : NoT (.ins C dx fs) := ⟨trivial⟩
theorem poke_not {H : Hp} {p a : Addr} {old o u : HO} [n : NoT old] (hl : H p = some old) (h : H a = some u) (k : ¬ Mut u) : upd H p o a = some u := by
  rw [upd_ne fun z : a = p => by
    subst z
    rw [hl] at h
    cases h
    exact k n.m]
  exact h
section
variable {K : KF} {w : Wd} {p : Addr} {old o : HO} [NoT old]
theorem SqT.poke {a : Addr} {vs : List V} (hl : w.H p = some old) (h : SqT K w.H a vs) : SqT K (upd w.H p o) a vs := by
  rcases h with (h | ⟨ob, h⟩) | h
  · exact .inl (.inl (poke_not hl h (fun z => z)))
  · exact .inl (.inr ⟨ob, poke_not hl h (fun z => z)⟩)
  · exact .inr h
mutual
theorem RepP.poke (hp : ¬ w.Fz p) (hl : w.H p = some old) : ∀ (d : PyData) {v : V}, RepP K w.Fz w.H d v → RepP K w.Fz (upd w.H p o) d v
  | .none, _, h => h
  | .bool _, _, h => h
  | .int _, _, h => h
  | .str _, _, h => h
  | .list ds, _, ⟨a, vs, e, hr, hs⟩ => ⟨a, vs, e, by
      rcases hr with ⟨hf, hr⟩ | h
      · have ne : a ≠ p := fun z => hp (z ▸ hf)
        rcases hr with h | ⟨ob, h⟩
        · refine .inl ⟨hf, .inl ?_⟩
          rw [upd_ne ne]
          exact h
        · refine .inl ⟨hf, .inr ⟨ob, ?_⟩⟩
          rw [upd_ne ne]
          exact h
      · exact .inr h, RepPs.poke hp hl ds hs⟩
  | .tuple ds, _, ⟨a, vs, e, hr, hs⟩ => ⟨a, vs, e, SqT.poke hl hr, RepPs.poke hp hl ds hs⟩
  | .dict ds, _, ⟨a, vs, e, hf, hr, hs⟩ => ⟨a, vs, e, hf, by
      have ne : a ≠ p := fun z => hp (z ▸ hf)
      rw [upd_ne ne]
      exact hr, RepKs.poke hp hl ds hs⟩
theorem RepPs.poke (hp : ¬ w.Fz p) (hl : w.H p = some old) : ∀ (ds : List PyData) {vs : List V}, RepPs K w.Fz w.H ds vs → RepPs K w.Fz (upd w.H p o) ds vs
  | [], _, h => h
  | d :: ds, _, ⟨v, r, e, h1, h2⟩ => ⟨v, r, e, RepP.poke hp hl d h1, RepPs.poke hp hl ds h2⟩
theorem RepKs.poke (hp : ¬ w.Fz p) (hl : w.H p = some old) : ∀ (ds : List (PyData × PyData)) {vs : List (Key × V)}, RepKs K w.Fz w.H ds vs → RepKs K w.Fz (upd w.H p o) ds vs
  | [], _, h => h
  | (_, d) :: ds, _, ⟨q, v, r, e, hk, h1, h2⟩ => ⟨q, v, r, e, hk, RepP.poke hp hl d h1, RepKs.poke hp hl ds h2⟩
end
mutual
theorem RepD.poke {w' : Wd} (hp : ¬ w.Fz p) (hl : w.H p = some old) (eF : w'.Fz = w.Fz) (eH : w'.H = upd w.H p o) (eI : w'.ι = w.ι) : ∀ (d : D) {v : V}, RepD K w d v → RepD K w' d v
  | .v d, _, h => by
    show RepP K w'.Fz w'.H d _
    rw [eF, eH]
    exact RepP.poke hp hl d h
  | .ref n, _, ⟨a, e, r⟩ => ⟨a, by rw [eI]; exact e, r⟩
  | .mix ds, _, ⟨a, vs, e, hr, hs⟩ => ⟨a, vs, e, by rw [eH]; exact SqT.poke hl hr, RepDs.poke hp hl eF eH eI ds hs⟩
  | .exc c fs, _, ⟨a, C, da, e, hc, ha, hf⟩ => ⟨a, C, da, e, hc, by rw [eH]; exact poke_not hl ha (fun z => z), hf.imp id fun ⟨d, fv, e1, h1, h2, h3⟩ => ⟨d, fv, e1, by rw [eH]; exact poke_not hl h1 (fun z => z), h2, by rw [eF, eH]; exact RepPs.poke hp hl _ h3⟩⟩
theorem RepDs.poke {w' : Wd} (hp : ¬ w.Fz p) (hl : w.H p = some old) (eF : w'.Fz = w.Fz) (eH : w'.H = upd w.H p o) (eI : w'.ι = w.ι) : ∀ (ds : List D) {vs : List V}, RepDs K w ds vs → RepDs K w' ds vs
  | [], _, h => h
  | d :: ds, _, ⟨v, r, e, h1, h2⟩ => ⟨v, r, e, RepD.poke hp hl eF eH eI d h1, RepDs.poke hp hl eF eH eI ds h2⟩
end
theorem Wd.poke_ok (ok : w.Ok K) (hp : ¬ w.Fz p) (hi : p ∉ w.ι) (hl : w.H p = some old) : (w.newT p o).Ok K where
  nd := ok.nd
  len := ok.len
  cell := fun n a c ha hc => by
    have := ok.cell n a c ha hc
    have ne : a ≠ p := fun z => hi (z ▸ List.mem_of_getElem? ha)
    have k : ∀ u, w.H a = some u → (w.newT p o).H a = some u := fun u e => by
      show upd w.H p o a = _
      rw [upd_ne ne]
      exact e
    cases c with
    | lst ds =>
      obtain ⟨vs, e, r⟩ := this
      exact ⟨vs, k _ e, RepDs.poke (w' := w.newT p o) hp hl rfl rfl rfl ds r⟩
    | dct ds =>
      obtain ⟨vs, e, n, r⟩ := this
      exact ⟨vs, k _ e, n, RepDs.poke (w' := w.newT p o) hp hl rfl rfl rfl _ r⟩
    | ins c ds =>
      obtain ⟨C, dx, fv, hc, e, hd, n, r⟩ := this
      exact ⟨C, dx, fv, hc, k _ e, poke_not hl hd (fun z => z), n, RepDs.poke (w' := w.newT p o) hp hl rfl rfl rfl _ r⟩
  apart := ok.apart
  there := fun a h => by
    show upd w.H p o a ≠ none
    rw [upd_ne fun z : a = p => hp (z ▸ h)]
    exact ok.there a h
end
theorem RepDs.app {K : KF} {w : Wd} : ∀ {ds es : List D} {vs us : List V}, RepDs K w ds vs → RepDs K w es us → RepDs K w (ds ++ es) (vs ++ us)
  | [], _, _, _, h, h' => by
    rw [show _ = [] from h]
    exact h'
  | d :: ds, _, _, _, ⟨v, r, e, h1, h2⟩, h' => ⟨v, r ++ _, by rw [e]; rfl, h1, RepDs.app h2 h'⟩
mutual
theorem RepD.fz {K : KF} {w w' : Wd} (f : ∀ a, w.Fz a → w'.Fz a) (eH : w'.H = w.H) (eI : w'.ι = w.ι) : ∀ (d : D) {v : V}, RepD K w d v → RepD K w' d v
  | .v d, _, h => by
    show RepP K w'.Fz w'.H d _
    rw [eH]
    exact RepP.same (fun _ _ z => z) f d h
  | .ref n, _, ⟨a, e, r⟩ => ⟨a, by rw [eI]; exact e, r⟩
  | .mix ds, _, ⟨a, vs, e, hr, hs⟩ => ⟨a, vs, e, by rw [eH]; exact hr, RepDs.fz f eH eI ds hs⟩
  | .exc c fs, _, ⟨a, C, da, e, hc, ha, hf⟩ => ⟨a, C, da, e, hc, by rw [eH]; exact ha, hf.imp id fun ⟨d, fv, e1, h1, h2, h3⟩ => ⟨d, fv, e1, by rw [eH]; exact h1, h2, by rw [eH]; exact RepPs.same (fun _ _ z => z) f _ h3⟩⟩
theorem RepDs.fz {K : KF} {w w' : Wd} (f : ∀ a, w.Fz a → w'.Fz a) (eH : w'.H = w.H) (eI : w'.ι = w.ι) : ∀ (ds : List D) {vs : List V}, RepDs K w ds vs → RepDs K w' ds vs
  | [], _, h => h
  | d :: ds, _, ⟨v, r, e, h1, h2⟩ => ⟨v, r, e, RepD.fz f eH eI d h1, RepDs.fz f eH eI ds h2⟩
end
theorem CellOk.fz {K : KF} {w w' : Wd} (f : ∀ a, w.Fz a → w'.Fz a) (eH : w'.H = w.H) (eI : w'.ι = w.ι) {a : Addr} : ∀ {c : Cell}, CellOk K w a c → CellOk K w' a c
  | .lst _, ⟨vs, e, r⟩ => ⟨vs, by rw [eH]; exact e, RepDs.fz f eH eI _ r⟩
  | .dct _, ⟨ks, e, n, r⟩ => ⟨ks, by rw [eH]; exact e, n, RepDs.fz f eH eI _ r⟩
  | .ins _ _, ⟨C, dx, fv, hc, e, hd, n, r⟩ => ⟨C, dx, fv, hc, by rw [eH]; exact e, by rw [eH]; exact hd, n, RepDs.fz f eH eI _ r⟩
def tYes' : TM := fun _ h => some (.ok true h)
open Classical in
noncomputable def compL (gd : Option (Nat × List D)) (g : GM) (t : TM) (f : EM) : List D → Sl → Hs → Option (List D × Hs)
  | [], s, h => if gok gd h then some ([], h) else none
  | d :: r, s, h => if gok gd h then match g d s h with
      | some s1 => match t s1 h with
        | some (.ok b h1) => if b = true then match f s1 h1 with
            | some (.ok y h2) => match compL gd g t f r s h2 with
              | some (ys, h3) => some (y :: ys, h3)
              | none => none
            | _ => none
          else compL gd g t f r s h1
        | _ => none
      | none => none
    else none
noncomputable def eComp (it : IM) (g : GM) (t : TM) (f : EM) (vs : List Nat) : EM := fun s h => match it s h with
  | some (.ok items gd h1) => match compL gd g t f items (wipeS s vs) h1 with
    | some (ds, h2) => match unvs ds with
      | some ps => some (.ok (.v (.list ps)) h2)
      | none => none
    | none => none
  | some (.ex x h1) => some (.ex x h1)
  | none => none
def STs (X : Cx) (W : WX) (ifs : List Expr) (t : TM) : Prop := PTs X ifs (tIT X.K X.mg W t)
theorem PTs.mono' {X : Cx} {e : List Expr} {t t' : TT} (h : PTs X e t) (i : ∀ σ H Q, t' σ H Q → t σ H Q) : PTs X e t' := ⟨fun pins s σ H Q I q => h.run pins s σ H Q I (i σ H Q q)⟩
theorem sts_nil {X : Cx} {W : WX} : STs X W [] tYes' := PTs.mono' pts_nil fun σ H Q ⟨w, sl, eH, ok, hs, h⟩ => by
  subst eH
  exact h w (Wd.Le.refl w) ok rfl
theorem sts_one {X : Cx} {W : WX} {c : Expr} {t : TM} (h : ST X W c t) : STs X W [c] t := pts_one h
section
variable {X : Cx} {W : WX} {elt tg iter : Expr} {ifs : List Expr} {scope : Scope} {own : List (Str × Nat)} {js : List Nat} {it : IM} {g : GM} {t : TM} {f : EM} {pos : Pos}
theorem comp_of (hj : ∀ j ∈ js, j ∈ own.map (·.2)) (σ : L2.St) (H : Hp) (Q : VK) (h : tI X.K X.mg W (eComp it g t f (own.map (·.2))) σ H Q) :
    tLc (tII X.K X.mg W it) (tG X.K js g) (tIT X.K X.mg W0 t) (tI X.K X.mg W0 f) (own.map (·.2)) σ H Q := by
  obtain ⟨w, sl, rfl, ok, hs, h⟩ := h
  refine ⟨w, sl, rfl, ok, hs, ?_⟩
  unfold eComp at h
  unfold WpI
  cases ei : it sl w.h with
  | none => simp only [ei] at h; exact h.elim
  | some r =>
    cases r with
    | ex x h' => simp only [ei] at h; exact h
    | ok items gd h' =>
      simp only [ei] at h
      intro w1 J l1 ok1 eh1 T
      subst eh1
      cases ec : compL gd g t f items (wipeS sl (own.map (·.2))) w1.h with
      | none => simp only [ec] at h; exact h.elim
      | some r =>
        obtain ⟨ds, h2⟩ := r
        simp only [ec] at h
        cases eu : unvs ds with
        | none => simp only [eu] at h; exact h.elim
        | some ps =>
          simp only [eu] at h
          intro p hp
          have hsw := (hs.mono ok l1).wipe (own.map (·.2))
          have hpf : ¬ w1.Fz p := fun z => ok1.there p z hp
          have hpi : p ∉ w1.ι := fun z => by
            obtain ⟨us, e, _⟩ := ok1.tracked z
            rw [hp] at e
            cases e
          refine ⟨fun i m H => m = items.length - i ∧ i ≤ items.length ∧ ∃ (w2 : Wd) (acc : List V) (dacc ys : List D), w1.Le w2 ∧ w2.H = H ∧ w2.Ok X.K ∧ ¬ w2.Fz p ∧ p ∉ w2.ι ∧ w2.H p = some (.lst acc) ∧ RepDs X.K w2 dacc acc ∧ acc.length ≤ i ∧ dacc ++ ys = ds ∧
              compL gd g t f (items.drop i) (wipeS sl (own.map (·.2))) w2.h = some (ys, h2) ∧ SRep X.K w2 (wipeS sl (own.map (·.2))) (wipe σ (own.map (·.2))),
            ⟨items.length, by simp, Nat.zero_le _, w1.newT p (.lst []), [], [], ds, Wd.newT_le hp, rfl, Wd.newT_ok ok1 hp, hpf, hpi, upd_same, rfl, Nat.le_refl _, rfl, by rw [List.drop_zero]; exact ec, hsw.mono ok1 (Wd.newT_le hp)⟩, ?_⟩
          rintro i m H2 ⟨rfl, hi, w2, acc, dacc, ys, l2, rfl, ok2, hpf2, hpi2, hp2, hr2, hal, hd, hc2, hs2⟩
          by_cases hlt : i < items.length
          · rw [List.drop_eq_getElem_cons hlt, compL] at hc2
            split at hc2
            · rename_i hg2
              obtain ⟨hgo, hy⟩ := T.go i w2 l2 ok2 hg2 hlt
              refine .inr ⟨hgo, fun H' => ∃ (w2 : Wd) (acc : List V) (dacc ys : List D), w1.Le w2 ∧ w2.H = H' ∧ w2.Ok X.K ∧ ¬ w2.Fz p ∧ p ∉ w2.ι ∧ w2.H p = some (.lst acc) ∧ RepDs X.K w2 dacc acc ∧ acc.length ≤ i + 1 ∧ dacc ++ ys = ds ∧
                  compL gd g t f (items.drop (i + 1)) (wipeS sl (own.map (·.2))) w2.h = some (ys, h2) ∧ SRep X.K w2 (wipeS sl (own.map (·.2))) (wipe σ (own.map (·.2))), fun H' q => ⟨items.length - (i + 1), by omega, rfl, hlt, q⟩, fun x H' y => ?_⟩
              obtain ⟨w3, d, l3, ok3, eh3, rfl, ed, rd⟩ := hy x H' y
              rw [List.getElem?_eq_getElem hlt] at ed
              cases ed
              -- what a step keeps of p
              have stepP : ∀ {wa wb : Wd}, wa.Le wb → ¬ wa.Fz p → p ∉ wa.ι → wa.H p = some (.lst acc) → ¬ wb.Fz p ∧ p ∉ wb.ι ∧ wb.H p = some (.lst acc) := fun {wa wb} l a b c => by
                refine ⟨fun z => ?_, fun z => ?_, l.keep p _ c b⟩
                · rcases l.new p z with z | z
                  · exact a z
                  · rw [c] at z; cases z
                · obtain ⟨mm, em, hm⟩ := l.more
                  rw [em] at z
                  rcases List.mem_append.mp z with z | z
                  · exact b z
                  · rw [hm p z] at c; cases c
              obtain ⟨f3, i3, p3⟩ := stepP l3 hpf2 hpi2 hp2
              cases eg : g items[i] (wipeS sl (own.map (·.2))) w2.h with
              | none => simp only [eg] at hc2; cases hc2
              | some s1 =>
                simp only [eg] at hc2
                refine ⟨w3, wipeS sl (own.map (·.2)), s1, items[i], rfl, ok3, hs2.mono ok2 l3, rd, by rw [eh3]; exact eg, fun σ4 hs4 el4 => ⟨wipe_else el4 hj, ?_⟩⟩
                refine ⟨w3, s1, rfl, ok3, hs4, ?_⟩
                unfold WpT
                rw [eh3]
                cases et : t s1 w2.h with
                | none => simp only [et] at hc2; cases hc2
                | some r =>
                  cases r with
                  | ex x h5 => simp only [et] at hc2; cases hc2
                  | ok b h5 =>
                    simp only [et] at hc2
                    intro w5 l5 ok5 eh5
                    obtain ⟨f5, i5, p5⟩ := stepP l5 f3 i3 p3
                    cases b with
                    | false =>
                      rw [if_neg Bool.false_ne_true] at hc2 ⊢
                      exact ⟨w5, acc, dacc, ys, (l2.trans l3 ok2).trans l5 ok3, rfl, ok5, f5, i5, p5, RepDs.mono ok3 l5 _ (RepDs.mono ok2 l3 _ hr2), by omega, hd, by rw [eh5]; exact hc2, (hs2.mono ok2 l3).mono ok3 l5⟩
                    | true =>
                      rw [if_pos rfl] at hc2 ⊢
                      refine ⟨w5, s1, rfl, ok5, hs4.mono ok3 l5, ?_⟩
                      unfold WpE
                      rw [eh5]
                      cases ef : f s1 h5 with
                      | none => simp only [ef] at hc2; cases hc2
                      | some r =>
                        cases r with
                        | ex x h6 => simp only [ef] at hc2; cases hc2
                        | ok yd h6 =>
                          simp only [ef] at hc2
                          intro w6 v l6 ok6 eh6 r6
                          obtain ⟨f6, i6, p6⟩ := stepP l6 f5 i5 p5
                          cases er : compL gd g t f (items.drop (i + 1)) (wipeS sl (own.map (·.2))) h6 with
                          | none => simp only [er] at hc2; cases hc2
                          | some q =>
                            obtain ⟨zs, h7⟩ := q
                            simp only [er] at hc2
                            cases hc2
                            have hz : acc.length < sizeLine := by
                              have := T.len
                              omega
                            refine ⟨acc, p6, hz, w6.newT p (.lst (acc ++ [v])), acc ++ [v], dacc ++ [yd], zs, ?_, rfl, Wd.poke_ok ok6 f6 i6 p6, f6, i6, upd_same, ?_, by rw [List.length_append]; simp only [List.length_cons, List.length_nil]; omega, by rw [← hd, List.append_assoc]; rfl, by rw [← eh6] at er; exact er, ?_⟩
                            · have lq := ((l2.trans l3 ok2).trans l5 ok3).trans l6 ok5
                              refine ⟨lq.more, lq.up, lq.new, fun b o hb hi => ?_⟩
                              show upd w6.H p _ b = some o
                              rw [upd_ne (ne_of_none hb hp)]
                              exact lq.keep b o hb hi
                            · have h1 : RepDs X.K w6 dacc acc := RepDs.mono ok5 l6 _ (RepDs.mono ok3 l5 _ (RepDs.mono ok2 l3 _ hr2))
                              have h2 : RepDs X.K w6 (dacc ++ [yd]) (acc ++ [v]) := RepDs.app h1 ⟨v, [], rfl, r6, rfl⟩
                              exact RepDs.poke (w' := w6.newT p (.lst (acc ++ [v]))) f6 p6 rfl rfl rfl _ h2
                            · have hsl := ((hs2.mono ok2 l3).mono ok3 l5).mono ok5 l6
                              exact ⟨hsl.len, fun j dj hj' => let ⟨u, eu', ru⟩ := hsl.at' j dj hj'; ⟨u, eu', RepD.poke (w' := w6.newT p (.lst (acc ++ [v]))) f6 p6 rfl rfl rfl _ ru⟩⟩
            · cases hc2
          · have ei : i = items.length := by omega
            subst ei
            rw [List.drop_length, compL] at hc2
            split at hc2
            · rename_i hg2
              cases hc2
              rw [List.append_nil] at hd
              subst hd
              refine .inl ⟨T.stop _ w2 l2 ok2 hg2 (Nat.le_refl _) rfl, ?_⟩
              have lF : w1.Le { w2 with Fz := fun a => w2.Fz a ∨ a = p } := ⟨l2.more, fun a z => .inl (l2.up a z), fun a z => by
                rcases z with z | z
                · exact l2.new a z
                · subst z
                  exact .inr hp, l2.keep⟩
              have okF : ({ w2 with Fz := fun a => w2.Fz a ∨ a = p } : Wd).Ok X.K := ⟨ok2.nd, ok2.len, fun n a c ha hc => by
                have := ok2.cell n a c ha hc
                exact this.fz (w' := { w2 with Fz := fun a => w2.Fz a ∨ a = p }) (fun _ z => .inl z) rfl rfl, fun a z => by
                  rcases z with z | z
                  · exact ok2.apart a z
                  · subst z
                    exact hpi2, fun a z => by
                  rcases z with z | z
                  · exact ok2.there a z
                  · subst z
                    show w2.H a ≠ none
                    rw [hp2]
                    exact fun e => by cases e⟩
              exact h { w2 with Fz := fun a => w2.Fz a ∨ a = p } (.ref p) (l1.trans lF ok1) okF rfl ⟨p, acc, rfl, .inl ⟨.inr rfl, .inl hp2⟩, RepPs.same (Fz := w2.Fz) (fun _ _ z => z) (fun _ z => .inl z) ps (unvs_rep eu hr2)⟩
            · cases hc2
end
end Vl
set_option maxHeartbeats 4000000
namespace Vl
open PySem PySem.Spec PyProof.Rows L2
section
variable {X : Cx} {W : WX} {elt tg iter : Expr} {ifs : List Expr} {scope : Scope} {own : List (Str × Nat)} {js : List Nat} {it : IM} {g : GM} {t : TM} {f : EM} {pos : Pos}
theorem se_comp (hc : X.calm = true) (hN : X.N.Nodup) (hi : SI X W tg iter it) (ok : BlkOk X.N X.env.scope scope own)
    (hg : ∀ (s : Shared) (H : Hp) (C : Addr) (cl : List (Str × Addr)) (fp : List Addr), SG (X.blk s H scope (compEnvC scope cl C X.env) fp) tg js g) (ht : ∀ (s : Shared) (H : Hp) (C : Addr) (cl : List (Str × Addr)) (fp : List Addr), STs (X.blk s H scope (compEnvC scope cl C X.env) fp) W0 ifs t)
    (he : ∀ (s : Shared) (H : Hp) (C : Addr) (cl : List (Str × Addr)) (fp : List Addr), SE (X.blk s H scope (compEnvC scope cl C X.env) fp) W0 elt f) (hj : ∀ j ∈ js, j ∈ own.map (·.2) := by decide) (hs : ∀ x, foldedSetIterable iter X.env x = pure x := by intro _; rfl) :
    SE X W (.ListComp elt [⟨tg, iter, ifs, 0⟩] scope pos) (eComp it g t f (own.map (·.2))) :=
  PE.mono' (pe_lc (g := tG X.K js g) (tt := tIT X.K X.mg W0 t) (te := tI X.K X.mg W0 f) hc hN hi ok hg ht he hs) fun σ H Q h => comp_of hj σ H Q h
theorem ss_setLc {i : Nat} {y : Str} {py spos : Pos} (hc : X.calm = true) (hN : X.N.Nodup) (hy : X.N[i]? = some y) (hyl : X.env.scope.names.lookup y = some .local)
    (hsw : swapsWith (.ListComp elt [⟨tg, iter, ifs, 0⟩] scope pos) (some (.Name y py)) spos.line X.env = pure true) (hi : SI X W tg iter it) (ok : BlkOk X.N X.env.scope scope own)
    (hg : ∀ (s : Shared) (H : Hp) (C : Addr) (cl : List (Str × Addr)) (fp : List Addr), SG (X.blk s H scope (compEnvC scope cl C X.env) fp) tg js g) (ht : ∀ (s : Shared) (H : Hp) (C : Addr) (cl : List (Str × Addr)) (fp : List Addr), STs (X.blk s H scope (compEnvC scope cl C X.env) fp) W0 ifs t)
    (he : ∀ (s : Shared) (H : Hp) (C : Addr) (cl : List (Str × Addr)) (fp : List Addr), SE (X.blk s H scope (compEnvC scope cl C X.env) fp) W0 elt f) (hj : ∀ j ∈ js, j ∈ own.map (·.2) := by decide) (hs : ∀ x, foldedSetIterable iter X.env x = pure x := by intro _; rfl) :
    SS X W (.Assign [.Name y py] (.ListComp elt [⟨tg, iter, ifs, 0⟩] scope pos) spos) (sAsg (eComp it g t f (own.map (·.2))) (gNm i)) :=
  PS.mono' (ps_setLc (g := tG X.K js g) (tt := tIT X.K X.mg W0 t) (te := tI X.K X.mg W0 f) hc hN hy hyl hsw hi ok hg ht he hs) fun E σ H ⟨w, sl, eH, ok', hs', h⟩ => by
    subst eH
    refine comp_of hj σ w.H _ ?_
    exact tIS_bind ok' hs' h fun d v w1 l1 ok1 hs1 r1 h1 => h1 w1 _ (Wd.Le.refl w1) ok1 rfl (hs1.set i r1)
end

/-! ## defs -/
inductive FR where
  | rt (d : D) (h : Hs)
  | ex (x : Ex) (h : Hs)
abbrev Fn := List D → Hs → Option FR
def WpF (K : KF) (mg : Str → Option Value) (r : Option FR) (w : Wd) (Q : VK) (E : XK) : Prop := match r with
  | some (.rt d h') => ∀ w' v, w.Le w' → w'.Ok K → w'.h = h' → RepD K w' d v → Q v w'.H
  | some (.ex x h') => ∀ w' cls da, w.Le w' → w'.Ok K → w'.h = h' → ExRep K mg w' x cls da → E cls da w'.H
  | none => False
def spF (K : KF) (mg : Str → Option Value) (n : Nat) (F : Fn) : Sp := fun vs H Q E => ∃ (w : Wd) (ds : List D), w.H = H ∧ w.Ok K ∧ RepDs K w ds vs ∧ ds.length = n ∧ WpF K mg (F ds w.h) w Q E
/-- a def with this many names and this body -/
def mkFn (n : Nat) (b : SM) : Fn := fun ds h => match b (ds.map some ++ List.replicate (n - ds.length) none) h with
  | some (.rt d h') => some (.rt d h')
  | some (.nx _ h') => some (.rt (.v .none) h')
  | some (.ex _ x h') => some (.ex x h')
  | _ => none
theorem srep_start {K : KF} {w : Wd} {N : List Str} {ds : List D} {vs : List V} (r : RepDs K w ds vs) : SRep K w (ds.map some ++ List.replicate (N.length - ds.length) none) (L2.start N vs) where
  len := by
    unfold L2.start
    rw [List.length_append, List.length_append, List.length_map, List.length_map, List.length_replicate, List.length_replicate, r.len]
  at' := fun i d h => by
    unfold L2.start
    by_cases hi : i < ds.length
    · rw [List.getElem?_append_left (by rw [List.length_map]; exact hi), List.getElem?_map] at h
      rw [List.getElem?_append_left (by rw [List.length_map, r.len]; exact hi), List.getElem?_map]
      cases e : ds[i]? with
      | none => rw [e] at h; cases h
      | some d' =>
        rw [e] at h
        cases h
        obtain ⟨v, ev, rv⟩ := RepDs.get r e
        exact ⟨v, by rw [ev]; rfl, rv⟩
    · rw [List.getElem?_append_right (by rw [List.length_map]; omega), List.getElem?_replicate] at h
      split at h <;> cases h
/-! ## calls -/
mutual
/-- no list in it -/
def noL : PyData → Bool
  | .list _ => false
  | .tuple ds => noLs ds
  | .dict _ => false
  | _ => true
def noLs : List PyData → Bool
  | [] => true
  | d :: ds => noL d && noLs ds
end
mutual
theorem RepP.noL {K : KF} {Fz Fz' : Addr → Prop} {H : Hp} : ∀ (d : PyData) {v : V}, noL d = true → RepP K Fz H d v → RepP K Fz' H d v
  | .none, _, _, h => h
  | .bool _, _, _, h => h
  | .int _, _, _, h => h
  | .str _, _, _, h => h
  | .list ds, _, n, _ => by cases n
  | .tuple ds, _, n, ⟨a, vs, e, hr, hs⟩ => ⟨a, vs, e, hr, RepPs.noL ds n hs⟩
  | .dict _, _, n, _ => by cases n
theorem RepPs.noL {K : KF} {Fz Fz' : Addr → Prop} {H : Hp} : ∀ (ds : List PyData) {vs : List V}, noLs ds = true → RepPs K Fz H ds vs → RepPs K Fz' H ds vs
  | [], _, _, h => h
  | d :: ds, _, n, ⟨v, r, e, h1, h2⟩ => by
    rw [noLs, Bool.and_eq_true] at n
    exact ⟨v, r, e, RepP.noL d n.1 h1, RepPs.noL ds n.2 h2⟩
end
/-- what a call tells, its cells read off; b: what was handed in had cells -/
def callR (F : Fn) (ps : List PyData) (b : Bool) (h : Hs) : Option ER := match F (ps.map .v) [] with
  | some (.rt d h') => match frz h' dep d with
    | some p => if (b && !noL p) = true then none else some (.ok (.v p) h)
    | none => none
  | some (.ex x h') => match frzs h' (dep + 1) (x.fs.map (·.2)) with
    | some qs => if (b && !noLs qs) = true then none else some (.ex ⟨x.c, (x.fs.map (·.1)).zip (qs.map .v)⟩ h)
    | none => none
  | none => none
def eCall (F : Fn) (a : AM) : EM := eA a fun ds _ h => match unvs ds with
  | some ps => callR F ps false h
  | none => match frzs h (dep + 1) ds with
    | some ps => callR F ps true h
    | none => none
/-- the callee's world -/
def Wd.sub (w : Wd) (G : Addr → Prop) : Wd := ⟨[], G, [], w.H⟩
/-- the caller's world behind the call -/
def Wd.back (w w' : Wd) : Wd := ⟨w.ι, fun a => w.Fz a ∨ (w.H a = none ∧ (w'.Fz a ∨ a ∈ w'.ι)), w.h, w'.H⟩
section
variable {K : KF} {w w' : Wd} {G : Addr → Prop}
theorem Wd.sub_ok (hG : ∀ a, G a → w.H a ≠ none) : (w.sub G).Ok K := ⟨List.nodup_nil, rfl, fun n a c h => (by simp [Wd.sub] at h), fun _ _ z => (by cases z), hG⟩
theorem Wd.back_le (l : (w.sub G).Le w') : w.Le (w.back w') := by
  refine ⟨⟨[], by simp [Wd.back], by simp⟩, fun _ h => .inl h, fun a h => ?_, fun b o h _ => l.keep b o h (by simp [Wd.sub])⟩
  rcases h with h | h
  · exact .inl h
  · exact .inr h.1
theorem Wd.back_ok (ok : w.Ok K) (l : (w.sub G).Le w') (ok' : w'.Ok K) : (w.back w').Ok K where
  nd := ok.nd
  len := ok.len
  cell := fun n a c ha hc => by
    have le : w.Le (w.back w') := Wd.back_le l
    have := ok.cell n a c ha hc
    exact this.mono ok le (fun o e => l.keep a _ e (by simp [Wd.sub])) fun r => RepDs.mono ok le _ r
  apart := fun a h => by
    rcases h with h | h
    · exact ok.apart a h
    · intro z
      obtain ⟨us, e, _⟩ := ok.tracked z
      rw [h.1] at e
      cases e
  there := fun a h => by
    show w'.H a ≠ none
    rcases h with h | h
    · cases q : w.H a with
      | none => exact absurd q (ok.there a h)
      | some o =>
        rw [l.keep a o q (by simp [Wd.sub])]
        exact fun z => by cases z
    · rcases h.2 with z | z
      · exact ok'.there a z
      · obtain ⟨us, e, _⟩ := ok'.tracked z
        rw [e]
        exact fun z => by cases z
/-- what the callee tells, in the caller's world -/
theorem back_rep {b : Bool} (l : (w.sub G).Le w') (ok' : w'.Ok K) (hG : b = false → ∀ a, G a → w.Fz a) {d : D} {p : PyData} {v : V} (r : RepD K w' d v) (e : frz w'.h dep d = some p) (hb : ¬ (b && !noL p) = true) : RepP K (w.back w').Fz (w.back w').H p v := by
  have h1 := frz_rep ok' (G := fun a => w'.Fz a ∨ a ∈ w'.ι) (fun _ z => .inl z) (fun _ z => .inr z) dep r e
  cases b with
  | true =>
    have hn : noL p = true := by
      cases q : noL p with
      | true => rfl
      | false => rw [q] at hb; exact absurd rfl hb
    exact RepP.noL p hn h1
  | false =>
    refine RepP.same (fun _ _ z => z) (fun a z => ?_) p h1
    rcases z with z | z
    · rcases l.new a z with q | q
      · exact .inl (hG rfl a q)
      · exact .inr ⟨q, .inl z⟩
    · obtain ⟨m, em, hm⟩ := l.more
      rw [em] at z
      exact .inr ⟨hm a (by simpa [Wd.sub] using z), .inr (by rw [em]; exact z)⟩
theorem backs_rep {b : Bool} (l : (w.sub G).Le w') (ok' : w'.Ok K) (hG : b = false → ∀ a, G a → w.Fz a) {ds : List D} {ps : List PyData} {vs : List V} (r : RepDs K w' ds vs) (e : frzs w'.h (dep + 1) ds = some ps) (hb : ¬ (b && !noLs ps) = true) : RepPs K (w.back w').Fz (w.back w').H ps vs := by
  have h1 := frzs_rep ok' (G := fun a => w'.Fz a ∨ a ∈ w'.ι) (fun _ z => .inl z) (fun _ z => .inr z) (dep + 1) r e
  cases b with
  | true =>
    have hn : noLs ps = true := by
      cases q : noLs ps with
      | true => rfl
      | false => rw [q] at hb; exact absurd rfl hb
    exact RepPs.noL ps hn h1
  | false =>
    refine RepPs.same (fun _ _ z => z) (fun a z => ?_) ps h1
    rcases z with z | z
    · rcases l.new a z with q | q
      · exact .inl (hG rfl a q)
      · exact .inr ⟨q, .inl z⟩
    · obtain ⟨m, em, hm⟩ := l.more
      rw [em] at z
      exact .inr ⟨hm a (by simpa [Wd.sub] using z), .inr (by rw [em]; exact z)⟩
end
theorem zip_fst {α β : Type} : ∀ {xs : List α} {ys : List β}, xs.length = ys.length → (xs.zip ys).map (·.1) = xs
  | [], _, _ => by simp
  | x :: xs, [], h => by simp at h
  | x :: xs, y :: ys, h => by
    rw [List.zip_cons_cons, List.map_cons, zip_fst (by simpa using h)]
theorem zip_snd {α β : Type} : ∀ {xs : List α} {ys : List β}, xs.length = ys.length → (xs.zip ys).map (·.2) = ys
  | [], [], _ => rfl
  | [], _ :: _, h => by simp at h
  | x :: xs, [], h => by simp at h
  | x :: xs, y :: ys, h => by
    rw [List.zip_cons_cons, List.map_cons, zip_snd (by simpa using h)]
theorem callR_of {K : KF} {mg : Str → Option Value} {W : WX} {σ : L2.St} {w : Wd} {F : Fn} {ps : List PyData} {b : Bool} {G : Addr → Prop} {vs : List V} {Q : VK} (ok : w.Ok K) (hGt : ∀ a, G a → w.H a ≠ none) (hG : b = false → ∀ a, G a → w.Fz a)
    (r : RepPs K G w.H ps vs) (h : WpE K mg W σ (callR F ps b w.h) w fun _ v w' => Q v w'.H) : spF K mg ps.length F vs w.H Q fun cls d H => W cls d σ H := by
  refine ⟨w.sub G, ps.map .v, rfl, Wd.sub_ok hGt, RepDs.ofP r, by rw [List.length_map], ?_⟩
  unfold callR at h
  unfold WpF
  show match F (ps.map .v) [] with
    | some (.rt d h') => _
    | some (.ex x h') => _
    | none => False
  cases e : F (ps.map .v) [] with
  | none => simp only [e] at h; exact h
  | some q =>
    cases q with
    | rt d h' =>
      simp only [e] at h
      intro w' v l ok' eh r'
      subst eh
      cases ef : frz w'.h dep d with
      | none => simp only [ef] at h; exact h.elim
      | some p =>
        simp only [ef] at h
        split at h
        · exact h.elim
        · rename_i hb
          exact h (w.back w') v (Wd.back_le l) (Wd.back_ok ok l ok') rfl (back_rep l ok' hG r' ef hb)
    | ex x h' =>
      simp only [e] at h
      intro w' cls da l ok' eh r'
      subst eh
      cases ef : frzs w'.h (dep + 1) (x.fs.map (·.2)) with
      | none => simp only [ef] at h; exact h.elim
      | some qs =>
        simp only [ef] at h
        split at h
        · exact h.elim
        · rename_i hb
          refine h (w.back w') cls da (Wd.back_le l) (Wd.back_ok ok l ok') rfl ?_
          obtain ⟨C, hm, hcls, hx⟩ := r'
          refine ⟨C, hm, hcls, ?_⟩
          rcases hx with ⟨h1, h2⟩ | ⟨d, fv, h1, h2, h3, h4⟩
          · rw [h1] at ef
            cases ef
            exact .inl ⟨by rw [h1]; rfl, h2⟩
          · have hq := backs_rep l ok' hG h3 ef hb
            have hl : (x.fs.map (·.1)).length = (qs.map D.v).length := by
              have e1 := h3.len
              have e2 := hq.len
              rw [List.length_map, List.length_map] at e1
              rw [List.length_map, List.length_map, ← e2, List.length_map, e1]
            refine .inr ⟨d, fv, h1, h2, ?_, ?_⟩
            · rw [zip_snd hl]
              exact RepDs.ofP hq
            · rw [zip_fst hl]
              exact h4
theorem unvs_len : ∀ {ds : List D} {ps : List PyData}, unvs ds = some ps → ps.length = ds.length
  | [], _, e => by
    cases e
    rfl
  | d :: ds, ps, e => by
    unfold unvs at e
    split at e
    · rename_i p ps' h1 h2
      cases e
      rw [List.length_cons, List.length_cons, unvs_len h2]
    · cases e
section
variable {X : Cx} {W : WX} {e : Expr} {es : List Expr} {a : AM} {F : Fn} {f : Addr} {fd : FuncData} {ps : List Str} {k : Nat} {x : Str} {p pos : Pos}
theorem call_args {σ : L2.St} {Q : VK} {w : Wd} {sl : Sl} (hl : (e :: es).length = ps.length) (hal : ∀ s h ds h', a s h = some (.ok ds h') → ds.length = (e :: es).length) (ok : w.Ok X.K) (hs : SRep X.K w sl σ) (h : WpE X.K X.mg W σ (eCall F a sl w.h) w fun _ v w' => Q v w'.H) :
    tCallS (spF X.K X.mg ps.length F) (WE W) (tIA X.K X.mg W a) σ w.H Q := by
  refine ⟨w, sl, rfl, ok, hs, ?_⟩
  unfold eCall eA at h
  unfold WpA
  cases ea : a sl w.h with
  | none => simp only [ea] at h; exact h
  | some r =>
    cases r with
    | ex x h' => simp only [ea] at h; exact h
    | ok ds h' =>
      simp only [ea] at h
      intro w1 vs l1 ok1 eh1 r1
      subst eh1
      have hlen := hal _ _ _ _ ea
      cases eu : unvs ds with
      | some qs =>
        simp only [eu] at h
        have := callR_of ok1 (G := w1.Fz) (b := false) ok1.there (fun _ _ z => z) (unvs_rep eu r1) (WpE.le h l1 ok1)
        rw [unvs_len eu, hlen, hl] at this
        exact this
      | none =>
        simp only [eu] at h
        cases ef : frzs w1.h (dep + 1) ds with
        | none => simp only [ef] at h; exact h.elim
        | some qs =>
          simp only [ef] at h
          have hq := frzs_rep ok1 (G := fun a => w1.Fz a ∨ a ∈ w1.ι) (fun _ z => .inl z) (fun _ z => .inr z) (dep + 1) r1 ef
          have := callR_of ok1 (G := fun a => w1.Fz a ∨ a ∈ w1.ι) (b := true) (fun a z => by
            rcases z with z | z
            · exact ok1.there a z
            · obtain ⟨us, e, _⟩ := ok1.tracked z
              rw [e]
              exact fun z => by cases z) (fun z => by cases z) hq (WpE.le h l1 ok1)
          have e1 := hq.len
          have e2 := r1.len
          rw [show qs.length = ps.length by rw [← e1, e2, hlen, hl]] at this
          exact this
end
end Vl
set_option maxHeartbeats 4000000
namespace Vl
open PySem PySem.Spec PyProof.Rows L2

/-! ## cells -/
def Wd.newG (w : Wd) (p : Addr) (c : Cell) (o : HO) : Wd := ⟨w.ι ++ [p], w.Fz, w.h ++ [c], upd w.H p o⟩
def Wd.setG (w : Wd) (n : Nat) (a : Addr) (c : Cell) (o : HO) : Wd := ⟨w.ι, w.Fz, w.h.set n c, upd w.H a o⟩
abbrev Wd.newC (w : Wd) (p : Addr) (ds : List D) (vs : List V) : Wd := w.newG p (.lst ds) (.lst vs)
abbrev Wd.setC (w : Wd) (n : Nat) (a : Addr) (ds : List D) (vs : List V) : Wd := w.setG n a (.lst ds) (.lst vs)
section
variable {K : KF} {w : Wd} {p a : Addr} {n : Nat} {ds : List D} {vs : List V} {c : Cell} {o : HO}
theorem Wd.newG_le (hp : w.H p = none) : w.Le (w.newG p c o) :=
  ⟨⟨[p], rfl, fun a h => by rw [List.mem_singleton.mp h]; exact hp⟩, fun _ h => h, fun _ h => .inl h, fun b u h _ => by
    show upd w.H p _ b = some u
    rw [upd_ne (ne_of_none h hp)]
    exact h⟩
theorem Wd.newG_ok (ok : w.Ok K) (hp : w.H p = none) (r : CellOk K (w.newG p c o) p c) : (w.newG p c o).Ok K where
  nd := List.nodup_append.mpr ⟨ok.nd, by simp, fun a h b hb e => by
    rw [List.mem_singleton.mp hb] at e
    subst e
    obtain ⟨us, e, _⟩ := ok.tracked h
    rw [hp] at e
    cases e⟩
  len := by
    show (w.ι ++ [p]).length = (w.h ++ [c]).length
    rw [List.length_append, List.length_append, ok.len]
    rfl
  cell := fun n a c' ha hc => by
    have le : w.Le (w.newG p c o) := Wd.newG_le hp
    have ha' : (w.ι ++ [p])[n]? = some a := ha
    have hc' : (w.h ++ [c])[n]? = some c' := hc
    by_cases hn : n < w.ι.length
    · rw [List.getElem?_append_left hn] at ha'
      rw [List.getElem?_append_left (by rw [← ok.len]; exact hn)] at hc'
      exact (ok.cell n a c' ha' hc').mono ok le (fun u e => by
        show upd w.H p _ a = _
        rw [upd_ne (ne_of_none e hp)]
        exact e) fun r => RepDs.mono ok le _ r
    · rw [List.getElem?_append_right (by omega)] at ha'
      rw [List.getElem?_append_right (by rw [← ok.len]; omega), ← ok.len] at hc'
      cases q : n - w.ι.length with
      | zero =>
        rw [q] at ha' hc'
        cases ha'
        cases hc'
        exact r
      | succ k => rw [q] at ha'; simp at ha'
  apart := fun a h z => by
    rcases List.mem_append.mp (show a ∈ w.ι ++ [p] from z) with z | z
    · exact ok.apart a h z
    · rw [List.mem_singleton.mp z] at h
      exact ok.there p h hp
  there := fun a h => by
    show upd w.H p _ a ≠ none
    by_cases e : a = p
    · subst e
      rw [upd_same]
      exact fun z => by cases z
    · rw [upd_ne e]
      exact ok.there a h
theorem Wd.newG_rep (ok : w.Ok K) : RepD K (w.newG p c o) (.ref w.h.length) (.ref p) :=
  ⟨p, by
    show (w.ι ++ [p])[w.h.length]? = some p
    rw [← ok.len, List.getElem?_append_right (Nat.le_refl _), Nat.sub_self]
    rfl, rfl⟩
theorem Wd.setG_le (ha : w.ι[n]? = some a) : w.Le (w.setG n a c o) :=
  ⟨⟨[], by simp [Wd.setG], by simp⟩, fun _ h => h, fun _ h => .inl h, fun b u h hb => by
    show upd w.H a _ b = some u
    rw [upd_ne fun e : b = a => hb (e ▸ List.mem_of_getElem? ha)]
    exact h⟩
theorem nodup_get {l : List Addr} (nd : l.Nodup) {i j : Nat} {x : Addr} (h1 : l[i]? = some x) (h2 : l[j]? = some x) : i = j := by
  obtain ⟨a, e1⟩ := List.getElem?_eq_some_iff.mp h1
  obtain ⟨b, e2⟩ := List.getElem?_eq_some_iff.mp h2
  exact (List.getElem_inj nd).mp (e1.trans e2.symm)
theorem Wd.setG_ok (ok : w.Ok K) (ha : w.ι[n]? = some a) (r : CellOk K (w.setG n a c o) a c) : (w.setG n a c o).Ok K where
  nd := ok.nd
  len := by
    show w.ι.length = (w.h.set n _).length
    rw [List.length_set, ok.len]
  cell := fun m b c' hb hc => by
    have le : w.Le (w.setG n a c o) := Wd.setG_le ha
    have hc' : (w.h.set n c)[m]? = some c' := hc
    by_cases hm : n = m
    · subst hm
      have hb' : w.ι[n]? = some b := hb
      rw [ha] at hb'
      cases hb'
      have hl : n < w.h.length := by rw [← ok.len]; exact (List.getElem?_eq_some_iff.mp ha).1
      rw [List.getElem?_set_self hl] at hc'
      cases hc'
      exact r
    · rw [List.getElem?_set_ne hm] at hc'
      exact (ok.cell m b c' hb hc').mono ok le (fun u e => by
        show upd w.H a _ b = _
        rw [upd_ne fun e : b = a => hm (nodup_get ok.nd ha (e ▸ hb))]
        exact e) fun r => RepDs.mono ok le _ r
  apart := ok.apart
  there := fun b h => by
    show upd w.H a _ b ≠ none
    rw [upd_ne fun e : b = a => ok.apart b h (e ▸ List.mem_of_getElem? ha)]
    exact ok.there b h
theorem Wd.newC_le (hp : w.H p = none) : w.Le (w.newC p ds vs) := Wd.newG_le hp
theorem Wd.newC_ok (ok : w.Ok K) (hp : w.H p = none) (r : RepDs K w ds vs) : (w.newC p ds vs).Ok K := Wd.newG_ok ok hp ⟨vs, upd_same, RepDs.mono ok (Wd.newG_le hp) ds r⟩
theorem Wd.newC_rep (ok : w.Ok K) : RepD K (w.newC p ds vs) (.ref w.h.length) (.ref p) := Wd.newG_rep ok
theorem Wd.setC_le (ha : w.ι[n]? = some a) : w.Le (w.setC n a ds vs) := Wd.setG_le ha
theorem Wd.setC_ok (ok : w.Ok K) (ha : w.ι[n]? = some a) (r : RepDs K w ds vs) : (w.setC n a ds vs).Ok K := Wd.setG_ok ok ha ⟨vs, upd_same, RepDs.mono ok (Wd.setG_le ha) ds r⟩
end
/-- a list display that is to be changed -/
def eLstN (a : AM) : EM := eA a fun ds _ h => if ds.length ≤ 1000 then some (.ok (.ref h.length) (h ++ [.lst ds])) else none
section
variable {X : Cx} {W : WX} {es : List Expr} {g : AM} {pos : Pos}
theorem se_lstN (h : SA X W es g) : SE X W (.List es pos) (eLstN g) := PE.mono' (pe_lst h) fun σ H Q ⟨w, sl, eH, ok, hs, h⟩ => by
  subst eH
  refine tIA_bind ok hs h fun ds vs w1 l1 ok1 hs1 r1 h1 => ?_
  split at h1
  · rename_i hl
    exact ⟨by rw [r1.len]; exact k_line hl, fun p hp => h1 (w1.newC p ds vs) (.ref p) (Wd.newC_le hp) (Wd.newC_ok ok1 hp r1) rfl (Wd.newC_rep ok1)⟩
  · exact h1.elim
end

/-! ## methods of built-in types -/
def After2 (K : KF) (w : Wd) (d : D) (h' : Hs) (Q : VK) : Prop := ∀ w' v, w.Le w' → w'.Ok K → w'.h = h' → RepD K w' d v → Q v w'.H
theorem After2.here {K : KF} {w : Wd} {d : D} {Q : VK} (h : After2 K w d w.h Q) (ok : w.Ok K) {v : V} (r : RepD K w d v) : Q v w.H := h w v (Wd.Le.refl w) ok rfl r
def MtD (K : KF) (r : V → List V → Hp → VK → Prop) (g : D → List D → Hs → Option (D × Hs)) : Prop :=
  ∀ (w : Wd) (x : V) (xs : List V) (dx : D) (ds : List D) (dz : D) (h' : Hs) (Q : VK), w.Ok K → RepD K w dx x → RepDs K w ds xs → g dx ds w.h = some (dz, h') → After2 K w dz h' Q → r x xs w.H Q
def eBM (T : String) (g : D → List D → Hs → Option (D × Hs)) (f : EM) (a : AM) : EM := f.bind fun o s h => if tyN o h = some T then (eA a fun ds _ h => match g o ds h with
  | some (d, h') => some (.ok d h')
  | none => none) s h else none
theorem tyV_of {K : KF} {w : Wd} {o : D} {x : V} {T : String} (hT : T = "list" ∨ T = "str" ∨ T = "dict") (ok : w.Ok K) (r : RepD K w o x) (h : tyN o w.h = some T) : tyV K T x w.H := by
  cases o with
  | v d =>
    cases d with
    | str z =>
      cases h
      rw [show x = _ from r]
      exact rfl
    | list ds =>
      cases h
      obtain ⟨a, vs, rfl, ht, hr⟩ := r
      exact .inl ⟨rfl, vs, ht.sql⟩
    | none => cases h; rcases hT with e | e | e <;> exact absurd e (by decide)
    | bool _ => cases h; rcases hT with e | e | e <;> exact absurd e (by decide)
    | int _ => cases h; rcases hT with e | e | e <;> exact absurd e (by decide)
    | tuple _ => cases h; rcases hT with e | e | e <;> exact absurd e (by decide)
    | dict ks =>
      cases h
      obtain ⟨a, vs, rfl, _, ht, hr⟩ := r
      exact .inr (.inr (.inl ⟨rfl, .inl ⟨_, ht⟩⟩))
  | ref n =>
    obtain ⟨a, ha, rfl⟩ := r
    simp only [tyN] at h
    cases q : w.h[n]? with
    | none => simp [q] at h
    | some c =>
      cases c with
      | lst xs =>
        simp only [q] at h
        cases h
        obtain ⟨vs, e, _⟩ := ok.cell n a _ ha q
        exact .inl ⟨rfl, vs, .inl (.inl e)⟩
      | dct xs =>
        simp only [q] at h
        cases h
        obtain ⟨vs, e, _⟩ := ok.cell n a _ ha q
        exact .inr (.inr (.inl ⟨rfl, .inl ⟨_, e⟩⟩))
      | ins c fs => simp [q] at h
  | mix _ => cases h; rcases hT with e | e | e <;> exact absurd e (by decide)
  | exc _ _ => cases h
section
variable {X : Cx} {W : WX} {o e : Expr} {es : List Expr} {f : EM} {a : AM} {name : Str} {apos cpos : Pos} {T id : String} {r : V → List V → Hp → VK → Prop} {g : D → List D → Hs → Option (D × Hs)}
theorem eBM_of (hT : T = "list" ∨ T = "str" ∨ T = "dict") (hd : MtD X.K r g) (σ : L2.St) (H : Hp) (Q : VK) (h : tI X.K X.mg W (eBM T g f a) σ H Q) : tBM X.K T r (tI X.K X.mg W f) (tIA X.K X.mg W a) σ H Q := by
  obtain ⟨w, sl, rfl, ok, hs, h⟩ := h
  refine tI_bind ok hs h fun dx x w1 l1 ok1 hs1 rx h1 => ?_
  split at h1
  · rename_i ht
    refine ⟨tyV_of hT ok1 rx ht, tIA_bind ok1 hs1 h1 fun ds vs w2 l2 ok2 hs2 r2 h2 => ?_⟩
    cases eg : g dx ds w2.h with
    | none => simp only [eg] at h2; exact h2.elim
    | some q =>
      obtain ⟨dz, h'⟩ := q
      simp only [eg] at h2
      exact hd w2 x vs dx ds dz h' Q ok2 (RepD.mono ok1 l2 dx rx) r2 eg h2
  · exact h1.elim
theorem se_bm (hT : T = "list" ∨ T = "str" ∨ T = "dict") (pa : PlainAttrs T) (slot : Slot T name id) (hty : typeOf (.builtin id) = pure (.type "method_descriptor")) (hm : MtR X id r) (hd : MtD X.K r g) (ho : SE X W o f) (ha : SA X W (e :: es) a)
    (hbase : attributeBase o name X.env (eval o X.env) = eval o X.env := by rfl)
    (hfew : ((backTo cpos (starEach (e :: es) X.env)).all (fun x => !x.1) && (backToKw cpos (keywordEach [] X.env)).all (fun x => x.1.isSome)
      && decide ((e :: es).length + ([] : List Keyword).length + (if ([] : List Keyword).isEmpty then 0 else 1) < 30)) = true := by rfl)
    (hline : (apos.endLine == cpos.line) = true := by rfl) (hs : starEach (e :: es) X.env = (false, eval e X.env) :: starEach es X.env := by rfl) (hplain : (backTo cpos (starEach es X.env)).any (·.1) = false := by rfl) :
    SE X W (.Call (.Attribute o name apos) (e :: es) [] cpos) (eBM T g f a) := PE.mono' (pe_bm pa slot hty hm ho ha hbase hfew hline hs hplain) fun σ H Q h => eBM_of hT hd σ H Q h
end
section
variable {K : KF}
def appendD : D → List D → Hs → Option (D × Hs) := fun o ds h => match o, ds with
  | .ref n, [y] => match h[n]? with
    | some (.lst xs) => if xs.length < sizeLine then some (.v .none, h.set n (.lst (xs ++ [y]))) else none
    | _ => none
  | _, _ => none
theorem mt_appendD : MtD K rAppend appendD := by
  intro w x xs dx ds dz h' Q ok rx rs e a
  unfold appendD at e
  split at e
  · rename_i n y
    obtain ⟨b, hb, rfl⟩ := rx
    obtain ⟨v, vr, rfl, r1, r2⟩ := rs
    cases (show vr = [] from r2)
    cases q : w.h[n]? with
    | none => simp [q] at e
    | some c =>
      cases c with
      | lst ys =>
        simp only [q] at e
        split at e
        · rename_i hz
          cases e
          obtain ⟨us, hH, hr⟩ := ok.cell n b _ hb q
          refine ⟨b, us, v, rfl, rfl, hH, by rw [hr.len]; exact hz, ?_⟩
          exact a (w.setC n b (ys ++ [y]) (us ++ [v])) .non (Wd.setC_le hb) (Wd.setC_ok ok hb (RepDs.app hr ⟨v, [], rfl, r1, rfl⟩)) rfl rfl
        · cases e
      | _ => simp [q] at e
  · cases e
def popD : D → List D → Hs → Option (D × Hs) := fun o ds h => match o, ds with
  | .ref n, [] => match h[n]? with
    | some (.lst xs) => match xs[xs.length - 1]? with
      | some y => some (y, h.set n (.lst xs.dropLast))
      | none => none
    | _ => none
  | _, _ => none
theorem RepDs.dropLast {w : Wd} : ∀ {ds : List D} {vs : List V}, RepDs K w ds vs → RepDs K w ds.dropLast vs.dropLast
  | [], _, h => by rw [show _ = [] from h]; rfl
  | [d], _, ⟨v, r, e, h1, h2⟩ => by
    rw [e, show r = [] from h2]
    rfl
  | d :: d2 :: ds, _, ⟨v, r, e, h1, h2⟩ => by
    obtain ⟨v2, r2, e2, h3, h4⟩ := id h2
    rw [e]
    rw [e2] at h2 ⊢
    exact ⟨v, _, rfl, h1, RepDs.dropLast h2⟩
end

/-! ## texts -/
section
variable {K : KF}
def texts : List PyData → Option (List Str)
  | [] => some []
  | .str z :: r => (texts r).map (z :: ·)
  | _ :: _ => none
end
end Vl
set_option maxHeartbeats 4000000
namespace Vl
open PySem PySem.Spec PyProof.Rows L2

/-! ## list(text) -/
section
variable {prog : Program} {w : World} {A : Around} {E : Value → Shared → Prop} {s : Shared}
theorem noHint {x : Str} {t : Tok} {Q : Bool → Shared → Prop} (h : Q false s) : wpAny (model prog w) A (Builtin.List.listLengthHint (.str x t)) Q E s := by
  have hT : s.TypeIs (.str x t) "str" := typeIs_str s x t
  unfold Builtin.List.listLengthHint
  refine wpAny_bind (wpAny_specialOf hT PySem.F.slot_str_len.lookup ?_)
  generalize hid : ("str.__len__" : String) = id0
  wp_delta
  rw [show splitId id0 = some ("str", "__len__") from by subst hid; decide +kernel]
  subst hid
  refine wpAny_bind (wpAny_isInstance (T := "str") (b := true) hT (by rw [isSubtype_type]; kernel_rfl) ?_)
  refine wpAny_ite_split (fun hab => absurd hab (by decide)) (fun _ => ?_)
  refine wpAny_ite_split (fun _ => ?_) (fun hab => absurd (by decide +kernel) hab)
  exact wpAny_bind (wpAny_typeOf hT (wpAny_pure h))
theorem extSigns {R : Result → Shared → Prop} (hh : A.handled = none) (x : Str) (t : Tok) (S : Addr) (res : Value) (c₀ : Nat) (hS : s.heap.get? S = some { cls := .type "list", data := .seq #[] c₀ }) (hn : x.cps.size ≤ sizeLine)
    (hR : ∀ h' tk acc' c', (∀ b o, b ≠ S → s.heap.get? b = some o → h'.get? b = some o) → h'.get? S = some { cls := .type "list", dict := none, data := .seq acc' c', slots := #[] } → ItemsOf (SignAt x) acc' x.cps.size → R (.ok (.ret res)) { s with heap := h', toks := tk }) :
    wpAny (model prog w) A.in1 (Builtin.List.listExtendWith (.ref S) (.str x t) res)
      (fun fin s' => match fin with | .done f => R (.ok f) s' | .again c' => c'.quiet = true ∧ codeAny (model prog w) A c' R s') (fun e s' => R (.error e) s') s := by
  have hSI : S ≠ s.heap.objs.size := Nat.ne_of_lt (Heap.lt_size hS)
  unfold Builtin.List.listExtendWith
  refine wpAny_bind (wpAny_typeOf (T := "str") (v := .str x t) (typeIs_str s x t) ?_)
  have h1 : Builtin.List.listSameRef (.ref S) (.str x t) = false := rfl
  have h2 : (Value.type "str" == Value.type "list") = false := by decide
  have h3 : (Value.type "str" == Value.type "tuple") = false := by decide
  simp only [h1, h2, h3, Bool.or_false, Bool.false_eq_true, if_false]
  refine wpAny_bind (wpAny_pyIter_str fun o St hW hst => ?_)
  refine wpAny_bind (wpAny_holding (noHint ?_))
  rw [if_neg (by first | decide | decide +kernel)]
  refine wpAny_pure ⟨plainId_quiet PySem.F.plain_extend_loop _, codeAny_extend_loopS (hW A.in1 hh).toS hn _ (fun hm => hSI (List.mem_singleton.mp hm)) _ x.cps.size 0 _ _ _ rfl (Nat.zero_le _) hst (Heap.get?_push_of_some _ hS) (ItemsOf.nil _) fun s' acc' c' hm hS' hacc => ?_⟩
  rw [Moved.eq_with hm]
  refine hR s'.heap s'.toks acc' c' (fun b ob hb e => hm.heap b ob (fun hmem => ?_) (Heap.get?_push_of_some _ e)) hS' hacc
  rcases List.mem_cons.mp hmem with e' | hmem
  · exact hb e'
  · exact absurd (Heap.lt_size e) (by rw [List.mem_singleton.mp hmem]; exact Nat.lt_irrefl _)
theorem signList {x : Str} {t : Tok} {Q : Value → Shared → Prop} (hh : A.handled = none) (hn : x.cps.size ≤ sizeLine)
    (hQ : ∀ h' tk acc' c', (∀ b o, s.heap.get? b = some o → h'.get? b = some o) → h'.get? s.heap.objs.size = some { cls := .type "list", dict := none, data := .seq acc' c', slots := #[] } → ItemsOf (SignAt x) acc' x.cps.size → Q (.ref s.heap.objs.size) { s with heap := h', toks := tk }) :
    wpAny (model prog w) A (call (.type "list") [.str x t]) Q E s := by
  refine callType_codes (Q₁ := fun obj s₁ => obj = .ref s.heap.objs.size ∧ s₁ = { s with heap := s.heap.push { cls := .type "list", data := .seq #[] } }) PySem.F.called_list (PySem.F.typeCall_list_1 _) PySem.F.entry_list_init
    (code_list_new _ ⟨rfl, rfl⟩) fun obj s₁ h₁ => ?_
  obtain ⟨rfl, rfl⟩ := h₁
  have hS : (s.heap.push { cls := .type "list", data := .seq #[] }).get? s.heap.objs.size = some { cls := .type "list", data := .seq #[] } := Heap.get?_push_size _ rfl
  refine ⟨⟨_, hS, rfl⟩, PySem.F.args_list_init_2 _ _, ?_⟩
  show wpAny _ _ (do let old ← Builtin.List.listItems (.ref s.heap.objs.size); Builtin.List.listUpdate (.ref s.heap.objs.size) (fun _ => #[]); letGo old.toList.reverse; Builtin.List.listExtendWith (.ref s.heap.objs.size) (.str x t) .none) _ _ _
  refine wpAny_bind ?_
  unfold Builtin.List.listItems
  refine wpAny_bind (wpAny_seqItems hS rfl (wpAny_pure ?_))
  show wpAny _ _ (updateSeq s.heap.objs.size (fun _ => #[]) >>= fun _ => letGo (#[] : Array Value).toList.reverse >>= fun _ => Builtin.List.listExtendWith (.ref s.heap.objs.size) (.str x t) .none) _ _ _
  refine wpAny_bind (wpAny_updateSeq hS rfl ?_)
  refine wpAny_bind (wpAny_letGo ?_)
  refine extSigns (A := A.in1) hh x t _ .none _ (Heap.get?_update_self (Obj.mapSeq (fun _ => (#[] : Array Value))) hS rfl) hn fun h' tk acc' c' hk hS' hacc => ?_
  exact ⟨rfl, hQ h' tk acc' c' (fun b o e => hk b o (Nat.ne_of_lt (Heap.lt_size e)) ((Heap.get?_update_other _ _ (Ne.symm (Nat.ne_of_lt (Heap.lt_size e)))).trans (Heap.get?_push_of_some _ e))) hS' hacc⟩
end
def signsV (z : Str) : List V := z.cps.toList.map fun c => .str ⟨#[c]⟩
theorem vals_at : ∀ (xs : List V) (us : List Value), us.length = xs.length → (∀ (j : Nat) (u : Value), us[j]? = some u → ∃ x, xs[j]? = some x ∧ RelV x u) → Vals xs us
  | [], [], _, _ => .nil
  | [], _ :: _, h, _ => by simp at h
  | _ :: _, [], h, _ => by simp at h
  | x :: xs, u :: us, h, k => by
    obtain ⟨y, e, r⟩ := k 0 u rfl
    cases e
    exact .cons r (vals_at xs us (by simpa using h) fun j v e => k (j + 1) v (by simpa using e))
theorem call_listStr {X : Cx} (hc : X.calm = true) : CallR X (.type "list") (fun xs H Q => ∃ z, xs = [.str z] ∧ z.length ≤ sizeLine ∧ ∀ l, H l = none → Q (.ref l) (upd H l (.lst (signsV z)))) := by
  intro pins s σ H xs us Q I r h
  obtain ⟨z, rfl, hz, q⟩ := h
  obtain ⟨u, rfl, t, rfl⟩ := vals1 r
  refine signList (I.ok.hd hc) hz fun h' tk acc c k e it => ?_
  have rv : Vals (signsV z) acc.toList := by
    refine vals_at _ _ (by unfold signsV; rw [Array.length_toList, it.1, List.length_map, Array.length_toList]) fun j u ej => ?_
    rw [Array.getElem?_toList] at ej
    obtain ⟨c, tk, ec, rfl⟩ := it.2 j u ej
    refine ⟨.str ⟨#[c]⟩, ?_, tk, rfl⟩
    unfold signsV
    rw [List.getElem?_map, Array.getElem?_toList, ec]
    rfl
  refine ⟨.ref s.heap.objs.size, _, I.laid (t' := tk) k (Nat.le_refl _) (show ObjOk X.prog X.w _ h' _ (.lst (signsV z)) from ⟨by unfold signsV; rw [List.length_map, Array.length_toList]; exact hz, acc.toList, c, rv, ?_⟩), rfl, q _ (I.hok.fresh (Nat.le_refl _))⟩
  rw [Array.toArray_toList]
  exact e
abbrev rListA (K : KF) : List V → Hp → VK → Prop := fun xs H Q => (∃ p ys, xs = [.ref p] ∧ (SqL K H p ys ∨ SqT K H p ys) ∧ ∀ l, H l = none → Q (.ref l) (upd H l (.lst ys))) ∨ (∃ z, xs = [.str z] ∧ z.length ≤ sizeLine ∧ ∀ l, H l = none → Q (.ref l) (upd H l (.lst (signsV z))))
theorem call_listA {X : Cx} (hc : X.calm = true) : CallR X (.type "list") (rListA X.K) := call_list_of.or (call_listStr hc)
section
variable {K : KF}
def signsP (z : Str) : List PyData := z.cps.toList.map fun c => .str ⟨#[c]⟩
theorem signs_rep {Fz : Addr → Prop} {H : Hp} (z : Str) : RepPs K Fz H (signsP z) (signsV z) := by
  unfold signsP signsV
  induction z.cps.toList with
  | nil => rfl
  | cons c r ih => exact ⟨_, _, rfl, rfl, ih⟩
def lstP : PyData → Option PyData
  | .list ds => some (.list ds)
  | .tuple ds => some (.list ds)
  | .str z => if z.length ≤ sizeLine then some (.list (signsP z)) else none
  | _ => none
theorem call_lstA : CallP K (rListA K) lstP := by
  intro w x p z Q ok rx e a
  cases p with
  | list ds =>
    cases e
    obtain ⟨b, vs, rfl, ht, hr⟩ := rx
    exact .inl ⟨b, vs, rfl, .inl ht, a.newL ok hr⟩
  | tuple ds =>
    cases e
    obtain ⟨b, vs, rfl, ht, hr⟩ := rx
    exact .inl ⟨b, vs, rfl, .inr ht, a.newL ok hr⟩
  | str t =>
    simp only [lstP] at e
    split at e
    · rename_i hz
      cases e
      exact .inr ⟨t, by rw [show x = V.str t from rx], hz, a.newL ok (signs_rep t)⟩
    · cases e
  | _ => cases e
end

/-! ## join -/
section
variable {K : KF}
/-- a method that changes nothing, of data -/
def MtP (K : KF) (r : V → List V → Hp → VK → Prop) (g : PyData → List PyData → Option PyData) : Prop :=
  ∀ (w : Wd) (x : V) (xs : List V) (p : PyData) (ps : List PyData) (z : PyData) (Q : VK), w.Ok K → RepS K w p x → RepSs K w ps xs → g p ps = some z → After K w (.v z) Q → r x xs w.H Q
where RepSs (K : KF) (w : Wd) : List PyData → List V → Prop
  | [], vs => vs = []
  | d :: ds, vs => ∃ v r, vs = v :: r ∧ RepS K w d v ∧ RepSs K w ds r
def shals (h : Hs) : List D → Option (List PyData)
  | [] => some []
  | d :: r => match shal h d, shals h r with
    | some p, some ps => some (p :: ps)
    | _, _ => none
def liftM (g : PyData → List PyData → Option PyData) : D → List D → Hs → Option (D × Hs) := fun o ds h => match shal h o, shals h ds with
  | some p, some ps => (g p ps).map fun z => (.v z, h)
  | _, _ => none
theorem shals_rep {w : Wd} (ok : w.Ok K) : ∀ {ds : List D} {ps : List PyData} {vs : List V}, RepDs K w ds vs → shals w.h ds = some ps → MtP.RepSs K w ps vs
  | [], ps, vs, r, e => by
    cases e
    exact r
  | d :: ds, ps, vs, ⟨v, vr, ev, h1, h2⟩, e => by
    simp only [shals] at e
    cases q : shal w.h d with
    | none => simp [q] at e
    | some p =>
      cases q2 : shals w.h ds with
      | none => simp [q, q2] at e
      | some ps' =>
        simp [q, q2] at e
        subst e
        exact ⟨v, vr, ev, shal_rep ok h1 q, shals_rep ok h2 q2⟩
theorem MtP.d {r : V → List V → Hp → VK → Prop} {g : PyData → List PyData → Option PyData} (m : MtP K r g) : MtD K r (liftM g) := by
  intro w x xs dx ds dz h' Q ok rx rs e a
  unfold liftM at e
  cases q : shal w.h dx with
  | none => simp [q] at e
  | some p =>
    cases q2 : shals w.h ds with
    | none => simp [q, q2] at e
    | some ps =>
      simp only [q, q2, Option.map_eq_some_iff] at e
      obtain ⟨z, ez, e2⟩ := e
      cases e2
      exact m w x xs p ps z Q ok (shal_rep ok rx q) (shals_rep ok rs q2) ez a
def joinOk (a : Str) (ys : List Str) : Bool := decide ((ys.map (·.length)).sum + ys.length * a.length ≤ 16777216)
def joinP : PyData → List PyData → Option PyData
  | .str a, [.list ds] => match texts ds with
    | some ys => if joinOk a ys = true then some (.str (Txt.join a ys)) else none
    | none => none
  | .str a, [.tuple ds] => match texts ds with
    | some ys => if joinOk a ys = true then some (.str (Txt.join a ys)) else none
    | none => none
  | _, _ => none
end
end Vl
set_option maxHeartbeats 4000000
namespace Vl
open PySem PySem.Spec PyProof.Rows L2

/-! ## dict displays -/
def ofKey : Key → PyData
  | .inl i => .int i
  | .inr z => .str z
theorem keyP_of (k : Key) : keyP (ofKey k) = some k := by cases k <;> rfl
def putG {α : Type} (kvs : List (Key × α)) (k : Key) (v : α) : List (Key × α) :=
  if (kvs.any fun kv => decide (kv.1 = k)) = true then kvs.map (fun kv => if kv.1 = k then (kv.1, v) else kv) else kvs ++ [(k, v)]
def mergeG {α : Type} (kvs more : List (Key × α)) : List (Key × α) := more.foldl (fun acc kv => putG acc kv.1 kv.2) kvs
def kvP (kvs : List (Key × PyData)) : List (PyData × PyData) := kvs.map fun kv => (ofKey kv.1, kv.2)
section
variable {K : KF} {Fz : Addr → Prop} {H : Hp}
theorem RepKs.head {k : Key} {d : PyData} {r : List (Key × PyData)} {vs : List (Key × V)} (h : RepKs K Fz H (kvP ((k, d) :: r)) vs) : ∃ v t, vs = (k, v) :: t ∧ RepP K Fz H d v ∧ RepKs K Fz H (kvP r) t := by
  obtain ⟨q, v, t, e, hk, h1, h2⟩ := h
  rw [keyP_of] at hk
  cases hk
  exact ⟨v, t, e, h1, h2⟩
theorem RepKs.mk {k : Key} {d : PyData} {r : List (Key × PyData)} {v : V} {t : List (Key × V)} (h1 : RepP K Fz H d v) (h2 : RepKs K Fz H (kvP r) t) : RepKs K Fz H (kvP ((k, d) :: r)) ((k, v) :: t) := ⟨k, v, t, rfl, keyP_of k, h1, h2⟩
theorem RepKs.any (k : Key) : ∀ {kvs : List (Key × PyData)} {vs : List (Key × V)}, RepKs K Fz H (kvP kvs) vs → (kvs.any fun kv => decide (kv.1 = k)) = vs.any fun kv => decide (kv.1 = k)
  | [], vs, h => by rw [show vs = [] from h]; rfl
  | (j, d) :: r, vs, h => by
    obtain ⟨v, t, rfl, _, h2⟩ := RepKs.head h
    rw [List.any_cons, List.any_cons, RepKs.any k h2]
theorem RepKs.len : ∀ {kvs : List (Key × PyData)} {vs : List (Key × V)}, RepKs K Fz H (kvP kvs) vs → vs.length = kvs.length
  | [], vs, h => by rw [show vs = [] from h]; rfl
  | (j, d) :: r, vs, h => by
    obtain ⟨v, t, rfl, _, h2⟩ := RepKs.head h
    rw [List.length_cons, List.length_cons, RepKs.len h2]
theorem RepKs.repl (k : Key) {d : PyData} {v : V} (h1 : RepP K Fz H d v) : ∀ {kvs : List (Key × PyData)} {vs : List (Key × V)}, RepKs K Fz H (kvP kvs) vs → RepKs K Fz H (kvP (kvs.map fun kv => if kv.1 = k then (kv.1, d) else kv)) (vs.map fun kv => if kv.1 = k then (kv.1, v) else kv)
  | [], vs, h => by rw [show vs = [] from h]; rfl
  | (j, e) :: r, vs, h => by
    obtain ⟨u, t, rfl, hu, h2⟩ := RepKs.head h
    rw [List.map_cons, List.map_cons]
    by_cases z : j = k
    · simp only [z, if_true]
      exact RepKs.mk h1 (RepKs.repl k h1 h2)
    · simp only [z, if_false]
      exact RepKs.mk hu (RepKs.repl k h1 h2)
theorem RepKs.app : ∀ {kvs more : List (Key × PyData)} {vs us : List (Key × V)}, RepKs K Fz H (kvP kvs) vs → RepKs K Fz H (kvP more) us → RepKs K Fz H (kvP (kvs ++ more)) (vs ++ us)
  | [], _, vs, _, h, h' => by rw [show vs = [] from h]; exact h'
  | (j, e) :: r, _, vs, _, h, h' => by
    obtain ⟨u, t, rfl, hu, h2⟩ := RepKs.head h
    exact RepKs.mk hu (RepKs.app h2 h')
theorem RepKs.put (k : Key) {d : PyData} {v : V} (h1 : RepP K Fz H d v) {kvs : List (Key × PyData)} {vs : List (Key × V)} (h : RepKs K Fz H (kvP kvs) vs) : RepKs K Fz H (kvP (putG kvs k d)) (putK vs k v) := by
  unfold putG putK
  rw [RepKs.any k h]
  split
  · exact RepKs.repl k h1 h
  · exact RepKs.app h (RepKs.mk h1 (show RepKs K Fz H (kvP []) [] from rfl))
end
def pairsM : List (EM × EM) → Sl → Hs → Option (List (D × D) × Hs)
  | [], _, h => some ([], h)
  | (f, g) :: r, s, h => match f s h with
    | some (.ok x h1) => match g s h1 with
      | some (.ok y h2) => match pairsM r s h2 with
        | some (ps, h3) => some ((x, y) :: ps, h3)
        | none => none
      | _ => none
    | _ => none
def keysOf : List (D × D) → Option (List (Key × PyData))
  | [] => some []
  | (x, y) :: r => match unv x, unv y, keysOf r with
    | some p, some q, some ks => match keyP p with
      | some k => some ((k, q) :: ks)
      | none => none
    | _, _, _ => none
def eDct (fs : List (EM × EM)) : EM := fun s h => match pairsM fs s h with
  | some (ps, h1) => match keysOf ps with
    | some ks => if ks.length ≤ 15 then some (.ok (.v (.dict (kvP (mergeG [] ks)))) h1) else none
    | none => none
  | none => none
section
variable {X : Cx} {W : WX} {keys : List (Option Expr)} {values : List Expr} {fs : List (EM × EM)} {pos : Pos}
end
end Vl
set_option maxHeartbeats 4000000
namespace Vl
open PySem PySem.Spec PyProof.Rows L2

/-! ## small things for printed texts -/
theorem u65 {k : Nat} {A : Around} (r : Room k A) : A.units + 65 < cLine := by have := r.un; omega
theorem al_nil : ∀ s h ds h', eNil s h = some (.ok ds h') → ds.length = 0 := fun s h ds h' e => by
  cases e
  rfl
theorem al_cons {n : Nat} {f : EM} {g : AM} (i : ∀ s h ds h', g s h = some (.ok ds h') → ds.length = n) : ∀ s h ds h', eCons f g s h = some (.ok ds h') → ds.length = n + 1 := fun s h ds h' e => by
  unfold eCons at e
  cases e1 : f s h with
  | none => simp [e1] at e
  | some r =>
    cases r with
    | ex x h1 => simp [e1] at e
    | ok d h1 =>
      simp only [e1] at e
      cases e2 : g s h1 with
      | none => simp [e2] at e
      | some r2 =>
        cases r2 with
        | ex x h2 => simp [e2] at e
        | ok es h2 =>
          simp only [e2] at e
          cases e
          rw [List.length_cons, i _ _ _ _ e2]
section
variable {X : Cx} {W : WX} {pos : Pos} {x : Str}
theorem se_gInt {i : Int} (hg : Gl X x) (h : ∃ t, X.mg x = some (.int i t)) (hd : (x == ("__debug__" : Str)) = false := by decide) : SE X W (.Name x pos) (eC (.int i)) :=
  let ⟨t, e⟩ := h
  se_glob (v := .int i) hg e ⟨t, rfl⟩ (fun _ => rfl) hd
theorem se_gStr {z : Str} (hg : Gl X x) (h : ∃ t, X.mg x = some (.str z t)) (hd : (x == ("__debug__" : Str)) = false := by decide) : SE X W (.Name x pos) (eC (.str z)) :=
  let ⟨t, e⟩ := h
  se_glob (v := .str z) hg e ⟨t, rfl⟩ (fun _ => rfl) hd
end
def eAdd (f g : EM) : EM := eBin (lift2 addP) f g
def eSub (f g : EM) : EM := eBin (lift2 subP) f g
noncomputable def eMul (f g : EM) : EM := eBin (lift2 mulP) f g
noncomputable def eFdiv (f g : EM) : EM := eBin (lift2 fdivP) f g
def eMod (f g : EM) : EM := eBin (lift2 modP) f g
noncomputable def ePow (f g : EM) : EM := eBin (lift2 powP) f g
def eEq (f g : EM) : EM := eBin (eqD false) f g
def eNe (f g : EM) : EM := eBin (eqD true) f g
def eLt (f g : EM) : EM := eBin (lift2 ltP) f g
def eLe (f g : EM) : EM := eBin (lift2 leP) f g
def eGt (f g : EM) : EM := eBin (lift2 gtP) f g
def eGe (f g : EM) : EM := eBin (lift2 geP) f g
def eIn (f g : EM) : EM := eBin (lift2 (inP false)) f g
def eNin (f g : EM) : EM := eBin (lift2 (inP true)) f g
def eIsN (f g : EM) : EM := eBin (isND false) f g
def eNisN (f g : EM) : EM := eBin (isND true) f g
def eIs (f g : EM) : EM := eBin (lift2 (isBP false)) f g
def eNis (f g : EM) : EM := eBin (lift2 (isBP true)) f g
def eIx (f g : EM) : EM := eBin ixD f g
def eNeg (f : EM) : EM := eUn (lift1 negP) f
section
variable {X : Cx} {W : WX} {a b : Expr} {f g : EM} {pos : Pos}
theorem se_add (ha : SE X W a f) (hb : SE X W b g) : SE X W (.BinOp a .Add b pos) (eAdd f g) := se_op op_addR op_addP.d ha hb
theorem se_sub (ha : SE X W a f) (hb : SE X W b g) : SE X W (.BinOp a .Sub b pos) (eSub f g) := se_op op_sub op_subP.d ha hb
theorem se_mul (ha : SE X W a f) (hb : SE X W b g) : SE X W (.BinOp a .Mult b pos) (eMul f g) := se_op op_mulR op_mulP.d ha hb
theorem se_fdiv (ha : SE X W a f) (hb : SE X W b g) : SE X W (.BinOp a .FloorDiv b pos) (eFdiv f g) := se_op op_fdivW op_fdivP.d ha hb
theorem se_mod (ha : SE X W a f) (hb : SE X W b g) : SE X W (.BinOp a .Mod b pos) (eMod f g) := se_op op_mod op_modP.d ha hb
theorem se_pow (ha : SE X W a f) (hb : SE X W b g) : SE X W (.BinOp a .Pow b pos) (ePow f g) := se_op op_pow op_powP.d ha hb
theorem se_neg (ha : SE X W a f) : SE X W (.UnaryOp .USub a pos) (eNeg f) := se_un un_neg un_negP.d ha
theorem se_idx (ha : SE X W a f) (hb : SE X W b g) (hs : PlainIx b) : SE X W (.Subscript a b pos) (eIx f g) := se_ix ix_seq op_ixD ha hb hs
variable {k : Nat}
theorem se_eq (hr : Room k X.A) (ha : SE X W a f) (hb : SE X W b g) : SE X W (.Compare a [.Eq] [b] pos) (eEq f g) := se_cmp (op_eqA hr.units) op_eqDD ha hb (nomark _)
theorem se_ne (hr : Room k X.A) (ha : SE X W a f) (hb : SE X W b g) : SE X W (.Compare a [.NotEq] [b] pos) (eNe f g) := se_cmp (op_neA hr.units) op_neDD ha hb (nomark _)
theorem se_gt (ha : SE X W a f) (hb : SE X W b g) : SE X W (.Compare a [.Gt] [b] pos) (eGt f g) := se_cmp op_gt op_gtP.d ha hb (nomark _)
theorem se_ge (ha : SE X W a f) (hb : SE X W b g) : SE X W (.Compare a [.GtE] [b] pos) (eGe f g) := se_cmp op_ge op_geP.d ha hb (nomark _)
theorem se_in (hr : Room k X.A) (ha : SE X W a f) (hb : SE X W b g) (hm : behindInMarks .In b = false := by with_unfolding_all rfl) : SE X W (.Compare a [.In] [b] pos) (eIn f g) := se_cmp (op_inR (u65 hr)) (op_inP false).d ha hb hm
theorem se_isN (ha : SE X W a f) (hb : SE X W b g) : SE X W (.Compare a [.Is] [b] pos) (eIsN f g) := se_cmp op_isN op_isNDD ha hb (nomark _)
theorem st_eq (hr : Room k X.A) (ha : SE X W a f) (hb : SE X W b g) : ST X W (.Compare a [.Eq] [b] pos) (tBl (eEq f g)) := st_cmp (op_eqA hr.units) op_eqDD ha hb (nomark _)
theorem st_ne (hr : Room k X.A) (ha : SE X W a f) (hb : SE X W b g) : ST X W (.Compare a [.NotEq] [b] pos) (tBl (eNe f g)) := st_cmp (op_neA hr.units) op_neDD ha hb (nomark _)
theorem st_lt (ha : SE X W a f) (hb : SE X W b g) : ST X W (.Compare a [.Lt] [b] pos) (tBl (eLt f g)) := st_cmp op_lt op_ltP.d ha hb (nomark _)
theorem st_le (ha : SE X W a f) (hb : SE X W b g) : ST X W (.Compare a [.LtE] [b] pos) (tBl (eLe f g)) := st_cmp op_le op_leP.d ha hb (nomark _)
theorem st_gt (ha : SE X W a f) (hb : SE X W b g) : ST X W (.Compare a [.Gt] [b] pos) (tBl (eGt f g)) := st_cmp op_gt op_gtP.d ha hb (nomark _)
theorem st_in (hr : Room k X.A) (ha : SE X W a f) (hb : SE X W b g) (hm : behindInMarks .In b = false := by with_unfolding_all rfl) : ST X W (.Compare a [.In] [b] pos) (tBl (eIn f g)) := st_cmp (op_inR (u65 hr)) (op_inP false).d ha hb hm
theorem st_nin (hr : Room k X.A) (ha : SE X W a f) (hb : SE X W b g) (hm : behindInMarks .NotIn b = false := by with_unfolding_all rfl) : ST X W (.Compare a [.NotIn] [b] pos) (tBl (eNin f g)) := st_cmp (op_notInR (u65 hr)) (op_inP true).d ha hb hm
theorem st_isN (ha : SE X W a f) (hb : SE X W b g) : ST X W (.Compare a [.Is] [b] pos) (tBl (eIsN f g)) := st_cmp op_isN op_isNDD ha hb (nomark _)
theorem st_nisN (ha : SE X W a f) (hb : SE X W b g) : ST X W (.Compare a [.IsNot] [b] pos) (tBl (eNisN f g)) := st_cmp op_notN op_notNDD ha hb (nomark _)
end
/-- the law answers True -/
theorem law_sp {K : KF} {mg : Str → Option Value} {F : Fn} {H : Hp} {a : Addr} {ns : List Int} (hS : SqL K H a (ns.map V.int)) (h : ∃ h', F [.v (.list (ns.map .int))] [] = some (.rt (.v (.bool true)) h')) :
    spF K mg 1 F [.ref a] H (fun v _ => v = .bl true) fun _ _ _ => False := by
  have hr : ∀ Fz, RepPs K Fz H (ns.map .int) (ns.map V.int) := fun Fz => by
    clear h hS
    induction ns with
    | nil => rfl
    | cons n r ih => exact ⟨_, _, rfl, rfl, ih⟩
  obtain ⟨h', e⟩ := h
  rcases hS with hS | hS
  · refine ⟨⟨[], fun b => b = a, [], H⟩, [.v (.list (ns.map .int))], rfl, ⟨List.nodup_nil, rfl, fun n a c h => (by simp at h), fun _ _ z => (by cases z), fun b e => ?_⟩, ⟨.ref a, [], rfl, ⟨a, _, rfl, .inl ⟨rfl, hS⟩, hr _⟩, rfl⟩, rfl, ?_⟩
    · subst e
      rcases hS with h | ⟨o, h⟩
      · show H b ≠ none
        rw [h]
        exact fun z => by cases z
      · show H b ≠ none
        rw [h]
        exact fun z => by cases z
    · unfold WpF
      show match F _ [] with
        | some (.rt d h') => _
        | some (.ex x h') => _
        | none => False
      rw [e]
      exact fun w' v _ _ _ r => r
  · refine ⟨⟨[], fun _ => False, [], H⟩, [.v (.list (ns.map .int))], rfl, ⟨List.nodup_nil, rfl, fun n a c h => (by simp at h), fun _ _ z => (by cases z), fun b e => e.elim⟩, ⟨.ref a, [], rfl, ⟨a, _, rfl, .inr hS, hr _⟩, rfl⟩, rfl, ?_⟩
    unfold WpF
    show match F _ [] with
      | some (.rt d h') => _
      | some (.ex x h') => _
      | none => False
    rw [e]
    exact fun w' v _ _ _ r => r
end Vl
set_option maxHeartbeats 4000000
namespace Vl
open PySem PySem.Spec PyProof.Rows L2

/-! ## range down -/
section
variable {X : Cx} {W : WX} {tg a b c : Expr} {f g k : EM} {pos p : Pos}
end
end Vl
set_option maxHeartbeats 4000000
namespace Vl
open PySem PySem.Spec PyProof.Rows L2

/-! ## zip of anything: lists, tuples, texts -/
inductive Src where
  | lst (a : Addr)
  | tup (a : Addr)
  | txt (z : Str)
def Src.v : Src → V
  | .lst a => .ref a
  | .tup a => .ref a
  | .txt z => .str z
def Src.has (K : KF) (H : Hp) : Src → List V → Prop
  | .lst a, xs => SqL K H a xs
  | .tup a, xs => SqT K H a xs
  | .txt z, xs => xs = signsV z
def Src.fp (it : Addr) : Src → List Addr
  | .lst a => [it, a]
  | .tup a => [it, a]
  | .txt _ => [it]
def Src.at (it : Addr) : Src → Nat → Heap → Prop
  | .lst a, i, h => h.IsListIter it a i
  | .tup a, i, h => h.IsTupleIter it a i
  | .txt z, i, h => ∃ t, h.IsStrIter it (strIterType z) z t i
section
variable {X : Cx} {pins : List (Addr × Obj)} {σ : L2.St} {H : Hp} {s : Shared} {sr : Src} {it : Addr} {xs ys : List V} {i : Nat}
theorem Src.inj (I : Inv X pins σ H s) (h : sr.has X.K H xs) (h' : sr.has X.K H ys) : xs = ys := by
  cases sr with
  | lst a => exact I.list_inj h h'
  | tup a => exact I.tuple_inj h h'
  | txt z => exact (show xs = signsV z from h).trans (show ys = signsV z from h').symm
theorem Src.obj {h : Heap} (st : sr.at it i h) : ∃ o, h.get? it = some o ∧ ∀ v, o.data ≠ .cell v := by
  cases sr with
  | lst a => obtain ⟨o, e, _, d⟩ := st; exact ⟨o, e, fun v q => by rw [d] at q; cases q⟩
  | tup a => obtain ⟨o, e, _, d⟩ := st; exact ⟨o, e, fun v q => by rw [d] at q; cases q⟩
  | txt z => obtain ⟨t, o, e, _, d⟩ := st; exact ⟨o, e, fun v q => by rw [d] at q; cases q⟩
theorem Src.keep {h h' : Heap} (st : sr.at it i h) (k : ∀ o, h.get? it = some o → h'.get? it = some o) : sr.at it i h' := by
  cases sr with
  | lst a => exact st.at k
  | tup a => exact st.at k
  | txt z => obtain ⟨t, o, e, r⟩ := st; exact ⟨t, o, k o e, r⟩
end
def srcD (d : D) (h : Hs) : Option (List D × Option (Nat × List D)) := match d with
  | .v (.list ds) => some (ds.map .v, none)
  | .v (.tuple ds) => some (ds.map .v, none)
  | .v (.str z) => if z.length ≤ sizeLine then some (signsD z, none) else none
  | .ref n => match h[n]? with
    | some (.lst xs) => some (xs, some (n, xs))
    | _ => none
  | .mix xs => some (xs, none)
  | _ => none
end Vl
set_option maxHeartbeats 4000000
namespace Vl
open PySem PySem.Spec PyProof.Rows L2

/-! ## the plain side: how the pieces reckon -/
section
variable {g : GM} {t : TM} {f : EM} {body : SM} {s : Sl} {h : Hs}
end
end Vl
set_option maxHeartbeats 4000000
namespace Vl
open PySem PySem.Spec PyProof.Rows L2

/-! ## how the pieces reckon, for simp -/
section
variable (s : Sl) (h : Hs) (f g e1 e2 e3 : EM) (a b : AM) (t u : TM) (p q : SM) (x y d : D) (gm : GM) (gs : GsM)
@[simp] theorem z_c (p : PyData) : eC p s h = some (.ok (.v p) h) := rfl
@[simp] theorem z_var (i : Nat) : eVar i s h = match s[i]? with
  | some (some d) => some (.ok d h)
  | _ => none := rfl
@[simp] theorem z_bind (k : D → EM) : EM.bind f k s h = match f s h with
  | some (.ok d h') => k d s h'
  | some (.ex x h') => some (.ex x h')
  | none => none := rfl
@[simp] theorem z_lift (k : Hs → Option D) : EM.lift k s h = match k h with
  | some d => some (.ok d h)
  | none => none := rfl
@[simp] theorem z_bin (k : D → D → Hs → Option D) : eBin k f g s h = match f s h with
  | some (.ok x h1) => (match g s h1 with
    | some (.ok y h2) => (match k x y h2 with
      | some z => some (.ok z h2)
      | none => none)
    | some (.ex x h2) => some (.ex x h2)
    | none => none)
  | some (.ex x h1) => some (.ex x h1)
  | none => none := rfl
@[simp] theorem z_un (k : D → Hs → Option D) : eUn k f s h = match f s h with
  | some (.ok x h1) => (match k x h1 with
    | some z => some (.ok z h1)
    | none => none)
  | some (.ex x h1) => some (.ex x h1)
  | none => none := rfl
@[simp] theorem z_Add : eAdd f g s h = eBin (lift2 addP) f g s h := rfl
@[simp] theorem z_Sub : eSub f g s h = eBin (lift2 subP) f g s h := rfl
@[simp] theorem z_Mul : eMul f g s h = eBin (lift2 mulP) f g s h := rfl
@[simp] theorem z_Fdiv : eFdiv f g s h = eBin (lift2 fdivP) f g s h := rfl
@[simp] theorem z_Mod : eMod f g s h = eBin (lift2 modP) f g s h := rfl
@[simp] theorem z_Pow : ePow f g s h = eBin (lift2 powP) f g s h := rfl
@[simp] theorem z_Eq : eEq f g s h = eBin (eqD false) f g s h := rfl
@[simp] theorem z_Ne : eNe f g s h = eBin (eqD true) f g s h := rfl
@[simp] theorem z_Lt : eLt f g s h = eBin (lift2 ltP) f g s h := rfl
@[simp] theorem z_Le : eLe f g s h = eBin (lift2 leP) f g s h := rfl
@[simp] theorem z_Gt : eGt f g s h = eBin (lift2 gtP) f g s h := rfl
@[simp] theorem z_Ge : eGe f g s h = eBin (lift2 geP) f g s h := rfl
@[simp] theorem z_In : eIn f g s h = eBin (lift2 (inP false)) f g s h := rfl
@[simp] theorem z_Nin : eNin f g s h = eBin (lift2 (inP true)) f g s h := rfl
@[simp] theorem z_IsN : eIsN f g s h = eBin (isND false) f g s h := rfl
@[simp] theorem z_NisN : eNisN f g s h = eBin (isND true) f g s h := rfl
@[simp] theorem z_Is : eIs f g s h = eBin (lift2 (isBP false)) f g s h := rfl
@[simp] theorem z_Nis : eNis f g s h = eBin (lift2 (isBP true)) f g s h := rfl
@[simp] theorem z_Ix : eIx f g s h = eBin (ixD) f g s h := rfl
@[simp] theorem z_neg : eNeg f s h = eUn (lift1 negP) f s h := rfl
@[simp] theorem z_nil : eNil s h = some (.ok [] h) := rfl
@[simp] theorem z_cons : eCons f a s h = match f s h with
  | some (.ok d h1) => (match a s h1 with
    | some (.ok ds h2) => some (.ok (d :: ds) h2)
    | some (.ex x h2) => some (.ex x h2)
    | none => none)
  | some (.ex x h1) => some (.ex x h1)
  | none => none := rfl
@[simp] theorem z_a (k : List D → EM) : eA a k s h = match a s h with
  | some (.ok ds h1) => k ds s h1
  | some (.ex x h1) => some (.ex x h1)
  | none => none := rfl
@[simp] theorem z_b (k : List D → Hs → Option D) : eB k a s h = match a s h with
  | some (.ok ds h1) => (match k ds h1 with
    | some z => some (.ok z h1)
    | none => none)
  | some (.ex x h1) => some (.ex x h1)
  | none => none := rfl
@[simp] theorem z_tup : eTup a s h = match a s h with
  | some (.ok ds h1) => if ds.length ≤ 1000 then some (.ok (mkTup ds) h1) else none
  | some (.ex x h1) => some (.ex x h1)
  | none => none := by
  unfold eTup eA kTup EM.lift
  cases a s h with
  | none => rfl
  | some r =>
    cases r with
    | ex x h1 => rfl
    | ok ds h1 =>
      by_cases z : ds.length ≤ 1000
      · simp only [z, if_true]
      · simp only [z, if_false]
@[simp] theorem z_lst : eLst a s h = match a s h with
  | some (.ok ds h1) => if ds.length ≤ 1000 then (match unvs ds with
    | some ps => some (.ok (.v (.list ps)) h1)
    | none => none) else none
  | some (.ex x h1) => some (.ex x h1)
  | none => none := by
  unfold eLst eA kLst EM.lift
  cases a s h with
  | none => rfl
  | some r =>
    cases r with
    | ex x h1 => rfl
    | ok ds h1 =>
      by_cases z : ds.length ≤ 1000
      · simp only [z, if_true]
        cases unvs ds <;> rfl
      · simp only [z, if_false]
@[simp] theorem z_lstN : eLstN a s h = match a s h with
  | some (.ok ds h1) => if ds.length ≤ 1000 then some (.ok (.ref h1.length) (h1 ++ [.lst ds])) else none
  | some (.ex x h1) => some (.ex x h1)
  | none => none := rfl
@[simp] theorem z_not : eNot f s h = match f s h with
  | some (.ok x h1) => (match truthD x h1 with
    | some b => some (.ok (.v (.bool (!b))) h1)
    | none => none)
  | some (.ex x h1) => some (.ex x h1)
  | none => none := rfl
@[simp] theorem z_or : eOr f g s h = match f s h with
  | some (.ok x h1) => (match truthD x h1 with
    | some b => if b = true then some (.ok x h1) else g s h1
    | none => none)
  | some (.ex x h1) => some (.ex x h1)
  | none => none := rfl
@[simp] theorem z_and : eAnd f g s h = match f s h with
  | some (.ok x h1) => (match truthD x h1 with
    | some b => if b = true then g s h1 else some (.ok x h1)
    | none => none)
  | some (.ex x h1) => some (.ex x h1)
  | none => none := rfl
@[simp] theorem z_if : eIf t f g s h = match t s h with
  | some (.ok b h1) => if b = true then f s h1 else g s h1
  | some (.ex x h1) => some (.ex x h1)
  | none => none := rfl
@[simp] theorem z_chain (k k' : D → D → Hs → Option D) : eChain k k' e1 e2 e3 s h = match e1 s h with
  | some (.ok x h1) => (match e2 s h1 with
    | some (.ok y h2) => (match k x y h2 with
      | some (.v (.bool b)) => if b = true then (match e3 s h2 with
        | some (.ok z h3) => (match k' y z h3 with
          | some r => some (.ok r h3)
          | none => none)
        | some (.ex x h3) => some (.ex x h3)
        | none => none) else some (.ok (.v (.bool false)) h2)
      | _ => none)
    | some (.ex x h2) => some (.ex x h2)
    | none => none)
  | some (.ex x h1) => some (.ex x h1)
  | none => none := rfl
@[simp] theorem z_part0 (k : Option Int → EM) : ePart none k s h = k none s h := rfl
@[simp] theorem z_part1 (k : Option Int → EM) : ePart (some f) k s h = match f s h with
  | some (.ok (.v (.int i)) h1) => k (some i) s h1
  | some (.ok _ h1) => none
  | some (.ex x h1) => some (.ex x h1)
  | none => none := by
  show (EM.bind f fun d => match d with
    | .v (.int i) => k (some i)
    | _ => fun _ _ => none) s h = _
  unfold EM.bind
  cases f s h with
  | none => rfl
  | some r =>
    cases r with
    | ex x h1 => rfl
    | ok d h1 =>
      cases d with
      | v p => cases p <;> rfl
      | ref n => rfl
      | mix xs => rfl
      | exc c fs => rfl
@[simp] theorem z_sl (lo hi : Option EM) : eSl f lo hi s h = match f s h with
  | some (.ok x h1) => ePart lo (fun l => ePart hi fun u => EM.lift (lift1 (sliceP l u) x)) s h1
  | some (.ex x h1) => some (.ex x h1)
  | none => none := rfl
@[simp] theorem z_isi (T : String) : eIsi T f s h = match f s h with
  | some (.ok x h1) => (match isiD T x h1 with
    | some z => some (.ok z h1)
    | none => none)
  | some (.ex x h1) => some (.ex x h1)
  | none => none := rfl
@[simp] theorem z_bm (T : String) (k : D → List D → Hs → Option (D × Hs)) : eBM T k f a s h = match f s h with
  | some (.ok o h1) => if tyN o h1 = some T then (match a s h1 with
    | some (.ok ds h2) => (match k o ds h2 with
      | some (d, h') => some (.ok d h')
      | none => none)
    | some (.ex x h2) => some (.ex x h2)
    | none => none) else none
  | some (.ex x h1) => some (.ex x h1)
  | none => none := by
  unfold eBM EM.bind
  cases f s h with
  | none => rfl
  | some r =>
    cases r with
    | ex x h1 => rfl
    | ok o h1 =>
      by_cases z : tyN o h1 = some T
      · simp only [z, if_true]
        unfold eA
        cases a s h1 with
        | none => rfl
        | some r => cases r <;> rfl
      · simp only [z, if_false]
@[simp] theorem z_call (F : Fn) : eCall F a s h = match a s h with
  | some (.ok ds h1) => (match unvs ds with
    | some ps => callR F ps false h1
    | none => (match frzs h1 (dep + 1) ds with
      | some ps => callR F ps true h1
      | none => none))
  | some (.ex x h1) => some (.ex x h1)
  | none => none := rfl
@[simp] theorem z_tru : tTru f s h = match f s h with
  | some (.ok d h1) => (match truthD d h1 with
    | some b => some (.ok b h1)
    | none => none)
  | some (.ex x h1) => some (.ex x h1)
  | none => none := rfl
@[simp] theorem z_bl : tBl f s h = match f s h with
  | some (.ok (.v (.bool b)) h1) => some (.ok b h1)
  | some (.ex x h1) => some (.ex x h1)
  | _ => none := rfl
@[simp] theorem z_tnot : Vl.tNot t s h = match t s h with
  | some (.ok b h1) => some (.ok (!b) h1)
  | some (.ex x h1) => some (.ex x h1)
  | none => none := rfl
@[simp] theorem z_tand : Vl.tAnd t u s h = match t s h with
  | some (.ok b h1) => if b = true then u s h1 else some (.ok false h1)
  | some (.ex x h1) => some (.ex x h1)
  | none => none := rfl
@[simp] theorem z_tor : Vl.tOr t u s h = match t s h with
  | some (.ok b h1) => if b = true then some (.ok true h1) else u s h1
  | some (.ex x h1) => some (.ex x h1)
  | none => none := rfl
@[simp] theorem z_yes : tYes' s h = some (.ok true h) := rfl
@[simp] theorem z_next : sNext s h = some (.nx s h) := rfl
@[simp] theorem z_brk : sBrk s h = some (.bk s h) := rfl
@[simp] theorem z_cnt : sCnt s h = some (.ct s h) := rfl
@[simp] theorem z_retN : sRetN s h = some (.rt (.v .none) h) := rfl
@[simp] theorem z_seq : sSeq p q s h = match p s h with
  | some (.nx s1 h1) => q s1 h1
  | r => r := rfl
@[simp] theorem z_sif : sIf t p q s h = match t s h with
  | some (.ok k h1) => if k = true then p s h1 else q s h1
  | some (.ex x h1) => some (.ex s x h1)
  | none => none := rfl
@[simp] theorem z_ret : sRet f s h = match f s h with
  | some (.ok d h1) => some (.rt d h1)
  | some (.ex x h1) => some (.ex s x h1)
  | none => none := rfl
@[simp] theorem z_expr : sExpr f s h = match f s h with
  | some (.ok d h1) => some (.nx s h1)
  | some (.ex x h1) => some (.ex s x h1)
  | none => none := rfl
@[simp] theorem z_asg : sAsg f gm s h = match f s h with
  | some (.ok d h1) => (match gm d s h1 with
    | some s1 => some (.nx s1 h1)
    | none => none)
  | some (.ex x h1) => some (.ex s x h1)
  | none => none := rfl
@[simp] theorem z_wp (vs : List Nat) : sWp vs p s h = match p s h with
  | some (.nx s1 h1) => some (.nx (wipeS s1 vs) h1)
  | some (.ct s1 h1) => some (.ct (wipeS s1 vs) h1)
  | some (.bk s1 h1) => some (.bk (wipeS s1 vs) h1)
  | r => r := rfl
@[simp] theorem z_gnm (i : Nat) : gNm i d s h = some (s.set i (some d)) := rfl
@[simp] theorem z_gnil : gsNil [] s h = some s := rfl
@[simp] theorem z_gcons (ds : List D) : gsCons gm gs (d :: ds) s h = match gm d s h with
  | some s1 => gs ds s1 h
  | none => none := rfl
@[simp] theorem z_gtp (n : Nat) : gTp n gs d s h = match itemsT d with
  | some xs => if xs.length = n then gs xs s h else none
  | none => none := rfl
@[simp] theorem z_it0 (ds : List PyData) : itemsT (.v (.tuple ds)) = some (ds.map .v) := rfl
@[simp] theorem z_it1 (ds : List D) : itemsT (.mix ds) = some ds := rfl
@[simp] theorem z_for (it : IM) (vs : List Nat) : sFor vs it gm p s h = match it s h with
  | some (.ok items gd h1) => forL gd gm p items (wipeS s vs) h1
  | some (.ex x h1) => some (.ex s x h1)
  | none => none := rfl
@[simp] theorem z_iseq : iSeq f s h = match f s h with
  | some (.ok d h1) => seqI d h1
  | some (.ex x h1) => some (.ex x h1)
  | none => none := rfl
@[simp] theorem z_ip (k : List D → Hs → Option (List D × Option (Nat × List D))) : iP a k s h = match a s h with
  | some (.ok ds h1) => (match k ds h1 with
    | some (items, gd) => some (.ok items gd h1)
    | none => none)
  | some (.ex x h1) => some (.ex x h1)
  | none => none := rfl
@[simp] theorem z_seq0 (ds : List PyData) : seqI (.v (.list ds)) h = some (.ok (ds.map .v) none h) := rfl
@[simp] theorem z_seq1 (ds : List PyData) : seqI (.v (.tuple ds)) h = some (.ok (ds.map .v) none h) := rfl
@[simp] theorem z_seq2 (z : Str) : seqI (.v (.str z)) h = if z.length ≤ sizeLine then some (.ok (signsD z) none h) else none := rfl
@[simp] theorem z_seq3 (n : Nat) : seqI (.ref n) h = match h[n]? with
  | some (.lst xs) => some (.ok xs (some (n, xs)) h)
  | _ => none := rfl
@[simp] theorem z_seq4 (xs : List D) : seqI (.mix xs) h = some (.ok xs none h) := rfl
@[simp] theorem z_comp (it : IM) (vs : List Nat) : eComp it gm t f vs s h = match it s h with
  | some (.ok items gd h1) => (match compL gd gm t f items (wipeS s vs) h1 with
    | some (ds, h2) => (match unvs ds with
      | some ps => some (.ok (.v (.list ps)) h2)
      | none => none)
    | none => none)
  | some (.ex x h1) => some (.ex x h1)
  | none => none := rfl
@[simp] theorem z_w0 : wipeS s [] = s := rfl
@[simp] theorem z_w1 (i : Nat) (vs : List Nat) : wipeS s (i :: vs) = (wipeS s vs).set i none := rfl
@[simp] theorem z_unv (p : PyData) : unv (.v p) = some p := rfl
@[simp] theorem z_unv1 (n : Nat) : unv (.ref n) = none := rfl
@[simp] theorem z_unv2 (xs : List D) : unv (.mix xs) = none := rfl
@[simp] theorem z_unvs0 : unvs [] = some [] := rfl
@[simp] theorem z_unvs1 (ds : List D) : unvs (d :: ds) = match unv d, unvs ds with
  | some p, some ps => some (p :: ps)
  | _, _ => none := rfl
@[simp] theorem z_unvsM (ps : List PyData) : unvs (ps.map .v) = some ps := by
  induction ps with
  | nil => rfl
  | cons p ps ih => simp [unvs, ih]
@[simp] theorem z_sh0 (p : PyData) : shal h (.v p) = some p := rfl
@[simp] theorem z_sh1 (n : Nat) : shal h (.ref n) = match h[n]? with
  | some (.lst xs) => (unvs xs).map .list
  | _ => none := rfl
@[simp] theorem z_sh2 (xs : List D) : shal h (.mix xs) = none := rfl
@[simp] theorem z_shs0 : shals h [] = some [] := rfl
@[simp] theorem z_shs1 (ds : List D) : shals h (d :: ds) = match shal h d, shals h ds with
  | some p, some ps => some (p :: ps)
  | _, _ => none := rfl
@[simp] theorem z_l1 (k : PyData → Option PyData) : lift1 k x h = match shal h x with
  | some p => (k p).map .v
  | none => none := rfl
@[simp] theorem z_l2 (k : PyData → PyData → Option PyData) : lift2 k x y h = match shal h x, shal h y with
  | some p, some q => (k p q).map .v
  | _, _ => none := rfl
@[simp] theorem z_lm (k : PyData → List PyData → Option PyData) (ds : List D) : liftM k x ds h = match shal h x, shals h ds with
  | some p, some ps => (k p ps).map fun z => (.v z, h)
  | _, _ => none := rfl
@[simp] theorem z_b1 (k : PyData → Option PyData) : b1 k [x] h = lift1 k x h := rfl
@[simp] theorem z_mk (ds : List D) : mkTup ds = match unvs ds with
  | some ps => .v (.tuple ps)
  | none => .mix ds := rfl
@[simp] theorem z_tr0 : truthD (.v .none) h = some false := rfl
@[simp] theorem z_tr1 (b : Bool) : truthD (.v (.bool b)) h = some b := rfl
@[simp] theorem z_tr2 (i : Int) : truthD (.v (.int i)) h = some (i != 0) := rfl
@[simp] theorem z_tr3 (z : Str) : truthD (.v (.str z)) h = if z.length ≤ sizeLine then some ((z.length : Int) != 0) else none := rfl
@[simp] theorem z_tr4 (ds : List PyData) : truthD (.v (.list ds)) h = some (!ds.isEmpty) := rfl
@[simp] theorem z_tr5 (ds : List PyData) : truthD (.v (.tuple ds)) h = some (!ds.isEmpty) := rfl
@[simp] theorem z_tr6 (n : Nat) : truthD (.ref n) h = match h[n]? with
  | some (.lst xs) => some (!xs.isEmpty)
  | _ => none := rfl
end
section
variable (i j : Int) (xs ys : List PyData) (z v : Str) (h : Hs)
@[simp] theorem y_add0 : addP (.int i) (.int j) = some (.int (i + j)) := rfl
@[simp] theorem y_add1 : addP (.str z) (.str v) = if z.length + v.length ≤ sizeLine then some (.str (z ++ v)) else none := rfl
@[simp] theorem y_add2 : addP (.tuple xs) (.tuple ys) = if xs.length + ys.length ≤ sizeLine then some (.tuple (xs ++ ys)) else none := rfl
@[simp] theorem y_add3 : addP (.list xs) (.list ys) = if xs.length + ys.length ≤ sizeLine then some (.list (xs ++ ys)) else none := rfl
@[simp] theorem y_sub : subP (.int i) (.int j) = some (.int (i - j)) := rfl
@[simp] theorem y_mul0 : mulP (.int i) (.int j) = if cmul i j = true then some (.int (i * j)) else none := rfl
@[simp] theorem y_mul1 : mulP (.list xs) (.int j) = if yes (-(2 ^ 63) ≤ j ∧ j < 2 ^ 63 ∧ xs.length * j.toNat ≤ sizeLine) = true then some (.list (List.replicate j.toNat xs).flatten) else none := rfl
@[simp] theorem y_fdiv : fdivP (.int i) (.int j) = if cdiv j = true then some (.int (i / j)) else none := rfl
@[simp] theorem y_mod : modP (.int i) (.int j) = if 0 < j then some (.int (i % j)) else none := by
  unfold modP intP
  simp
@[simp] theorem y_pow : powP (.int i) (.int j) = if cpow i j = true then some (.int (i ^ j.toNat)) else none := rfl
@[simp] theorem y_lt : ltP (.int i) (.int j) = some (.bool (decide (i < j))) := rfl
@[simp] theorem y_le : leP (.int i) (.int j) = some (.bool (decide (i ≤ j))) := rfl
@[simp] theorem y_gt : gtP (.int i) (.int j) = some (.bool (decide (j < i))) := rfl
@[simp] theorem y_ge : geP (.int i) (.int j) = some (.bool (decide (j ≤ i))) := rfl
@[simp] theorem y_neg : negP (.int i) = some (.int (-i)) := rfl
@[simp] theorem y_len0 : lenD [.v (.str z)] h = if z.length ≤ sizeLine then some (.v (.int z.length)) else none := rfl
@[simp] theorem y_len1 : lenD [.v (.list xs)] h = some (.v (.int xs.length)) := rfl
@[simp] theorem y_len2 : lenD [.v (.tuple xs)] h = some (.v (.int xs.length)) := rfl
@[simp] theorem y_len3 (n : Nat) : lenD [.ref n] h = match h[n]? with
  | some (.lst xs) => some (.v (.int xs.length))
  | _ => none := rfl
@[simp] theorem y_abs : absP (.int i) = some (.int (if i < 0 then -i else i)) := rfl
@[simp] theorem y_all : allP (.list xs) = (bools xs).map fun bs => .bool (bs.all id) := rfl
theorem bools_map {α : Type} (f : α → Bool) : ∀ l : List α, bools (l.map fun x => .bool (f x)) = some (l.map f)
  | [] => rfl
  | x :: l => by simp [bools, bools_map f l]
@[simp] theorem y_lst0 : lstP (.list xs) = some (.list xs) := rfl
@[simp] theorem y_lst1 : lstP (.tuple xs) = some (.list xs) := rfl
@[simp] theorem y_lst2 : lstP (.str z) = if z.length ≤ sizeLine then some (.list (signsP z)) else none := rfl
@[simp] theorem y_tup0 : tupOfP (.list xs) = some (.tuple xs) := rfl
@[simp] theorem y_tup1 : tupOfP (.tuple xs) = some (.tuple xs) := rfl
@[simp] theorem y_join0 : joinP (.str z) [.list xs] = match texts xs with
  | some ys => if joinOk z ys = true then some (.str (Txt.join z ys)) else none
  | none => none := rfl
@[simp] theorem y_slc0 (lo hi : Option Int) : sliceP lo hi (.list xs) = some (.list (cutP xs lo hi)) := rfl
@[simp] theorem y_slc1 (lo hi : Option Int) : sliceP lo hi (.tuple xs) = some (.tuple (cutP xs lo hi)) := rfl
@[simp] theorem y_slc2 (lo hi : Option Int) : sliceP lo hi (.str z) = if z.length ≤ sizeLine then some (.str (cutS z lo hi)) else none := rfl
@[simp] theorem y_ix0 : ixD (.v (.list xs)) (.v (.int i)) h = (atI xs i).map .v := rfl
@[simp] theorem y_ix1 : ixD (.v (.tuple xs)) (.v (.int i)) h = (atI xs i).map .v := rfl
@[simp] theorem y_ix2 : ixD (.v (.str z)) (.v (.int i)) h = if z.length ≤ sizeLine then (atI z.cps.toList i).map fun c => .v (.str ⟨#[c]⟩) else none := rfl
@[simp] theorem y_ix3 (n : Nat) : ixD (.ref n) (.v (.int i)) h = match h[n]? with
  | some (.lst xs) => atI xs i
  | _ => none := rfl
@[simp] theorem y_enum0 : kEnum [.v (.list xs)] h = some (enumI 0 (xs.map .v), none) := rfl
@[simp] theorem y_app (n : Nat) (y : D) : appendD (.ref n) [y] h = match h[n]? with
  | some (.lst xs) => if xs.length < sizeLine then some (.v .none, h.set n (.lst (xs ++ [y]))) else none
  | _ => none := rfl
@[simp] theorem y_isN0 (neg : Bool) (d : D) : isND neg d (.v .none) h = some (.v (.bool (ngt neg (isNoneD d)))) := rfl
@[simp] theorem y_is (neg a b : Bool) : isBP neg (.bool a) (.bool b) = some (.bool (if neg = true then !decide (a = b) else decide (a = b))) := rfl
@[simp] theorem y_in0 (neg : Bool) (c : Nat) : inP neg (.str ⟨#[c]⟩) (.str z) = some (.bool (ngt neg (decide (c ∈ z.cps.toList)))) := rfl
@[simp] theorem y_frz0 (n : Nat) (p : PyData) : frz h n (.v p) = some p := frz_v h n p
@[simp] theorem y_frz1 (n k : Nat) : frz h (n + 1) (.ref k) = match h[k]? with
  | some (.lst xs) => (frzs h n xs).map .list
  | _ => none := rfl
@[simp] theorem y_frzs (n : Nat) (ps : List PyData) : frzs h (n + 1) (ps.map .v) = some ps := by
  induction ps with
  | nil => rfl
  | cons p ps ih =>
    simp only [frzs, List.map_cons, List.foldr_cons, frz_v] at ih ⊢
    rw [ih]
end
theorem eqD_v {neg : Bool} {p q : PyData} {h : Hs} (hp : SeqAt.shaped p = true) (hq : SeqAt.shaped q = true) : eqD neg (.v p) (.v q) h = some (.v (.bool (if neg = true then !PyData.eqv p q else PyData.eqv p q))) := by
  unfold eqD
  rw [frz_v, frz_v]
  simp only [hp, hq, Bool.and_self, Bool.true_or, if_true]
theorem eqD_str {neg : Bool} {a b : Str} {h : Hs} : eqD neg (.v (.str a)) (.v (.str b)) h = some (.v (.bool (if neg = true then !(a == b) else (a == b)))) := by
  unfold eqD
  rw [frz_v, frz_v]
  simp [isStr, PyData.eqv]
theorem callR_rt {F : Fn} {ps : List PyData} {h h' : Hs} {d : D} {p : PyData} (e : F (ps.map .v) [] = some (.rt d h')) (ef : frz h' dep d = some p) : callR F ps false h = some (.ok (.v p) h) := by
  unfold callR
  rw [e]
  simp only [ef, Bool.false_and, Bool.false_eq_true, if_false]

@[simp] theorem x_NoneType_str (h : Hs) : isiD "str" (.v .none) h = some (.v (.bool false)) := by
  have e : kitB "NoneType" "str" = some false := by decide +kernel
  show ((kitB "NoneType" "str").map fun b => D.v (.bool b)) = _
  rw [e]
  rfl
@[simp] theorem x_NoneType_int (h : Hs) : isiD "int" (.v .none) h = some (.v (.bool false)) := by
  have e : kitB "NoneType" "int" = some false := by decide +kernel
  show ((kitB "NoneType" "int").map fun b => D.v (.bool b)) = _
  rw [e]
  rfl
@[simp] theorem x_NoneType_bool (h : Hs) : isiD "bool" (.v .none) h = some (.v (.bool false)) := by
  have e : kitB "NoneType" "bool" = some false := by decide +kernel
  show ((kitB "NoneType" "bool").map fun b => D.v (.bool b)) = _
  rw [e]
  rfl
@[simp] theorem x_NoneType_list (h : Hs) : isiD "list" (.v .none) h = some (.v (.bool false)) := by
  have e : kitB "NoneType" "list" = some false := by decide +kernel
  show ((kitB "NoneType" "list").map fun b => D.v (.bool b)) = _
  rw [e]
  rfl
@[simp] theorem x_NoneType_tuple (h : Hs) : isiD "tuple" (.v .none) h = some (.v (.bool false)) := by
  have e : kitB "NoneType" "tuple" = some false := by decide +kernel
  show ((kitB "NoneType" "tuple").map fun b => D.v (.bool b)) = _
  rw [e]
  rfl
@[simp] theorem x_NoneType_dict (h : Hs) : isiD "dict" (.v .none) h = some (.v (.bool false)) := by
  have e : kitB "NoneType" "dict" = some false := by decide +kernel
  show ((kitB "NoneType" "dict").map fun b => D.v (.bool b)) = _
  rw [e]
  rfl
@[simp] theorem x_bool_str (b : Bool) (h : Hs) : isiD "str" (.v (.bool b)) h = some (.v (.bool false)) := by
  have e : kitB "bool" "str" = some false := by decide +kernel
  show ((kitB "bool" "str").map fun b => D.v (.bool b)) = _
  rw [e]
  rfl
@[simp] theorem x_bool_int (b : Bool) (h : Hs) : isiD "int" (.v (.bool b)) h = some (.v (.bool true)) := by
  have e : kitB "bool" "int" = some true := by decide +kernel
  show ((kitB "bool" "int").map fun b => D.v (.bool b)) = _
  rw [e]
  rfl
@[simp] theorem x_bool_bool (b : Bool) (h : Hs) : isiD "bool" (.v (.bool b)) h = some (.v (.bool true)) := by
  have e : kitB "bool" "bool" = some true := by decide +kernel
  show ((kitB "bool" "bool").map fun b => D.v (.bool b)) = _
  rw [e]
  rfl
@[simp] theorem x_bool_list (b : Bool) (h : Hs) : isiD "list" (.v (.bool b)) h = some (.v (.bool false)) := by
  have e : kitB "bool" "list" = some false := by decide +kernel
  show ((kitB "bool" "list").map fun b => D.v (.bool b)) = _
  rw [e]
  rfl
@[simp] theorem x_bool_tuple (b : Bool) (h : Hs) : isiD "tuple" (.v (.bool b)) h = some (.v (.bool false)) := by
  have e : kitB "bool" "tuple" = some false := by decide +kernel
  show ((kitB "bool" "tuple").map fun b => D.v (.bool b)) = _
  rw [e]
  rfl
@[simp] theorem x_bool_dict (b : Bool) (h : Hs) : isiD "dict" (.v (.bool b)) h = some (.v (.bool false)) := by
  have e : kitB "bool" "dict" = some false := by decide +kernel
  show ((kitB "bool" "dict").map fun b => D.v (.bool b)) = _
  rw [e]
  rfl
@[simp] theorem x_int_str (b : Int) (h : Hs) : isiD "str" (.v (.int b)) h = some (.v (.bool false)) := by
  have e : kitB "int" "str" = some false := by decide +kernel
  show ((kitB "int" "str").map fun b => D.v (.bool b)) = _
  rw [e]
  rfl
@[simp] theorem x_int_int (b : Int) (h : Hs) : isiD "int" (.v (.int b)) h = some (.v (.bool true)) := by
  have e : kitB "int" "int" = some true := by decide +kernel
  show ((kitB "int" "int").map fun b => D.v (.bool b)) = _
  rw [e]
  rfl
@[simp] theorem x_int_bool (b : Int) (h : Hs) : isiD "bool" (.v (.int b)) h = some (.v (.bool false)) := by
  have e : kitB "int" "bool" = some false := by decide +kernel
  show ((kitB "int" "bool").map fun b => D.v (.bool b)) = _
  rw [e]
  rfl
@[simp] theorem x_int_list (b : Int) (h : Hs) : isiD "list" (.v (.int b)) h = some (.v (.bool false)) := by
  have e : kitB "int" "list" = some false := by decide +kernel
  show ((kitB "int" "list").map fun b => D.v (.bool b)) = _
  rw [e]
  rfl
@[simp] theorem x_int_tuple (b : Int) (h : Hs) : isiD "tuple" (.v (.int b)) h = some (.v (.bool false)) := by
  have e : kitB "int" "tuple" = some false := by decide +kernel
  show ((kitB "int" "tuple").map fun b => D.v (.bool b)) = _
  rw [e]
  rfl
@[simp] theorem x_int_dict (b : Int) (h : Hs) : isiD "dict" (.v (.int b)) h = some (.v (.bool false)) := by
  have e : kitB "int" "dict" = some false := by decide +kernel
  show ((kitB "int" "dict").map fun b => D.v (.bool b)) = _
  rw [e]
  rfl
@[simp] theorem x_str_str (b : Str) (h : Hs) : isiD "str" (.v (.str b)) h = some (.v (.bool true)) := by
  have e : kitB "str" "str" = some true := by decide +kernel
  show ((kitB "str" "str").map fun b => D.v (.bool b)) = _
  rw [e]
  rfl
@[simp] theorem x_str_int (b : Str) (h : Hs) : isiD "int" (.v (.str b)) h = some (.v (.bool false)) := by
  have e : kitB "str" "int" = some false := by decide +kernel
  show ((kitB "str" "int").map fun b => D.v (.bool b)) = _
  rw [e]
  rfl
@[simp] theorem x_str_bool (b : Str) (h : Hs) : isiD "bool" (.v (.str b)) h = some (.v (.bool false)) := by
  have e : kitB "str" "bool" = some false := by decide +kernel
  show ((kitB "str" "bool").map fun b => D.v (.bool b)) = _
  rw [e]
  rfl
@[simp] theorem x_str_list (b : Str) (h : Hs) : isiD "list" (.v (.str b)) h = some (.v (.bool false)) := by
  have e : kitB "str" "list" = some false := by decide +kernel
  show ((kitB "str" "list").map fun b => D.v (.bool b)) = _
  rw [e]
  rfl
@[simp] theorem x_str_tuple (b : Str) (h : Hs) : isiD "tuple" (.v (.str b)) h = some (.v (.bool false)) := by
  have e : kitB "str" "tuple" = some false := by decide +kernel
  show ((kitB "str" "tuple").map fun b => D.v (.bool b)) = _
  rw [e]
  rfl
@[simp] theorem x_str_dict (b : Str) (h : Hs) : isiD "dict" (.v (.str b)) h = some (.v (.bool false)) := by
  have e : kitB "str" "dict" = some false := by decide +kernel
  show ((kitB "str" "dict").map fun b => D.v (.bool b)) = _
  rw [e]
  rfl
@[simp] theorem x_list_str (b : List PyData) (h : Hs) : isiD "str" (.v (.list b)) h = some (.v (.bool false)) := by
  have e : kitB "list" "str" = some false := by decide +kernel
  show ((kitB "list" "str").map fun b => D.v (.bool b)) = _
  rw [e]
  rfl
@[simp] theorem x_list_int (b : List PyData) (h : Hs) : isiD "int" (.v (.list b)) h = some (.v (.bool false)) := by
  have e : kitB "list" "int" = some false := by decide +kernel
  show ((kitB "list" "int").map fun b => D.v (.bool b)) = _
  rw [e]
  rfl
@[simp] theorem x_list_bool (b : List PyData) (h : Hs) : isiD "bool" (.v (.list b)) h = some (.v (.bool false)) := by
  have e : kitB "list" "bool" = some false := by decide +kernel
  show ((kitB "list" "bool").map fun b => D.v (.bool b)) = _
  rw [e]
  rfl
@[simp] theorem x_list_list (b : List PyData) (h : Hs) : isiD "list" (.v (.list b)) h = some (.v (.bool true)) := by
  have e : kitB "list" "list" = some true := by decide +kernel
  show ((kitB "list" "list").map fun b => D.v (.bool b)) = _
  rw [e]
  rfl
@[simp] theorem x_list_tuple (b : List PyData) (h : Hs) : isiD "tuple" (.v (.list b)) h = some (.v (.bool false)) := by
  have e : kitB "list" "tuple" = some false := by decide +kernel
  show ((kitB "list" "tuple").map fun b => D.v (.bool b)) = _
  rw [e]
  rfl
@[simp] theorem x_list_dict (b : List PyData) (h : Hs) : isiD "dict" (.v (.list b)) h = some (.v (.bool false)) := by
  have e : kitB "list" "dict" = some false := by decide +kernel
  show ((kitB "list" "dict").map fun b => D.v (.bool b)) = _
  rw [e]
  rfl
@[simp] theorem x_tuple_str (b : List PyData) (h : Hs) : isiD "str" (.v (.tuple b)) h = some (.v (.bool false)) := by
  have e : kitB "tuple" "str" = some false := by decide +kernel
  show ((kitB "tuple" "str").map fun b => D.v (.bool b)) = _
  rw [e]
  rfl
@[simp] theorem x_tuple_int (b : List PyData) (h : Hs) : isiD "int" (.v (.tuple b)) h = some (.v (.bool false)) := by
  have e : kitB "tuple" "int" = some false := by decide +kernel
  show ((kitB "tuple" "int").map fun b => D.v (.bool b)) = _
  rw [e]
  rfl
@[simp] theorem x_tuple_bool (b : List PyData) (h : Hs) : isiD "bool" (.v (.tuple b)) h = some (.v (.bool false)) := by
  have e : kitB "tuple" "bool" = some false := by decide +kernel
  show ((kitB "tuple" "bool").map fun b => D.v (.bool b)) = _
  rw [e]
  rfl
@[simp] theorem x_tuple_list (b : List PyData) (h : Hs) : isiD "list" (.v (.tuple b)) h = some (.v (.bool false)) := by
  have e : kitB "tuple" "list" = some false := by decide +kernel
  show ((kitB "tuple" "list").map fun b => D.v (.bool b)) = _
  rw [e]
  rfl
@[simp] theorem x_tuple_tuple (b : List PyData) (h : Hs) : isiD "tuple" (.v (.tuple b)) h = some (.v (.bool true)) := by
  have e : kitB "tuple" "tuple" = some true := by decide +kernel
  show ((kitB "tuple" "tuple").map fun b => D.v (.bool b)) = _
  rw [e]
  rfl
@[simp] theorem x_tuple_dict (b : List PyData) (h : Hs) : isiD "dict" (.v (.tuple b)) h = some (.v (.bool false)) := by
  have e : kitB "tuple" "dict" = some false := by decide +kernel
  show ((kitB "tuple" "dict").map fun b => D.v (.bool b)) = _
  rw [e]
  rfl
@[simp] theorem x_dict_str (b : List (PyData × PyData)) (h : Hs) : isiD "str" (.v (.dict b)) h = some (.v (.bool false)) := by
  have e : kitB "dict" "str" = some false := by decide +kernel
  show ((kitB "dict" "str").map fun b => D.v (.bool b)) = _
  rw [e]
  rfl
@[simp] theorem x_dict_int (b : List (PyData × PyData)) (h : Hs) : isiD "int" (.v (.dict b)) h = some (.v (.bool false)) := by
  have e : kitB "dict" "int" = some false := by decide +kernel
  show ((kitB "dict" "int").map fun b => D.v (.bool b)) = _
  rw [e]
  rfl
@[simp] theorem x_dict_bool (b : List (PyData × PyData)) (h : Hs) : isiD "bool" (.v (.dict b)) h = some (.v (.bool false)) := by
  have e : kitB "dict" "bool" = some false := by decide +kernel
  show ((kitB "dict" "bool").map fun b => D.v (.bool b)) = _
  rw [e]
  rfl
@[simp] theorem x_dict_list (b : List (PyData × PyData)) (h : Hs) : isiD "list" (.v (.dict b)) h = some (.v (.bool false)) := by
  have e : kitB "dict" "list" = some false := by decide +kernel
  show ((kitB "dict" "list").map fun b => D.v (.bool b)) = _
  rw [e]
  rfl
@[simp] theorem x_dict_tuple (b : List (PyData × PyData)) (h : Hs) : isiD "tuple" (.v (.dict b)) h = some (.v (.bool false)) := by
  have e : kitB "dict" "tuple" = some false := by decide +kernel
  show ((kitB "dict" "tuple").map fun b => D.v (.bool b)) = _
  rw [e]
  rfl
@[simp] theorem x_dict_dict (b : List (PyData × PyData)) (h : Hs) : isiD "dict" (.v (.dict b)) h = some (.v (.bool true)) := by
  have e : kitB "dict" "dict" = some true := by decide +kernel
  show ((kitB "dict" "dict").map fun b => D.v (.bool b)) = _
  rw [e]
  rfl
@[simp] theorem x_tyref (n : Nat) (h : Hs) : tyN (.ref n) h = match h[n]? with
  | some (.lst _) => some "list"
  | some (.dct _) => some "dict"
  | _ => none := rfl
@[simp] theorem x_tystr (z : Str) (h : Hs) : tyN (.v (.str z)) h = some "str" := rfl
@[simp] theorem x_tylst (z : List PyData) (h : Hs) : tyN (.v (.list z)) h = some "list" := rfl
end Vl
namespace Vl
open PySem PySem.Spec PyProof.Rows L2
/-! ## shaped data -/
def okS (z : Str) : Prop := ∀ c ∈ z.cps.toList, c < 0x110000
def Sh (n : Nat) (d : PyData) : Prop := d.canLay0 = true ∧ d.depth ≤ n
theorem Sh.shaped {n : Nat} {d : PyData} (h : Sh n d) (hn : n ≤ 64 := by decide) : SeqAt.shaped d = true := by
  unfold SeqAt.shaped
  rw [h.1, Bool.true_and]
  exact decide_eq_true (Nat.le_trans h.2 hn)
theorem Sh.mono {m n : Nat} {d : PyData} (h : Sh m d) (l : m ≤ n) : Sh n d := ⟨h.1, Nat.le_trans h.2 l⟩
theorem sh_int {n : Nat} (i : Int) : Sh n (.int i) := ⟨rfl, Nat.zero_le _⟩
theorem sh_bool {n : Nat} (i : Bool) : Sh n (.bool i) := ⟨rfl, Nat.zero_le _⟩
theorem sh_none {n : Nat} : Sh n .none := ⟨rfl, Nat.zero_le _⟩
theorem sh_str {n : Nat} {z : Str} (h : okS z) : Sh n (.str z) := ⟨by
  show z.cps.all (· < 0x110000) = true
  rw [← Array.all_toList, List.all_eq_true]
  exact fun c hc => decide_eq_true (h c hc), Nat.zero_le _⟩
theorem sh_all {n : Nat} : ∀ {xs : List PyData}, (∀ x ∈ xs, Sh n x) → PyData.canLayAll0 xs = true ∧ PyData.depthAll xs ≤ n
  | [], _ => ⟨rfl, Nat.zero_le _⟩
  | x :: r, h => by
    obtain ⟨h1, h2⟩ := h x List.mem_cons_self
    obtain ⟨h3, h4⟩ := sh_all (xs := r) fun z hz => h z (List.mem_cons_of_mem _ hz)
    exact ⟨by rw [PyData.canLayAll0, h1, h3]; rfl, by rw [PyData.depthAll]; exact Nat.max_le.mpr ⟨h2, h4⟩⟩
theorem sh_list {n : Nat} {xs : List PyData} (h : ∀ x ∈ xs, Sh n x) : Sh (n + 1) (.list xs) := ⟨(sh_all h).1, Nat.succ_le_succ (sh_all h).2⟩
theorem sh_tup {n : Nat} {xs : List PyData} (h : ∀ x ∈ xs, Sh n x) : Sh (n + 1) (.tuple xs) := ⟨(sh_all h).1, Nat.succ_le_succ (sh_all h).2⟩
mutual
theorem eqv_refl : ∀ {d : PyData}, d.canLay0 = true → PyData.eqv d d = true
  | .none, _ => rfl
  | .bool b, _ => by simp [PyData.eqv]
  | .int b, _ => by simp [PyData.eqv]
  | .str b, _ => by simp [PyData.eqv]
  | .list xs, h => by
    rw [PyData.eqv]
    exact eqvs_refl (by simpa [PyData.canLay0] using h)
  | .tuple xs, h => by
    rw [PyData.eqv]
    exact eqvs_refl (by simpa [PyData.canLay0] using h)
  | .dict xs, h => by simp [PyData.canLay0] at h
theorem eqvs_refl : ∀ {ds : List PyData}, PyData.canLayAll0 ds = true → PyData.eqvAll ds ds = true
  | [], _ => rfl
  | d :: ds, h => by
    rw [PyData.canLayAll0, Bool.and_eq_true] at h
    rw [PyData.eqvAll, eqv_refl h.1, eqvs_refl h.2]
    rfl
end
@[simp] theorem z_unvsC {α : Type} (f : α → PyData) (l : List α) : unvs (l.map (D.v ∘ f)) = some (l.map f) := by
  rw [← List.map_map, z_unvsM]
@[simp] theorem z_unvsC' {α : Type} (f : α → PyData) (l : List α) : unvs (l.map fun x => D.v (f x)) = some (l.map f) := z_unvsC f l
theorem compSigns {s : Sl} {h : Hs} (z : Str) (gm : GM) (t : TM) (f : EM) (p : Nat → Bool) (y : Nat → PyData) (H : ∀ c, ∃ s1, gm (.v (.str ⟨#[c]⟩)) s h = some s1 ∧ t s1 h = some (.ok (p c) h) ∧ (p c = true → f s1 h = some (.ok (.v (y c)) h))) :
    compL none gm t f (signsD z) s h = some (((z.cps.toList.filter p).map y).map .v, h) := by
  unfold signsD
  generalize z.cps.toList = l
  induction l with
  | nil => simp [compL, gok]
  | cons c r ih =>
    obtain ⟨s1, e1, e2, e3⟩ := H c
    rw [List.map_cons, compL, if_pos (show gok none h from trivial)]
    simp only [e1, e2]
    cases e : p c with
    | false =>
      rw [if_neg Bool.false_ne_true, ih, List.filter_cons_of_neg (by rw [e]; exact Bool.false_ne_true)]
    | true =>
      rw [if_pos rfl]
      simp only [e3 e, ih]
      rw [List.filter_cons_of_pos e, List.map_cons, List.map_cons]
/-- a comprehension over data -/
theorem compData {α : Type} {s : Sl} {h : Hs} (l : List α) (i : α → D) (gm : GM) (t : TM) (f : EM) (p : α → Bool) (y : α → PyData) (H : ∀ c ∈ l, ∃ s1, gm (i c) s h = some s1 ∧ t s1 h = some (.ok (p c) h) ∧ (p c = true → f s1 h = some (.ok (.v (y c)) h))) :
    compL none gm t f (l.map i) s h = some (((l.filter p).map y).map .v, h) := by
  induction l with
  | nil => simp [compL, gok]
  | cons c r ih =>
    obtain ⟨s1, e1, e2, e3⟩ := H c List.mem_cons_self
    have ih := ih fun z hz => H z (List.mem_cons_of_mem _ hz)
    rw [List.map_cons, compL, if_pos (show gok none h from trivial)]
    simp only [e1, e2]
    cases e : p c with
    | false =>
      rw [if_neg Bool.false_ne_true, ih, List.filter_cons_of_neg (by rw [e]; exact Bool.false_ne_true)]
    | true =>
      rw [if_pos rfl]
      simp only [e3 e, ih]
      rw [List.filter_cons_of_pos e, List.map_cons, List.map_cons]
end Vl
set_option maxHeartbeats 4000000
namespace Vl
open PySem PySem.Spec PyProof.Rows L2

/-! ## texts, places -/
theorem ten_line' {n : Nat} (h : n ≤ 10000000) : n ≤ sizeLine := Nat.le_trans h (by rw [sizeLine_eq]; decide)
theorem lt_line {n : Nat} (h : n < 10000000) : n < sizeLine := Nat.lt_of_lt_of_le h (by rw [sizeLine_eq]; decide)
def Tx (n : Nat) (z : Str) : Prop := okS z ∧ z.length ≤ n
theorem Tx.line {n : Nat} {z : Str} (h : Tx n z) (l : n ≤ 10000000 := by omega) : z.length ≤ sizeLine := ten_line' (Nat.le_trans h.2 l)
theorem Tx.mono {m n : Nat} {z : Str} (h : Tx m z) (l : m ≤ n) : Tx n z := ⟨h.1, Nat.le_trans h.2 l⟩
theorem len_tl (z : Str) : z.cps.toList.length = z.length := Array.length_toList
theorem tl_app (a b : Str) : (a ++ b).cps.toList = a.cps.toList ++ b.cps.toList := TL.tl_append a b
theorem tx_app {m n : Nat} {a b : Str} (ha : Tx m a) (hb : Tx n b) : Tx (m + n) (a ++ b) := by
  refine ⟨fun c hc => ?_, ?_⟩
  · rw [tl_app] at hc
    rcases List.mem_append.mp hc with h | h
    · exact ha.1 c h
    · exact hb.1 c h
  · rw [← len_tl, tl_app, List.length_append, len_tl, len_tl]
    exact Nat.add_le_add ha.2 hb.2
theorem tl_cut (z : Str) (lo hi : Option Int) : (cutS z lo hi).cps.toList = (z.cps.toList.drop (HT.sIx z.length 0 lo)).take (HT.sIx z.length z.length hi - HT.sIx z.length 0 lo) := rfl
theorem tx_cut {n : Nat} {z : Str} (lo hi : Option Int) (h : Tx n z) : Tx n (cutS z lo hi) := by
  refine ⟨fun c hc => ?_, ?_⟩
  · rw [tl_cut] at hc
    exact h.1 c (List.mem_of_mem_drop (List.mem_of_mem_take hc))
  · rw [← len_tl, tl_cut, List.length_take, List.length_drop, len_tl]
    have := h.2
    omega
theorem atI_in {α : Type} {xs : List α} {i : Int} (h0 : 0 ≤ i) (h1 : i < xs.length) : ∃ x, atI xs i = some x ∧ x ∈ xs ∧ xs[i.toNat]? = some x := by
  have hl : i.toNat < xs.length := by omega
  refine ⟨xs[i.toNat], ?_, List.getElem_mem hl, List.getElem?_eq_getElem hl⟩
  unfold atI ixN
  rw [if_pos h0, if_pos h1]
  exact List.getElem?_eq_getElem hl
@[simp] theorem atI_map {α β : Type} (f : α → β) (xs : List α) (i : Int) : atI (xs.map f) i = (atI xs i).map f := by
  unfold atI
  rw [List.length_map]
  cases ixN xs.length i with
  | none => rfl
  | some j => simp
/-- a comprehension of no test, over data -/
theorem compMap {α : Type} {s : Sl} {h : Hs} (l : List α) (i : α → D) (gm : GM) (f : EM) (y : α → PyData) (H : ∀ c ∈ l, ∃ s1, gm (i c) s h = some s1 ∧ f s1 h = some (.ok (.v (y c)) h)) :
    compL none gm tYes' f (l.map i) s h = some (l.map (fun c => .v (y c)), h) := by
  rw [compData l i gm tYes' f (fun _ => true) y fun c hc => let ⟨s1, e1, e2⟩ := H c hc; ⟨s1, e1, rfl, fun _ => e2⟩, List.filter_eq_self.mpr (fun _ _ => rfl), List.map_map]
  rfl
theorem sz {n : Nat} (h : n ≤ 10000000) : (n ≤ sizeLine) = True := eq_true (ten_line' h)
end Vl
set_option maxHeartbeats 4000000
namespace Vl
open PySem PySem.Spec PyProof.Rows L2

/-! ## a def's promise where nothing is being told by repr around it -/
structure FnG (P : Program) (w : World) (K : KF) (mg : Str → Option Value) (base : Heap) (CX : CXT) (k : Nat) (f : Addr) (fd : FuncData) (ps : List Str) (sp : Sp) : Prop where
  len : ∀ vs H Q E, sp vs H Q E → vs.length = ps.length
  run : ∀ (A : Around) (outer : List Env) (s : Shared) (H : Hp) (args : Args) (us : List Value) (vs : List V) (Q : VK) (E : XK), Room k A → A.guards = some [] → Env0 P w K mg base A outer s H → BindsTo s fd args (ps.zip us) → Vals vs us → sp vs H Q E →
    codeAny (model P w) A (.call (.ref f) args) (CR CX outer P w H s Q E) s
section
variable {P : Program} {w : World} {K : KF} {mg : Str → Option Value} {base : Heap} {CX : CXT} {k : Nat} {f : Addr} {fd : FuncData} {N ps : List Str} {sp : Sp}
theorem _root_.L2.FnOk.toG (F : FnOk P w K mg base CX k f fd ps sp) : FnG P w K mg base CX k f fd ps sp := ⟨F.len, fun A outer s H args us vs Q E hr _ => F.run A outer s H args us vs Q E hr⟩
theorem FnG.mono {j : Nat} (F : FnG P w K mg base CX j f fd ps sp) (h : j ≤ k) : FnG P w K mg base CX k f fd ps sp := ⟨F.len, fun A outer s H args us vs Q E hr => F.run A outer s H args us vs Q E (hr.mono h)⟩
/-- what leaves a body by its end -/
theorem ends_body {X : Cx} {outer : List Env} {s0 s' : Shared} {Q : VK} {H0 : Hp} {fl : Flow} (hX : ∀ {σ' : L2.St} {H' : Hp} {v : V} {u : Value}, Inv X [] σ' H' s' → RelV v u → Q v H' → CE outer X.prog X.w H0 s0 Q u s')
    (h : SP X [] { nx := fun _ H' => Q .non H', rt := Q } fl s') : (match fl with
      | .ret u => CE outer X.prog X.w H0 s0 Q u s'
      | .next => CE outer X.prog X.w H0 s0 Q .none s'
      | _ => False) := by
  cases fl with
  | ret u =>
    obtain ⟨v, σ', H', J, rv, q⟩ := h
    exact hX J rv q
  | next =>
    obtain ⟨σ', H', J, q⟩ := h
    exact hX (v := V.non) (u := Value.none) J rfl q
  | brk =>
    obtain ⟨_, _, _, q⟩ := h
    exact q
  | cont =>
    obtain ⟨_, _, _, q⟩ := h
    exact q
/-- the rule for such a def -/
theorem okG {x qual : Str} {params : Arguments} {body : List Stmt} {scope : Scope} (F : FunD K x qual params body scope [] [] f fd) (S : FnScope N ps scope) (len : ∀ vs H Q E, sp vs H Q E → vs.length = ps.length)
    (hbody : ∀ (cdv : Value) (A : Around) (outer : List Env) (s : Shared) (H : Hp) (vs : List V) (Q : VK) (E : XK), Room k (A.deeper (envOfC qual scope s.heap.objs.size f cdv)) → A.guards = some [] → sp vs H Q E →
      ∃ t, PSs (cxOf CX P w K mg base N qual scope f cdv A outer s H E) body t ∧ t { nx := fun _ H' => Q .non H', rt := Q } (start N vs) H) : FnG P w K mg base CX (k + 1) f fd ps sp := by
  obtain ⟨oc, od, dV, kV, doc, pm, an, cdv, ct, osl, rfl, lk, hcd, _, _⟩ := F.ex
  refine ⟨len, fun A outer s H args us vs Q E room gds env0 binds rel hsp => ?_⟩
  have kin : K.In s.heap := env0.mod.kin.keeps fun b o e => (env0.bs b o e).1
  refine codeAny_call_function room.depth (kin _ _ lk) rfl S.co S.gen rfl (PySem.W.codeRec_of kin hcd) (binds _ _ _ _ ?_)
  refine wpAny_newFunctionEnv_cells S.kind (fun y hy => (S.par y.1 (List.of_mem_zip (a := y.1) (b := y.2) hy).1).imp id fun q => ⟨q, PySem.W.cellsFrom_some _ _ _ (.inl q)⟩) fun env he s1 made => ?_
  subst he
  refine ⟨(env0.mod.nolimit.keeps fun b o e => (env0.bs b o e).1).keeps made.toInCall.keep, codeAny_func ?_⟩
  obtain ⟨t, runs, starts⟩ := hbody cdv A outer s H vs Q E (room.deeper _) gds hsp
  refine wpAny_mono (runs.run [] s1 (start N vs) H _ (inv_start S room.hd env0 (len _ _ _ _ hsp) rel made) starts) (fun fl s' ends => ?_) fun _ _ z => z
  have := ends_body (outer := outer) (s0 := s) (H0 := H) (fun {σ' H' v u} J rv q => ⟨v, H', J.os, J.bare, J.base, J.hok, rv, q⟩) ends
  cases fl with
  | ret u => exact this
  | next => exact this
  | brk => exact this.elim
  | cont => exact this.elim
end
/-- the law's call, its script the one thing that may be known -/
theorem law_callG {P : Program} {w : World} {K : KF} {mg mb : Str → Option Value} {k : Nat} {fa a : Addr} {fd : FuncData} {x : Str} {sp : Sp} {s₁ : Shared} {vs : List Value} {ns : List Int}
    (KX : K.In s₁.heap) (hns : s₁.heap.Ns mainGlobals mg) (hb : s₁.heap.Ns builtinsNs mb) (hbb : ∀ x : Str, x ≠ "__name__" → mb x = bootBuiltins x) (hlim : s₁.heap.NoLimit) (hg : s₁.gens = #[])
    (ha : s₁.heap.get? a = some { cls := .type "list", data := .seq vs.toArray }) (hi : IntsAre vs ns) (hl : ns.length ≤ sizeLine) (hr : Room k callerA)
    (F : ∀ base : Heap, K.In base → base.Ns mainGlobals mg → FnG P w K mg base CX0 k fa fd [x] sp) (hbind : ∀ (s : Shared) (u : Value), BindsTo s fd ⟨[u], []⟩ [(x, u)])
    (hsp : ∀ H : Hp, Only H → SqL K H a (ns.map V.int) → sp [.ref a] H (fun v _ => v = .bl true) fun _ _ _ => False) :
    codeAny (model P w) callerA (.call (.ref fa) ⟨[.ref a], []⟩) (fun r s' => r = .ok (.ret (.bool true)) ∧ OldK s₁.heap s'.heap ∧ s'.os = s₁.os ∧ AllBare s'.gens) s₁ := by
  have rel := vals_ints hi
  obtain ⟨H, only, seq, fits, just, out⟩ : ∃ H : Hp, Only H ∧ SqL K H a (ns.map V.int) ∧ HOk P w H s₁.heap ∧ (∀ b, H b ≠ none → b = a) ∧ (H a ≠ none → K.lookup a = none) := by
    cases hk : K.lookup a with
    | some o =>
      have e := KX a o hk
      rw [ha] at e
      cases e
      exact ⟨fun _ => none, fun _ => .inl rfl, .inr ⟨_, vs.toArray, _, hk, rfl, rfl, rfl, by rw [List.size_toArray, hi.length]; exact hl, by simpa using rel⟩, fun b u z => (by cases (show (none : Option HO) = some u from z)), fun b z => absurd rfl z, fun z => absurd rfl z⟩
    | none =>
      refine ⟨fun b => if b = a then some (.frz { cls := .type "list", data := .seq vs.toArray } (.lst (ns.map V.int))) else none, fun b => ?_, .inl (.inr ⟨{ cls := .type "list", data := .seq vs.toArray }, if_pos rfl⟩), fun b u z => ?_, fun b z => ?_, fun _ => rfl⟩
      · by_cases e : b = a
        · exact .inr ⟨_, _, if_pos e⟩
        · exact .inl (if_neg e)
      · by_cases e : b = a
        · cases (if_pos e).symm.trans z
          subst e
          exact ⟨ha, by rw [List.length_map]; exact hl, vs, _, rel, ha⟩
        · cases (if_neg e).symm.trans z
      · by_cases e : b = a
        · exact e
        · exact absurd (if_neg e) z
  have hid : ∀ {b : Addr} {o : Obj}, s₁.heap.get? b = some o → H b = none → (hidT s₁.heap H).get? b = some o := fun e n => hidT_get e n
  have free : ∀ {b : Addr} {o : Obj}, s₁.heap.get? b = some o → (∀ xs n, o.data ≠ .seq xs n) → H b = none := fun {b o} e d => by
    cases q : H b with
    | none => rfl
    | some u =>
      cases just b (by rw [q]; exact fun z => by cases z)
      rw [ha] at e
      cases e
      exact absurd rfl (d _ _)
  have ns' : ∀ {b : Addr} {m : Str → Option Value}, s₁.heap.Ns b m → (hidT s₁.heap H).Ns b m := fun {b m} ⟨o, es, ep, e, d, r⟩ => ⟨o, es, ep, hid e (free e fun xs n z => by rw [d] at z; cases z), d, r⟩
  have kin : K.In (hidT s₁.heap H) := fun b o e => hid (KX b o e) (by
    cases q : H b with
    | none => rfl
    | some u =>
      cases just b (by rw [q]; exact fun z => by cases z)
      rw [out (by rw [q]; exact fun z => by cases z)] at e
      cases e)
  have md : Mod K mg (hidT s₁.heap H) := ⟨kin, ns' hns, ⟨mb, ns' hb, hbb⟩, let ⟨mc, h1, h2⟩ := hlim; ⟨mc, ns' h1, h2⟩⟩
  have none_in : ∀ b : Addr, b ∉ ([] : List Addr) := fun b z => by cases z
  have env0 : Env0 P w K mg (hidT s₁.heap H) callerA [] s₁ H := ⟨rfl, md, fun b o e => of_hidT e, Nat.le_of_eq (hidT_size _ _), trivial, fun b hb => absurd hb (none_in b), fits, .of_eq hg⟩
  refine codeAny_mono ((F _ kin (ns' hns)).run callerA [] s₁ H ⟨[.ref a], []⟩ [.ref a] [.ref a] _ _ hr rfl env0 (hbind s₁ (.ref a)) (.cons rfl .nil) (hsp H only seq)) fun r s' h => ?_
  cases r with
  | error e => exact h.elim
  | ok fl =>
    cases fl with
    | ret u =>
      obtain ⟨v, H', os, bare, un, fits', r', rfl⟩ := h
      obtain rfl : u = Value.bool true := r'
      refine ⟨rfl, OldK.of_keep fun b o e => ?_, os, bare⟩
      cases q : H b with
      | none => exact un.keep b o e q (none_in b) (none_in b)
      | some u =>
        rcases only b with z | ⟨ob, xs, z⟩
        · rw [q] at z; cases z
        · obtain ⟨e1, _⟩ := fits b _ z
          obtain ⟨e2, _⟩ := fits' b _ (un.frzs b ob _ z)
          rw [e] at e1
          cases e1
          exact e2
    | _ => exact h.elim
theorem walk_G {l : PySem.W.OpenLaw} {n k : Nat} {q : Program} {loose : List Str} {XP : (Str → Option Value) → Heap → Prop} {YP : World → Heap → Prop} {d : DefRec} {x : Str}
    (hn : l.most = some n) (hn2 : n ≤ sizeLine) (hdf : d.params.defaults = []) (hr : Room k callerA)
    (F : ∀ (w : World) (mg : Str → Option Value) (fa : Addr) (h : Heap), YP w h → h.Ns mainGlobals mg → mg d.name = some (.ref fa) →
      ∃ (K : KF) (fd : FuncData) (sp : Sp), K.In h ∧ (∀ (s : Shared) (u : Value), BindsTo s fd ⟨[u], []⟩ [(x, u)]) ∧
        (∀ (H : Hp) (a : Addr) (ns : List Int), ns.length ≤ n → Only H → SqL K H a (ns.map V.int) → sp [.ref a] H (fun v _ => v = .bl true) fun _ _ _ => False) ∧
        ∀ base : Heap, K.In base → base.Ns mainGlobals mg → FnG l.prog w K mg base CX0 k fa fd [x] sp) :
    PySem.W.WalkO q loose XP YP l.row.toRowW d [] (fun f vs => PySem.call f vs) := by
  refine Att.attach_call hn hdf fun w s₀ s₁ mg mb fa o pm cd doc a vs ns G Y ho hd hcd hmg hobj hints hlen hg => ?_
  obtain ⟨K, fd, sp, KX, hb, hsp, hF⟩ := F w mg fa _ Y G.T.g hmg
  exact law_callG KX G.T.g G.T.b G.T.builtins G.T.nolimit hg hobj hints (Nat.le_trans hlen hn2) hr hF hb fun H hO hS => hsp H a ns hlen hO hS
/-! ## bodies, calls -/
theorem fn_okG {P : Program} {w : World} {K : KF} {mg : Str → Option Value} {base : Heap} {x qual : Str} {params : Arguments} {body : List Stmt} {scope : Scope} {f : Addr} {fd : FuncData} {N ps : List Str} {k : Nat} {b : SM} {F : Fn}
    (Fd : FunD K x qual params body scope [] [] f fd) (S : FnScope N ps scope) (hF : F = mkFn N.length b)
    (hb : ∀ (cdv : Value) (A : Around) (outer : List Env) (s : Shared) (H : Hp) (E : XK), Room k (A.deeper (envOfC qual scope s.heap.objs.size f cdv)) → (A.deeper (envOfC qual scope s.heap.objs.size f cdv)).guards = some [] →
      SSs (cxOf (L2.CX P w) P w K mg base N qual scope f cdv A outer s H E) (fun cls d _ H => E cls d H) body b) : FnG P w K mg base (L2.CX P w) (k + 1) f fd ps (spF K mg ps.length F) := by
  subst hF
  refine okG Fd S (fun vs H Q E ⟨w, ds, _, _, r, hl, _⟩ => r.len.trans hl) fun cdv A outer s H vs Q E hr gd hsp => ?_
  obtain ⟨w1, ds, rfl, ok, r, hl, hw⟩ := hsp
  refine ⟨_, hb cdv A outer s w1.H E hr gd, ⟨w1, ds.map some ++ List.replicate (N.length - ds.length) none, rfl, ok, srep_start r, ?_⟩⟩
  unfold mkFn WpF at hw
  unfold WpS
  cases e : b (ds.map some ++ List.replicate (N.length - ds.length) none) w1.h with
  | none => simp only [e] at hw
  | some r =>
    cases r with
    | nx s1 h1 =>
      simp only [e] at hw
      exact fun w' σ' l o eh _ => hw w' .non l o eh rfl
    | rt d h1 =>
      simp only [e] at hw
      exact hw
    | bk s1 h1 => simp only [e] at hw
    | ct s1 h1 => simp only [e] at hw
    | ex s1 x h1 =>
      simp only [e] at hw
      exact fun w' σ' cls da l o eh _ r => hw w' cls da l o eh r
theorem fn_okLG {P : Program} {w : World} {K : KF} {mg : Str → Option Value} {base : Heap} {x qual : Str} {params : Arguments} {body : List Stmt} {scope : Scope} {f : Addr} {fd : FuncData} {N ps : List Str} {k : Nat} {b : SM} {F : Fn}
    (Fd : FunD K x qual params body scope [] [] f fd) (S : FnScope N ps scope) (hF : F = mkFn N.length b)
    (hb : ∀ (cdv : Value) (A : Around) (outer : List Env) (s : Shared) (H : Hp) (E : XK), Room k (A.deeper (envOfC qual scope s.heap.objs.size f cdv)) → (A.deeper (envOfC qual scope s.heap.objs.size f cdv)).guards = some [] →
      SSs (cxOf CX0 P w K mg base N qual scope f cdv A outer s H E) W0 body b) : FnG P w K mg base CX0 (k + 1) f fd ps (fun vs H Q _ => spF K mg ps.length F vs H Q fun _ _ _ => False) := by
  subst hF
  refine okG Fd S (fun vs H Q E ⟨w, ds, _, _, r, hl, _⟩ => r.len.trans hl) fun cdv A outer s H vs Q E hr gd hsp => ?_
  obtain ⟨w1, ds, rfl, ok, r, hl, hw⟩ := hsp
  refine ⟨_, hb cdv A outer s w1.H E hr gd, ⟨w1, ds.map some ++ List.replicate (N.length - ds.length) none, rfl, ok, srep_start r, ?_⟩⟩
  unfold mkFn WpF at hw
  unfold WpS
  cases e : b (ds.map some ++ List.replicate (N.length - ds.length) none) w1.h with
  | none => simp only [e] at hw
  | some r =>
    cases r with
    | nx s1 h1 =>
      simp only [e] at hw
      exact fun w' σ' l o eh _ => hw w' .non l o eh rfl
    | rt d h1 =>
      simp only [e] at hw
      exact hw
    | bk s1 h1 => simp only [e] at hw
    | ct s1 h1 => simp only [e] at hw
    | ex s1 x h1 =>
      simp only [e] at hw
      exact fun w' σ' cls da l o eh _ r => hw w' cls da l o eh r
section
variable {X : Cx} {W : WX} {e : Expr} {es : List Expr} {a : AM} {F : Fn} {f : Addr} {fd : FuncData} {ps : List Str} {k : Nat} {x : Str} {p pos : Pos}
theorem pe_callG {sp : Sp} {E : L2.St → XK} {t : TA} (F : FnG X.prog X.w X.K X.mg X.base (L2.CX X.prog X.w) k f fd ps sp) (hr : Room k X.A) (gd : X.A.guards = some []) (hg : Gl X x) (hm : X.mg x = some (.ref f)) (hk : PySem.W.keepIn X.K (.ref f) = true) (hb : Binds X.K fd ps []) (hx : ∀ σ, PassesAt (L2.CX X.prog X.w) X σ (E σ))
    (ha : PA X (e :: es) t) (hdb : (x == ("__debug__" : Str)) = false := by decide) (he : starEach (e :: es) X.env = (false, eval e X.env) :: starEach es X.env := by rfl) (hpl : (backTo pos (starEach es X.env)).any (·.1) = false := by rfl) :
    PE X (.Call (.Name x p) (e :: es) [] pos) (tCallS sp E t) := by
  refine ⟨fun pins s σ H Q I h => wpAny_Call_Name_kw (ld_glob I hg hm (PySem.W.callWith_K (h₀ := X.base) I.ok.mod.kin hk (thn (ha.run pos pins s σ H _ I h) fun us s1 ⟨vs, H1, J, r, q⟩ => ⟨J.kIn, ?_⟩) he hpl) hdb)⟩
  have bd := hb s1 us J.kIn (by rw [List.append_nil, ← r.length]; exact F.len _ _ _ _ q)
  rw [List.append_nil] at bd
  refine wpAny_call (codeAny_mono (F.run X.A X.stack s1 H1 ⟨us, []⟩ us vs Q (E σ) hr gd J.env0 bd r q) fun out s' hq => ?_)
  cases out with
  | error u => exact hx σ pins H1 s1 u s' J hq
  | ok fl =>
    cases fl with
    | ret u => exact J.after hq
    | _ => exact hq.elim
/-- a call of a def by its name -/
theorem se_callG (G : FnG X.prog X.w X.K X.mg X.base (L2.CX X.prog X.w) k f fd ps (spF X.K X.mg ps.length F)) (tk : Takes X W) (hr : Room k X.A) (gd : X.A.guards = some []) (hg : Gl X x) (hm : X.mg x = some (.ref f)) (hk : PySem.W.keepIn X.K (.ref f) = true) (hb : Binds X.K fd ps [])
    (hl : (e :: es).length = ps.length) (ha : SA X W (e :: es) a) (hal : ∀ s h ds h', a s h = some (.ok ds h') → ds.length = (e :: es).length) (hdb : (x == ("__debug__" : Str)) = false := by decide) (he : starEach (e :: es) X.env = (false, eval e X.env) :: starEach es X.env := by rfl) (hpl : (backTo pos (starEach es X.env)).any (·.1) = false := by rfl) :
    SE X W (.Call (.Name x p) (e :: es) [] pos) (eCall F a) :=
  PE.mono' (pe_callG G hr gd hg hm hk hb (E := WE W) (fun σ => passAt tk σ) ha hdb he hpl) fun σ H Q ⟨w, sl, eH, ok, hs, h⟩ => by
    subst eH
    exact call_args hl hal ok hs h
end
end Vl
set_option maxHeartbeats 4000000
namespace Vl
open PySem PySem.Spec PyProof.Rows L2

/-! ## repr -/
/-! ## str(n), str(text) -/
end Vl
set_option maxHeartbeats 4000000
namespace Vl
open PySem PySem.Spec PyProof.Rows L2

/-! ## B.__init__(self, ..) of an own exception class B that has no __init__ of its own -/
structure HinC (K : KF) (B : Addr) (mc : Value) : Prop where
  rd : PySem.W.readsIn K B mc = true
  ga : PySem.W.specialIn K (.ref B) "__getattribute__" = some (some (.builtin "type.__getattribute__"))
  at_ : PySem.W.findCls K (.ref B) mc "__init__" = some (.val (.builtin "ValueError.__init__"))
section
variable {X : Cx} {e : Expr} {es : List Expr} {ta : TA} {p1 p2 pos : Pos} {x : Str} {B : Addr} {mc : Value}
theorem pe_hinit {pl : Sem Bool} (hg : Gl X x) (hm : X.mg x = some (.ref B)) (hB : HinC X.K B mc) (ha : PA X (e :: es) ta) (hdb : (x == ("__debug__" : Str)) = false := by decide)
    (hc : eval (.Call (.Attribute (.Name x p1) "__init__" p2) (e :: es) [] pos) X.env = (do
      let ov ← eval (.Name x p1) X.env
      standAt p2.atName
      let (f, first) ← holding [ov] (getMethod ov "__init__" pl)
      callWith pos f first (backTo pos (starEach (e :: es) X.env)) (backToKw pos (keywordEach [] X.env))) := by rfl)
    (he : starEach (e :: es) X.env = (false, eval e X.env) :: starEach es X.env := by rfl) (hpl : (backTo pos (starEach es X.env)).any (·.1) = false := by rfl) :
    PE X (.Call (.Attribute (.Name x p1) "__init__" p2) (e :: es) [] pos) (tVeI X.K ta) := by
  refine ⟨fun pins s σ H Q I h => ?_⟩
  refine PySem.W.methodCall_KW (ld_glob I hg hm ?_ hdb) hc
  refine PySem.W.method_cls I.kIn hB.ga (PySem.W.cls_value I.kIn hB.rd hB.at_ (by decide +kernel) ?_)
  show wpAny _ _ (callWith pos (Value.builtin "ValueError.__init__") [] (backTo pos (starEach (e :: es) X.env)) []) _ _ _
  refine PyProof.Rows.callWith_method1 (thn (ha.run pos pins _ σ H _ (I.tok _) h) fun us s1 ⟨vs, H1, I1, r1, a, C, ws, ev, hl, T, ea, q⟩ => ?_) he hpl
  subst ev
  cases r1 with
  | @cons _ u0 _ ur ra rw' =>
    obtain rfl : u0 = Value.ref a := ra
    have hlen : ur.length ≤ sizeLine := by
      rw [← Paired.length rw', sizeLine_eq]
      omega
    exact oinit_ok T I1 ea hlen fun s' J => ⟨.non, H1, J, rfl, q⟩
end
/-- an own exception class over ValueError, with a dict: what the written part must show -/
def oexB (K : KF) (C : Addr) : Bool := (match K.lookup C with
  | some ⟨.type "type", _, .cls cd, sl⟩ => (match cd.mro, sl.toList with
    | .ref C' :: bm, [_, _, _, _, some (.builtin n), _] => C' == C && n == "ValueError.__new__" && !cd.hasDel && cd.hasDict && PySem.HandSPX.refsVE bm
    | _, _ => false)
  | _ => false) && (decide (PySem.W.findIn K (.ref C) "__setattr__" = some (some (.builtin "object.__setattr__"))) && (decide (PySem.W.subIn K (.ref C) (.type "BaseException") = some true) && (decide (PySem.W.typeIn K (.ref C) = some (.type "type")) && PySem.W.keepIn K (.ref C))))
theorem oexB_ok {K : KF} {C : Addr} (h : oexB K C = true) : OexC K C := by
  unfold oexB at h
  rw [Bool.and_eq_true, Bool.and_eq_true, Bool.and_eq_true, Bool.and_eq_true] at h
  obtain ⟨q, h2, h3, h4, h5⟩ := h
  refine ⟨?_, of_decide_eq_true h2, of_decide_eq_true h3, of_decide_eq_true h4, h5⟩
  split at q
  · rename_i dd cd sl ho
    split at q
    · rename_i C' bm k0 k1 k2 k3 n k5 hm hs
      simp only [Bool.and_eq_true, beq_iff_eq, Bool.not_eq_true'] at q
      obtain ⟨⟨⟨⟨rfl, rfl⟩, hdel⟩, hdict⟩, hve⟩ := q
      obtain ⟨nm, bs, mro, ns, qn, hd, sn, sub, ab, col, del⟩ := cd
      dsimp only at hm hdel hdict
      subst hm hdel hdict
      have hsl : sl = #[k0, k1, k2, k3, some (.builtin "ValueError.__new__"), k5] := by
        obtain ⟨l⟩ := sl
        simp only at hs
        rw [hs]
      subst hsl
      exact ⟨_, _, _, _, _, _, _, _, _, _, _, _, _, _, _, ho, hve⟩
    · cases q
  · cases q
/-! ## an exception's __init__: its fields, one after the other -/
inductive FldS (X : Cx) : List Stmt → List (Str × Nat) → Prop
  | nil : FldS X [] []
  | cons {st : Stmt} {r : List Stmt} {f : Str} {i : Nat} {fs : List (Str × Nat)} : PS X st (tOst X.K f (tVar 0) (tVar i)) → FldS X r fs → FldS X (st :: r) ((f, i) :: fs)
def tFlds (K : KF) : List (Str × Nat) → TS
  | [] => tNext
  | (f, i) :: r => tSeq (tOst K f (tVar 0) (tVar i)) (tFlds K r)
theorem FldS.pss {X : Cx} : ∀ {st : List Stmt} {fs : List (Str × Nat)}, FldS X st fs → PSs X st (tFlds X.K fs)
  | _, _, .nil => pss_nil
  | _, _, .cons h r => pss_cons h r.pss
theorem upd_self {H : Hp} {a : Addr} {o : HO} (h : H a = some o) : upd H a o = H := by
  funext b
  by_cases e : b = a
  · subst e
    rw [upd_same, h]
  · rw [upd_ne e]
theorem upd_upd {H : Hp} {a : Addr} {o u : HO} : upd (upd H a o) a u = upd H a u := by
  funext b
  by_cases e : b = a
  · subst e
    rw [upd_same, upd_same]
  · rw [upd_ne e, upd_ne e, upd_ne e]
/-- the fields behind the first -/
theorem flds_more {K : KF} {D : Ends} {σ : L2.St} {a C dx : Addr} (T : OexC K C) (h0 : σ[0]? = some (some (.ref a))) : ∀ (fs : List (Str × Nat)) (vs : List V) (acc : List (Str × V)) (H : Hp), dx ≠ a → H a = some (exo a C (some dx)) → H dx = some (exd dx acc) → acc.length + fs.length ≤ 900 →
    (∀ f i, (f, i) ∈ fs → PySem.W.findIn K (.ref C) f = some none) → fs.length = vs.length → (∀ (j : Nat) (f : Str) (i : Nat) (v : V), fs[j]? = some (f, i) → vs[j]? = some v → σ[i]? = some (some v)) →
    D.nx σ (upd H dx (exd dx (((fs.map (·.1)).zip vs).reverse ++ acc))) → tFlds K fs D σ H
  | [], vs, acc, H, hne, ha, hd, hl, hf, hv, hs, q => by
    rw [List.map_nil, List.zip_nil_left, List.reverse_nil, List.nil_append, upd_self hd] at q
    exact q
  | (f, i) :: r, [], acc, H, _, _, _, _, _, hv, _, _ => by simp at hv
  | (f, i) :: r, v :: vs, acc, H, hne, ha, hd, hl, hf, hv, hs, q => by
    rw [List.length_cons] at hl
    refine ⟨v, hs 0 f i v rfl rfl, .ref a, h0, a, C, rfl, T, hf f i List.mem_cons_self, .inr ⟨dx, acc, ha, hd, by omega, ?_⟩⟩
    refine flds_more T h0 r vs ((f, v) :: acc) _ hne ?_ upd_same (by rw [List.length_cons]; omega) (fun g j hg => hf g j (List.mem_cons_of_mem _ hg)) (by simpa using hv) (fun j g k u e1 e2 => hs (j + 1) g k u (by simpa using e1) (by simpa using e2)) ?_
    · rw [upd_ne fun z => hne z.symm]
      exact ha
    · rw [upd_upd]
      rw [List.map_cons, List.zip_cons_cons, List.reverse_cons, List.append_assoc] at q
      exact q
theorem upd_swap {H : Hp} {a d : Addr} {o u w : HO} (h : d ≠ a) : upd (upd (upd H d o) a u) d w = upd (upd H d w) a u := by
  funext b
  by_cases e : b = d
  · subst e
    rw [upd_same, upd_ne h, upd_same]
  · rw [upd_ne e]
    by_cases e2 : b = a
    · subst e2
      rw [upd_same, upd_same]
    · rw [upd_ne e2, upd_ne e2, upd_ne e, upd_ne e]
def spInit (C : Addr) (names : List Str) : Sp := fun vs H Q _ => ∃ a ws, vs = .ref a :: ws ∧ ws.length = names.length ∧ H a = some (exo a C none) ∧ ∀ dx, H dx = none → dx ≠ a → Q .non (upd (upd H dx (exd dx (names.zip ws).reverse)) a (exo a C (some dx)))
theorem flds_all {K : KF} {D : Ends} {σ : L2.St} {a C : Addr} (T : OexC K C) (h0 : σ[0]? = some (some (.ref a))) (f : Str) (i : Nat) (fs : List (Str × Nat)) (v : V) (vs : List V) (H : Hp) (ha : H a = some (exo a C none)) (hl : fs.length ≤ 800)
    (hf : ∀ g j, (g, j) ∈ (f, i) :: fs → PySem.W.findIn K (.ref C) g = some none) (hv : fs.length = vs.length) (hs : ∀ (j : Nat) (g : Str) (k : Nat) (u : V), ((f, i) :: fs)[j]? = some (g, k) → (v :: vs)[j]? = some u → σ[k]? = some (some u))
    (q : ∀ dx, H dx = none → dx ≠ a → D.nx σ (upd (upd H dx (exd dx (((f :: fs.map (·.1)).zip (v :: vs)).reverse))) a (exo a C (some dx)))) : tFlds K ((f, i) :: fs) D σ H := by
  refine ⟨v, hs 0 f i v rfl rfl, .ref a, h0, a, C, rfl, T, hf f i List.mem_cons_self, .inl ⟨ha, fun dx hd hne => ?_⟩⟩
  refine flds_more T h0 fs vs [(f, v)] _ hne upd_same ?_ (by rw [List.length_singleton]; omega) (fun g j hg => hf g j (List.mem_cons_of_mem _ hg)) hv (fun j g k u e1 e2 => hs (j + 1) g k u (by simpa using e1) (by simpa using e2)) ?_
  · rw [upd_ne hne, upd_same]
  · rw [upd_swap hne]
    have := q dx hd hne
    rw [List.zip_cons_cons, List.reverse_cons] at this
    exact this
theorem init_ok {P : Program} {w : World} {K : KF} {mg : Str → Option Value} {base : Heap} {x qual : Str} {params : Arguments} {hd : Stmt} {rest : List Stmt} {scope : Scope} {fI : Addr} {fd : FuncData} {N ps : List Str} {k : Nat} {m f : Str} {names : List Str} {C : Addr}
    (Fd : FunD K x qual params (hd :: rest) scope [] [] fI fd) (S : FnScope N ps scope) (T : OexC K C) (hp : ps.length = names.length + 2) (hl : names.length ≤ 800) (hf : ∀ g ∈ f :: names, PySem.W.findIn K (.ref C) g = some none)
    (hb : ∀ (cdv : Value) (A : Around) (outer : List Env) (s : Shared) (H : Hp) (E : XK), PS (cxOf (L2.CX P w) P w K mg base N qual scope fI cdv A outer s H E) hd (tDrop (tVeI K (tCons (tVar 0) (tCons (tC (.str m)) tNil)))) ∧
      FldS (cxOf (L2.CX P w) P w K mg base N qual scope fI cdv A outer s H E) rest ((f :: names).zipIdx 1)) : FnOk P w K mg base (L2.CX P w) (k + 1) fI fd ps (spInit C (f :: names)) := by
  refine Fd.ok S (fun vs H Q E ⟨a, ws, e, h, _, _⟩ => by rw [e, List.length_cons, h, hp, List.length_cons]) fun cdv A outer s H vs Q E hr ⟨a, ws, e, hlen, ha, q⟩ => ?_
  subst e
  obtain ⟨h1, h2⟩ := hb cdv A outer s H E
  cases ws with
  | nil => simp at hlen
  | cons v vs =>
    have hst : ∀ (j : Nat) (u : V), (v :: vs)[j]? = some u → (L2.start N (.ref a :: v :: vs))[j + 1]? = some (some u) := fun j u hj => by
      unfold L2.start
      have hj' := (List.getElem?_eq_some_iff.mp hj).1
      rw [List.getElem?_append_left (by rw [List.length_map, List.length_cons]; omega), List.getElem?_map, List.getElem?_cons_succ, hj]
      rfl
    have h0 : (L2.start N (.ref a :: v :: vs))[0]? = some (some (.ref a)) := by
      unfold L2.start
      rw [List.getElem?_append_left (by rw [List.length_map, List.length_cons]; omega)]
      rfl
    refine ⟨_, pss_cons h1 h2.pss, .ref a, h0, a, C, [.str m], rfl, (by simp), T, ha, ?_⟩
    have hz : ∀ (l : List Str) (n : Nat), (l.zipIdx n).map (·.1) = l := fun l => by
      induction l with
      | nil => exact fun _ => rfl
      | cons y r ih => exact fun n => by rw [List.zipIdx_cons, List.map_cons, ih]
    have hg : ∀ (l : List Str) (n j : Nat) (g : Str) (k : Nat), (l.zipIdx n)[j]? = some (g, k) → k = n + j := fun l => by
      induction l with
      | nil => exact fun n j g k h => by simp at h
      | cons y r ih =>
        intro n j g k h
        rw [List.zipIdx_cons] at h
        cases j with
        | zero =>
          cases h
          rfl
        | succ j =>
          have := ih (n + 1) j g k (by simpa using h)
          omega
    refine flds_all T h0 f 1 (names.zipIdx 2) v vs H ha (by simpa using hl) (fun g j hm => hf g ?_) (by simpa using hlen.symm) (fun j g k u e1 e2 => ?_) fun dx hd hne => ?_
    · have : g ∈ ((f :: names).zipIdx 1).map (·.1) := List.mem_map.mpr ⟨(g, j), hm, rfl⟩
      rw [hz] at this
      exact this
    · have := hg (f :: names) 1 j g k e1
      subst this
      rw [Nat.add_comm]
      exact hst j u e2
    · rw [hz]
      exact q dx hd hne
/-! ## raise X(..) -/
def sThrow (c : Str) (names : List Str) (a : AM) : SM := fun s h => match a s h with
  | some (.ok ds h1) => some (.ex s ⟨c, (names.zip ds).reverse⟩ h1)
  | some (.ex x h1) => some (.ex s x h1)
  | none => none
theorem RepDs.rev {K : KF} {w : Wd} : ∀ {ds : List D} {vs : List V}, RepDs K w ds vs → RepDs K w ds.reverse vs.reverse
  | [], _, h => by rw [show _ = [] from h]; rfl
  | d :: ds, _, ⟨v, r, e, h1, h2⟩ => by
    rw [e, List.reverse_cons, List.reverse_cons]
    exact RepDs.app (RepDs.rev h2) ⟨v, [], rfl, h1, rfl⟩
section
variable {X : Cx} {W : WX} {e : Expr} {es : List Expr} {a : AM} {C fI : Addr} {fd : FuncData} {ps names : List Str} {k : Nat} {x : Str} {p pos pos2 : Pos}
theorem ss_throw (T : OexC X.K C) (iC : PySem.W.findIn X.K (.ref C) "__init__" = some (some (.ref fI))) (tI : PySem.W.typeIn X.K (.ref fI) = some (.type "function"))
    (F1 : FnOk X.prog X.w X.K X.mg X.base (L2.CX X.prog X.w) k fI fd ps (spInit C names)) (hr : Room (k + 1) X.A) (hb : Binds X.K fd ps []) (tk : Takes X W) (hc : X.calm = true) (hg : Gl X x) (hm : X.mg x = some (.ref C)) (ha : SA X W (e :: es) a)
    (hal : ∀ s h ds h', a s h = some (.ok ds h') → ds.length = names.length) (hn : names.length ≤ 1000) (hdb : (x == ("__debug__" : Str)) = false := by decide) (he : starEach (e :: es) X.env = (false, eval e X.env) :: starEach es X.env := by rfl) (hpl : (backTo pos (starEach es X.env)).any (·.1) = false := by rfl) :
    SS X W (.Raise (some (.Call (.Name x p) (e :: es) [] pos)) none pos2) (sThrow x names a) :=
  PS.mono' (ps_raise hc tk (pmk_oex T iC tI F1 hr hb .nil (fun _ _ _ _ _ _ _ c => by obtain ⟨_, _, _, _, _, _, _, _, _, _, _, _, q⟩ := c; exact q.elim) hg hm ha hdb he hpl)) fun E σ H ⟨w, sl, eH, ok, hs, h⟩ => by
    subst eH
    refine ⟨w, sl, rfl, ok, hs, ?_⟩
    unfold sThrow at h
    unfold WpA
    cases ea : a sl w.h with
    | none => simp only [ea] at h; exact h
    | some r =>
      cases r with
      | ex y h' =>
        simp only [ea] at h
        exact fun w' cls da l o eh r => h w' σ cls da l o eh (hs.mono ok l) r
      | ok ds h' =>
        simp only [ea] at h
        intro w1 vs l1 ok1 eh1 r1
        subst eh1
        have hlen := hal _ _ _ _ ea
        have hv := r1.len
        refine ⟨by omega, fun ad had => ?_⟩
        refine ⟨ad, vs, by rw [List.append_nil], by omega, upd_same, fun dx hdx hne => ⟨rfl, dx, (names.zip vs).reverse, upd_same, by rw [upd_ne hne, upd_same], ?_, ?_⟩⟩
        · rw [upd_ne hne] at hdx
          exact hdx
        · rw [upd_ne hne] at hdx
          have eH : upd (del (upd (upd (upd w1.H ad (exo ad C none)) dx (exd dx (names.zip vs).reverse)) ad (exo ad C (some dx))) ad) dx (.xd (names.zip vs).reverse) = (w1.newT dx (.xd (names.zip vs).reverse)).H := by
            show _ = upd w1.H dx _
            funext b
            by_cases e1 : b = dx
            · subst e1
              rw [upd_same, upd_same]
            · rw [upd_ne e1, upd_ne e1]
              by_cases e2 : b = ad
              · subst e2
                rw [del_same, had]
              · rw [del_ne e2, upd_ne e2, upd_ne e1, upd_ne e2]
          rw [eH]
          have le := Wd.newT_le (o := .xd (names.zip vs).reverse) hdx
          refine h (w1.newT dx (.xd (names.zip vs).reverse)) σ (.ref C) (some dx) (l1.trans le ok1) (Wd.newT_ok ok1 hdx) rfl ((hs.mono ok l1).mono ok1 le) ⟨C, hm, rfl, .inr ⟨dx, (names.zip vs).reverse, rfl, upd_same, ?_, ?_⟩⟩
          · rw [List.map_reverse, List.map_reverse, zip_snd (by omega), zip_snd (by omega)]
            exact RepDs.mono ok1 le _ (RepDs.rev r1)
          · rw [List.map_reverse, List.map_reverse, zip_fst (by omega), zip_fst (by omega)]
end
/-! ## what the head must show of the classes -/
def clsB : Stmt → List Stmt
  | .ClassDef (body := b) .. => b
  | _ => []
def hinB (K : KF) (B : Addr) : Bool := PySem.W.readsIn K B (.type "type") && (decide (PySem.W.specialIn K (.ref B) "__getattribute__" = some (some (.builtin "type.__getattribute__"))) && (match PySem.W.findCls K (.ref B) (.type "type") "__init__" with
  | some (.val (.builtin n)) => n == "ValueError.__init__"
  | _ => false))
theorem hinB_ok {K : KF} {B : Addr} (h : hinB K B = true) : HinC K B (.type "type") := by
  unfold hinB at h
  rw [Bool.and_eq_true, Bool.and_eq_true] at h
  obtain ⟨h1, h2, h3⟩ := h
  refine ⟨h1, of_decide_eq_true h2, ?_⟩
  split at h3
  · rename_i n e
    rw [e, eq_of_beq h3]
  · cases h3
def exB (K : KF) (C fI : Addr) (fs : List Str) : Bool := oexB K C && (decide (PySem.W.findIn K (.ref C) "__init__" = some (some (.ref fI))) && (decide (PySem.W.typeIn K (.ref fI) = some (.type "function")) && fs.all fun g => decide (PySem.W.findIn K (.ref C) g = some none)))
theorem exB_ok {K : KF} {C fI : Addr} {fs : List Str} (h : exB K C fI fs = true) : OexC K C ∧ PySem.W.findIn K (.ref C) "__init__" = some (some (.ref fI)) ∧ PySem.W.typeIn K (.ref fI) = some (.type "function") ∧ ∀ g ∈ fs, PySem.W.findIn K (.ref C) g = some none := by
  unfold exB at h
  rw [Bool.and_eq_true, Bool.and_eq_true, Bool.and_eq_true] at h
  exact ⟨oexB_ok h.1, of_decide_eq_true h.2.1, of_decide_eq_true h.2.2.1, fun g hg => of_decide_eq_true (List.all_eq_true.mp h.2.2.2 g hg)⟩
end Vl
set_option maxHeartbeats 4000000
namespace Vl
open PySem PySem.Spec PyProof.Rows L2

/-! ## a caught exception is tracked from then on -/
section
variable {X : Cx} {pins : List (Addr × Obj)} {σ : L2.St} {H : Hp} {s : Shared}
theorem exw_ok {P : Program} {w : World} {h : Heap} {a C : Addr} {da : Option Addr} {oe : Obj} {vs : Array Value} (he : h.get? a = some oe) (hz : Zc (.ref C) da oe) (hd : oe.data = .fields vs) : ObjOk P w H h a (exw a C da) := by
  obtain ⟨oc, od, dt, sl⟩ := oe
  obtain ⟨h1, h2⟩ := hz
  dsimp only at h1 h2 hd
  subst h1 h2 hd
  exact ⟨⟨vs, sl, he⟩, ⟨_, he⟩, fun h1 h2 z k => by
    obtain ⟨v, l, q⟩ := z
    exact ⟨v, l, k _ q⟩⟩
theorem exw_at {P : Program} {w : World} {h : Heap} {a C : Addr} {da : Option Addr} (hok : HOk P w H h) (he : H a = some (exw a C da)) : ∃ vs sl, h.get? a = some (⟨.ref C, da, .fields vs, sl⟩ : Obj) := by
  have x : ObjOk P w H h a (.ext fun h => ∃ vs sl, h.get? a = some (⟨.ref C, da, .fields vs, sl⟩ : Obj)) := hok a _ he
  exact x.1
theorem inv_trk (I : Inv X pins σ H s) {a C : Addr} {da : Option Addr} {oe : Obj} {vs : Array Value} (he : s.heap.get? a = some oe) (hz : Zc (.ref C) da oe) (hd : oe.data = .fields vs) (na : H a = none)
    (nL : a ≠ X.env.locals) (n0 : a ∉ X.ex → X.s_0.heap.get? a = none) (np : ∀ p ∈ X.pn ++ pins, p.1 ≠ a) : Inv X pins σ (upd H a (exw a C da)) s := by
  have hne : ∀ {b : Addr} {o : HO}, H b = some o → upd H a (exw a C da) b = some o := fun {b o} e => by
    rw [upd_ne (ne_of_none e na)]
    exact e
  have hnn : ∀ {b : Addr}, b ≠ a → H b = none → upd H a (exw a C da) b = none := fun {b} n e => by
    rw [upd_ne n]
    exact e
  refine ⟨I.ok, I.os, I.bare, ?_, I.loc, I.cell, hnn nL.symm I.free, fun x c e => ?_, fun p hp => ?_, fun b o e => ?_, I.len⟩
  · refine ⟨I.base.keep, I.base.slot, fun b o e n hx => ?_, I.base.there, fun b xs e => hne (I.base.tups b xs e), fun b o u e => hne (I.base.frzs b o u e), fun b ps e => ?_⟩
    · refine hnn (fun z => ?_) (I.base.free b o e n hx)
      subst z
      rw [n0 hx] at e
      cases e
    · obtain ⟨m, q⟩ := I.base.tbls b ps e
      exact ⟨m, hne q⟩
  · refine hnn (fun z => ?_) (I.freeC x c e)
    subst z
    obtain ⟨v, o, ho, hdc⟩ := I.cell x c e
    rw [he] at ho
    cases ho
    rw [hd] at hdc
    cases hdc
  · obtain ⟨h1, h2, h3⟩ := I.pin p hp
    exact ⟨h1, hnn (np p hp) h2, h3⟩
  · by_cases hb : b = a
    · subst hb
      rw [upd_same] at e
      cases e
      exact exw_ok he hz hd
    · rw [upd_ne hb] at e
      exact (I.hok b o e).stay (fun c u _ q => q) (fun c q => hne q) fun c xs q => hne q
theorem inv_in (I : Inv X pins σ H s) (a : Addr) : Inv (X.suite a (X.pn ++ pins)) [] σ H s :=
  ⟨I.ok.suite _ _, I.os, I.bare, I.base, I.loc, I.cell, I.free, I.freeC, fun p hp => I.pin p (by
    rw [List.append_nil] at hp
    exact hp), I.hok, I.len⟩
theorem inv_out {a : Addr} (I : Inv (X.suite a (X.pn ++ pins)) [] σ H s) (ok : X.Ok) : Inv X pins σ H s :=
  ⟨ok, I.os, I.bare, I.base, I.loc, I.cell, I.free, I.freeC, fun p hp => I.pin p (by
    rw [List.append_nil]
    exact hp), I.hok, I.len⟩
end
/-- what 'except x as n' wishes of what the body lets out; slot i is n's -/
def wTr (K : KF) (c : Value) (i : Nat) (ts : Addr → TS) (Wout : WX) (D : Ends) : WX := fun cls d σ H => ∃ b, PySem.W.exmOne K cls c = some b ∧ (b = true → ∃ C, cls = .ref C ∧ ∀ a, H a = none →
    ts a { nx := fun σ' H' => D.nx (σ'.set i none) H', rt := D.rt, bk := fun σ' H' => D.bk (σ'.set i none) H', ct := fun σ' H' => D.ct (σ'.set i none) H' } (σ.set i (some (.ref a))) (upd H a (exw a C d))) ∧
  (b = false → Wout cls d σ H)
section
variable {X : Cx} {x n : Str} {c : Value} {i : Nat} {body suite : List Stmt} {b₀ : Stmt} {np pos pos' : Pos} {tb : WX → TS} {ts : Addr → TS} {Wout : WX}
theorem ps_tryT (hs : X.stack = X.env :: X.outer) (hf : X.env.frame = some X.env.locals) (hN : X.N.Nodup) (hi : X.N[i]? = some n) (hln : X.env.kindOf n = some .local) (hc : Names X x c) (tk : Takes X Wout)
    (hb : ∀ (W : WX) (pn : List (Addr × Obj)) (xe : Value → Shared → Prop), Takes (X.tr pn xe) W → PassesOwn (model X.prog X.w) X.A X.env xe → PSs (X.tr pn xe) body (tb W))
    (hsu : ∀ (a : Addr) (pn : List (Addr × Obj)), PSs (X.suite a pn) (b₀ :: suite) (ts a)) :
    PS X (.Try body [.ExceptHandler (some (.Name x np)) (some n) (b₀ :: suite) pos'] [] [] pos) (fun D σ H => tb (wTr X.K c i ts Wout D) D σ H) := by
  refine ⟨fun pins s σ H D I h => ?_⟩
  have ok := I.ok
  have hfr : X.A.frames = some (X.env :: X.outer) := by
    rw [ok.frames, hs]
  refine wpAny_Try_except ?_
  let lookE : Value → Shared → Prop := fun e s₁ => wpAny (model X.prog X.w) X.A (noteFrame e X.env) (fun _ s₂ => wpAny (model X.prog X.w) X.A (setFlight e none)
    (fun _ s₃ => wpAny (model X.prog X.w) X.A (handleBy e X.env [.ExceptHandler (some (.Name x np)) (some n) (b₀ :: suite) pos']) (SP X pins D) X.xe s₃) X.xe s₂) X.xe s₁
  have hcatch : Takes (X.tr (X.pn ++ pins) lookE) (wTr X.K c i ts Wout D) := fun u s' xx => by
    obtain ⟨a, B, sI, pins', σ', H', cls, d, rfl, J', nb, up, sky, na, os, ag, b, hb1, hyes, hno⟩ := xx
    have J : Inv X pins σ' H' sI := J'.ofTry ok
    have sky' : Sky B (X.env :: X.outer) a (Zc cls d) X.env.locals s'.heap := by
      rw [← hs]
      exact sky
    show wpAny (model X.prog X.w) X.A (noteFrame (.ref a) X.env) _ _ _
    refine Sky.land Zc.steady hfr hf sky' fun h3 fl3 up3 => ?_
    obtain ⟨oe3, vs3, he3, hz3, hd3⟩ := fl3.there
    have nfr : a ∉ frs (X.env :: X.outer) := fun hm => by
      obtain ⟨_, o', e', hnf⟩ := fl3.2.2.1.mem hm
      rw [he3] at e'
      cases e'
      exact hnf _ hd3
    have nL : a ≠ X.env.locals := fun z => nfr (List.mem_filterMap.mpr ⟨X.env, List.mem_cons_self, by rw [hf, z]⟩)
    have nI : ∀ o, sI.heap.get? a = some o → False := fun o e => by
      have q := nb a o e (by
        rw [hs]
        exact nfr)
      rw [fl3.2.1] at q
      cases q
    have n0 : a ∉ X.ex → X.s_0.heap.get? a = none := fun hx => by
      cases q : X.s_0.heap.get? a with
      | none => rfl
      | some o =>
        obtain ⟨o', q2⟩ := J.base.there a o q hx
        exact (nI o' q2).elim
    have np' : ∀ p ∈ X.pn ++ pins, p.1 ≠ a := fun p hp z => nI p.2 (by
      rw [← z]
      exact (J.pin p hp).1)
    have at_ : ∀ {h : Heap}, HandSPX.FlyingZ B (X.env :: X.outer) a (Zc cls d) h → sI.heap.UpToSlots h → Inv X pins σ' H' { s' with heap := h } := fun {h} fl u => J.landed nb fl.1 u os ag
    have J3 := at_ fl3 (up.trans up3)
    have S3 := inv_in J3 a
    refine wpAny_handleBy_cons (codeAny_handlers_test ?_) (by intro q; cases q)
    have LT : PySem.W.Looks (model X.prog X.w) h3 (typeOf (.ref a)) cls := fun A Q E s k q => wpAny_typeOf_ref (k _ _ he3) (by
      rw [hz3.1]
      exact q)
    have LM := PySem.W.exm_one (M := model X.prog X.w) (J3.kIn) LT hb1
    have test : ∀ {Q E : Value → Shared → Prop}, Q c { s' with heap := h3 } → wpAny (model X.prog X.w) (X.A.mark (some (.ref a))) (eval (.Name x np) X.env) Q E { s' with heap := h3 } := fun {Q E} q => by
      obtain ⟨hg, hdbg, hm | ⟨hm, hv, hnn⟩⟩ := hc
      · exact ld_glob (X := X.suite a (X.pn ++ pins)) S3 hg hm q hdbg
      · exact ld_blt (X := X.suite a (X.pn ++ pins)) S3 hg hm hv q hnn hdbg
    refine test (LM.here ?_)
    cases b with
    | true =>
      obtain ⟨C, rfl, hgo⟩ := hyes rfl
      refine codeAny_handlers_suite_as ?_
      refine HandSPX.lands_againZ fl3 fun h4 fl4 up4 => ?_
      obtain ⟨oe4, vs4, he4, hz4, hd4⟩ := fl4.there
      have S4 := inv_in (inv_trk (at_ fl4 ((up.trans up3).trans up4)) he4 hz4 hd4 na nL n0 np') a
      refine store_ok (X := X.suite a (X.pn ++ pins)) (v := .ref a) S4 hN hi (.inl hln) rfl (fun s5 S5 => ?_) (.inr hln)
      refine wpAny_mono ((hsu a (X.pn ++ pins)).run [] s5 _ _ _ S5 (hgo a na)) (fun f s6 hsp => ?_) (fun _ _ z => False.elim z)
      have fin : ∀ {σ6 : L2.St} {H6 : Hp} {Q : Shared → Prop}, Inv (X.suite a (X.pn ++ pins)) [] σ6 H6 s6 → (∀ s7, Inv X pins (σ6.set i none) H6 s7 → Q s7) →
          wpAny (model X.prog X.w) X.A (do
            bindName X.env n .none
            unbindBehindTheSuite X.env n pos') (fun _ s7 => Q s7) X.xe s6 := fun {σ6 H6 Q} S6 hq => gone_ok (inv_out S6 ok) hN hi hln hq
      cases f with
      | next =>
        obtain ⟨_, _, S6, q6⟩ := hsp
        exact fin S6 fun s7 J7 => ⟨_, _, J7, q6⟩
      | brk =>
        obtain ⟨_, _, S6, q6⟩ := hsp
        exact fin S6 fun s7 J7 => ⟨_, _, J7, q6⟩
      | cont =>
        obtain ⟨_, _, S6, q6⟩ := hsp
        exact fin S6 fun s7 J7 => ⟨_, _, J7, q6⟩
      | ret u =>
        obtain ⟨_, _, _, S6, r6, q6⟩ := hsp
        exact fin S6 fun s7 J7 => ⟨_, _, _, J7, r6, q6⟩
    | false =>
      show wpAny _ X.A (handleBy (.ref a) X.env []) _ _ _
      refine wpAny_handleBy_nil ?_
      obtain ⟨k1, k2, k3, oe, vs, T, oT, ts', he, hz, hd, h1, hr⟩ := id fl3
      unfold PySem.passOn
      refine wpAny_bind (wpAny_field he hd h1 ?_)
      rw [if_neg (show ¬ ((Value.ref T == Value.none) = true) from by simp)]
      have fin : wpAny (model X.prog X.w) X.A (setFlight (.ref a) X.env.frame) (fun _ s4 => wpAny (model X.prog X.w) X.A (throw (.ref a) : Sem Flow) (SP X pins D) X.xe s4) X.xe { s' with heap := h3 } := by
        rw [hf]
        refine HandSPX.setFlight_upZ fl3 fun h4 hh4 up4 => wpAny_throw (tk _ _ ?_)
        refine ⟨a, B, sI, pins, σ', H', cls, d, rfl, J, nb, (up.trans up3).trans up4, .inr (.inr ?_), na, os, ag, hno rfl⟩
        rw [hs]
        exact hh4
      first
        | exact wpAny_bind (wpAny_pure (wpAny_bind fin))
        | exact wpAny_bind fin
  refine wpAny_mono ((hb (wTr X.K c i ts Wout D) (X.pn ++ pins) lookE hcatch PassesOwn.looking).run [] s σ H D (I.toTry _) h) (fun f s1 hsp => ?_) fun e s1 he => he
  cases f with
  | next =>
    obtain ⟨_, _, J', q⟩ := hsp
    exact wpAny_execs_nil ⟨_, _, J'.ofTry ok, q⟩
  | brk =>
    obtain ⟨_, _, J', q⟩ := hsp
    exact ⟨_, _, J'.ofTry ok, q⟩
  | cont =>
    obtain ⟨_, _, J', q⟩ := hsp
    exact ⟨_, _, J'.ofTry ok, q⟩
  | ret u =>
    obtain ⟨_, _, _, J', r, q⟩ := hsp
    exact ⟨_, _, _, J'.ofTry ok, r, q⟩
end
/-! ## isinstance of a tracked exception -/
section
open PySem.Calls PySem.W
variable {prog : Program} {w : World} {A : Around} {E : Value → Shared → Prop} {s : Shared} {K : Frag} {x C : Addr} {ox : Obj} {od : Option Obj}
theorem cls_bind_found (T : ExcC K C) : findObj K C od "__class__" = some (.bind (.builtin "getset_descriptor.__get__") (.builtin "object.__class__")) := by
  obtain ⟨cd, hc, _⟩ := any_some T.hd
  unfold findObj
  rw [hc, Option.bind_some, T.ha, Option.bind_some]
  simp [T.hn, T.ht]
theorem excW_class {Q : Option Value → Shared → Prop} (T : ExcC K C) (X : K.In s.heap) (I : PySem.W.InstAt s.heap x ox C od) (h : Q (some (.ref C)) { s with toks := s.toks + 1 }) :
    wpAny (model prog w) A (getAttr? (.ref x) "__class__") Q E s := by
  obtain ⟨hp, g, d, t, os⟩ := s
  have lt := I.type (M := model prog w)
  have lg := looks_findIn (M := model prog w) X T.hg
  have lk := looks_findIn (M := model prog w) X T.hk
  have lf := looks_find (M := model prog w) X I (cls_bind_found T)
  have lb : Looks (model prog w) hp (isInstance (.ref x) (.type "BaseException")) true := lt.andThen (looks_subIn X T.hs)
  have n1 : (Value.builtin "BaseException.__getattribute__" == Value.builtin "object.__getattribute__") = false := by decide +kernel
  have n2 : (onTheHeap (Value.ref C) && Value.builtin "BaseException.__getattribute__" == Value.builtin "object.__getattribute__") = false := by
    rw [n1]
    rfl
  have n3 : (false && onTheHeap (Value.builtin "BaseException.__getattribute__")) = false := rfl
  unfold getAttr? getAttrBy? getAttrBy
  refine wpAny_bind (wpAny_mkText ?_)
  refine wpAny_bind (wpAny_attempt ?_)
  refine wpAny_holding (wpAny_bind (lt.at ?_))
  refine wpAny_bind (lg.at ?_)
  show wpAny _ _ (if (onTheHeap (Value.ref C) && Value.builtin "BaseException.__getattribute__" == Value.builtin "object.__getattribute__") = true
    then _ else _) _ _ _
  rw [n2, if_neg Bool.false_ne_true]
  unfold getAttrByItsOwn hookBefore
  refine wpAny_bind ?_
  rw [if_pos (show onTheHeap (Value.ref C) = true from rfl)]
  refine lk.at (wpAny_bind (wpAny_attempt (wpAny_holding ?_)))
  unfold callGetattribute
  rw [n3, if_neg Bool.false_ne_true]
  unfold boundAndCalled
  rw [PySem.F.excAttr_ValueError.ga.bind (.ref x)]
  refine wpAny_bind (wpAny_pure ?_)
  show wpAny _ _ (call (.builtin "BaseException.__getattribute__")
    [.ref x, .str "__class__" t]) _ _ _
  refine wpAny_call ?_
  refine codeAny_call_builtin PySem.F.excAttr_ValueError.ga.plain PySem.F.entry_bexc_ga ?_
  refine @PySem.W.check_slot (model prog w) _ _ ⟨hp, g, d, t + 1, os⟩ "BaseException.__getattribute__" "BaseException"
    "__getattribute__" (.ref x) [.str "__class__" t] [] _ (by decide +kernel) (by decide +kernel) lb (PySem.F.args_bexc_ga (.ref x) (.str "__class__" t)) ?_
  unfold Builtin.«object.__getattribute__»
  refine wpAny_bind (wpAny_of_eq (a := ((Value.ref x : Value), [Value.str "__class__" t]))
    (by first | rfl | (simp only [slotArgs]; rfl)) ?_)
  refine wpAny_bind (wpAny_pure ?_)
  refine wpAny_bind (lt.at ?_)
  refine wpAny_bind (lf.at ?_)
  show wpAny _ _ (holding [Value.builtin "object.__class__"]
    (call (.builtin "getset_descriptor.__get__") [.builtin "object.__class__", .ref x, .ref C]) >>= ret) _ _ _
  refine wpAny_bind (wpAny_holding (wpAny_call ?_))
  refine class_get (s := ⟨hp, g, d, t + 1, os⟩) (ox := ox) (od := od) X I T.hm ?_
  refine wpAny_pure ?_
  show wpAny _ _ (handedOut (.ref C)) _ _ _
  rw [handedOut_of (v := .ref C) rfl]
  first
    | exact wpAny_pure (wpAny_pure h)
    | exact wpAny_pure h
    | exact wpAny_pure (wpAny_bind (wpAny_pure (wpAny_pure h)))
theorem excW_kit (T : ExcC K C) : KitX K (.ref x) (.ref C) (fun h => ∃ ox od, PySem.W.InstAt h x ox C od) := by
  obtain ⟨cd, hc, _⟩ := any_some T.hd
  have hcl : ∃ c' d' cd' sl', K.lookup C = some ⟨c', d', .cls cd', sl'⟩ := by
    unfold clsIn at hc
    split at hc
    · rename_i c' d' cd' sl' ho
      exact ⟨_, _, _, _, ho⟩
    · cases hc
  obtain ⟨c', d', cd', sl', ho⟩ := hcl
  refine ⟨fun _ _ _ ⟨_, _, I⟩ => I.type, fun _ _ X _ => ?_, fun h tp dd its n sl X htp => ?_, fun X ⟨_, _, I⟩ k => excW_class T X I k⟩
  · intro A' Q' E' s' k q
    unfold isType loadHead
    exact wpAny_bind (wpAny_loadPart (k _ _ (X _ _ ho)) (wpAny_pure q))
  · refine Bool.eq_false_iff.mpr fun q => ?_
    have e : C = tp := Value.ref.inj (beq_iff_eq.mp q)
    subst e
    have z := (X _ _ ho).symm.trans htp
    cases z
end
section
variable {X : Cx} {pins : List (Addr × Obj)} {σ : L2.St} {H : Hp} {s : Shared} {a C : Addr} {da : Option Addr}
/-- an exception's dict, where it has one -/
def DictAt (H : Hp) : Option Addr → Prop
  | none => True
  | some d => ∃ fv, H d = some (.xd fv)
theorem exw_inst (hok : HOk X.prog X.w H s.heap) (he : H a = some (exw a C da)) (hd : DictAt H da) : ∃ ox od, PySem.W.InstAt s.heap a ox C od := by
  obtain ⟨vs, sl, ho⟩ := exw_at hok he
  cases da with
  | none => exact ⟨_, none, ho, rfl, rfl, trivial⟩
  | some d =>
    obtain ⟨fv, hf⟩ := hd
    have hx : ObjOk X.prog X.w H s.heap d (.xd fv) := hok d _ hf
    obtain ⟨mA, hns, hr⟩ := hx
    obtain ⟨o, e, _⟩ := lookIn_ns hns
    exact ⟨_, some o, ho, rfl, rfl, e⟩
def rIsW (K : KF) : List V → Hp → VK → Prop := fun xs H Q => ∃ (a C : Addr) (da : Option Addr) (c : V) (u : Value) (b : Bool), xs = [.ref a, c] ∧ H a = some (exw a C da) ∧ DictAt H da ∧ ExcC K C ∧ ClsV c u ∧ PySem.W.kitOne K (.ref C) u = some b ∧ Q (.bl b) H
def rIsWT (K : KF) : List V → Hp → VK → Prop := fun xs H Q => ∃ (a C : Addr) (da : Option Addr) (tp : Addr) (cs : List V) (us : List Value) (b : Bool), xs = [.ref a, .ref tp] ∧ H a = some (exw a C da) ∧ DictAt H da ∧ ExcC K C ∧ H tp = some (.tup cs) ∧
  Paired ClsV cs us ∧ PySem.W.kitAny K (.ref C) us = some b ∧ Q (.bl b) H
theorem call_isW : CallR X (.builtin "isinstance") (rIsW X.K) := by
  intro pins s σ H xs us Q I r h
  obtain ⟨a, C, da, c, u, b, rfl, ha, hd, T, k, e, q⟩ := h
  obtain ⟨u1, u2, rfl, r1, r2⟩ := vals2 r
  cases (show u1 = Value.ref a from r1)
  have e2 := k.eq r2
  subst e2
  exact PySem.W.kia_one (excW_kit T) I.kIn (exw_inst I.hok ha hd) e (fun z => nomatch z) fun tk => ⟨.bl b, H, I.tok tk, rfl, q⟩
theorem call_isWT : CallR X (.builtin "isinstance") (rIsWT X.K) := by
  intro pins s σ H xs us Q I r h
  obtain ⟨a, C, da, tp, cs, ws, b, rfl, ha, hd, T, hT, k, e, q⟩ := h
  obtain ⟨u1, u2, rfl, r1, r2⟩ := vals2 r
  cases (show u1 = Value.ref a from r1)
  cases (show u2 = Value.ref tp from r2)
  have hx : ObjOk X.prog X.w H s.heap tp (.tup cs) := I.hok tp _ hT
  obtain ⟨_, its, rv, o, h1, h2, n, h3⟩ := hx
  have e3 := ClsV.all k rv
  subst e3
  obtain ⟨oc, od, dt, sl⟩ := o
  simp only at h2 h3
  subst h2 h3
  exact PySem.W.kia_tup (excW_kit T) I.kIn (exw_inst I.hok ha hd) h1 e (fun z => nomatch z) fun tk => ⟨.bl b, H, I.tok tk, rfl, q⟩
/-- e.f of a tracked exception -/
def tXw (K : KF) (f : Str) (te : TE) : TE := fun σ H Q => te σ H fun v H1 => ∃ a C d fv y, v = .ref a ∧ H1 a = some (exw a C (some d)) ∧ H1 d = some (.xd fv) ∧ fv.lookup f = some y ∧ XfC K C ∧ PySem.W.findIn K (.ref C) f = some none ∧ Q y H1
theorem pe_xw {e : Expr} {te : TE} {pos : Pos} {n : Str} (he : PE X e te) (hb : attributeBase e n X.env (eval e X.env) = eval e X.env := by rfl) : PE X (.Attribute e n pos) (tXw X.K n te) := by
  refine ⟨fun pins s σ H Q I h => ?_⟩
  refine attr_of hb (thn (he.run pins s σ H _ I h) fun u s1 hh => ?_)
  obtain ⟨v, H1, I1, rv, a, C, d, fv, y, rfl, ha, hd, hl, T, hno, q⟩ := hh
  cases (show u = Value.ref a from rv)
  obtain ⟨vs, sl, ho⟩ := exw_at I1.hok ha
  have hx : ObjOk X.prog X.w H1 s1.heap d (.xd fv) := I1.hok d _ hd
  obtain ⟨mA, hns, hr⟩ := hx
  obtain ⟨od, h1, h2⟩ := lookIn_ns hns
  obtain ⟨z, hz, rz⟩ := RelO.some_of (v := y) (o := mA n) (by
    rw [← hl]
    exact hr n)
  have J : PySem.W.InstAt s1.heap a ⟨.ref C, some d, .fields vs, sl⟩ C (some od) := ⟨ho, rfl, rfl, h1⟩
  refine HandSPX.exc_get I1.kIn J T.ga T.gg T.exC (PySem.W.findObj_own T.hdC hno rfl ?_) (handed_of rz) ⟨y, H1, I1.tok _, rz, q⟩
  rw [h2, hz]
end
end Vl
set_option maxHeartbeats 4000000
namespace Vl
open PySem PySem.Spec PyProof.Rows L2

/-! ## the law's own exception classes: a table of what stands above each -/
abbrev Anc := List (Str × List Str)
structure ExT (K : KF) (mg : Str → Option Value) (anc : Anc) (ts fl : List Str) : Prop where
  cls : ∀ x as C, anc.lookup x = some as → mg x = some (.ref C) → clsN K C = some x ∧ ExcC K C ∧ XfC K C ∧ ∀ f ∈ fl, PySem.W.findIn K (.ref C) f = some none
  uniq : ∀ x as C, anc.lookup x = some as → clsN K C = some x → mg x = some (.ref C)
  sub : ∀ x as C t T, anc.lookup x = some as → mg x = some (.ref C) → t ∈ ts → mg t = some (.ref T) → PySem.W.exmOne K (.ref C) (.ref T) = some (decide (t ∈ as)) ∧ PySem.W.kitOne K (.ref C) (.ref T) = some (decide (t ∈ as))
  ve : ∀ x as C, anc.lookup x = some as → mg x = some (.ref C) → PySem.W.kitOne K (.ref C) (.type "ValueError") = some true
/-- its check over the written part -/
def excCB (K : KF) (D : Addr) : Bool := decide (PySem.W.findIn K (.ref D) "__getattribute__" = some (some (.builtin "BaseException.__getattribute__"))) && (decide (PySem.W.findIn K (.ref D) "__getattr__" = some none) && (decide (PySem.W.subIn K (.ref D) (.type "BaseException") = some true) &&
  (PySem.W.hasDictIn K D && (decide (PySem.W.findIn K (.ref D) "__class__" = some (some (.builtin "object.__class__"))) && (decide (PySem.W.specialIn K (.builtin "object.__class__") "__get__" = some (some (.builtin "getset_descriptor.__get__"))) &&
  (decide (PySem.W.takesIn K (.builtin "object.__class__") = some true) && decide (PySem.W.mroIn K D (.type "object") = some true)))))))
theorem excCB_ok {K : KF} {D : Addr} (h : excCB K D = true) : ExcC K D ∧ XfC K D := by
  unfold excCB at h
  simp only [Bool.and_eq_true, decide_eq_true_eq] at h
  obtain ⟨h1, h2, h3, h4, h5, h6, h7, h8⟩ := h
  exact ⟨⟨h1, h2, h3, h4, h5, h6, h7, h8⟩, ⟨h1, h2, h3, h4⟩⟩
def exRowB (K : KF) (ts fl : List Str) (r : Str × List Str) : Bool := decide (clsN K (He.ga K r.1) = some r.1) && (excCB K (He.ga K r.1) && ((fl.all fun f => decide (PySem.W.findIn K (.ref (He.ga K r.1)) f = some none)) &&
  (decide (PySem.W.kitOne K (.ref (He.ga K r.1)) (.type "ValueError") = some true) && (ts.all fun t => decide (PySem.W.exmOne K (.ref (He.ga K r.1)) (.ref (He.ga K t)) = some (decide (t ∈ r.2))) && decide (PySem.W.kitOne K (.ref (He.ga K r.1)) (.ref (He.ga K t)) = some (decide (t ∈ r.2)))))))
def uniqB (K : KF) (anc : Anc) (pres : List Str) : Bool := K.all fun p => match p.2.data with
  | .cls cd => anc.all fun r => !(decide (cd.name = r.1)) || (decide (p.1 = He.ga K r.1) && decide (r.1 ∈ pres))
  | _ => true
/-- the tables of all refusals, and their fields -/
def ANC : Anc := [("HandError", ["HandError"]), ("NoProgram", ["NoProgram", "HandError"]), ("NoText", ["NoText", "HandError"]), ("NoStep", ["NoStep", "HandError"]), ("NoMark", ["NoMark", "HandError"]), ("NoRun", ["NoRun", "HandError"]), ("NoNames", ["NoNames", "HandError"]),
  ("TooMany", ["TooMany", "HandError"]), ("TooLong", ["TooLong", "HandError"]), ("Bare", ["Bare", "HandError"]), ("NoRow", ["NoRow", "HandError"]), ("NoName", ["NoName", "HandError"])]
def FLD : List Str := ["part", "number", "row", "at"]
def exTB (K : KF) (anc : Anc) (pres ts fl : List Str) : Bool := (anc.all fun r => !(decide (r.1 ∈ pres)) || exRowB K ts fl r) && (uniqB K anc pres && ts.all fun t => decide (t ∈ pres))
theorem lookup_in {α β : Type} [BEq β] [LawfulBEq β] {x : β} {a : α} : ∀ {l : List (β × α)}, l.lookup x = some a → (x, a) ∈ l
  | [], h => by cases h
  | (y, b) :: r, h => by
    rw [List.lookup] at h
    split at h
    · rename_i e
      cases h
      rw [eq_of_beq e]
      exact List.mem_cons_self
    · exact List.mem_cons_of_mem _ (lookup_in h)
theorem exT_ok {K : KF} {mg : Str → Option Value} {anc : Anc} {pres ts fl : List Str} (hg : ∀ x ∈ pres, mg x = some (.ref (He.ga K x))) (hn : ∀ r ∈ anc, r.1 ∉ pres → mg r.1 = none) (h : exTB K anc pres ts fl = true) : ExT K mg anc ts fl := by
  unfold exTB at h
  rw [Bool.and_eq_true, Bool.and_eq_true] at h
  obtain ⟨h1, h2, h3⟩ := h
  have inp : ∀ x as C, anc.lookup x = some as → mg x = some (.ref C) → x ∈ pres := fun x as C e hC => by
    by_cases hp : x ∈ pres
    · exact hp
    · rw [hn _ (lookup_in e) hp] at hC
      cases hC
  have rw_ : ∀ x as, anc.lookup x = some as → x ∈ pres → clsN K (He.ga K x) = some x ∧ (ExcC K (He.ga K x) ∧ XfC K (He.ga K x)) ∧ (∀ f ∈ fl, PySem.W.findIn K (.ref (He.ga K x)) f = some none) ∧ PySem.W.kitOne K (.ref (He.ga K x)) (.type "ValueError") = some true ∧
      ∀ t ∈ ts, PySem.W.exmOne K (.ref (He.ga K x)) (.ref (He.ga K t)) = some (decide (t ∈ as)) ∧ PySem.W.kitOne K (.ref (He.ga K x)) (.ref (He.ga K t)) = some (decide (t ∈ as)) := fun x as e hp => by
    have q := List.all_eq_true.mp h1 _ (lookup_in e)
    simp only [hp, decide_true, Bool.not_true, Bool.false_or] at q
    unfold exRowB at q
    simp only [Bool.and_eq_true, decide_eq_true_eq, List.all_eq_true] at q
    obtain ⟨q1, q2, q3, q4, q5⟩ := q
    exact ⟨q1, excCB_ok q2, q3, q4, q5⟩
  refine ⟨fun x as C e hC => ?_, fun x as C e hc => ?_, fun x as C t T e hC tt hT => ?_, fun x as C e hC => ?_⟩
  · have hp := inp x as C e hC
    rw [hg x hp] at hC
    cases hC
    obtain ⟨q1, ⟨q2, q3⟩, q4, _⟩ := rw_ x as e hp
    exact ⟨q1, q2, q3, q4⟩
  · unfold clsN at hc
    split at hc
    · rename_i o ho
      split at hc
      · rename_i cd hd
        have q := List.all_eq_true.mp h2 _ (lookup_in ho)
        simp only [hd] at q
        have q2 := List.all_eq_true.mp q _ (lookup_in e)
        simp only [Option.some.injEq] at hc
        simp only [hc, decide_true, Bool.not_true, Bool.false_or, Bool.and_eq_true, decide_eq_true_eq] at q2
        rw [hg x q2.2, ← q2.1]
      · cases hc
    · cases hc
  · have hp := inp x as C e hC
    rw [hg x hp] at hC
    cases hC
    have tp := of_decide_eq_true (List.all_eq_true.mp h3 t tt)
    rw [hg t tp] at hT
    cases hT
    obtain ⟨_, _, _, _, q⟩ := rw_ x as e hp
    exact q t tt
  · have hp := inp x as C e hC
    rw [hg x hp] at hC
    cases hC
    obtain ⟨_, _, _, q, _⟩ := rw_ x as e hp
    exact q

/-! ## try: .. except T as n: .. -/
def sTry (anc : Anc) (t : Str) (i : Nat) (b su : SM) : SM := fun s h => match b s h with
  | some (.ex s1 x h1) => (match anc.lookup x.c with
    | some as => if t ∈ as then (match unvs (x.fs.map (·.2)) with
        | some ps => (match su (s1.set i (some (.exc x.c ((x.fs.map (·.1)).zip ps)))) h1 with
          | some (.nx s2 h2) => some (.nx (s2.set i none) h2)
          | some (.bk s2 h2) => some (.bk (s2.set i none) h2)
          | some (.ct s2 h2) => some (.ct (s2.set i none) h2)
          | some (.rt d h2) => some (.rt d h2)
          | _ => none)
        | none => none)
      else some (.ex s1 x h1)
    | none => none)
  | r => r
theorem SRep.unset {K : KF} {w : Wd} {sl : Sl} {σ : L2.St} (hs : SRep K w sl σ) (i : Nat) : SRep K w (sl.set i none) (σ.set i none) where
  len := by rw [List.length_set, List.length_set]; exact hs.len
  at' := fun j e h => by
    by_cases hj : i = j
    · subst hj
      by_cases hl : i < sl.length
      · rw [List.getElem?_set_self hl] at h
        cases h
      · rw [List.set_eq_of_length_le (by omega)] at h
        rw [List.set_eq_of_length_le (by rw [← hs.len]; omega)]
        exact hs.at' i e h
    · rw [List.getElem?_set_ne hj] at h
      rw [List.getElem?_set_ne hj]
      exact hs.at' j e h
section
variable {X : Cx} {W : WX} {x n : Str} {i : Nat} {body suite : List Stmt} {b₀ : Stmt} {np pos pos' : Pos} {b su : SM} {anc : Anc} {ts fl : List Str} {T : Addr}
theorem ss_try (hs : X.stack = X.env :: X.outer) (hf : X.env.frame = some X.env.locals) (hN : X.N.Nodup) (hi : X.N[i]? = some n) (hln : X.env.kindOf n = some .local) (Ex : ExT X.K X.mg anc ts fl) (hg : Gl X x) (hm : X.mg x = some (.ref T)) (ht : x ∈ ts) (tk : Takes X W)
    (hb : ∀ (W : WX) (pn : List (Addr × Obj)) (xe : Value → Shared → Prop), Takes (X.tr pn xe) W → PassesOwn (model X.prog X.w) X.A X.env xe → SSs (X.tr pn xe) W body b)
    (hsu : ∀ (a : Addr) (pn : List (Addr × Obj)), SSs (X.suite a pn) W0 (b₀ :: suite) su) (hdb : (x == ("__debug__" : Str)) = false := by decide) :
    SS X W (.Try body [.ExceptHandler (some (.Name x np)) (some n) (b₀ :: suite) pos'] [] [] pos) (sTry anc x i b su) :=
  PS.mono' (ps_tryT hs hf hN hi hln ⟨hg, hdb, .inl hm⟩ tk (tb := fun W => tS X.K X.mg W b) (ts := fun a => tS X.K X.mg W0 su) hb hsu) fun D σ H ⟨w, sl, eH, ok, hs, h⟩ => by
    subst eH
    refine ⟨w, sl, rfl, ok, hs, ?_⟩
    unfold sTry at h
    unfold WpS at h ⊢
    cases e : b sl w.h with
    | none => simp only [e] at h
    | some r =>
      cases r with
      | nx s1 h1 => simp only [e] at h; exact h
      | rt d h1 => simp only [e] at h; exact h
      | bk s1 h1 => simp only [e] at h; exact h
      | ct s1 h1 => simp only [e] at h; exact h
      | ex s1 y h1 =>
        simp only [e] at h
        intro w' σ' cls da l o eh hs1 er
        obtain ⟨C, hC, rfl, hfs⟩ := er
        cases ea : anc.lookup y.c with
        | none => simp only [ea] at h
        | some as =>
          simp only [ea] at h
          have hsub := (Ex.sub y.c as C x T ea hC ht hm).1
          have hcn := (Ex.cls y.c as C ea hC).1
          refine ⟨_, hsub, fun hy => ?_, fun hn => ?_⟩
          · rw [if_pos (of_decide_eq_true hy)] at h
            refine ⟨C, rfl, fun a na => ?_⟩
            cases eu : unvs (y.fs.map (·.2)) with
            | none => simp only [eu] at h
            | some ps =>
              simp only [eu] at h
              subst eh
              have le := Wd.newT_le (o := exw a C da) na
              have ok2 := Wd.newT_ok (o := exw a C da) o na
              have rx : RepD X.K (w'.newT a (exw a C da)) (.exc y.c ((y.fs.map (·.1)).zip ps)) (.ref a) := by
                refine ⟨a, C, da, rfl, hcn, upd_same, ?_⟩
                have hl : (y.fs.map (·.1)).length = ps.length := by
                  rw [unvs_len eu, List.length_map, List.length_map]
                rcases hfs with ⟨h0, h1⟩ | ⟨d, fv, h1, h2, h3, h4⟩
                · refine .inl ⟨?_, h1⟩
                  rw [h0]
                  rfl
                · refine .inr ⟨d, fv, h1, ?_, ?_, ?_⟩
                  · show upd w'.H a _ d = _
                    rw [upd_ne (ne_of_none h2 na)]
                    exact h2
                  · rw [zip_fst hl]
                    exact h4
                  · rw [zip_snd hl]
                    exact RepPs.mono o le _ (unvs_rep eu h3)
              refine ⟨w'.newT a (exw a C da), s1.set i (some (.exc y.c ((y.fs.map (·.1)).zip ps))), rfl, ok2, (hs1.mono o le).set i rx, ?_⟩
              have hh : (w'.newT a (exw a C da)).h = w'.h := rfl
              rw [hh]
              unfold WpS
              cases eq : su (s1.set i (some (.exc y.c ((y.fs.map (·.1)).zip ps)))) w'.h with
              | none => simp only [eq] at h
              | some r2 =>
                have lw := l.trans le o
                cases r2 with
                | nx s2 h2 =>
                  simp only [eq] at h
                  exact fun w2 σ2 l2 ok3 eh3 hs3 => h w2 _ (lw.trans l2 ok2) ok3 eh3 (hs3.unset i)
                | bk s2 h2 =>
                  simp only [eq] at h
                  exact fun w2 σ2 l2 ok3 eh3 hs3 => h w2 _ (lw.trans l2 ok2) ok3 eh3 (hs3.unset i)
                | ct s2 h2 =>
                  simp only [eq] at h
                  exact fun w2 σ2 l2 ok3 eh3 hs3 => h w2 _ (lw.trans l2 ok2) ok3 eh3 (hs3.unset i)
                | rt d h2 =>
                  simp only [eq] at h
                  exact fun w2 v l2 ok3 eh3 r3 => h w2 v (lw.trans l2 ok2) ok3 eh3 r3
                | ex s2 z h2 => simp only [eq] at h
          · rw [if_neg (of_decide_eq_false hn)] at h
            exact h w' σ' (.ref C) da l o eh hs1 ⟨C, hC, rfl, hfs⟩
end
section
variable {X : Cx} {W : WX} {x n : Str} {body suite : List Stmt} {b₀ : Stmt} {np pos pos' : Pos} {b su : SM} {anc : Anc} {ts fl : List Str} {T : Addr}
end
/-! ## isinstance of what was caught, its fields -/
def isXs (anc : Anc) (ts : List Str) : D → Option Bool
  | .exc c _ => (anc.lookup c).map fun as => ts.any fun t => decide (t ∈ as)
  | _ => none
def isXv (anc : Anc) : D → Option Bool
  | .exc c _ => (anc.lookup c).map fun _ => true
  | _ => none
def eIsX (anc : Anc) (ts : List Str) (f : EM) : EM := f.bind fun d => EM.lift fun _ => (isXs anc ts d).map fun b => .v (.bool b)
def eIsV (anc : Anc) (f : EM) : EM := f.bind fun d => EM.lift fun _ => (isXv anc d).map fun b => .v (.bool b)
def fldX (anc : Anc) (n : Str) : D → Option D
  | .exc c fs => (anc.lookup c).bind fun _ => (fs.lookup n).map .v
  | _ => none
def eFldX (anc : Anc) (n : Str) (f : EM) : EM := f.bind fun d => EM.lift fun _ => fldX anc n d
/-- names of own classes, one behind the other -/
inductive ClsA (X : Cx) : List Expr → List Str → List Addr → Prop
  | nil : ClsA X [] [] []
  | cons {x : Str} {p : Pos} {C : Addr} {es : List Expr} {xs : List Str} {Cs : List Addr} : Gl X x → X.mg x = some (.ref C) → (x == ("__debug__" : Str)) = false → starEach (.Name x p :: es) X.env = (false, eval (.Name x p) X.env) :: starEach es X.env → ClsA X es xs Cs → ClsA X (.Name x p :: es) (x :: xs) (C :: Cs)
theorem ClsA.pa {X : Cx} : ∀ {es : List Expr} {xs : List Str} {Cs : List Addr}, ClsA X es xs Cs → PA X es (fun _ H Q => Q (Cs.map V.ref) H)
  | _, _, _, .nil => PA.mono' pa_nil fun σ H Q h => h
  | _, _, _, .cons hg hm hd hs r => PA.mono' (pa_cons (pe_glob (v := .ref _) hg hm rfl hd) r.pa hs) fun σ H Q h => h
theorem clsV_refs : ∀ Cs : List Addr, Paired ClsV (Cs.map V.ref) (Cs.map Value.ref)
  | [] => .nil
  | C :: Cs => .cons (.own C) (clsV_refs Cs)
section
variable {X : Cx} {W : WX} {e : Expr} {f : EM} {pos p p2 : Pos} {t : Str} {anc : Anc} {ts fl : List Str} {T : Addr}
theorem exc_at {w : Wd} {c : Str} {fs : List (Str × PyData)} {v : V} (r : RepD X.K w (.exc c fs) v) : ∃ a C da, v = .ref a ∧ clsN X.K C = some c ∧ w.H a = some (exw a C da) ∧ DictAt w.H da := by
  obtain ⟨a, C, da, ev, hc, ha, hf⟩ := r
  refine ⟨a, C, da, ev, hc, ha, ?_⟩
  rcases hf with ⟨_, rfl⟩ | ⟨d, fv, rfl, h, _⟩
  · trivial
  · exact ⟨fv, h⟩
theorem se_isX (Ex : ExT X.K X.mg anc ts fl) (he : SE X W e f) (hg : Gl X "isinstance") (hm : X.mg "isinstance" = none) (hg2 : Gl X t) (hm2 : X.mg t = some (.ref T)) (ht : t ∈ ts) (hd2 : (t == ("__debug__" : Str)) = false := by decide)
    (hs : starEach (e :: [.Name t p2]) X.env = (false, eval e X.env) :: starEach [.Name t p2] X.env := by rfl) (hs2 : starEach [.Name t p2] X.env = (false, eval (.Name t p2) X.env) :: starEach [] X.env := by rfl) (hpl : (backTo pos (starEach [.Name t p2] X.env)).any (·.1) = false := by rfl) :
    SE X W (.Call (.Name "isinstance" p) [e, .Name t p2] [] pos) (eIsX anc [t] f) :=
  PE.mono' (pe_callB call_isW hg hm (by decide +kernel) (pa_cons he (pa_cons (pe_glob (v := .ref T) hg2 hm2 rfl hd2) pa_nil hs2) hs) (by decide) (by decide) hs hpl) fun σ H Q ⟨w, sl, eH, ok, hs, h⟩ => by
    subst eH
    refine tI_bind ok hs h fun dx x w1 l1 ok1 hs1 rx h1 => ?_
    obtain ⟨dz, ez, q⟩ := WpE.lift h1
    cases dx with
    | exc c fs =>
      obtain ⟨a, C, da, rfl, hc, ha, hd⟩ := exc_at rx
      unfold isXs at ez
      cases el : anc.lookup c with
      | none => simp [el] at ez
      | some as =>
        simp [el] at ez
        have hC := Ex.uniq c as C el hc
        obtain ⟨hn, T1, _⟩ := Ex.cls c as C el hC
        subst ez
        exact ⟨a, C, da, .ref T, .ref T, decide (t ∈ as), rfl, ha, hd, T1, .own T, (Ex.sub c as C t T el hC ht hm2).2, q w1 (.bl _) (Wd.Le.refl w1) ok1 rfl rfl⟩
    | _ => simp [isXs] at ez
theorem kit_any {K : KF} {C : Addr} {as : List Str} : ∀ {xs : List Str} {Cs : List Addr}, xs.length = Cs.length → (∀ (i : Nat) x T, xs[i]? = some x → Cs[i]? = some T → PySem.W.kitOne K (.ref C) (.ref T) = some (decide (x ∈ as))) → PySem.W.kitAny K (.ref C) (Cs.map Value.ref) = some (xs.any fun x => decide (x ∈ as))
  | [], [], _, _ => rfl
  | [], _ :: _, h, _ => by simp at h
  | _ :: _, [], h, _ => by simp at h
  | x :: xs, T :: Cs, h, H => by
    have h0 := H 0 x T rfl rfl
    have ih := kit_any (xs := xs) (Cs := Cs) (by simpa using h) fun i y U e1 e2 => H (i + 1) y U (by simpa using e1) (by simpa using e2)
    rw [List.map_cons, PySem.W.kitAny, h0, List.any_cons]
    cases decide (x ∈ as) with
    | true => rfl
    | false => rw [ih, Bool.false_or]
theorem ClsA.at {X : Cx} : ∀ {es : List Expr} {xs : List Str} {Cs : List Addr}, ClsA X es xs Cs → xs.length = Cs.length ∧ ∀ (i : Nat) x T, xs[i]? = some x → Cs[i]? = some T → X.mg x = some (.ref T)
  | _, _, _, .nil => ⟨rfl, fun i x T h _ => by simp at h⟩
  | _, _, _, .cons hg hm hd hs r => ⟨by rw [List.length_cons, List.length_cons, r.at.1], fun i x T h1 h2 => by
    cases i with
    | zero =>
      cases h1
      cases h2
      exact hm
    | succ i => exact r.at.2 i x T (by simpa using h1) (by simpa using h2)⟩
theorem se_isXT {es : List Expr} {xs : List Str} {Cs : List Addr} {p3 : Pos} {k : Nat} (Ex : ExT X.K X.mg anc ts fl) (he : SE X W e f) (hg : Gl X "isinstance") (hm : X.mg "isinstance" = none) (hc : ClsA X es xs Cs) (hx : ∀ x ∈ xs, x ∈ ts) (hl : xs.length ≤ 1000 := by decide)
    (hs : starEach (e :: [.Tuple es k p3]) X.env = (false, eval e X.env) :: starEach [.Tuple es k p3] X.env := by rfl) (hs2 : starEach [.Tuple es k p3] X.env = (false, eval (.Tuple es k p3) X.env) :: starEach [] X.env := by rfl) (hpl : (backTo pos (starEach [.Tuple es k p3] X.env)).any (·.1) = false := by rfl) :
    SE X W (.Call (.Name "isinstance" p) [e, .Tuple es k p3] [] pos) (eIsX anc xs f) :=
  PE.mono' (pe_callB call_isWT hg hm (by decide +kernel) (pa_cons he (pa_cons (pe_tup hc.pa) pa_nil hs2) hs) (by decide) (by decide) hs hpl) fun σ H Q ⟨w, sl, eH, ok, hs, h⟩ => by
    subst eH
    refine tI_bind ok hs h fun dx x w1 l1 ok1 hs1 rx h1 => ?_
    obtain ⟨dz, ez, q⟩ := WpE.lift h1
    obtain ⟨hlen, hat⟩ := hc.at
    refine ⟨by rw [List.length_map, ← hlen]; exact k_line hl, fun tp htp => ?_⟩
    cases dx with
    | exc c fs =>
      obtain ⟨a, C, da, rfl, hc2, ha, hd⟩ := exc_at rx
      unfold isXs at ez
      cases el : anc.lookup c with
      | none => simp [el] at ez
      | some as =>
        simp only [el, Option.map_some, Option.some.injEq] at ez
        have hC := Ex.uniq c as C el hc2
        obtain ⟨hn, T1, _⟩ := Ex.cls c as C el hC
        subst ez
        refine ⟨a, C, da, tp, Cs.map V.ref, Cs.map Value.ref, xs.any fun x => decide (x ∈ as), rfl, ?_, ?_, T1, upd_same, clsV_refs Cs, kit_any hlen fun i x T e1 e2 => ?_, ?_⟩
        · rw [upd_ne (ne_of_none ha htp)]
          exact ha
        · cases da with
          | none => trivial
          | some d =>
            obtain ⟨fv, hf⟩ := hd
            refine ⟨fv, ?_⟩
            rw [upd_ne (ne_of_none hf htp)]
            exact hf
        · exact (Ex.sub c as C x T el hC (hx x (List.mem_of_getElem? e1)) (hat i x T e1 e2)).2
        · exact q (w1.newT tp _) (.bl _) (Wd.newT_le htp) (Wd.newT_ok ok1 htp) rfl rfl
    | _ => simp [isXs] at ez
theorem look_zip {fs : List (Str × PyData)} : ∀ {fv : List (Str × V)} {n : Str} {p : PyData} {K : KF} {Fz : Addr → Prop} {H : Hp}, fv.map (·.1) = fs.map (·.1) → RepPs K Fz H (fs.map (·.2)) (fv.map (·.2)) → fs.lookup n = some p → ∃ y, fv.lookup n = some y ∧ RepP K Fz H p y := by
  induction fs with
  | nil => exact fun _ _ h => by cases h
  | cons g fs ih =>
    intro fv n p K Fz H h1 h2 h3
    obtain ⟨k, d⟩ := g
    cases fv with
    | nil => simp at h1
    | cons z fv =>
      obtain ⟨k', v⟩ := z
      simp only [List.map_cons, List.cons.injEq] at h1
      obtain ⟨e1, e2⟩ := h1
      have e1 : k' = k := e1
      subst e1
      obtain ⟨v', r, ev, r1, r2⟩ := h2
      rw [List.map_cons] at ev
      cases ev
      rw [List.lookup] at h3 ⊢
      split at h3
      · cases h3
        exact ⟨v, rfl, r1⟩
      · exact ih e2 r2 h3
theorem se_fldX {n : Str} (Ex : ExT X.K X.mg anc ts fl) (hn : n ∈ fl) (he : SE X W e f) (hb : attributeBase e n X.env (eval e X.env) = eval e X.env := by rfl) : SE X W (.Attribute e n pos) (eFldX anc n f) :=
  PE.mono' (pe_xw he hb) fun σ H Q ⟨w, sl, eH, ok, hs, h⟩ => by
    subst eH
    refine tI_bind ok hs h fun dx x w1 l1 ok1 hs1 rx h1 => ?_
    obtain ⟨dz, ez, q⟩ := WpE.lift h1
    cases dx with
    | exc c fs =>
      obtain ⟨a, C, da, ev, hc, ha, hf⟩ := rx
      unfold fldX at ez
      cases el : anc.lookup c with
      | none => simp [el] at ez
      | some as =>
        simp only [el, Option.bind_some, Option.map_eq_some_iff] at ez
        obtain ⟨pd, ep, rfl⟩ := ez
        have hC := Ex.uniq c as C el hc
        obtain ⟨hn', T1, T2, hno⟩ := Ex.cls c as C el hC
        rcases hf with ⟨h0, _⟩ | ⟨d, fv, rfl, h1, h2, h3⟩
        · rw [h0] at ep
          cases ep
        · obtain ⟨y, hy, ry⟩ := look_zip h2 h3 ep
          exact ⟨a, C, d, fv, y, ev, ha, h1, hy, T2, hno n hn, q w1 y (Wd.Le.refl w1) ok1 rfl ry⟩
    | _ => simp [fldX] at ez
end
/-! ## raise X('m') of a class without own __init__ -/
structure Ex0 (K : KF) (C : Addr) : Prop where
  q : PySem.W.excIn K C [.type "ValueError", .type "Exception", .type "BaseException", .type "object"] "ValueError.__new__" = true
  k : PySem.W.keepIn K (.ref C) = true
  s : PySem.W.subIn K (.ref C) (.type "BaseException") = some true
  t : PySem.W.typeIn K (.ref C) = some (.type "type")
/-! ## the head's facts, the interpreter's statics among them -/
abbrev AlV : Type := He.AlD × Bool
def frV (n : Nat) (g : Addr → Option Obj) : KF := He.frG g (He.asD g n ++ [cStatics])
def obsV (n : Nat) (fa : List He.Fa) (fn : List He.DefD) (ex : KF → Bool) (g : Addr → Option Obj) : AlV := (He.obsD fa fn (frV n g), ex (frV n g))
def hookV (n : Nat) (fa : List He.Fa) (fn : List He.DefD) (ex : KF → Bool) : PySem.W.Hook where
  α := AlV
  obs := fun s => obsV n fa fn ex s.heap.get?
  val := fun _ => (He.valD fn, true)
  says := fun _ h => ∃ K : KF, K.In h ∧ He.SaysD fa fn K ∧ ex K = true
  of := fun _ _ e => ⟨_, He.frG_in, congrArg (fun z : AlV => z.1) e, congrArg (fun z : AlV => z.2) e⟩
  keeps := fun _ _ _ ⟨K, hK, c⟩ k => ⟨K, PySem.W.Frag.In.keeps hK k, c⟩
theorem obsV_eq {n : Nat} {fa : List He.Fa} {fn : List He.DefD} {ex : KF → Bool} {g : Addr → Option Obj} {s : Shared} (h : ∀ a, g a = s.heap.get? a) : obsV n fa fn ex g = (hookV n fa fn ex).obs s := by
  have e : g = s.heap.get? := funext h
  rw [e]
  rfl
end Vl
set_option maxHeartbeats 4000000
namespace Vl
open PySem PySem.Spec PyProof.Rows L2

/-! ## list(range(n)) -/
noncomputable def rgL : D → Hs → Option D := fun d _ => match d with
  | .v (.int n) => if yes (n ≤ 1000000 ∧ -1000000 ≤ n) = true then some (.v (.list ((List.range n.toNat).map fun k : Nat => .int (k : Int)))) else none
  | _ => none
theorem rgL_ok {n : Int} {h : Hs} (h0 : 0 ≤ n) (h1 : n ≤ 1000000) : rgL (.v (.int n)) h = some (.v (.list ((List.range n.toNat).map fun k : Nat => .int (k : Int)))) := by
  show (if yes (n ≤ 1000000 ∧ -1000000 ≤ n) = true then _ else _) = _
  rw [if_pos (yes_of ⟨h1, by omega⟩)]
noncomputable def eLstRg (f : EM) : EM := f.bind fun x => EM.lift (rgL x)
theorem reps_ints {K : KF} {Fz : Addr → Prop} {H : Hp} (g : Nat → Int) : ∀ (l : List Nat), RepPs K Fz H (l.map fun k : Nat => PyData.int (g k)) (l.map fun k : Nat => V.int (g k))
  | [] => rfl
  | k :: r => ⟨_, _, rfl, rfl, reps_ints g r⟩
section
variable {X : Cx} {W : WX} {a b c o e : Expr} {f g k : EM} {p p2 pos pos2 apos cpos : Pos}
theorem se_lstRg (hc : X.calm = true) (hg : Gl X "list") (hm : X.mg "list" = none) (hg2 : Gl X "range") (hm2 : X.mg "range" = none) (ha : SE X W a f) (na : starEach [a] X.env = (false, eval a X.env) :: starEach [] X.env := by rfl) (nb : starEach [.Call (.Name "range" p2) [a] [] pos2] X.env = (false, eval (.Call (.Name "range" p2) [a] [] pos2) X.env) :: starEach [] X.env := by rfl) : SE X W (.Call (.Name "list" p) [.Call (.Name "range" p2) [a] [] pos2] [] pos) (eLstRg f) :=
  PE.mono' (pe_listRg hc hg hm (prg_1 hg2 hm2 ha na) nb) fun σ H Q ⟨w, sl, eH, ok, hs, h⟩ => by
    subst eH
    unfold tLstRg tRg1
    refine tI_bind ok hs h fun dx x w1 l1 ok1 hs1 r1 h1 => ?_
    obtain ⟨d, e, q⟩ := WpE.lift h1
    unfold rgL at e
    split at e
    · rename_i n
      split at e
      · rename_i hc
        rw [yes_iff] at hc
        cases e
        refine ⟨n, r1, ⟨by omega, by omega, by omega, by omega, by omega⟩, ?_⟩
        refine After.newL q ok1 ?_
        unfold rgV
        have e1 : (n - 0).toNat = n.toNat := by omega
        rw [e1]
        have e2 : (fun i : Nat => V.int (0 + (i : Int))) = fun i : Nat => V.int (i : Int) := by
          funext i
          rw [Int.zero_add]
        rw [e2]
        exact reps_ints (fun k : Nat => (k : Int)) _
      · cases e
    · cases e
end

/-! ## the place of a thing in a list -/
noncomputable def indexP : PyData → List PyData → Option PyData
  | .list ds, [d] => if (SeqAt.shaped (.list ds) && SeqAt.shaped d) = true then (ds.findIdx? fun z => PyData.eqv z d).map fun j => .int (j : Nat) else none
  | _, _ => none
theorem mt_indexP {K : KF} : MtP K (rIndexD K) indexP := by
  intro w x xs p ps z Q ok rx rs e a
  unfold indexP at e
  split at e
  · rename_i ds d
    obtain ⟨v, vr, rfl, r1, h2⟩ := rs
    cases (show vr = [] from h2)
    split at e
    · rename_i hc
      rw [Bool.and_eq_true] at hc
      rw [Option.map_eq_some_iff] at e
      obtain ⟨j, ej, rfl⟩ := e
      obtain ⟨hj, h1, h2⟩ := List.findIdx?_eq_some_iff_getElem.mp ej
      obtain ⟨b, us, rfl, _, _⟩ := id rx
      refine ⟨b, v, d, ds, j, ds[j], rfl, rfl, rx.dp (SeqAt.canLay_of_shaped hc.1), r1.dp (SeqAt.canLay_of_shaped hc.2), hc.1, hc.2, List.getElem?_eq_getElem hj, h1, fun m z' hm hz => ?_, a.here ok rfl⟩
      obtain ⟨hm', e'⟩ := List.getElem?_eq_some_iff.mp hz
      have := h2 m hm
      rw [← e']
      exact (Bool.not_eq_true _).mp this
    · cases e
  · cases e

/-! ## xs[i] = v -/
def setD (o i d : D) (h : Hs) : Option Hs := match o, i with
  | .ref n, .v (.int k) => match h[n]? with
    | some (.lst xs) => match ixN xs.length k with
      | some j => some (h.set n (.lst (xs.set j d)))
      | none => none
    | _ => none
  | _, _ => none
def sSetI (f fo fi : EM) : SM := sE f fun d => sE fo fun o => sE fi fun i s h => match setD o i d h with
  | some h' => some (.nx s h')
  | none => none
theorem RepDs.set {K : KF} {w : Wd} : ∀ {ds : List D} {vs : List V} (j : Nat) {d : D} {v : V}, RepDs K w ds vs → RepD K w d v → RepDs K w (ds.set j d) (vs.set j v)
  | [], vs, j, d, v, h, r => by
    rw [show vs = [] from h]
    exact rfl
  | x :: ds, vs, 0, d, v, ⟨u, t, e, h1, h2⟩, r => by
    rw [e]
    exact ⟨v, t, rfl, r, h2⟩
  | x :: ds, vs, j + 1, d, v, ⟨u, t, e, h1, h2⟩, r => by
    rw [e]
    exact ⟨u, _, rfl, h1, RepDs.set j h2 r⟩
section
variable {X : Cx} {W : WX} {a b c o i e : Expr} {f fo fi : EM} {p pos spos : Pos}
end
end Vl
set_option maxHeartbeats 4000000
namespace Vl
open PySem PySem.Spec PyProof.Rows L2

/-! ## a new cell with the items of a sequence -/
def seqItems (d : D) (h : Hs) : Option (List D) := match d with
  | .v (.list ds) => some (ds.map .v)
  | .v (.tuple ds) => some (ds.map .v)
  | .mix xs => some xs
  | .ref n => match h[n]? with
    | some (.lst xs) => some xs
    | _ => none
  | _ => none
def eLstOf (a : AM) : EM := eA a fun ds _ h => match ds with
  | [d] => match seqItems d h with
    | some xs => some (.ok (.ref h.length) (h ++ [.lst xs]))
    | none => none
  | _ => none
section
variable {X : Cx} {W : WX} {e : Expr} {es : List Expr} {a : AM} {p pos : Pos}
end

/-! ## more methods of lists -/
section
variable {K : KF}
/-- the items of a list -/
def lstOf (d : D) (h : Hs) : Option (List D) := match d with
  | .v (.list ds) => some (ds.map .v)
  | .ref n => match h[n]? with
    | some (.lst xs) => some xs
    | _ => none
  | _ => none
noncomputable def insertD : D → List D → Hs → Option (D × Hs) := fun o ds h => match o, ds with
  | .ref n, [.v (.int i), y] => match h[n]? with
    | some (.lst xs) => if yes (xs.length < sizeLine ∧ 0 ≤ i ∧ i < 2 ^ 63) = true then some (.v .none, h.set n (.lst (xs.take i.toNat ++ [y] ++ xs.drop i.toNat))) else none
    | _ => none
  | _, _ => none
noncomputable def popAtD : D → List D → Hs → Option (D × Hs) := fun o ds h => match o, ds with
  | .ref n, [.v (.int i)] => match h[n]? with
    | some (.lst xs) => match (if yes (-(2 ^ 63) ≤ i ∧ i < 2 ^ 63) = true then ixN xs.length i else none) with
      | some k => match xs[k]? with
        | some y => some (y, h.set n (.lst (xs.eraseIdx k)))
        | none => none
      | none => none
    | _ => none
  | _, _ => none
end
end Vl
set_option maxHeartbeats 4000000
namespace Vl
open PySem PySem.Spec PyProof.Rows L2

/-! ## a call without arguments -/
section
variable {X : Cx} {W : WX} {F : Fn} {f : Addr} {fd : FuncData} {k : Nat} {x : Str} {p pos : Pos}
end

/-! ## max, min of two ints -/
def max2 : List D → Hs → Option D := fun ds _ => match ds with
  | [.v (.int i), .v (.int j)] => some (.v (.int (if j > i then j else i)))
  | _ => none
def min2 : List D → Hs → Option D := fun ds _ => match ds with
  | [.v (.int i), .v (.int j)] => some (.v (.int (if j < i then j else i)))
  | _ => none
/-! ## range with a step -/
section
variable {X : Cx} {W : WX} {tg a b c o i e : Expr} {f g k : EM} {pos p apos cpos : Pos}
/-! ## dicts that stay as they are -/
def lookP : List (PyData × PyData) → Key → Option PyData
  | [], _ => none
  | (k, d) :: r, q => if keyP k = some q then some d else lookP r q
def dixD : D → D → Hs → Option D := fun x y _ => match x, y with
  | .v (.dict kvs), .v p => match keyP p with
    | some q => (lookP kvs q).map .v
    | none => none
  | _, _ => none
def eDix (f g : EM) : EM := f.bind fun x => g.bind fun y => EM.lift (dixD x y)
def dget2 (x y z : D) : Hs → Option D := fun _ => match x, y with
  | .v (.dict kvs), .v p => match keyP p with
    | some q => some (match lookP kvs q with
      | some d => .v d
      | none => z)
    | none => none
  | _, _ => none
def isDctD : D → Bool
  | .v (.dict _) => true
  | _ => false
def eGet2 (f g k : EM) : EM := f.bind fun x s h => if isDctD x = true then (g.bind fun y => k.bind fun z => EM.lift (dget2 x y z)) s h else none
end
end Vl
set_option maxHeartbeats 4000000
namespace Vl
open PySem PySem.Spec PyProof.Rows L2
/-! ## how the later pieces reckon, for simp -/
section
variable (s : Sl) (h : Hs) (f g k : EM) (a : AM) (x y z d : D)
@[simp] theorem z_lstRg : eLstRg f s h = match f s h with
  | some (.ok x h1) => (match rgL x h1 with
    | some z => some (.ok z h1)
    | none => none)
  | some (.ex x h1) => some (.ex x h1)
  | none => none := rfl
@[simp] theorem z_lstOf : eLstOf a s h = match a s h with
  | some (.ok [d] h1) => (match seqItems d h1 with
    | some xs => some (.ok (.ref h1.length) (h1 ++ [.lst xs]))
    | none => none)
  | some (.ok _ h1) => none
  | some (.ex x h1) => some (.ex x h1)
  | none => none := by
  unfold eLstOf eA
  cases a s h with
  | none => rfl
  | some r =>
    cases r with
    | ex x h1 => rfl
    | ok ds h1 =>
      cases ds with
      | nil => rfl
      | cons d r => cases r <;> rfl
@[simp] theorem z_si0 (ds : List PyData) : seqItems (.v (.list ds)) h = some (ds.map .v) := rfl
@[simp] theorem z_si1 (ds : List PyData) : seqItems (.v (.tuple ds)) h = some (ds.map .v) := rfl
@[simp] theorem z_si2 (xs : List D) : seqItems (.mix xs) h = some xs := rfl
@[simp] theorem z_si3 (n : Nat) : seqItems (.ref n) h = match h[n]? with
  | some (.lst xs) => some xs
  | _ => none := rfl
@[simp] theorem z_setI : sSetI f g k s h = match f s h with
  | some (.ok d h1) => (match g s h1 with
    | some (.ok o h2) => (match k s h2 with
      | some (.ok i h3) => (match setD o i d h3 with
        | some h' => some (.nx s h')
        | none => none)
      | some (.ex x h3) => some (.ex s x h3)
      | none => none)
    | some (.ex x h2) => some (.ex s x h2)
    | none => none)
  | some (.ex x h1) => some (.ex s x h1)
  | none => none := rfl
@[simp] theorem z_setD (n : Nat) (i : Int) : setD (.ref n) (.v (.int i)) d h = match h[n]? with
  | some (.lst xs) => (match ixN xs.length i with
    | some j => some (h.set n (.lst (xs.set j d)))
    | none => none)
  | _ => none := rfl
@[simp] theorem z_get2 : eGet2 f g k s h = match f s h with
  | some (.ok x h1) => if isDctD x = true then (match g s h1 with
    | some (.ok y h2) => (match k s h2 with
      | some (.ok z h3) => (match dget2 x y z h3 with
        | some r => some (.ok r h3)
        | none => none)
      | some (.ex x h3) => some (.ex x h3)
      | none => none)
    | some (.ex x h2) => some (.ex x h2)
    | none => none) else none
  | some (.ex x h1) => some (.ex x h1)
  | none => none := rfl
@[simp] theorem z_isd (kvs : List (PyData × PyData)) : isDctD (.v (.dict kvs)) = true := rfl
@[simp] theorem z_dg2s (kvs : List (PyData × PyData)) (q : Str) : dget2 (.v (.dict kvs)) (.v (.str q)) z h = some (match lookP kvs (.inr q) with
  | some d => .v d
  | none => z) := rfl
@[simp] theorem z_dix : eDix f g s h = match f s h with
  | some (.ok x h1) => (match g s h1 with
    | some (.ok y h2) => (match dixD x y h2 with
      | some r => some (.ok r h2)
      | none => none)
    | some (.ex x h2) => some (.ex x h2)
    | none => none)
  | some (.ex x h1) => some (.ex x h1)
  | none => none := rfl
@[simp] theorem z_dixs (kvs : List (PyData × PyData)) (q : Str) : dixD (.v (.dict kvs)) (.v (.str q)) h = (lookP kvs (.inr q)).map .v := rfl
@[simp] theorem z_look0 (q : Key) : lookP [] q = none := rfl
@[simp] theorem z_lookS (a : Str) (p : PyData) (r : List (PyData × PyData)) (q : Str) : lookP ((.str a, p) :: r) (.inr q) = if a = q then some p else lookP r (.inr q) := by
  show (if keyP (.str a) = some (.inr q) then some p else lookP r (.inr q)) = _
  by_cases e : a = q
  · rw [if_pos (by rw [e]; rfl), if_pos e]
  · rw [if_neg (fun z => e (by injection z with z; injection z)), if_neg e]
@[simp] theorem z_max (i j : Int) : max2 [.v (.int i), .v (.int j)] h = some (.v (.int (if j > i then j else i))) := rfl
@[simp] theorem z_min (i j : Int) : min2 [.v (.int i), .v (.int j)] h = some (.v (.int (if j < i then j else i))) := rfl
@[simp] theorem z_pop (n : Nat) : popD (.ref n) [] h = match h[n]? with
  | some (.lst xs) => (match xs[xs.length - 1]? with
    | some y => some (y, h.set n (.lst xs.dropLast))
    | none => none)
  | _ => none := rfl
end
end Vl
set_option maxHeartbeats 4000000
namespace Vl
open PySem PySem.Spec PyProof.Rows L2

/-! ## lists that are made to be changed: sums, comprehensions -/
def addN (x y : D) (h : Hs) : Option (List D) := match lstOf x h, lstOf y h with
  | some xs, some ys => if xs.length + ys.length ≤ sizeLine then some (xs ++ ys) else none
  | _, _ => none
def eAddN (f g : EM) : EM := f.bind fun x => g.bind fun y s h => match addN x y h with
  | some xs => some (.ok (.ref h.length) (h ++ [.lst xs]))
  | none => none
section
variable {X : Cx} {W : WX} {a b : Expr} {f g : EM} {pos : Pos}
end
/-! one more cell -/
section
variable {K : KF} {w : Wd} {p : Addr} {c : Cell}
mutual
theorem RepD.more : ∀ (d : D) {v : V}, RepD K w d v → RepD K ⟨w.ι ++ [p], w.Fz, w.h ++ [c], w.H⟩ d v
  | .v _, _, h => h
  | .ref n, _, ⟨a, e, r⟩ => ⟨a, by
    show (w.ι ++ [p])[n]? = some a
    rw [List.getElem?_append_left (List.getElem?_eq_some_iff.mp e).1]
    exact e, r⟩
  | .mix ds, _, ⟨a, vs, e, hr, hs⟩ => ⟨a, vs, e, hr, RepDs.more ds hs⟩
  | .exc _ _, _, h => h
theorem RepDs.more : ∀ (ds : List D) {vs : List V}, RepDs K w ds vs → RepDs K ⟨w.ι ++ [p], w.Fz, w.h ++ [c], w.H⟩ ds vs
  | [], _, h => h
  | d :: ds, _, ⟨v, r, e, h1, h2⟩ => ⟨v, r, e, RepD.more d h1, RepDs.more ds h2⟩
end
theorem CellOk.more {a : Addr} {c' : Cell} : ∀ {c : Cell}, CellOk K w a c → CellOk K ⟨w.ι ++ [p], w.Fz, w.h ++ [c'], w.H⟩ a c
  | .lst _, ⟨vs, e, r⟩ => ⟨vs, e, RepDs.more _ r⟩
  | .dct _, ⟨ks, e, n, r⟩ => ⟨ks, e, n, RepDs.more _ r⟩
  | .ins _ _, ⟨C, dx, fv, hc, e, hd, n, r⟩ => ⟨C, dx, fv, hc, e, hd, n, RepDs.more _ r⟩
end
noncomputable def eCompN (it : IM) (g : GM) (t : TM) (f : EM) (vs : List Nat) : EM := fun s h => match it s h with
  | some (.ok items gd h1) => match compL gd g t f items (wipeS s vs) h1 with
    | some (ds, h2) => some (.ok (.ref h2.length) (h2 ++ [.lst ds]))
    | none => none
  | some (.ex x h1) => some (.ex x h1)
  | none => none
section
variable {X : Cx} {W : WX} {elt tg iter : Expr} {ifs : List Expr} {scope : Scope} {own : List (Str × Nat)} {js : List Nat} {it : IM} {g : GM} {t : TM} {f : EM} {pos : Pos}
end
section
variable (s : Sl) (h : Hs) (f g : EM) (t : TM) (gm : GM) (x y : D)
@[simp] theorem z_addN : eAddN f g s h = match f s h with
  | some (.ok x h1) => (match g s h1 with
    | some (.ok y h2) => (match addN x y h2 with
      | some xs => some (.ok (.ref h2.length) (h2 ++ [.lst xs]))
      | none => none)
    | some (.ex x h2) => some (.ex x h2)
    | none => none)
  | some (.ex x h1) => some (.ex x h1)
  | none => none := rfl
@[simp] theorem z_compN (it : IM) (vs : List Nat) : eCompN it gm t f vs s h = match it s h with
  | some (.ok items gd h1) => (match compL gd gm t f items (wipeS s vs) h1 with
    | some (ds, h2) => some (.ok (.ref h2.length) (h2 ++ [.lst ds]))
    | none => none)
  | some (.ex x h1) => some (.ex x h1)
  | none => none := rfl
@[simp] theorem z_lo0 (ds : List PyData) : lstOf (.v (.list ds)) h = some (ds.map .v) := rfl
@[simp] theorem z_lo1 (n : Nat) : lstOf (.ref n) h = match h[n]? with
  | some (.lst xs) => some xs
  | _ => none := rfl
@[simp] theorem y_mul2 (xs : List PyData) (j : Int) : mulP (.tuple xs) (.int j) = if yes (xs ≠ [] ∧ 2 ≤ j ∧ (xs.length : Int) * j ≤ 1000000) = true then some (.tuple (List.replicate j.toNat xs).flatten) else none := rfl
end
end Vl
set_option maxHeartbeats 4000000
namespace Vl
open PySem PySem.Spec PyProof.Rows L2
section
variable {X : Cx}
end
def isIntP : PyData → Bool
  | .int _ => true
  | _ => false
def inXD (neg : Bool) : D → D → Hs → Option D := fun x y h => match x with
  | .v (.dict _) => (match y with
    | .v (.list ds) => if ds.all isIntP = true then some (.v (.bool neg)) else none
    | _ => none)
  | _ => lift2 (inP neg) x y h
def eInX (f g : EM) : EM := eBin (inXD false) f g
section
variable {X : Cx} {W : WX} {a b : Expr} {f g : EM} {pos : Pos} {k : Nat}
end
@[simp] theorem z_inX (f g : EM) (s : Sl) (h : Hs) : eInX f g s h = eBin (inXD false) f g s h := rfl
end Vl
set_option maxHeartbeats 4000000
namespace Vl
open PySem PySem.Spec PyProof.Rows L2
/-! ## calls that hand over the callee's cells -/
mutual
def shD (n : Nat) : D → D
  | .v p => .v p
  | .ref k => .ref (n + k)
  | .mix ds => .mix (shDs n ds)
  | .exc c fs => .exc c fs
def shDs (n : Nat) : List D → List D
  | [] => []
  | d :: ds => shD n d :: shDs n ds
end
def shC (n : Nat) : Cell → Cell
  | .lst ds => .lst (shDs n ds)
  | .dct kvs => .dct kvs
  | .ins c fs => .ins c fs
mutual
/-- its data hold no lists -/
def clnD : D → Bool
  | .v p => noL p
  | .ref _ => true
  | .mix ds => clnDs ds
  | .exc _ _ => false
def clnDs : List D → Bool
  | [] => true
  | d :: ds => clnD d && clnDs ds
end
def okC (b : Bool) : Cell → Bool
  | .lst ds => !b || clnDs ds
  | _ => false
def callT (F : Fn) (ps : List PyData) (b : Bool) (h : Hs) : Option ER := match F (ps.map .v) [] with
  | some (.rt d h') => if ((!b || clnD d) && h'.all (okC b)) = true then some (.ok (shD h.length d) (h ++ h'.map (shC h.length))) else none
  | _ => none
def callF (F : Fn) (ps : List PyData) (h : Hs) : Option ER := match F (ps.map .v) [] with
  | some (.rt d h') => if (clnD d && h'.all (okC true)) = true then (frz h' dep d).map fun p => .ok (.v p) h else none
  | _ => none
def eCallT (F : Fn) (a : AM) : EM := eA a fun ds _ h => match unvs ds with
  | some ps => callT F ps false h
  | none => match frzs h (dep + 1) ds with
    | some ps => callT F ps true h
    | none => none
def eCallF (F : Fn) (a : AM) : EM := eA a fun ds _ h => match frzs h (dep + 1) ds with
    | some ps => callF F ps h
    | none => none
def Wd.join (w w' : Wd) : Wd := ⟨w.ι ++ w'.ι, fun a => w.Fz a ∨ (w.H a = none ∧ w'.Fz a), w.h ++ w'.h.map (shC w.h.length), w'.H⟩
section
variable {K : KF} {w w' : Wd} {G : Addr → Prop} {b : Bool}
mutual
theorem join_rep (l : (w.sub G).Le w') (el : w.ι.length = w.h.length) (hG : b = false → ∀ a, G a → w.Fz a) : ∀ (d : D) {v : V}, (!b || clnD d) = true → RepD K w' d v → RepD K (w.join w') (shD w.h.length d) v
  | .v p, v, c, r => by
    cases b with
    | false => exact RepP.same (fun _ _ z => z) (fun a z => (l.new a z).elim (fun q => .inl (hG rfl a q)) fun q => .inr ⟨q, z⟩) p r
    | true => exact RepP.noL p c r
  | .ref k, v, c, ⟨a, e, r⟩ => ⟨a, by
      show (w.ι ++ w'.ι)[w.h.length + k]? = some a
      rw [← el, List.getElem?_append_right (Nat.le_add_right _ _), Nat.add_sub_cancel_left]
      exact e, r⟩
  | .mix ds, v, c, ⟨a, vs, e, hs, r⟩ => ⟨a, vs, e, hs, joins_rep l el hG ds c r⟩
  | .exc x fs, v, c, ⟨a, C, da, ev, hc, ha, hf⟩ => by
    cases b with
    | false =>
      refine ⟨a, C, da, ev, hc, ha, ?_⟩
      rcases hf with hf | ⟨d, fv, e1, e2, e3, e4⟩
      · exact .inl hf
      · exact .inr ⟨d, fv, e1, e2, e3, RepPs.same (fun _ _ z => z) (fun a z => (l.new a z).elim (fun q => .inl (hG rfl a q)) fun q => .inr ⟨q, z⟩) _ e4⟩
    | true => cases c
theorem joins_rep (l : (w.sub G).Le w') (el : w.ι.length = w.h.length) (hG : b = false → ∀ a, G a → w.Fz a) : ∀ (ds : List D) {vs : List V}, (!b || clnDs ds) = true → RepDs K w' ds vs → RepDs K (w.join w') (shDs w.h.length ds) vs
  | [], _, _, h => h
  | d :: ds, _, c, ⟨v, r, e, h1, h2⟩ => by
    have c' : (!b || clnD d) = true ∧ (!b || clnDs ds) = true := by
      cases b with
      | false => exact ⟨rfl, rfl⟩
      | true =>
        have c : (clnD d && clnDs ds) = true := c
        rw [Bool.and_eq_true] at c
        exact c
    exact ⟨v, r, e, join_rep l el hG d c'.1 h1, joins_rep l el hG ds c'.2 h2⟩
end
/-- a world whose lists are all cells -/
def Wd.bare (w : Wd) : Wd := ⟨w.ι, fun _ => False, w.h, w.H⟩
mutual
theorem bare_rep : ∀ (d : D) {v : V}, clnD d = true → RepD K w d v → RepD K w.bare d v
  | .v p, v, c, r => RepP.noL p c r
  | .ref k, v, c, r => r
  | .mix ds, v, c, ⟨a, vs, e, hs, r⟩ => ⟨a, vs, e, hs, bares_rep ds c r⟩
  | .exc x fs, v, c, r => by cases c
theorem bares_rep : ∀ (ds : List D) {vs : List V}, clnDs ds = true → RepDs K w ds vs → RepDs K w.bare ds vs
  | [], _, _, h => h
  | d :: ds, _, c, ⟨v, r, e, h1, h2⟩ => by
    rw [clnDs, Bool.and_eq_true] at c
    exact ⟨v, r, e, bare_rep d c.1 h1, bares_rep ds c.2 h2⟩
end
end
section
variable {X : Cx} {W : WX} {e : Expr} {es : List Expr} {a : AM} {F : Fn} {f : Addr} {fd : FuncData} {ps : List Str} {k : Nat} {x : Str} {p pos : Pos}
end
/-! ## list(range(n)), to be changed -/
noncomputable def eLstRgN (f : EM) : EM := f.bind fun x _ h => match rgL x h with
  | some (.v (.list ps)) => some (.ok (.ref h.length) (h ++ [.lst (ps.map .v)]))
  | _ => none
section
variable {X : Cx} {W : WX} {a : Expr} {f : EM} {p p2 pos pos2 : Pos}
end
end Vl
set_option maxHeartbeats 4000000
namespace Vl
open PySem PySem.Spec PyProof.Rows L2
/-! ## isinstance of an exception or None -/
def isX0 (anc : Anc) (t : Str) : D → Option Bool
  | .v .none => some false
  | d => isXs anc [t] d
def eIsX0 (anc : Anc) (t : Str) (f : EM) : EM := f.bind fun d => EM.lift fun _ => (isX0 anc t d).map fun b => .v (.bool b)
section
variable {X : Cx} {W : WX} {e : Expr} {f : EM} {anc : Anc} {ts fl : List Str} {t : Str} {T : Addr} {p p2 pos : Pos}
end
@[simp] theorem z_isx0 (anc : Anc) (t : Str) (f : EM) (s : Sl) (h : Hs) : eIsX0 anc t f s h = match f s h with
  | some (.ok d h1) => (match isX0 anc t d with
    | some b => some (.ok (.v (.bool b)) h1)
    | none => none)
  | some (.ex x h1) => some (.ex x h1)
  | none => none := by
  unfold eIsX0 EM.bind EM.lift
  cases f s h with
  | none => rfl
  | some r =>
    cases r with
    | ex x h1 => rfl
    | ok d h1 =>
      simp only
      cases isX0 anc t d <;> rfl
end Vl
set_option maxHeartbeats 4000000
namespace Vl
open PySem PySem.Spec PyProof.Rows L2
/-! ## an int in range(a, b) -/
def inRg (neg : Bool) : D → List D → Option D
  | .v (.int i), [.v (.int lo), .v (.int hi)] => some (.v (.bool (if neg = true then !(decide (lo ≤ i ∧ i < hi)) else decide (lo ≤ i ∧ i < hi))))
  | _, _ => none
def eInRg (neg : Bool) (f : EM) (a : AM) : EM := f.bind fun x => eA a fun ds _ h => match inRg neg x ds with
  | some d => some (.ok d h)
  | none => none
section
variable {X : Cx} {W : WX} {e b : Expr} {es : List Expr} {f : EM} {a : AM} {p pos pos2 : Pos}
end
end Vl
set_option maxHeartbeats 4000000
namespace Vl
open PySem PySem.Spec PyProof.Rows L2 HT
/-! ## t[::-1] -/
section
variable {prog : Program} {w : World} {A : Around} {E : Value → Shared → Prop} {s : Shared}
end
section
variable {X : Cx}
end
def revP : PyData → Option PyData
  | .list xs => some (.list xs.reverse)
  | .tuple xs => some (.tuple xs.reverse)
  | _ => none
def eRev (f : EM) : EM := f.bind fun x => EM.lift (lift1 revP x)
section
variable {X : Cx} {W : WX} {e : Expr} {f : EM} {k : Nat} {p1 p2 p3 pos : Pos}
end
section
variable {X : Cx} {W : WX} {e b : Expr} {es : List Expr} {f : EM} {a : AM} {p pos pos2 : Pos}
end
@[simp] theorem z_inRg {neg : Bool} {f : EM} {a : AM} {s : Sl} {h : Hs} : eInRg neg f a s h = match f s h with
  | some (.ok x h1) => (match a s h1 with
    | some (.ok ds h2) => (match inRg neg x ds with
      | some d => some (.ok d h2)
      | none => none)
    | some (.ex x h2) => some (.ex x h2)
    | none => none)
  | some (.ex x h1) => some (.ex x h1)
  | none => none := by
  unfold eInRg EM.bind eA
  cases f s h with
  | none => rfl
  | some r =>
    cases r with
    | ex x h1 => rfl
    | ok d h1 => rfl
@[simp] theorem z_rev {f : EM} {s : Sl} {h : Hs} : eRev f s h = match f s h with
  | some (.ok x h1) => (match lift1 revP x h1 with
    | some z => some (.ok z h1)
    | none => none)
  | some (.ex x h1) => some (.ex x h1)
  | none => none := rfl
end Vl
set_option maxHeartbeats 4000000
namespace Vl
open PySem PySem.Spec PyProof.Rows L2
/-! ## a key in a dict -/
def inKd (neg : Bool) : D → D → Hs → Option D := fun x y _ => match x, y with
  | .v p, .v (.dict kvs) => match keyP p with
    | some q => some (.v (.bool (ngt neg (lookP kvs q).isSome)))
    | none => none
  | _, _ => none
def eInK (neg : Bool) (f g : EM) : EM := eBin (inKd neg) f g
section
variable {X : Cx} {W : WX} {a b : Expr} {f g : EM} {k : Nat} {pos : Pos}
end
@[simp] theorem z_inK {neg : Bool} {f g : EM} {s : Sl} {h : Hs} : eInK neg f g s h = match f s h with
  | some (.ok x h1) => (match g s h1 with
    | some (.ok y h2) => (match inKd neg x y h2 with
      | some z => some (.ok z h2)
      | none => none)
    | some (.ex x h2) => some (.ex x h2)
    | none => none)
  | some (.ex x h1) => some (.ex x h1)
  | none => none := rfl
end Vl
set_option maxHeartbeats 4000000
namespace Vl
open PySem PySem.Spec PyProof.Rows L2
/-! ## the rest of a body, run on what the names hold as data: nobody changes a cell any more -/
def frzSl (h : Hs) (sl : Sl) : Sl := sl.map fun o => match o with
  | some d => (match frz h dep d with
    | some p => some (.v p)
    | none => none)
  | none => none
def sFrz (S : SM) : SM := fun sl h => match S (frzSl h sl) [] with
  | some (.rt (.v p) _) => if noL p = true then some (.rt (.v p) h) else none
  | _ => none
@[simp] theorem z_frz (S : SM) (sl : Sl) (h : Hs) : sFrz S sl h = match S (frzSl h sl) [] with
  | some (.rt (.v p) _) => if noL p = true then some (.rt (.v p) h) else none
  | _ => none := rfl
@[simp] theorem frzSl_nil (h : Hs) : frzSl h [] = [] := rfl
@[simp] theorem frzSl_none (h : Hs) (r : Sl) : frzSl h (none :: r) = none :: frzSl h r := rfl
@[simp] theorem frzSl_v (h : Hs) (p : PyData) (r : Sl) : frzSl h (some (.v p) :: r) = some (.v p) :: frzSl h r := rfl
end Vl
set_option maxHeartbeats 4000000
namespace Vl
open PySem PySem.Spec PyProof.Rows L2
/-! ## any data in a tuple of any data -/
def inTP (neg : Bool) : PyData → PyData → Option PyData
  | p, .tuple ys => if (SeqAt.shaped p && SeqAt.shaped (.tuple ys)) = true then some (.bool (ngt neg (ys.any fun z => PyData.eqv z p))) else none
  | _, _ => none
def eInT (neg : Bool) (f g : EM) : EM := eBin (lift2 (inTP neg)) f g
section
variable {X : Cx} {W : WX} {a b : Expr} {f g : EM} {pos : Pos} {k : Nat}
end
@[simp] theorem z_inT (neg : Bool) {f g : EM} {s : Sl} {h : Hs} : eInT neg f g s h = eBin (lift2 (inTP neg)) f g s h := rfl
end Vl
set_option maxHeartbeats 4000000
namespace Vl
open PySem PySem.Spec PyProof.Rows L2
/-! ## repr of data that may hold empty dicts, or of none, a number, a text -/
mutual
def dctE : PyData → Bool
  | .list ds => dctEs ds
  | .tuple ds => dctEs ds
  | .dict kvs => kvs.isEmpty
  | _ => true
def dctEs : List PyData → Bool
  | [] => true
  | d :: ds => dctE d && dctEs ds
end
section
variable {X : Cx} {pins : List (Addr × Obj)} {σ : L2.St} {H : Hp} {s : Shared} {Fz : Addr → Prop}
theorem dct0 (I : Inv X pins σ H s) {a : Addr} (e : H a = some (.dK [])) : (a == sysModules) = false ∧ ∃ o ep, s.heap.get? a = some o ∧ o.cls = .type "dict" ∧ o.data = .dict #[] ep := by
  obtain ⟨_, hsm, vs, kv, o, es, ep, ho, hx, hd, _, hp, _⟩ := dk_of I.hok e
  cases kv
  have : es.toList = [] := by
    cases he : es.toList with
    | nil => rfl
    | cons x r => rw [he] at hp; cases hp
  have : es = #[] := by
    obtain ⟨l⟩ := es
    simp only at this
    rw [this]
  subst this
  exact ⟨hsm, o, ep, ho, hx.1, hd⟩
mutual
theorem reads2 (I : Inv X pins σ H s) : ∀ (d : PyData) {v : V} {u : Value}, dctE d = true → RepP X.K Fz H d v → RelV v u → ∃ as, Reads s.heap u d as
  | .none, _, _, _, h, r => by cases h; cases r; exact ⟨_, Reads.none⟩
  | .bool b, _, _, _, h, r => by cases h; cases r; exact ⟨_, Reads.bool b⟩
  | .int i, _, _, _, h, r => by cases h; obtain ⟨t, rfl⟩ := r; exact ⟨_, Reads.int i t⟩
  | .str x, _, _, _, h, r => by cases h; obtain ⟨t, rfl⟩ := r; exact ⟨_, Reads.str x t⟩
  | .list ds, _, _, c, ⟨a, vs, e, hs, ha⟩, r => by
    subst e
    cases r
    obtain ⟨its, rv, ⟨o, n, ho, hc, _, hd⟩, _⟩ := I.list hs.sql
    obtain ⟨as, hr⟩ := reads2s I ds c ha rv
    exact ⟨_, Reads.list ho hc hd hr⟩
  | .tuple ds, _, _, c, ⟨a, vs, e, hs, ha⟩, r => by
    subst e
    cases r
    obtain ⟨its, rv, ⟨o, ho, hc, n, hd⟩, _⟩ := I.tuple hs
    obtain ⟨as, hr⟩ := reads2s I ds c ha rv
    exact ⟨_, Reads.tuple ho hc hd hr⟩
  | .dict kvs, _, _, c, ⟨a, ks, e, _, hH, hk⟩, r => by
    cases kvs with
    | nil =>
      cases (show ks = [] from hk)
      subst e
      cases r
      obtain ⟨_, o, ep, ho, hc, hd⟩ := dct0 I hH
      exact ⟨_, Reads.dict ho hc hd .nil .nil⟩
    | cons x r => cases c
theorem reads2s (I : Inv X pins σ H s) : ∀ (ds : List PyData) {vs : List V} {us : List Value}, dctEs ds = true → RepPs X.K Fz H ds vs → Vals vs us → ∃ as, ReadsAll s.heap us ds as
  | [], _, _, _, h, r => by
    cases h
    cases r
    exact ⟨_, ReadsAll.nil⟩
  | d :: ds, _, _, c, ⟨v, r, e, h1, h2⟩, rv => by
    subst e
    have c : (dctE d && dctEs ds) = true := c
    rw [Bool.and_eq_true] at c
    cases rv with
    | cons r1 r2 =>
      obtain ⟨as, q1⟩ := reads2 I d c.1 h1 r1
      obtain ⟨bs, q2⟩ := reads2s I ds c.2 h2 r2
      exact ⟨_, ReadsAll.cons q1 q2⟩
end
mutual
theorem shows2 (I : Inv X pins σ H s) : ∀ (d : PyData) {v : V} {u : Value}, dctE d = true → RepP X.K Fz H d v → RelV v u → d.showable = true → d.shown.length ≤ sizeLine →
    ∃ bs, ReadAtMost s.heap d.depth bs ∧ ReprK X.prog X.w bs s.heap d.depth u d.shown
  | .none, _, _, _, h, r, _, _ => by cases h; cases r; exact ⟨[], (fun _ h => nomatch h), .of_is ReprIs.none _ _ _⟩
  | .bool b, _, _, _, h, r, _, _ => by cases h; cases r; exact ⟨[], (fun _ h => nomatch h), .of_is (ReprIs.bool b) _ _ _⟩
  | .int i, _, _, _, h, r, hs, _ => by
    cases h
    obtain ⟨t, rfl⟩ := r
    exact ⟨[], (fun _ h => nomatch h), .of_is (ReprIs.int t (by simpa [PyData.showable] using hs)) _ _ _⟩
  | .str x, _, _, _, h, r, _, hz => by
    cases h
    obtain ⟨t, rfl⟩ := r
    exact ⟨[], (fun _ h => nomatch h), .of_is (ReprIs.str x t hz) _ _ _⟩
  | .list ds, _, _, c, ⟨a, vs, e, hq, ha⟩, r, hs, hz => by
    subst e
    cases r
    obtain ⟨its, rv, ⟨o, n, ho, hc, _, hd⟩, _⟩ := I.list hq.sql
    obtain ⟨as, hr⟩ := reads2s I ds c ha rv
    obtain ⟨bs, hb, hk⟩ := shows2s I ds c ha rv hs fun t ht => Nat.le_trans (listText_mem_le ht) hz
    have rd : Reads s.heap (.ref a) (.list ds) _ := .list ho hc hd hr
    have hna : a ∉ bs := not_mem_of_deeper rd (by simp only [PyData.depth]; omega) hb
    refine ⟨a :: bs, ReadAtMost.cons rd (by simp only [PyData.depth]; omega) hb, ?_⟩
    show ReprK X.prog X.w (a :: bs) s.heap (PyData.depthAll ds + 1) (.ref a) (listText (PyData.shownAll ds))
    cases its with
    | nil =>
      cases hr
      rw [show listText (PyData.shownAll []) = ("[]" : Str) from listText_nil]
      exact ReprK.listEmpty ho hc hd
    | cons x l => exact ReprK.list ho hc hd hna (by simpa using hk.length_eq) (fun i y e => hk.item i y (by simpa using e))
  | .tuple ds, _, _, c, ⟨a, vs, e, hq, ha⟩, r, hs, hz => by
    subst e
    cases r
    obtain ⟨its, rv, ⟨o, ho, hc, n, hd⟩, _⟩ := I.tuple hq
    obtain ⟨as, hr⟩ := reads2s I ds c ha rv
    obtain ⟨bs, hb, hk⟩ := shows2s I ds c ha rv hs fun t ht => Nat.le_trans (tupleText_mem_le ht) hz
    have rd : Reads s.heap (.ref a) (.tuple ds) _ := .tuple ho hc hd hr
    have hna : a ∉ bs := not_mem_of_deeper rd (by simp only [PyData.depth]; omega) hb
    exact ⟨a :: bs, ReadAtMost.cons rd (by simp only [PyData.depth]; omega) hb, ReprK.tuple ho hc hd hna hk⟩
  | .dict kvs, _, _, c, ⟨a, ks, e, _, hH, hk⟩, r, _, _ => by
    cases kvs with
    | nil =>
      cases (show ks = [] from hk)
      subst e
      cases r
      obtain ⟨hsm, o, ep, ho, hc, hd⟩ := dct0 I hH
      have rd : Reads s.heap (.ref a) (.dict []) _ := .dict ho hc hd .nil .nil
      have h0 : ReadAtMost s.heap 0 [] := fun _ h => nomatch h
      refine ⟨a :: [], ReadAtMost.cons rd (Nat.zero_le _) h0, ?_⟩
      have := ReprK.dict (prog := X.prog) (w := X.w) (as := []) (h₀ := s.heap) (d := 0) (a := a) ho hc hd hsm (by simp) (ReprEntriesK.of_two [] [] [] .nil .nil)
      exact this
    | cons x r => cases c
theorem shows2s (I : Inv X pins σ H s) : ∀ (ds : List PyData) {vs : List V} {us : List Value}, dctEs ds = true → RepPs X.K Fz H ds vs → Vals vs us → PyData.showableAll ds = true → (∀ t ∈ PyData.shownAll ds, t.length ≤ sizeLine) →
    ∃ bs, ReadAtMost s.heap (PyData.depthAll ds) bs ∧ ReprAllK X.prog X.w bs s.heap (PyData.depthAll ds) us (PyData.shownAll ds)
  | [], _, _, _, h, r, _, _ => by
    cases h
    cases r
    exact ⟨[], (fun _ h => nomatch h), .nil⟩
  | d :: ds, _, _, c, ⟨v, r, e, h1, h2⟩, rv, hs, hz => by
    subst e
    have c : (dctE d && dctEs ds) = true := c
    rw [Bool.and_eq_true] at c
    have hs : (d.showable && PyData.showableAll ds) = true := hs
    rw [Bool.and_eq_true] at hs
    cases rv with
    | cons r1 r2 =>
      obtain ⟨b1, hb1, k1⟩ := shows2 I d c.1 h1 r1 hs.1 (hz _ (List.mem_cons_self ..))
      obtain ⟨b2, hb2, k2⟩ := shows2s I ds c.2 h2 r2 hs.2 fun t ht => hz t (List.mem_cons_of_mem _ ht)
      exact ⟨b1 ++ b2, (ReadAtMost.mono hb1 (Nat.le_max_left _ _)).append (ReadAtMost.mono hb2 (Nat.le_max_right _ _)), .cons ((k1.more fun b hb => List.mem_append_left _ hb).level_le (Nat.le_max_left _ _)) (k2.more_le (fun b hb => List.mem_append_right _ hb) (Nat.le_max_right _ _))⟩
end
end
/-- what repr is asked of -/
def isDis2 : PyData → Bool
  | .dict _ => false
  | _ => true
abbrev rRepr2 (K : KF) : List V → Hp → VK → Prop := fun xs H Q => ∃ x d, xs = [x] ∧ RepP K (fun _ => True) H d x ∧ dctE d = true ∧ isDis2 d = true ∧ d.showable = true ∧ d.depth ≤ 64 ∧ d.shown.length ≤ sizeLine ∧ Q (.str d.shown) H
theorem call_repr2 {X : Cx} {k : Nat} (hr : Room k X.A) (gd : X.A.guards = some []) : CallR X (.builtin "repr") (rRepr2 X.K) := by
  intro pins s σ H xs us Q I r h
  obtain ⟨x, d, rfl, hd, hc0, hi, hs, hdp, hz, q⟩ := h
  obtain ⟨u, rfl, ru⟩ := vals1 r
  have hu := hr.un
  cases d with
  | none =>
    cases hd
    cases ru
    exact PySem.P.repr_of_none ⟨.str _, H, I.tok _, ⟨_, rfl⟩, q⟩
  | bool b =>
    cases hd
    cases ru
    exact PySem.P.repr_of_bool ⟨.str _, H, I.tok _, ⟨_, rfl⟩, q⟩
  | int i =>
    cases hd
    obtain ⟨t, rfl⟩ := ru
    exact PySem.P.repr_of_int (by simpa [PyData.showable] using hs) ⟨.str _, H, I.tok _, ⟨_, rfl⟩, q⟩
  | str z =>
    cases hd
    obtain ⟨t, rfl⟩ := ru
    exact PySem.P.repr_of_str ⟨.str _, H, I.tok _, ⟨_, rfl⟩, q⟩ hz
  | dict kvs => cases hi
  | list ds =>
    obtain ⟨a, vs, e, hq, ha⟩ := hd
    subst e
    cases ru
    obtain ⟨its, rv, ⟨o, n, ho, hc, _, hdt⟩, _⟩ := I.list hq.sql
    obtain ⟨as, hrd⟩ := reads2s I ds hc0 ha rv
    obtain ⟨bs, hb, hk⟩ := shows2s I ds hc0 ha rv hs fun t ht => Nat.le_trans (listText_mem_le ht) hz
    have rd : Reads s.heap (.ref a) (.list ds) _ := .list ho hc hdt hrd
    have hna : a ∉ bs := not_mem_of_deeper rd (by simp only [PyData.depth]; omega) hb
    refine call_repr_slot (by omega) ⟨o, ho, hc⟩ F.slot_list_repr.toG ?_
    cases its with
    | nil =>
      cases hrd
      exact call_list_repr_empty ⟨o, ho, hc⟩ ho hdt ⟨_, _, rfl, .str _, H, I.tok _, ⟨_, rfl⟩, q⟩
    | cons x l =>
      have hdp : PyData.depthAll ds + 1 ≤ 64 := hdp
      exact call_list_reprK ho hc hdt hna (by simpa using hk.length_eq) (fun i y e => hk.item i y (by simpa using e)) gd (fun b _ => Clear.nil b) (by show X.A.units + 1 + _ < cLine; omega) (fun _ _ e => e) (fun h' u tk hk => ⟨_, _, rfl, .str _, H, I.kept (t' := tk) hk, ⟨u, rfl⟩, q⟩) hz
  | tuple ds =>
    obtain ⟨a, vs, e, hq, ha⟩ := hd
    subst e
    cases ru
    obtain ⟨its, rv, ⟨o, ho, hc, n, hdt⟩, _⟩ := I.tuple hq
    obtain ⟨as, hrd⟩ := reads2s I ds hc0 ha rv
    obtain ⟨bs, hb, hk⟩ := shows2s I ds hc0 ha rv hs fun t ht => Nat.le_trans (tupleText_mem_le ht) hz
    have rd : Reads s.heap (.ref a) (.tuple ds) _ := .tuple ho hc hdt hrd
    have hna : a ∉ bs := not_mem_of_deeper rd (by simp only [PyData.depth]; omega) hb
    refine call_repr_slot (by omega) ⟨o, ho, hc⟩ F.slot_tuple_repr ?_
    have hdp : PyData.depthAll ds + 1 ≤ 64 := hdp
    exact call_tuple_reprK ho hc hdt hna hk gd (fun b _ => Clear.nil b) (by show X.A.units + 1 + _ < cLine; omega) (fun _ _ e => e) (fun h' u tk hk => ⟨_, _, rfl, .str _, H, I.kept (t' := tk) hk, ⟨u, rfl⟩, q⟩) hz
def repr2D : List D → Hs → Option D := fun ds h => match ds with
  | [x] => match frz h dep x with
    | some p => if (dctE p && isDis2 p && p.showable && decide (p.depth ≤ 64) && decide (p.shown.length ≤ sizeLine)) = true then some (.v (.str p.shown)) else none
    | none => none
  | _ => none
theorem call_repr2D {K : KF} : CallD K (rRepr2 K) repr2D := by
  intro w xs ds dz Q ok rx e a
  unfold repr2D at e
  split at e
  · rename_i d
    obtain ⟨v, vr, rfl, r1, r2⟩ := rx
    cases (show vr = [] from r2)
    cases ef : frz w.h dep d with
    | none => simp [ef] at e
    | some p =>
      simp only [ef] at e
      split at e
      · rename_i hc
        cases e
        simp only [Bool.and_eq_true, decide_eq_true_eq] at hc
        obtain ⟨⟨⟨⟨h1, h2⟩, h3⟩, h4⟩, h5⟩ := hc
        have rp := frz_rep ok (G := fun _ => True) (fun _ _ => trivial) (fun _ _ => trivial) dep r1 ef
        exact ⟨v, p, rfl, rp, h1, h2, h3, h4, h5, a.here ok rfl⟩
      · cases e
  · cases e
end Vl
set_option maxHeartbeats 4000000
namespace Vl
open PySem PySem.Spec PyProof.Rows L2
/-! ## exceptions made and held as values -/
def eMk (c : Str) (names : List Str) (a : AM) : EM := fun s h => match a s h with
  | some (.ok ds h1) => (match unvs ds with
    | some ps => some (.ok (.exc c (names.zip ps).reverse) h1)
    | none => none)
  | some (.ex x h1) => some (.ex x h1)
  | none => none
def eMk0 (c : Str) (f : EM) : EM := fun s h => match f s h with
  | some (.ok _ h1) => some (.ok (.exc c []) h1)
  | some (.ex x h1) => some (.ex x h1)
  | none => none
section
variable {X : Cx} {W : WX} {e : Expr} {es : List Expr} {a : AM} {f : EM} {C fI : Addr} {fd : FuncData} {ps names as : List Str} {k : Nat} {x : Str} {p pos : Pos} {anc : Anc} {ts fl : List Str}
end
/-! ## calls that are handed exceptions -/
def isVX : D → Bool
  | .v _ => true
  | .exc _ _ => true
  | _ => false
def callX (F : Fn) (ds : List D) (h : Hs) : Option ER := match F ds [] with
  | some (.rt d h') => match frz h' dep d with
    | some p => some (.ok (.v p) h)
    | none => none
  | _ => none
def eCallX (F : Fn) (a : AM) : EM := eA a fun ds _ h => if ds.all isVX = true then callX F ds h else none
section
variable {K : KF} {w w' : Wd}
end
section
variable {X : Cx} {W : WX} {e : Expr} {es : List Expr} {a : AM} {F : Fn} {f : Addr} {fd : FuncData} {ps : List Str} {k : Nat} {x : Str} {p pos : Pos}
end
@[simp] theorem z_mk' {c : Str} {names : List Str} {a : AM} {s : Sl} {h : Hs} : eMk c names a s h = match a s h with
  | some (.ok ds h1) => (match unvs ds with
    | some ps => some (.ok (.exc c (names.zip ps).reverse) h1)
    | none => none)
  | some (.ex x h1) => some (.ex x h1)
  | none => none := rfl
@[simp] theorem z_mk0 {c : Str} {f : EM} {s : Sl} {h : Hs} : eMk0 c f s h = match f s h with
  | some (.ok _ h1) => some (.ok (.exc c []) h1)
  | some (.ex x h1) => some (.ex x h1)
  | none => none := rfl
@[simp] theorem z_callX {F : Fn} {a : AM} {s : Sl} {h : Hs} : eCallX F a s h = match a s h with
  | some (.ok ds h1) => if ds.all isVX = true then callX F ds h1 else none
  | some (.ex x h1) => some (.ex x h1)
  | none => none := rfl
end Vl
set_option maxHeartbeats 0
namespace Fs
open PySem PySem.Spec PyProof.Rows L2 Vl
/-! is_whole: 0 thing -/
noncomputable def B_is_whole : SM := sSeq (sRet (eAnd (eIsi "int" (eVar 0)) (eNot (eIsi "bool" (eVar 0))))) (sNext)
noncomputable def F_is_whole : Fn := mkFn 1 B_is_whole
/-! is_within: 0 thing, 1 low, 2 high -/
noncomputable def B_is_within : SM := sSeq (sRet (eAnd (eCall F_is_whole (eCons (eVar 0) (eNil))) (eChain (lift2 leP) (lift2 ltP) (eVar 1) (eVar 0) (eVar 2)))) (sNext)
noncomputable def F_is_within : Fn := mkFn 3 B_is_within
/-! is_name: 0 thing, 1 sign -/
noncomputable def B_is_name : SM := sSeq (sIf (tOr (tNot (tTru (eIsi "str" (eVar 0)))) (tNot (tBl (eChain (lift2 leP) (lift2 leP) (eC (.int 1)) (eB (lenD) (eCons (eVar 0) (eNil))) (eC (.int (8))))))) (sSeq (sRet (eC (.bool false))) (sNext)) (sNext)) (sSeq (sRet (eB (b1 allP) (eCons (eComp (iSeq (eVar 0)) (gNm 1) (tYes') (eIn (eVar 1) (eC (.str "abcdefghijklmnopqrstuvwxyz"))) [1]) (eNil)))) (sNext))
noncomputable def F_is_name : Fn := mkFn 2 B_is_name
/-! many_stores: 0 boxes, 1 many, 2 name, 3 worths, 4 first -/
abbrev S_many_stores_1 (many : D) : Sl := [none, some many, none, none, none]
abbrev G_many_stores_1 : GM := gTp 3 (gsCons (gNm 2) (gsCons (gNm 3) (gsCons (gNm 4) (gsNil))))
noncomputable def L_many_stores_1 : SM := sSeq (sAsg (eMul (eVar 1) (eVar 3)) (gNm 1)) (sNext)
noncomputable def W_many_stores_1 (s : Sl) (h : Hs) : Option SR := sWp [0, 2, 3, 4] L_many_stores_1 s h
noncomputable def B_many_stores : SM := sSeq (sAsg (eC (.int 1)) (gNm 1)) (sSeq (sFor [0, 2, 3, 4] (iSeq (eVar 0)) (gTp 3 (gsCons (gNm 2) (gsCons (gNm 3) (gsCons (gNm 4) (gsNil))))) (W_many_stores_1)) (sSeq (sRet (eVar 1)) (sNext)))
noncomputable def F_many_stores : Fn := mkFn 5 B_many_stores
/-! is_tuple: 0 thing, 1 many -/
noncomputable def B_is_tuple : SM := sSeq (sRet (eAnd (eIsi "tuple" (eVar 0)) (eEq (eB (lenD) (eCons (eVar 0) (eNil))) (eVar 1)))) (sNext)
noncomputable def F_is_tuple : Fn := mkFn 2 B_is_tuple
/-! is_box: 0 thing -/
noncomputable def B_is_box : SM := sSeq (sIf (tOr (tNot (tTru (eCall F_is_tuple (eCons (eVar 0) (eCons (eC (.int 3)) (eNil)))))) (tOr (tNot (tTru (eCall F_is_name (eCons (eIx (eVar 0) (eC (.int 0))) (eNil))))) (tNot (tTru (eCall F_is_within (eCons (eIx (eVar 0) (eC (.int 1))) (eCons (eC (.int 2)) (eCons (eAdd (eC (.int (6))) (eC (.int 1))) (eNil))))))))) (sSeq (sRet (eC (.bool false))) (sNext)) (sNext)) (sSeq (sRet (eCall F_is_within (eCons (eIx (eVar 0) (eC (.int 2))) (eCons (eC (.int 0)) (eCons (eIx (eVar 0) (eC (.int 1))) (eNil)))))) (sNext))
noncomputable def F_is_box : Fn := mkFn 1 B_is_box
/-! look_at_boxes: 0 boxes, 1 number, 2 box, 3 one -/
abbrev S_look_at_boxes_1 (boxes : D) : Sl := [some boxes, none, none, none]
abbrev G_look_at_boxes_1 : GM := gTp 2 (gsCons (gNm 1) (gsCons (gNm 2) (gsNil)))
noncomputable def L_look_at_boxes_1 : SM := sSeq (sIf (tOr (tNot (tTru (eCall F_is_box (eCons (eVar 2) (eNil))))) (tBl (eIn (eIx (eVar 2) (eC (.int 0))) (eComp (iSeq (eSl (eVar 0) none (some (eVar 1)))) (gNm 3) (tYes') (eIx (eVar 3) (eC (.int 0))) [3])))) (sSeq (sThrow "NoProgram" ["part", "number", "row"] (eCons (eC (.str "boxes")) (eCons (eVar 1) (eCons (eC .none) (eNil))))) (sNext)) (sNext)) (sSeq (sIf (tBl (eGt (eCall F_many_stores (eCons (eSl (eVar 0) none (some (eAdd (eVar 1) (eC (.int 1))))) (eNil))) (eC (.int (8))))) (sSeq (sThrow "NoProgram" ["part", "number", "row"] (eCons (eC (.str "boxes")) (eCons (eVar 1) (eCons (eC .none) (eNil))))) (sNext)) (sNext)) (sNext))
noncomputable def W_look_at_boxes_1 (s : Sl) (h : Hs) : Option SR := sWp [1, 2, 3] L_look_at_boxes_1 s h
noncomputable def B_look_at_boxes : SM := sSeq (sIf (tNot (tBl (eChain (lift2 leP) (lift2 leP) (eC (.int 1)) (eB (lenD) (eCons (eVar 0) (eNil))) (eC (.int (3)))))) (sSeq (sThrow "NoProgram" ["part", "number", "row"] (eCons (eC (.str "boxes")) (eCons (eC .none) (eCons (eC .none) (eNil))))) (sNext)) (sNext)) (sSeq (sFor [1, 2, 3] (iP (eCons (eVar 0) eNil) kEnum) (gTp 2 (gsCons (gNm 1) (gsCons (gNm 2) (gsNil)))) (W_look_at_boxes_1)) (sNext))
noncomputable def F_look_at_boxes : Fn := mkFn 4 B_look_at_boxes
/-! look_at_procs: 0 procs, 1 number, 2 proc, 3 one -/
abbrev S_look_at_procs_1 (procs : D) : Sl := [some procs, none, none, none]
abbrev G_look_at_procs_1 : GM := gTp 2 (gsCons (gNm 1) (gsCons (gNm 2) (gsNil)))
noncomputable def L_look_at_procs_1 : SM := sSeq (sIf (tOr (tNot (tTru (eCall F_is_tuple (eCons (eVar 2) (eCons (eC (.int 2)) (eNil)))))) (tOr (tNot (tTru (eCall F_is_name (eCons (eIx (eVar 2) (eC (.int 0))) (eNil))))) (tNot (tTru (eIsi "list" (eIx (eVar 2) (eC (.int 1)))))))) (sSeq (sThrow "NoProgram" ["part", "number", "row"] (eCons (eC (.str "procs")) (eCons (eVar 1) (eCons (eC .none) (eNil))))) (sNext)) (sNext)) (sSeq (sIf (tOr (tNot (tBl (eChain (lift2 leP) (lift2 leP) (eC (.int 1)) (eB (lenD) (eCons (eIx (eVar 2) (eC (.int 1))) (eNil))) (eC (.int (8)))))) (tBl (eIn (eIx (eVar 2) (eC (.int 0))) (eComp (iSeq (eSl (eVar 0) none (some (eVar 1)))) (gNm 3) (tYes') (eIx (eVar 3) (eC (.int 0))) [3])))) (sSeq (sThrow "NoProgram" ["part", "number", "row"] (eCons (eC (.str "procs")) (eCons (eVar 1) (eCons (eC .none) (eNil))))) (sNext)) (sNext)) (sNext))
noncomputable def W_look_at_procs_1 (s : Sl) (h : Hs) : Option SR := sWp [1, 2, 3] L_look_at_procs_1 s h
noncomputable def B_look_at_procs : SM := sSeq (sIf (tNot (tBl (eChain (lift2 leP) (lift2 leP) (eC (.int 1)) (eB (lenD) (eCons (eVar 0) (eNil))) (eC (.int (6)))))) (sSeq (sThrow "NoProgram" ["part", "number", "row"] (eCons (eC (.str "procs")) (eCons (eC .none) (eCons (eC .none) (eNil))))) (sNext)) (sNext)) (sSeq (sFor [1, 2, 3] (iP (eCons (eVar 0) eNil) kEnum) (gTp 2 (gsCons (gNm 1) (gsCons (gNm 2) (gsNil)))) (W_look_at_procs_1)) (sNext))
noncomputable def F_look_at_procs : Fn := mkFn 4 B_look_at_procs
/-! worths_of: 0 boxes, 1 name, 2 box -/
abbrev S_worths_of_1 (name : D) : Sl := [none, some name, none]
abbrev G_worths_of_1 : GM := gNm 2
noncomputable def L_worths_of_1 : SM := sSeq (sIf (tAnd (tTru (eIsi "str" (eVar 1))) (tBl (eEq (eIx (eVar 2) (eC (.int 0))) (eVar 1)))) (sSeq (sRet (eIx (eVar 2) (eC (.int 1)))) (sNext)) (sNext)) (sNext)
noncomputable def W_worths_of_1 (s : Sl) (h : Hs) : Option SR := sWp [0, 2] L_worths_of_1 s h
noncomputable def B_worths_of : SM := sSeq (sFor [0, 2] (iSeq (eVar 0)) (gNm 2) (W_worths_of_1)) (sSeq (sRet (eC (.int 0))) (sNext))
noncomputable def F_worths_of : Fn := mkFn 3 B_worths_of
/-! are_tos: 0 thing, 1 end, 2 to -/
noncomputable def B_are_tos : SM := sSeq (sRet (eAnd (eIsi "tuple" (eVar 0)) (eB (b1 allP) (eCons (eComp (iSeq (eVar 0)) (gNm 2) (tYes') (eCall F_is_within (eCons (eVar 2) (eCons (eC (.int 0)) (eCons (eAdd (eVar 1) (eC (.int 1))) (eNil))))) [2]) (eNil))))) (sNext)
noncomputable def F_are_tos : Fn := mkFn 3 B_are_tos
/-! is_row_of_box: 0 row, 1 worths, 2 end, 3 many_hands, 4 to -/
noncomputable def B_is_row_of_box : SM := sSeq (sIf (tBl (eEq (eVar 1) (eC (.int 0)))) (sSeq (sRet (eC (.bool false))) (sNext)) (sNext)) (sSeq (sIf (tBl (eEq (eIx (eVar 0) (eC (.int 0))) (eC (.str "put")))) (sSeq (sRet (eAnd (eEq (eB (lenD) (eCons (eVar 0) (eNil))) (eC (.int 4))) (eAnd (eCall F_is_within (eCons (eIx (eVar 0) (eC (.int 2))) (eCons (eC (.int 0)) (eCons (eVar 1) (eNil))))) (eCall F_is_within (eCons (eIx (eVar 0) (eC (.int 3))) (eCons (eC (.int 0)) (eCons (eAdd (eVar 2) (eC (.int 1))) (eNil)))))))) (sNext)) (sNext)) (sSeq (sIf (tBl (eEq (eIx (eVar 0) (eC (.int 0))) (eC (.str "swap")))) (sSeq (sIf (tOr (tBl (eNe (eB (lenD) (eCons (eVar 0) (eNil))) (eC (.int 5)))) (tOr (tNot (tTru (eCall F_is_within (eCons (eIx (eVar 0) (eC (.int 2))) (eCons (eC (.int 0)) (eCons (eVar 1) (eNil))))))) (tNot (tTru (eCall F_is_within (eCons (eIx (eVar 0) (eC (.int 3))) (eCons (eC (.int 0)) (eCons (eVar 1) (eNil))))))))) (sSeq (sRet (eC (.bool false))) (sNext)) (sNext)) (sSeq (sRet (eCall F_is_within (eCons (eIx (eVar 0) (eC (.int 4))) (eCons (eC (.int 0)) (eCons (eAdd (eVar 2) (eC (.int 1))) (eNil)))))) (sNext))) (sNext)) (sSeq (sIf (tBl (eEq (eIx (eVar 0) (eC (.int 0))) (eC (.str "ask")))) (sSeq (sIf (tOr (tNot (tTru (eCall F_is_tuple (eCons (eIx (eVar 0) (eC (.int 2))) (eCons (eVar 1) (eNil)))))) (tBl (eNe (eB (lenD) (eCons (eVar 0) (eNil))) (eC (.int 3))))) (sSeq (sRet (eC (.bool false))) (sNext)) (sNext)) (sSeq (sRet (eCall F_are_tos (eCons (eB (b1 tupOfP) (eCons (eComp (iSeq (eIx (eVar 0) (eC (.int 2)))) (gNm 4) (tBl (eNisN (eVar 4) (eC .none))) (eVar 4) [4]) (eNil))) (eCons (eVar 2) (eNil))))) (sNext))) (sNext)) (sSeq (sRet (eAnd (eEq (eB (lenD) (eCons (eVar 0) (eNil))) (eC (.int 3))) (eAnd (eGt (eVar 1) (eVar 3)) (eCall F_is_within (eCons (eIx (eVar 0) (eC (.int 2))) (eCons (eC (.int 0)) (eCons (eAdd (eVar 2) (eC (.int 1))) (eNil)))))))) (sNext)))))
noncomputable def F_is_row_of_box : Fn := mkFn 5 B_is_row_of_box
/-! is_row: 0 row, 1 program, 2 end, 3 boxes, 4 procs, 5 hands, 6 named, 7 proc -/
noncomputable def B_is_row : SM := sSeq (sAsg (eVar 1) (gTp 3 (gsCons (gNm 3) (gsCons (gNm 4) (gsCons (gNm 5) (gsNil)))))) (sSeq (sIf (tOr (tNot (tTru (eIsi "tuple" (eVar 0)))) (tOr (tBl (eLt (eB (lenD) (eCons (eVar 0) (eNil))) (eC (.int 2)))) (tNot (tTru (eIsi "str" (eIx (eVar 0) (eC (.int 0)))))))) (sSeq (sRet (eC (.bool false))) (sNext)) (sNext)) (sSeq (sIf (tBl (eEq (eIx (eVar 0) (eC (.int 0))) (eC (.str "any")))) (sSeq (sRet (eAnd (eEq (eB (lenD) (eCons (eVar 0) (eNil))) (eC (.int 2))) (eAnd (eCall F_are_tos (eCons (eIx (eVar 0) (eC (.int 1))) (eCons (eVar 2) (eNil)))) (eChain (lift2 leP) (lift2 leP) (eC (.int 1)) (eB (lenD) (eCons (eIx (eVar 0) (eC (.int 1))) (eNil))) (eC (.int (4))))))) (sNext)) (sNext)) (sSeq (sIf (tBl (eEq (eIx (eVar 0) (eC (.int 0))) (eC (.str "call")))) (sSeq (sAsg (eComp (iSeq (eVar 4)) (gNm 7) (tAnd (tTru (eIsi "str" (eIx (eVar 0) (eC (.int 1))))) (tBl (eEq (eIx (eVar 7) (eC (.int 0))) (eIx (eVar 0) (eC (.int 1)))))) (eIx (eVar 7) (eC (.int 0))) [7]) (gNm 6)) (sSeq (sRet (eAnd (eEq (eB (lenD) (eCons (eVar 0) (eNil))) (eC (.int 3))) (eAnd (eNe (eVar 6) (eLst (eNil))) (eCall F_is_within (eCons (eIx (eVar 0) (eC (.int 2))) (eCons (eC (.int 0)) (eCons (eAdd (eVar 2) (eC (.int 1))) (eNil)))))))) (sNext))) (sNext)) (sSeq (sIf (tOr (tBl (eNin (eIx (eVar 0) (eC (.int 0))) (eTup (eCons (eC (.str "put")) (eCons (eC (.str "swap")) (eCons (eC (.str "ask")) (eCons (eC (.str "take")) (eCons (eC (.str "give")) (eNil))))))))) (tBl (eLt (eB (lenD) (eCons (eVar 0) (eNil))) (eC (.int 3))))) (sSeq (sRet (eC (.bool false))) (sNext)) (sNext)) (sSeq (sRet (eCall F_is_row_of_box (eCons (eVar 0) (eCons (eCall F_worths_of (eCons (eVar 3) (eCons (eIx (eVar 0) (eC (.int 1))) (eNil)))) (eCons (eVar 2) (eCons (eB (lenD) (eCons (eVar 5) (eNil))) (eNil))))))) (sNext))))))
noncomputable def F_is_row : Fn := mkFn 8 B_is_row
/-! look_at_rows: 0 program, 1 number, 2 proc, 3 at, 4 row -/
abbrev S_look_at_rows_1 (program : D) (number : D) (proc : D) : Sl := [some program, some number, some proc, none, none]
abbrev G_look_at_rows_1 : GM := gTp 2 (gsCons (gNm 3) (gsCons (gNm 4) (gsNil)))
noncomputable def L_look_at_rows_1 : SM := sSeq (sIf (tNot (tTru (eCall F_is_row (eCons (eVar 4) (eCons (eVar 0) (eCons (eB (lenD) (eCons (eIx (eVar 2) (eC (.int 1))) (eNil))) (eNil))))))) (sSeq (sThrow "NoProgram" ["part", "number", "row"] (eCons (eC (.str "rows")) (eCons (eVar 1) (eCons (eVar 3) (eNil))))) (sNext)) (sNext)) (sNext)
noncomputable def W_look_at_rows_1 (s : Sl) (h : Hs) : Option SR := sWp [3, 4] L_look_at_rows_1 s h
abbrev S_look_at_rows_2 (program : D) : Sl := [some program, none, none, none, none]
abbrev G_look_at_rows_2 : GM := gTp 2 (gsCons (gNm 1) (gsCons (gNm 2) (gsNil)))
noncomputable def L_look_at_rows_2 : SM := sSeq (sFor [3, 4] (iP (eCons (eIx (eVar 2) (eC (.int 1))) eNil) kEnum) (gTp 2 (gsCons (gNm 3) (gsCons (gNm 4) (gsNil)))) (W_look_at_rows_1)) (sNext)
noncomputable def W_look_at_rows_2 (s : Sl) (h : Hs) : Option SR := sWp [1, 2, 3, 4] L_look_at_rows_2 s h
noncomputable def B_look_at_rows : SM := sSeq (sFor [1, 2, 3, 4] (iP (eCons (eIx (eVar 0) (eC (.int 1))) eNil) kEnum) (gTp 2 (gsCons (gNm 1) (gsCons (gNm 2) (gsNil)))) (W_look_at_rows_2)) (sNext)
noncomputable def F_look_at_rows : Fn := mkFn 5 B_look_at_rows
/-! look_at_hands: 0 hands, 1 procs, 2 names, 3 number, 4 hand, 5 proc, 6 one -/
abbrev S_look_at_hands_1 (hands : D) (names : D) : Sl := [some hands, none, some names, none, none, none, none]
abbrev G_look_at_hands_1 : GM := gTp 2 (gsCons (gNm 3) (gsCons (gNm 4) (gsNil)))
noncomputable def L_look_at_hands_1 : SM := sSeq (sIf (tOr (tNot (tTru (eCall F_is_tuple (eCons (eVar 4) (eCons (eC (.int 2)) (eNil)))))) (tOr (tNot (tTru (eCall F_is_name (eCons (eIx (eVar 4) (eC (.int 0))) (eNil))))) (tOr (tNot (tTru (eCall F_is_name (eCons (eIx (eVar 4) (eC (.int 1))) (eNil))))) (tBl (eNin (eIx (eVar 4) (eC (.int 1))) (eVar 2)))))) (sSeq (sThrow "NoProgram" ["part", "number", "row"] (eCons (eC (.str "hands")) (eCons (eVar 3) (eCons (eC .none) (eNil))))) (sNext)) (sNext)) (sSeq (sIf (tBl (eIn (eIx (eVar 4) (eC (.int 0))) (eComp (iSeq (eSl (eVar 0) none (some (eVar 3)))) (gNm 6) (tYes') (eIx (eVar 6) (eC (.int 0))) [6]))) (sSeq (sThrow "NoProgram" ["part", "number", "row"] (eCons (eC (.str "hands")) (eCons (eVar 3) (eCons (eC .none) (eNil))))) (sNext)) (sNext)) (sNext))
noncomputable def W_look_at_hands_1 (s : Sl) (h : Hs) : Option SR := sWp [1, 3, 4, 5, 6] L_look_at_hands_1 s h
noncomputable def B_look_at_hands : SM := sSeq (sIf (tNot (tBl (eChain (lift2 leP) (lift2 leP) (eC (.int 1)) (eB (lenD) (eCons (eVar 0) (eNil))) (eC (.int (3)))))) (sSeq (sThrow "NoProgram" ["part", "number", "row"] (eCons (eC (.str "hands")) (eCons (eC .none) (eCons (eC .none) (eNil))))) (sNext)) (sNext)) (sSeq (sAsg (eComp (iSeq (eVar 1)) (gNm 5) (tYes') (eIx (eVar 5) (eC (.int 0))) [5]) (gNm 2)) (sSeq (sFor [1, 3, 4, 5, 6] (iP (eCons (eVar 0) eNil) kEnum) (gTp 2 (gsCons (gNm 3) (gsCons (gNm 4) (gsNil)))) (W_look_at_hands_1)) (sNext)))
noncomputable def F_look_at_hands : Fn := mkFn 7 B_look_at_hands
/-! look_at: 0 thing, 1 part -/
noncomputable def B_look_at : SM := sSeq (sIf (tOr (tNot (tTru (eCall F_is_tuple (eCons (eVar 0) (eCons (eC (.int 3)) (eNil)))))) (tNot (tTru (eB (b1 allP) (eCons (eComp (iSeq (eVar 0)) (gNm 1) (tYes') (eIsi "list" (eVar 1)) [1]) (eNil)))))) (sSeq (sThrow "NoProgram" ["part", "number", "row"] (eCons (eC (.str "program")) (eCons (eC .none) (eCons (eC .none) (eNil))))) (sNext)) (sNext)) (sSeq (sExpr (eCall F_look_at_boxes (eCons (eIx (eVar 0) (eC (.int 0))) (eNil)))) (sSeq (sExpr (eCall F_look_at_procs (eCons (eIx (eVar 0) (eC (.int 1))) (eNil)))) (sSeq (sExpr (eCall F_look_at_rows (eCons (eVar 0) (eNil)))) (sSeq (sExpr (eCall F_look_at_hands (eCons (eIx (eVar 0) (eC (.int 2))) (eCons (eIx (eVar 0) (eC (.int 1))) (eNil))))) (sNext)))))
noncomputable def F_look_at : Fn := mkFn 2 B_look_at
/-! _law_cell_at: 0 _law_script, 1 _law_k -/
noncomputable def B__law_cell_at : SM := sSeq (sIf (tBl (eLt (eVar 1) (eB (lenD) (eCons (eVar 0) (eNil))))) (sSeq (sRet (eIx (eVar 0) (eVar 1))) (sNext)) (sNext)) (sSeq (sRet (eC (.int 0))) (sNext))
noncomputable def F__law_cell_at : Fn := mkFn 2 B__law_cell_at
/-! _law_digits: 0 _law_cell, 1 _law_turn, 2 _law_sizes, 3 _law_number, 4 _law_wide, 5 _law_seed, 6 _law_found, 7 _law_k, 8 _law_size -/
abbrev S__law_digits_1 (l_number : D) (l_wide : D) (l_seed : D) (l_found : D) : Sl := [none, none, none, some l_number, some l_wide, some l_seed, some l_found, none, none]
abbrev G__law_digits_1 : GM := gTp 2 (gsCons (gNm 7) (gsCons (gNm 8) (gsNil)))
noncomputable def L__law_digits_1 : SM := sSeq (sIf (tAnd (tTru (eVar 4)) (tBl (eGt (eVar 3) (eC (.int 0))))) (sSeq (sExpr (eBM "list" appendD (eVar 6) (eCons (eMod (eVar 3) (eVar 8)) (eNil)))) (sSeq (sAsg (eFdiv (eVar 3) (eVar 8)) (gNm 3)) (sNext))) (sSeq (sAsg (eMod (ePow (eAdd (eVar 5) (eMul (eC (.int 104729)) (eAdd (eVar 7) (eC (.int 1))))) (eC (.int 2))) (eC (.int 2147483587))) (gNm 5)) (sSeq (sExpr (eBM "list" appendD (eVar 6) (eCons (eMod (eFdiv (eVar 5) (eC (.int 16))) (eVar 8)) (eNil)))) (sNext)))) (sNext)
noncomputable def W__law_digits_1 (s : Sl) (h : Hs) : Option SR := sWp [0, 1, 2, 7, 8] L__law_digits_1 s h
noncomputable def B__law_digits : SM := sSeq (sAsg (eB (b1 absP) (eCons (eVar 0) (eNil))) (gNm 3)) (sSeq (sAsg (eGe (eVar 3) (ePow (eC (.int 10)) (eC (.int 18)))) (gNm 4)) (sSeq (sAsg (eAdd (eMod (eVar 3) (eC (.int 2147483647))) (eMul (eC (.int 7919)) (eVar 1))) (gNm 5)) (sSeq (sAsg (eLstN (eNil)) (gNm 6)) (sSeq (sFor [0, 1, 2, 7, 8] (iP (eCons (eVar 2) eNil) kEnum) (gTp 2 (gsCons (gNm 7) (gsCons (gNm 8) (gsNil)))) (W__law_digits_1)) (sSeq (sRet (eVar 6)) (sNext))))))
noncomputable def F__law_digits : Fn := mkFn 9 B__law_digits
/-! _law_name: 0 _law_number, 1 _law_k, 2 _law_stem, 3 _law_more -/
noncomputable def B__law_name : SM := sSeq (sAsg (eIx (eC (.str "abcdefghijklmnopqrstuvwxyz")) (eMod (eAdd (eVar 0) (eMul (eC (.int 7)) (eVar 1))) (eC (.int 26)))) (gNm 2)) (sSeq (sAsg (eIx (eLst (eCons (eC (.str "")) (eCons (eC (.str "x")) (eCons (eC (.str "zz")) (eCons (eC (.str "qqqqqqq")) (eNil)))))) (eMod (eFdiv (eVar 0) (eC (.int 26))) (eC (.int 4)))) (gNm 3)) (sSeq (sRet (eIx (eLst (eCons (eAdd (eVar 3) (eVar 2)) (eCons (eAdd (eVar 2) (eVar 3)) (eNil)))) (eMod (eFdiv (eVar 0) (eC (.int 104))) (eC (.int 2))))) (sNext)))
noncomputable def F__law_name : Fn := mkFn 4 B__law_name
/-! _law_to_row: 0 _law_d, 1 _law_worths, 2 _law_end, 3 _law_hands, 4 _law_tos, 5 _law_box, 6 _law_one, 7 _law_other, 8 _law_stops, 9 _law_j -/
noncomputable def B__law_to_row : SM := sSeq (sAsg (eComp (iP (eCons (eC (.int 8)) eNil) kRng1) (gNm 9) (tYes') (eMod (eAdd (eIx (eVar 0) (eC (.int 4))) (eMul (eVar 9) (eAdd (eIx (eVar 0) (eC (.int 5))) (eC (.int 1))))) (eAdd (eVar 2) (eC (.int 1)))) [9]) (gNm 4)) (sSeq (sAsg (eMod (eIx (eVar 0) (eC (.int 1))) (eB (lenD) (eCons (eVar 1) (eNil)))) (gNm 5)) (sSeq (sAsg (eMod (eIx (eVar 0) (eC (.int 2))) (eIx (eVar 1) (eVar 5))) (gNm 6)) (sSeq (sAsg (eMod (eIx (eVar 0) (eC (.int 3))) (eIx (eVar 1) (eVar 5))) (gNm 7)) (sSeq (sIf (tBl (eEq (eIx (eVar 0) (eC (.int 0))) (eC (.int 0)))) (sSeq (sRet (eTup (eCons (eC (.str "put")) (eCons (eVar 5) (eCons (eVar 6) (eCons (eIx (eVar 4) (eC (.int 0))) (eNil))))))) (sNext)) (sNext)) (sSeq (sIf (tBl (eEq (eIx (eVar 0) (eC (.int 0))) (eC (.int 1)))) (sSeq (sRet (eTup (eCons (eC (.str "swap")) (eCons (eVar 5) (eCons (eVar 6) (eCons (eVar 7) (eCons (eIx (eVar 4) (eC (.int 0))) (eNil)))))))) (sNext)) (sNext)) (sSeq (sIf (tBl (eLt (eIx (eVar 0) (eC (.int 0))) (eC (.int 4)))) (sSeq (sAsg (eComp (iP (eCons (eC (.int 6)) eNil) kRng1) (gNm 9) (tYes') (eAnd (eEq (eIx (eVar 0) (eC (.int 0))) (eC (.int 3))) (eEq (eMod (eFdiv (eIx (eVar 0) (eC (.int 6))) (eIx (eLst (eCons (eC (.int 1)) (eCons (eC (.int 2)) (eCons (eC (.int 4)) (eCons (eC (.int 8)) (eCons (eC (.int 16)) (eCons (eC (.int 32)) (eNil)))))))) (eVar 9))) (eC (.int 2))) (eC (.int 1)))) [9]) (gNm 8)) (sSeq (sRet (eTup (eCons (eC (.str "ask")) (eCons (eVar 5) (eCons (eB (b1 tupOfP) (eCons (eComp (iP (eCons (eIx (eVar 1) (eVar 5)) eNil) kRng1) (gNm 9) (tYes') (eIx (eLst (eCons (eIx (eVar 4) (eVar 9)) (eCons (eC .none) (eNil)))) (eB (b1 intOfP) (eCons (eIx (eVar 8) (eVar 9)) (eNil)))) [9]) (eNil))) (eNil)))))) (sNext))) (sNext)) (sSeq (sIf (tBl (eEq (eIx (eVar 0) (eC (.int 0))) (eC (.int 4)))) (sSeq (sRet (eTup (eCons (eC (.str "any")) (eCons (eB (b1 tupOfP) (eCons (eSl (eVar 4) none (some (eAdd (eC (.int 1)) (eMod (eIx (eVar 0) (eC (.int 2))) (eC (.int 4)))))) (eNil))) (eNil))))) (sNext)) (sNext)) (sSeq (sIf (tBl (eEq (eIx (eVar 0) (eC (.int 0))) (eC (.int 5)))) (sSeq (sRet (eTup (eCons (eC (.str "call")) (eCons (eIx (eVar 0) (eC (.int 7))) (eCons (eIx (eVar 4) (eC (.int 0))) (eNil)))))) (sNext)) (sNext)) (sSeq (sIf (tBl (eLe (eIx (eVar 1) (eVar 5)) (eVar 3))) (sSeq (sRet (eTup (eCons (eC (.str "put")) (eCons (eVar 5) (eCons (eVar 7) (eCons (eIx (eVar 4) (eC (.int 0))) (eNil))))))) (sNext)) (sNext)) (sSeq (sRet (eTup (eCons (eIx (eLst (eCons (eC (.str "take")) (eCons (eC (.str "give")) (eNil)))) (eSub (eIx (eVar 0) (eC (.int 0))) (eC (.int 6)))) (eCons (eVar 5) (eCons (eIx (eVar 4) (eC (.int 0))) (eNil)))))) (sNext)))))))))))
noncomputable def F__law_to_row : Fn := mkFn 10 B__law_to_row
/-! _law_plan: 0 _law_script, 1 _law_most_procs, 2 _law_most_rows, 3 _law_most_hands, 4 _law_menu, 5 _law_head, 6 _law_worths, 7 _law_firsts, 8 _law_many, 9 _law_hands, 10 _law_procs, 11 _law_k, 12 _law_row, 13 _law_end, 14 _law_j -/
abbrev S__law_plan_1 (l_script : D) (l_most_rows : D) (l_worths : D) (l_firsts : D) (l_many : D) (l_hands : D) (l_procs : D) : Sl := [some l_script, none, some l_most_rows, none, none, none, some l_worths, some l_firsts, some l_many, some l_hands, some l_procs, none, none, none, none]
abbrev G__law_plan_1 : GM := gNm 11
noncomputable def L__law_plan_1 : SM := sSeq (sAsg (eCall F__law_digits (eCons (eCall F__law_cell_at (eCons (eVar 0) (eCons (eAdd (eC (.int 1)) (eVar 11)) (eNil)))) (eCons (eAdd (eC (.int 1)) (eVar 11)) (eCons (eAdd (eLst (eCons (eVar 2) (eNil))) (eMul (eLst (eCons (eC (.int 8)) (eCons (eC (.int 3)) (eCons (eC (.int 6)) (eCons (eC (.int 6)) (eCons (eC (.int 9)) (eCons (eC (.int 8)) (eCons (eC (.int 64)) (eCons (eVar 8) (eNil)))))))))) (eVar 2))) (eNil))))) (gNm 12)) (sSeq (sAsg (eAdd (eC (.int 1)) (eIx (eVar 12) (eC (.int 0)))) (gNm 13)) (sSeq (sExpr (eBM "list" appendD (eVar 10) (eCons (eComp (iP (eCons (eVar 13) eNil) kRng1) (gNm 14) (tYes') (eCall F__law_to_row (eCons (eSl (eVar 12) (some (eAdd (eC (.int 1)) (eMul (eC (.int 8)) (eVar 14)))) (some (eAdd (eC (.int 9)) (eMul (eC (.int 8)) (eVar 14))))) (eCons (eVar 6) (eCons (eVar 13) (eCons (eB (lenD) (eCons (eVar 9) (eNil))) (eNil)))))) [14]) (eNil)))) (sNext)))
noncomputable def W__law_plan_1 (s : Sl) (h : Hs) : Option SR := sWp [1, 3, 4, 5, 11, 12, 13, 14] L__law_plan_1 s h
noncomputable def B__law_plan : SM := sSeq (sAsg (eCall F__law_digits (eCons (eCall F__law_cell_at (eCons (eVar 0) (eCons (eC (.int 0)) (eNil)))) (eCons (eC (.int 0)) (eCons (eLst (eCons (eB (lenD) (eCons (eVar 4) (eNil))) (eCons (eVar 1) (eCons (eVar 3) (eCons (eC (.int 6)) (eCons (eC (.int 6)) (eCons (eC (.int 6)) (eCons (eC (.int 6)) (eCons (eC (.int 6)) (eCons (eC (.int 6)) (eNil))))))))))) (eNil))))) (gNm 5)) (sSeq (sAsg (eIx (eVar 4) (eIx (eVar 5) (eC (.int 0)))) (gNm 6)) (sSeq (sAsg (eComp (iP (eCons (eB (lenD) (eCons (eVar 6) (eNil))) eNil) kRng1) (gNm 11) (tYes') (eMod (eIx (eVar 5) (eAdd (eC (.int 3)) (eVar 11))) (eIx (eVar 6) (eVar 11))) [11]) (gNm 7)) (sSeq (sAsg (eAdd (eC (.int 1)) (eIx (eVar 5) (eC (.int 1)))) (gNm 8)) (sSeq (sAsg (eComp (iP (eCons (eAdd (eC (.int 1)) (eIx (eVar 5) (eC (.int 2)))) eNil) kRng1) (gNm 11) (tYes') (eMod (eIx (eVar 5) (eAdd (eC (.int 6)) (eVar 11))) (eVar 8)) [11]) (gNm 9)) (sSeq (sAsg (eLstN (eNil)) (gNm 10)) (sSeq (sFor [1, 3, 4, 5, 11, 12, 13, 14] (iP (eCons (eVar 8) eNil) kRng1) (gNm 11) (W__law_plan_1)) (sSeq (sRet (eTup (eCons (eVar 6) (eCons (eVar 7) (eCons (eVar 10) (eCons (eVar 9) (eNil))))))) (sNext))))))))
noncomputable def F__law_plan : Fn := mkFn 15 B__law_plan
/-! _law_program: 0 _law_plan_here, 1 _law_number, 2 _law_worths, 3 _law_firsts, 4 _law_procs, 5 _law_hands, 6 _law_boxes, 7 _law_titles, 8 _law_rows, 9 _law_k, 10 _law_proc, 11 _law_built, 12 _law_row -/
abbrev S__law_program_1 (l_number : D) (l_hands : D) (l_boxes : D) (l_titles : D) (l_rows : D) (l_k : D) (l_built : D) : Sl := [none, some l_number, none, none, none, some l_hands, some l_boxes, some l_titles, some l_rows, some l_k, none, some l_built, none]
abbrev G__law_program_1 : GM := gNm 12
noncomputable def L__law_program_1 : SM := sSeq (sIf (tBl (eEq (eIx (eVar 12) (eC (.int 0))) (eC (.str "call")))) (sSeq (sAsg (eTup (eCons (eC (.str "call")) (eCons (eIx (eVar 7) (eIx (eVar 12) (eC (.int 1)))) (eCons (eIx (eVar 12) (eC (.int 2))) (eNil))))) (gNm 12)) (sNext)) (sSeq (sIf (tBl (eNe (eIx (eVar 12) (eC (.int 0))) (eC (.str "any")))) (sSeq (sAsg (eAdd (eTup (eCons (eIx (eVar 12) (eC (.int 0))) (eCons (eIx (eIx (eVar 6) (eIx (eVar 12) (eC (.int 1)))) (eC (.int 0))) (eNil)))) (eSl (eVar 12) (some (eC (.int 2))) none)) (gNm 12)) (sNext)) (sNext)) (sNext))) (sSeq (sExpr (eBM "list" appendD (eVar 11) (eCons (eVar 12) (eNil)))) (sNext))
noncomputable def W__law_program_1 (s : Sl) (h : Hs) : Option SR := sWp [0, 2, 3, 4, 10, 12] L__law_program_1 s h
abbrev S__law_program_2 (l_number : D) (l_hands : D) (l_boxes : D) (l_titles : D) (l_rows : D) : Sl := [none, some l_number, none, none, none, some l_hands, some l_boxes, some l_titles, some l_rows, none, none, none, none]
abbrev G__law_program_2 : GM := gTp 2 (gsCons (gNm 9) (gsCons (gNm 10) (gsNil)))
noncomputable def L__law_program_2 : SM := sSeq (sAsg (eLstN (eNil)) (gNm 11)) (sSeq (sFor [0, 2, 3, 4, 10, 12] (iSeq (eVar 10)) (gNm 12) (W__law_program_1)) (sSeq (sExpr (eBM "list" appendD (eVar 8) (eCons (eTup (eCons (eIx (eVar 7) (eVar 9)) (eCons (eVar 11) (eNil)))) (eNil)))) (sNext)))
noncomputable def W__law_program_2 (s : Sl) (h : Hs) : Option SR := sWp [0, 2, 3, 4, 9, 10, 11, 12] L__law_program_2 s h
noncomputable def B__law_program : SM := sSeq (sAsg (eVar 0) (gTp 4 (gsCons (gNm 2) (gsCons (gNm 3) (gsCons (gNm 4) (gsCons (gNm 5) (gsNil))))))) (sSeq (sAsg (eComp (iP (eCons (eB (lenD) (eCons (eVar 2) (eNil))) eNil) kRng1) (gNm 9) (tYes') (eTup (eCons (eCall F__law_name (eCons (eMod (eVar 1) (eC (.int 208))) (eCons (eVar 9) (eNil)))) (eCons (eIx (eVar 2) (eVar 9)) (eCons (eIx (eVar 3) (eVar 9)) (eNil))))) [9]) (gNm 6)) (sSeq (sAsg (eComp (iP (eCons (eB (lenD) (eCons (eVar 4) (eNil))) eNil) kRng1) (gNm 9) (tYes') (eCall F__law_name (eCons (eMod (eFdiv (eVar 1) (eC (.int 208))) (eC (.int 208))) (eCons (eVar 9) (eNil)))) [9]) (gNm 7)) (sSeq (sAsg (eLstN (eNil)) (gNm 8)) (sSeq (sFor [0, 2, 3, 4, 9, 10, 11, 12] (iP (eCons (eVar 4) eNil) kEnum) (gTp 2 (gsCons (gNm 9) (gsCons (gNm 10) (gsNil)))) (W__law_program_2)) (sSeq (sRet (eTup (eCons (eVar 6) (eCons (eVar 8) (eCons (eComp (iP (eCons (eVar 5) eNil) kEnum) (gTp 2 (gsCons (gNm 9) (gsCons (gNm 10) (gsNil)))) (tYes') (eTup (eCons (eCall F__law_name (eCons (eMod (eFdiv (eVar 1) (eC (.int 43264))) (eC (.int 208))) (eCons (eVar 9) (eNil)))) (eCons (eIx (eVar 7) (eVar 10)) (eNil)))) [9, 10]) (eNil)))))) (sNext))))))
noncomputable def F__law_program : Fn := mkFn 13 B__law_program
/-! law03: 0 _law_script, 1 _law_menu, 2 _law_turn, 3 _law_least, 4 _law_plan_here, 5 _law_program_here, 6 _law_kept -/
/-! first_store: 0 boxes, 1 name, 2 worths, 3 first -/
noncomputable def B_first_store : SM := sSeq (sRet (eB (b1 tupOfP) (eCons (eComp (iSeq (eVar 0)) (gTp 3 (gsCons (gNm 1) (gsCons (gNm 2) (gsCons (gNm 3) (gsNil))))) (tYes') (eVar 3) [1, 2, 3]) (eNil)))) (sNext)
noncomputable def F_first_store : Fn := mkFn 4 B_first_store
/-! put_into: 0 store, 1 box, 2 worth -/
noncomputable def B_put_into : SM := sSeq (sRet (eAdd (eAdd (eSl (eVar 0) none (some (eVar 1))) (eTup (eCons (eVar 2) (eNil)))) (eSl (eVar 0) (some (eAdd (eVar 1) (eC (.int 1)))) none))) (sNext)
noncomputable def F_put_into : Fn := mkFn 3 B_put_into
/-! settled: 0 ends, 1 pile -/
noncomputable def L_settled_1 : SM := sSeq (sAsg (eSl (eVar 1) none (some (eNeg (eC (.int 1))))) (gNm 1)) (sNext)
noncomputable def W_settled_1 (s : Sl) (h : Hs) : Option SR := sWp [] L_settled_1 s h
noncomputable def B_settled : SM := sSeq (sWhile [] (tAnd (tBl (eNe (eVar 1) (eTup (eNil)))) (tBl (eEq (eIx (eIx (eVar 1) (eNeg (eC (.int 1)))) (eC (.int 1))) (eIx (eVar 0) (eIx (eIx (eVar 1) (eNeg (eC (.int 1)))) (eC (.int 0))))))) (W_settled_1)) (sSeq (sRet (eVar 1)) (sNext))
noncomputable def F_settled : Fn := mkFn 2 B_settled
/-! gone_on: 0 ends, 1 pile, 2 to -/
noncomputable def B_gone_on : SM := sSeq (sRet (eCall F_settled (eCons (eVar 0) (eCons (eAdd (eSl (eVar 1) none (some (eNeg (eC (.int 1))))) (eTup (eCons (eTup (eCons (eIx (eIx (eVar 1) (eNeg (eC (.int 1)))) (eC (.int 0))) (eCons (eVar 2) (eNil)))) (eNil)))) (eNil))))) (sNext)
noncomputable def F_gone_on : Fn := mkFn 3 B_gone_on
/-! with_call: 0 pile, 1 to, 2 proc -/
noncomputable def B_with_call : SM := sSeq (sRet (eAdd (eSl (eVar 0) none (some (eNeg (eC (.int 1))))) (eTup (eCons (eTup (eCons (eIx (eIx (eVar 0) (eNeg (eC (.int 1)))) (eC (.int 0))) (eCons (eVar 1) (eNil)))) (eCons (eTup (eCons (eVar 2) (eCons (eC (.int 0)) (eNil)))) (eNil)))))) (sNext)
noncomputable def F_with_call : Fn := mkFn 3 B_with_call
/-! number_by: 0 rows, 1 name, 2 row -/
noncomputable def B_number_by : SM := sSeq (sRet (eBM "list" (liftM indexP) (eComp (iSeq (eVar 0)) (gNm 2) (tYes') (eIx (eVar 2) (eC (.int 0))) [2]) (eCons (eVar 1) (eNil)))) (sNext)
noncomputable def F_number_by : Fn := mkFn 3 B_number_by
/-! ends_of: 0 program, 1 name, 2 rows -/
noncomputable def B_ends_of : SM := sSeq (sRet (eComp (iSeq (eIx (eVar 0) (eC (.int 1)))) (gTp 2 (gsCons (gNm 1) (gsCons (gNm 2) (gsNil)))) (tYes') (eB (lenD) (eCons (eVar 2) (eNil))) [1, 2])) (sNext)
noncomputable def F_ends_of : Fn := mkFn 3 B_ends_of
/-! begun: 0 program, 1 piles, 2 name, 3 proc -/
noncomputable def B_begun : SM := sSeq (sAsg (eB (b1 tupOfP) (eCons (eComp (iSeq (eIx (eVar 0) (eC (.int 2)))) (gTp 2 (gsCons (gNm 2) (gsCons (gNm 3) (gsNil)))) (tYes') (eTup (eCons (eTup (eCons (eCall F_number_by (eCons (eIx (eVar 0) (eC (.int 1))) (eCons (eVar 3) (eNil)))) (eCons (eC (.int 0)) (eNil)))) (eNil))) [2, 3]) (eNil))) (gNm 1)) (sSeq (sRet (eTup (eCons (eCall F_first_store (eCons (eIx (eVar 0) (eC (.int 0))) (eNil))) (eCons (eVar 1) (eNil))))) (sNext))
noncomputable def F_begun : Fn := mkFn 4 B_begun
/-! row_at: 0 program, 1 pile, 2 proc, 3 place -/
noncomputable def B_row_at : SM := sSeq (sAsg (eIx (eVar 1) (eNeg (eC (.int 1)))) (gTp 2 (gsCons (gNm 2) (gsCons (gNm 3) (gsNil))))) (sSeq (sRet (eIx (eIx (eIx (eIx (eVar 0) (eC (.int 1))) (eVar 2)) (eC (.int 1))) (eVar 3))) (sNext))
noncomputable def F_row_at : Fn := mkFn 4 B_row_at
/-! waits: 0 program, 1 row, 2 holds, 3 hand -/
noncomputable def B_waits : SM := sSeq (sIf (tBl (eEq (eIx (eVar 1) (eC (.int 0))) (eC (.str "swap")))) (sSeq (sRet (eNe (eVar 2) (eIx (eVar 1) (eC (.int 2))))) (sNext)) (sNext)) (sSeq (sIf (tBl (eEq (eIx (eVar 1) (eC (.int 0))) (eC (.str "ask")))) (sSeq (sRet (eIsN (eIx (eIx (eVar 1) (eC (.int 2))) (eVar 2)) (eC .none))) (sNext)) (sNext)) (sSeq (sIf (tBl (eEq (eIx (eVar 1) (eC (.int 0))) (eC (.str "take")))) (sSeq (sRet (eNe (eVar 2) (eC (.int 0)))) (sNext)) (sNext)) (sSeq (sIf (tBl (eEq (eIx (eVar 1) (eC (.int 0))) (eC (.str "give")))) (sSeq (sRet (eNe (eVar 2) (eAdd (eVar 3) (eC (.int 1))))) (sNext)) (sNext)) (sSeq (sRet (eC (.bool false))) (sNext)))))
noncomputable def F_waits : Fn := mkFn 4 B_waits
/-! choices: 0 program, 1 state, 2 hand, 3 store, 4 piles, 5 row -/
noncomputable def B_choices : SM := sSeq (sAsg (eVar 1) (gTp 2 (gsCons (gNm 3) (gsCons (gNm 4) (gsNil))))) (sSeq (sIf (tBl (eEq (eIx (eVar 4) (eVar 2)) (eTup (eNil)))) (sSeq (sRet (eLst (eNil))) (sNext)) (sNext)) (sSeq (sAsg (eCall F_row_at (eCons (eVar 0) (eCons (eIx (eVar 4) (eVar 2)) (eNil)))) (gNm 5)) (sSeq (sIf (tBl (eEq (eIx (eVar 5) (eC (.int 0))) (eC (.str "any")))) (sSeq (sRet (eLstRg (eB (lenD) (eCons (eIx (eVar 5) (eC (.int 1))) (eNil))))) (sNext)) (sNext)) (sSeq (sIf (tAnd (tBl (eNe (eIx (eVar 5) (eC (.int 0))) (eC (.str "call")))) (tTru (eCall F_waits (eCons (eVar 0) (eCons (eVar 5) (eCons (eIx (eVar 3) (eCall F_number_by (eCons (eIx (eVar 0) (eC (.int 0))) (eCons (eIx (eVar 5) (eC (.int 1))) (eNil))))) (eCons (eVar 2) (eNil)))))))) (sSeq (sRet (eLst (eNil))) (sNext)) (sNext)) (sSeq (sRet (eLst (eCons (eC (.int 0)) (eNil)))) (sNext))))))
noncomputable def F_choices : Fn := mkFn 6 B_choices
/-! done_to_box: 0 program, 1 row, 2 store, 3 hand, 4 box -/
noncomputable def B_done_to_box : SM := sSeq (sAsg (eCall F_number_by (eCons (eIx (eVar 0) (eC (.int 0))) (eCons (eIx (eVar 1) (eC (.int 1))) (eNil)))) (gNm 4)) (sSeq (sIf (tBl (eEq (eIx (eVar 1) (eC (.int 0))) (eC (.str "put")))) (sSeq (sRet (eTup (eCons (eCall F_put_into (eCons (eVar 2) (eCons (eVar 4) (eCons (eIx (eVar 1) (eC (.int 2))) (eNil))))) (eCons (eIx (eVar 1) (eC (.int 3))) (eNil))))) (sNext)) (sNext)) (sSeq (sIf (tBl (eEq (eIx (eVar 1) (eC (.int 0))) (eC (.str "swap")))) (sSeq (sRet (eTup (eCons (eCall F_put_into (eCons (eVar 2) (eCons (eVar 4) (eCons (eIx (eVar 1) (eC (.int 3))) (eNil))))) (eCons (eIx (eVar 1) (eC (.int 4))) (eNil))))) (sNext)) (sNext)) (sSeq (sIf (tBl (eEq (eIx (eVar 1) (eC (.int 0))) (eC (.str "ask")))) (sSeq (sRet (eTup (eCons (eVar 2) (eCons (eIx (eIx (eVar 1) (eC (.int 2))) (eIx (eVar 2) (eVar 4))) (eNil))))) (sNext)) (sNext)) (sSeq (sIf (tBl (eEq (eIx (eVar 1) (eC (.int 0))) (eC (.str "take")))) (sSeq (sRet (eTup (eCons (eCall F_put_into (eCons (eVar 2) (eCons (eVar 4) (eCons (eAdd (eVar 3) (eC (.int 1))) (eNil))))) (eCons (eIx (eVar 1) (eC (.int 2))) (eNil))))) (sNext)) (sNext)) (sSeq (sRet (eTup (eCons (eCall F_put_into (eCons (eVar 2) (eCons (eVar 4) (eCons (eC (.int 0)) (eNil))))) (eCons (eIx (eVar 1) (eC (.int 2))) (eNil))))) (sNext))))))
noncomputable def F_done_to_box : Fn := mkFn 5 B_done_to_box
/-! with_pile: 0 piles, 1 hand, 2 pile -/
noncomputable def B_with_pile : SM := sSeq (sRet (eAdd (eAdd (eSl (eVar 0) none (some (eVar 1))) (eTup (eCons (eVar 2) (eNil)))) (eSl (eVar 0) (some (eAdd (eVar 1) (eC (.int 1)))) none))) (sNext)
noncomputable def F_with_pile : Fn := mkFn 3 B_with_pile
/-! stepped: 0 program, 1 state, 2 hand, 3 choice, 4 store, 5 piles, 6 pile, 7 row, 8 ends, 9 to -/
noncomputable def B_stepped : SM := sSeq (sIf (tOr (tNot (tTru (eCall F_is_whole (eCons (eVar 3) (eNil))))) (tBl (eNin (eVar 3) (eCall F_choices (eCons (eVar 0) (eCons (eVar 1) (eCons (eVar 2) (eNil)))))))) (sSeq (sThrow "NoStep" ["at"] (eCons (eC .none) (eNil))) (sNext)) (sNext)) (sSeq (sAsg (eVar 1) (gTp 2 (gsCons (gNm 4) (gsCons (gNm 5) (gsNil))))) (sSeq (sAsg (eIx (eVar 5) (eVar 2)) (gNm 6)) (sSeq (sAsg (eCall F_row_at (eCons (eVar 0) (eCons (eVar 6) (eNil)))) (gNm 7)) (sSeq (sAsg (eCall F_ends_of (eCons (eVar 0) (eNil))) (gNm 8)) (sSeq (sIf (tBl (eEq (eIx (eVar 7) (eC (.int 0))) (eC (.str "call")))) (sSeq (sRet (eTup (eCons (eVar 4) (eCons (eCall F_with_pile (eCons (eVar 5) (eCons (eVar 2) (eCons (eCall F_with_call (eCons (eVar 6) (eCons (eIx (eVar 7) (eC (.int 2))) (eCons (eCall F_number_by (eCons (eIx (eVar 0) (eC (.int 1))) (eCons (eIx (eVar 7) (eC (.int 1))) (eNil)))) (eNil))))) (eNil))))) (eNil))))) (sNext)) (sNext)) (sSeq (sIf (tBl (eEq (eIx (eVar 7) (eC (.int 0))) (eC (.str "any")))) (sSeq (sAsg (eIx (eIx (eVar 7) (eC (.int 1))) (eVar 3)) (gNm 9)) (sNext)) (sSeq (sAsg (eCall F_done_to_box (eCons (eVar 0) (eCons (eVar 7) (eCons (eVar 4) (eCons (eVar 2) (eNil)))))) (gTp 2 (gsCons (gNm 4) (gsCons (gNm 9) (gsNil))))) (sNext))) (sSeq (sRet (eTup (eCons (eVar 4) (eCons (eCall F_with_pile (eCons (eVar 5) (eCons (eVar 2) (eCons (eCall F_gone_on (eCons (eVar 8) (eCons (eVar 6) (eCons (eVar 9) (eNil))))) (eNil))))) (eNil))))) (sNext))))))))
noncomputable def F_stepped : Fn := mkFn 10 B_stepped
/-! _law_begun: 0 _law_plan_here, 1 _law_proc -/
noncomputable def B__law_begun : SM := sSeq (sRet (eTup (eCons (eB (b1 tupOfP) (eCons (eIx (eVar 0) (eC (.int 1))) (eNil))) (eCons (eB (b1 tupOfP) (eCons (eComp (iSeq (eIx (eVar 0) (eC (.int 3)))) (gNm 1) (tYes') (eTup (eCons (eTup (eCons (eVar 1) (eCons (eC (.int 0)) (eNil)))) (eNil))) [1]) (eNil))) (eNil))))) (sNext)
noncomputable def F__law_begun : Fn := mkFn 2 B__law_begun
/-! _law_row: 0 _law_plan_here, 1 _law_pile -/
noncomputable def B__law_row : SM := sSeq (sRet (eIx (eIx (eIx (eVar 0) (eC (.int 2))) (eIx (eIx (eVar 1) (eNeg (eC (.int 1)))) (eC (.int 0)))) (eIx (eIx (eVar 1) (eNeg (eC (.int 1)))) (eC (.int 1))))) (sNext)
noncomputable def F__law_row : Fn := mkFn 2 B__law_row
/-! _law_choices: 0 _law_plan_here, 1 _law_state, 2 _law_hand, 3 _law_store, 4 _law_piles, 5 _law_row_here -/
noncomputable def B__law_choices : SM := sSeq (sAsg (eVar 1) (gTp 2 (gsCons (gNm 3) (gsCons (gNm 4) (gsNil))))) (sSeq (sIf (tBl (eEq (eIx (eVar 4) (eVar 2)) (eTup (eNil)))) (sSeq (sRet (eLst (eNil))) (sNext)) (sNext)) (sSeq (sAsg (eCall F__law_row (eCons (eVar 0) (eCons (eIx (eVar 4) (eVar 2)) (eNil)))) (gNm 5)) (sSeq (sIf (tBl (eEq (eIx (eVar 5) (eC (.int 0))) (eC (.str "any")))) (sSeq (sRet (eLstRg (eB (lenD) (eCons (eIx (eVar 5) (eC (.int 1))) (eNil))))) (sNext)) (sNext)) (sSeq (sIf (tOr (tAnd (tBl (eEq (eIx (eVar 5) (eC (.int 0))) (eC (.str "swap")))) (tBl (eNe (eIx (eVar 3) (eIx (eVar 5) (eC (.int 1)))) (eIx (eVar 5) (eC (.int 2)))))) (tAnd (tBl (eEq (eIx (eVar 5) (eC (.int 0))) (eC (.str "ask")))) (tBl (eIsN (eIx (eIx (eVar 5) (eC (.int 2))) (eIx (eVar 3) (eIx (eVar 5) (eC (.int 1))))) (eC .none))))) (sSeq (sRet (eLst (eNil))) (sNext)) (sNext)) (sSeq (sIf (tOr (tAnd (tBl (eEq (eIx (eVar 5) (eC (.int 0))) (eC (.str "take")))) (tBl (eNe (eIx (eVar 3) (eIx (eVar 5) (eC (.int 1)))) (eC (.int 0))))) (tAnd (tBl (eEq (eIx (eVar 5) (eC (.int 0))) (eC (.str "give")))) (tBl (eNe (eIx (eVar 3) (eIx (eVar 5) (eC (.int 1)))) (eAdd (eVar 2) (eC (.int 1))))))) (sSeq (sRet (eLst (eNil))) (sNext)) (sNext)) (sSeq (sRet (eLst (eCons (eC (.int 0)) (eNil)))) (sNext)))))))
noncomputable def F__law_choices : Fn := mkFn 6 B__law_choices
/-! _law_step: 0 _law_plan_here, 1 _law_state, 2 _law_hand, 3 _law_choice, 4 _law_store, 5 _law_piles, 6 _law_row_here, 7 _law_pile, 8 _law_to, 9 _law_holds -/
noncomputable def L__law_step_1 : SM := sSeq (sExpr (eBM "list" popD (eVar 7) eNil)) (sNext)
noncomputable def W__law_step_1 (s : Sl) (h : Hs) : Option SR := sWp [1, 3, 6, 8, 9] L__law_step_1 s h
noncomputable def B__law_step : SM := sSeq (sAsg (eVar 1) (gTp 2 (gsCons (gNm 4) (gsCons (gNm 5) (gsNil))))) (sSeq (sAsg (eCall F__law_row (eCons (eVar 0) (eCons (eIx (eVar 5) (eVar 2)) (eNil)))) (gNm 6)) (sSeq (sAsg (eLstOf (eCons (eIx (eVar 5) (eVar 2)) (eNil))) (gNm 7)) (sSeq (sAsg (eIx (eVar 6) (eNeg (eC (.int 1)))) (gNm 8)) (sSeq (sAsg (eGet2 (eDct [(eC (.str "put"), eSl (eVar 6) (some (eC (.int 2))) (some (eC (.int 3)))), (eC (.str "swap"), eSl (eVar 6) (some (eC (.int 3))) (some (eC (.int 4)))), (eC (.str "take"), eTup (eCons (eAdd (eVar 2) (eC (.int 1))) (eNil))), (eC (.str "give"), eTup (eCons (eC (.int 0)) (eNil)))]) (eIx (eVar 6) (eC (.int 0))) (eTup (eNil))) (gNm 9)) (sSeq (sIf (tBl (eEq (eIx (eVar 6) (eC (.int 0))) (eC (.str "any")))) (sSeq (sAsg (eIx (eIx (eVar 6) (eC (.int 1))) (eVar 3)) (gNm 8)) (sNext)) (sNext)) (sSeq (sIf (tBl (eEq (eIx (eVar 6) (eC (.int 0))) (eC (.str "ask")))) (sSeq (sAsg (eIx (eIx (eVar 6) (eC (.int 2))) (eIx (eVar 4) (eIx (eVar 6) (eC (.int 1))))) (gNm 8)) (sNext)) (sNext)) (sSeq (sIf (tBl (eNe (eVar 9) (eTup (eNil)))) (sSeq (sAsg (eAdd (eAdd (eSl (eVar 4) none (some (eIx (eVar 6) (eC (.int 1))))) (eVar 9)) (eSl (eVar 4) (some (eAdd (eIx (eVar 6) (eC (.int 1))) (eC (.int 1)))) none)) (gNm 4)) (sNext)) (sNext)) (sSeq (sSetI (eTup (eCons (eIx (eIx (eVar 7) (eNeg (eC (.int 1)))) (eC (.int 0))) (eCons (eVar 8) (eNil)))) (eVar 7) (eNeg (eC (.int 1)))) (sSeq (sIf (tBl (eEq (eIx (eVar 6) (eC (.int 0))) (eC (.str "call")))) (sSeq (sExpr (eBM "list" appendD (eVar 7) (eCons (eTup (eCons (eIx (eVar 6) (eC (.int 1))) (eCons (eC (.int 0)) (eNil)))) (eNil)))) (sNext)) (sNext)) (sSeq (sWhile [1, 3, 6, 8, 9] (tAnd (tBl (eNe (eVar 7) (eLst (eNil)))) (tBl (eEq (eIx (eIx (eVar 7) (eNeg (eC (.int 1)))) (eC (.int 1))) (eB (lenD) (eCons (eIx (eIx (eVar 0) (eC (.int 2))) (eIx (eIx (eVar 7) (eNeg (eC (.int 1)))) (eC (.int 0)))) (eNil)))))) (W__law_step_1)) (sSeq (sRet (eTup (eCons (eVar 4) (eCons (eAdd (eAdd (eSl (eVar 5) none (some (eVar 2))) (eTup (eCons (eB (b1 tupOfP) (eCons (eVar 7) (eNil))) (eNil)))) (eSl (eVar 5) (some (eAdd (eVar 2) (eC (.int 1)))) none)) (eNil))))) (sNext))))))))))))
noncomputable def F__law_step : Fn := mkFn 10 B__law_step
/-! _law_steps: 0 _law_plan_here, 1 _law_state, 2 _law_found, 3 _law_hand, 4 _law_choice -/
/-! _law_right: 0 _law_plan_here, 1 _law_program_here, 2 _law_state, 3 _law_kept, 4 _law_hand, 5 _law_choice, 6 _law_found -/
/-! law13: 0 _law_script, 1 _law_plan_here, 2 _law_program_here, 3 _law_state, 4 _law_ahead, 5 _law_turn, 6 _law_cell, 7 _law_some, 8 _law_hand, 9 _law_choice -/
/-! _law_told: 0 _law_program_here, 1 _law_state, 2 _law_hand, 3 _law_choice, 4 _law_found, 5 _law_error, 6 e -/
/-! turned_over: 0 program, 1 state, 2 hand, 3 turn, 4 at, 5 number, 6 choice -/
/-! states_by_rounds: 0 program, 1 weaving, 2 found, 3 at, 4 turns, 5 state, 6 hand, 7 turn -/
/-! woven: 0 program, 1 weaving -/
/-! _law_calls: 0 _law_plan_here, 1 _law_number, 2 _law_worths, 3 _law_firsts, 4 _law_procs, 5 _law_hands, 6 _law_found, 7 _law_rows, 8 _law_some, 9 _law_row_here, 10 _law_to, 11 _law_one -/
/-! _law_refused: 0 _law_program_here, 1 _law_state, 2 _law_refused_here, 3 e -/
/-! _law_very_deep: 0 _law_rows, 1 _law_program_here, 2 _law_weaving, 3 _law_state -/
/-! law15: 0 _law_script, 1 _law_plan_here, 2 _law_program_here, 3 _law_state, 4 _law_turn, 5 _law_cell, 6 _law_pick, 7 _law_some, 8 _law_due -/
/-! is_mark: 0 program, 1 thing, 2 hand, 3 proc, 4 place, 5 part -/
/-! look_at_mark: 0 program, 1 mark -/
/-! is_at: 0 state, 1 mark, 2 hand, 3 proc, 4 place -/
/-! comes_to: 0 program, 1 weaving, 2 mark -/
/-! _law_weave: 0 _law_plan_here, 1 _law_cells, 2 _law_most, 3 _law_state, 4 _law_weaving, 5 _law_many, 6 _law_at, 7 _law_turns, 8 _law_hand, 9 _law_d, 10 _law_turn, 11 _law_pick, 12 _law_some -/
/-! _law_is_mark: 0 _law_plan_here, 1 _law_thing_here, 2 _law_one -/
/-! _law_refused_v1: 0 _law_program_here, 1 _law_weaving, 2 _law_thing_here, 3 _law_error, 4 e -/
/-! _law_thing: 0 _law_plan_here, 1 _law_state, 2 _law_d, 3 _law_hand, 4 _law_proc, 5 _law_place, 6 _law_there, 7 _law_some, 8 _law_pile -/
/-! _law_cut_right: 0 _law_plan_here, 1 _law_program_here, 2 _law_weaving, 3 _law_d, 4 _law_at, 5 _law_hand, 6 _law_turns, 7 _law_some, 8 _law_frame, 9 _law_turn, 10 _law_one -/
/-! law18: 0 _law_script, 1 _law_plan_here, 2 _law_program_here, 3 _law_weaving, 4 _law_wrong, 5 _law_k, 6 _law_d, 7 _law_some, 8 _law_state, 9 _law_thing_here, 10 _law_told, 11 _law_due, 12 _law_found, 13 _law_hand, 14 _law_one -/
/-! _law_due: 0 _law_plan_here, 1 _law_weaving, 2 _law_state, 3 _law_number, 4 _law_turns, 5 _law_hand, 6 _law_turn, 7 _law_at, 8 _law_choice -/
/-! _law_told_v1: 0 _law_which, 1 _law_program_here, 2 _law_weaving, 3 _law_found, 4 _law_error, 5 e -/
/-! _law_bent: 0 _law_weaving, 1 _law_d, 2 _law_found, 3 _law_turns, 4 _law_turn, 5 _law_odd, 6 _law_at -/
/-! law17: 0 _law_script, 1 _law_plan_here, 2 _law_program_here, 3 _law_weaving, 4 _law_k, 5 _law_bent_here, 6 _law_state, 7 _law_at, 8 _law_kept -/
/-! in_rounds: 0 program, 1 steps, 2 state, 3 weaving, 4 ahead, 5 number, 6 hand, 7 choice, 8 one -/
/-! _law_drawn: 0 _law_plan_here, 1 _law_cells, 2 _law_state, 3 _law_steps, 4 _law_turn, 5 _law_cell, 6 _law_some, 7 _law_hand, 8 _law_choice -/
/-! _law_laid: 0 _law_plan_here, 1 _law_steps, 2 _law_found, 3 _law_k, 4 _law_hand -/
/-! _law_first_bad: 0 _law_plan_here, 1 _law_steps, 2 _law_state, 3 _law_number, 4 _law_hand, 5 _law_choice -/
/-! _law_apart: 0 _law_weaving, 1 _law_lists, 2 _law_row_here, 3 _law_lengths, 4 _law_k, 5 _law_one -/
/-! _law_told_v2: 0 _law_program_here, 1 _law_steps, 2 _law_error, 3 _law_found, 4 e -/
/-! law24: 0 _law_script, 1 _law_plan_here, 2 _law_program_here, 3 _law_steps, 4 _law_state, 5 _law_kept, 6 _law_found, 7 _law_k, 8 _law_d, 9 _law_at, 10 _law_odd, 11 _law_bent, 12 _law_due, 13 _law_told_here -/
/-! law14: 0 _law_script, 1 _law_plan_here, 2 _law_program_here, 3 _law_state, 4 _law_kept, 5 _law_turn, 6 _law_cell, 7 _law_d, 8 _law_hand, 9 _law_some, 10 _law_odd, 11 _law_choice, 12 _law_due, 13 _law_was -/
/-! choices__T: 0 program, 1 state, 2 hand, 3 store, 4 piles, 5 row -/
/-! _law_plan__T: 0 _law_script, 1 _law_most_procs, 2 _law_most_rows, 3 _law_most_hands, 4 _law_menu, 5 _law_head, 6 _law_worths, 7 _law_firsts, 8 _law_many, 9 _law_hands, 10 _law_procs, 11 _law_k, 12 _law_row_here, 13 _law_end, 14 _law_j -/
/-! _law_program__T: 0 _law_plan_here, 1 _law_number, 2 _law_worths, 3 _law_firsts, 4 _law_procs, 5 _law_hands, 6 _law_boxes, 7 _law_titles, 8 _law_rows, 9 _law_k, 10 _law_proc, 11 _law_built, 12 _law_row_here -/
/-! _law_choices__T: 0 _law_plan_here, 1 _law_state, 2 _law_hand, 3 _law_store, 4 _law_piles, 5 _law_row_here -/
/-! _law_right_v1: 0 _law_plan_here, 1 _law_program_here, 2 _law_state, 3 _law_hand, 4 _law_due, 5 _law_found, 6 _law_one -/
/-! law12: 0 _law_script, 1 _law_plan_here, 2 _law_program_here, 3 _law_kept, 4 _law_state, 5 _law_turn, 6 _law_cell, 7 _law_other, 8 _law_beside, 9 _law_d, 10 _law_hands, 11 _law_some, 12 _law_rows, 13 _law_hand -/
/-! _law_behind: 0 _law_plan_here, 1 _law_weaving, 2 _law_state, 3 _law_turns, 4 _law_hand, 5 _law_turn, 6 _law_choice -/
/-! law16: 0 _law_script, 1 _law_plan_here, 2 _law_program_here, 3 _law_weaving, 4 _law_state, 5 _law_kept, 6 _law_found, 7 _law_many, 8 _law_empty, 9 _law_other, 10 _law_beside, 11 _law_turn, 12 _law_some, 13 _law_one, 14 _law_told, 15 _law_due, 16 _law_hand -/
/-! are_too_many: 0 boxes, 1 rounds, 2 many, 3 number -/
/-! look_over: 0 program, 1 rounds, 2 mark -/
/-! twice: 0 to -/
/-! row_for: 0 program, 1 row, 2 hand, 3 box, 4 to -/
/-! proc_for: 0 program, 1 hand, 2 proc, 3 mark, 4 found, 5 place, 6 row, 7 word -/
/-! first_proc: 0 program, 1 found, 2 hand, 3 name, 4 proc -/
/-! made: 0 program, 1 rounds, 2 mark, 3 procs, 4 hand, 5 proc -/
/-! _law_fits: 0 _law_worths, 1 _law_rounds, 2 _law_many, 3 _law_turn, 4 _law_one -/
/-! _law_told_v3: 0 _law_program_here, 1 _law_rounds, 2 _law_found, 3 _law_error, 4 e -/
/-! law31: 0 _law_script, 1 _law_worths, 2 _law_plan_here, 3 _law_program_here, 4 _law_rounds -/
/-! _law_mark: 0 _law_plan_here, 1 _law_d, 2 _law_hand, 3 _law_proc -/
/-! _law_power: 0 _law_many, 1 _law_times, 2 _law_found, 3 _law_turn -/
/-! _law_most_rounds: 0 _law_plan_here, 1 _law_many, 2 _law_worths, 3 _law_found -/
/-! _law_bad: 0 _law_program_here, 1 _law_d, 2 _law_boxes, 3 _law_procs, 4 _law_hands, 5 _law_some -/
noncomputable def B__law_bad : SM := sSeq (sAsg (eVar 0) (gTp 3 (gsCons (gNm 2) (gsCons (gNm 3) (gsCons (gNm 4) (gsNil)))))) (sSeq (sAsg (eLst (eCons (eTup (eCons (eLst (eNil)) (eCons (eVar 3) (eCons (eVar 4) (eNil))))) (eCons (eTup (eCons (eVar 2) (eCons (eAdd (eVar 3) (eLst (eCons (eIx (eVar 3) (eC (.int 0))) (eNil)))) (eCons (eVar 4) (eNil))))) (eCons (eTup (eCons (eVar 2) (eCons (eVar 3) (eCons (eLst (eCons (eTup (eCons (eC (.str "a")) (eCons (eC (.str "nowhere")) (eNil)))) (eNil))) (eNil))))) (eCons (eC .none) (eNil)))))) (gNm 5)) (sSeq (sAsg (eAdd (eVar 5) (eLst (eCons (eTup (eCons (eVar 2) (eCons (eAdd (eSl (eVar 3) none (some (eNeg (eC (.int 1))))) (eLst (eCons (eTup (eCons (eIx (eIx (eVar 3) (eNeg (eC (.int 1)))) (eC (.int 0))) (eCons (eLst (eCons (eTup (eCons (eC (.str "any")) (eCons (eTup (eCons (eC (.int 9)) (eNil))) (eNil)))) (eNil))) (eNil)))) (eNil)))) (eCons (eVar 4) (eNil))))) (eCons (eB (b1 lstP) (eCons (eVar 0) (eNil))) (eCons (eSl (eVar 0) none (some (eC (.int 2)))) (eNil)))))) (gNm 5)) (sSeq (sRet (eIx (eVar 5) (eVar 1))) (sNext))))
noncomputable def F__law_bad : Fn := mkFn 6 B__law_bad
/-! _law_fields: 0 _law_thing, 1 _law_fields_here, 2 e -/
noncomputable def B__law_fields : SM := sSeq (sAsg (eC .none) (gNm 1)) (sSeq (sTry ANC "NoProgram" 2 (sSeq (sExpr (eCall F_look_at (eCons (eVar 0) (eNil)))) (sNext)) (sSeq (sAsg (eTup (eCons (eFldX ANC "part" (eVar 2)) (eCons (eFldX ANC "number" (eVar 2)) (eCons (eFldX ANC "row" (eVar 2)) (eNil))))) (gNm 1)) (sNext))) (sSeq (sRet (eVar 1)) (sNext)))
noncomputable def F__law_fields : Fn := mkFn 3 B__law_fields
/-! _law_told_v4: 0 _law_program_here, 1 _law_rounds, 2 _law_mark_here, 3 _law_found, 4 _law_error, 5 _law_kinds, 6 e, 7 _law_k -/
/-! _law_due_v1: 0 _law_thing, 1 _law_rounds, 2 _law_mark_here, 3 _law_good, 4 _law_most, 5 _law_fields_here -/
/-! law30: 0 _law_script, 1 _law_menu, 2 _law_plan_here, 3 _law_program_here, 4 _law_most, 5 _law_k, 6 _law_d, 7 _law_thing, 8 _law_good, 9 _law_mark_here, 10 _law_rounds, 11 _law_kept, 12 _law_some -/
/-! made__T: 0 program, 1 rounds, 2 mark, 3 procs, 4 hand, 5 proc -/
/-! _law_twice: 0 _law_to -/
/-! _law_built_row: 0 _law_plan_here, 1 _law_row, 2 _law_hand, 3 _law_worths, 4 _law_to -/
/-! _law_built: 0 _law_plan_here, 1 _law_boxes, 2 _law_rounds, 3 _law_mark_here, 4 _law_hands, 5 _law_rows, 6 _law_hand, 7 _law_proc, 8 _law_procs, 9 _law_old, 10 _law_some, 11 _law_place, 12 _law_row, 13 _law_word -/
/-! _law_built__T: 0 _law_plan_here, 1 _law_boxes, 2 _law_rounds, 3 _law_mark_here, 4 _law_hands, 5 _law_rows, 6 _law_hand, 7 _law_proc, 8 _law_procs, 9 _law_old, 10 _law_some, 11 _law_place, 12 _law_row, 13 _law_word -/
/-! law29: 0 _law_script, 1 _law_menu, 2 _law_plan_here, 3 _law_program_here, 4 _law_kept, 5 _law_k, 6 _law_held, 7 _law_name_here, 8 _law_rows, 9 _law_d, 10 _law_mark_here, 11 _law_rounds, 12 _law_due, 13 _law_found, 14 _law_at -/
/-! _law_whole: 0 _law_thing, 1 _law_low, 2 _law_high -/
noncomputable def B__law_whole : SM := sSeq (sRet (eAnd (eIsi "int" (eVar 0)) (eAnd (eNot (eIsi "bool" (eVar 0))) (eChain (lift2 leP) (lift2 ltP) (eVar 1) (eVar 0) (eVar 2))))) (sNext)
noncomputable def F__law_whole : Fn := mkFn 3 B__law_whole
/-! _law_is_name: 0 _law_thing, 1 _law_sign -/
noncomputable def B__law_is_name : SM := sSeq (sIf (tOr (tNot (tTru (eIsi "str" (eVar 0)))) (tBl (eInRg true (eB (lenD) (eCons (eVar 0) (eNil))) (eCons (eC (.int 1)) (eCons (eC (.int 9)) (eNil)))))) (sSeq (sRet (eC (.bool false))) (sNext)) (sNext)) (sSeq (sRet (eEq (eComp (iSeq (eVar 0)) (gNm 1) (tBl (eNin (eVar 1) (eC (.str "abcdefghijklmnopqrstuvwxyz")))) (eVar 1) [1]) (eLst (eNil)))) (sNext))
noncomputable def F__law_is_name : Fn := mkFn 2 B__law_is_name
/-! _law_boxes_due: 0 _law_boxes, 1 _law_many, 2 _law_taken, 3 _law_number, 4 _law_box, 5 _law_good -/
/-! _law_procs_due: 0 _law_procs, 1 _law_taken, 2 _law_number, 3 _law_proc, 4 _law_good -/
/-! _law_is_row: 0 _law_row, 1 _law_program_here, 2 _law_end, 3 _law_boxes, 4 _law_sizes, 5 _law_worths, 6 _law_good, 7 _law_titles, 8 _law_one, 9 _law_proc, 10 _law_to -/
/-! _law_hands_due: 0 _law_hands, 1 _law_procs, 2 _law_taken, 3 _law_number, 4 _law_hand, 5 _law_good, 6 _law_proc -/
/-! _law_due_v2: 0 _law_thing, 1 _law_found, 2 _law_number, 3 _law_proc, 4 _law_at, 5 _law_row, 6 _law_part -/
/-! _law_told_v5: 0 _law_thing, 1 _law_error, 2 _law_answer, 3 _law_fields, 4 _law_good, 5 e -/
/-! _law_right_v2: 0 _law_thing, 1 _law_kept, 2 _law_due_here -/
/-! _law_odd_things: 0 _law_row, 1 _law_end, 2 _law_some -/
/-! _law_odd_row: 0 _law_row, 1 _law_end, 2 _law_d, 3 _law_odd, 4 _law_at, 5 _law_tos, 6 _law_some -/
/-! _law_bent_v1: 0 _law_program_here, 1 _law_d, 2 _law_boxes, 3 _law_procs, 4 _law_hands, 5 _law_number, 6 _law_name_here, 7 _law_rows, 8 _law_at, 9 _law_bent_here -/
/-! law05: 0 _law_script, 1 _law_menu, 2 _law_plan_here, 3 _law_program_here, 4 _law_k, 5 _law_d, 6 _law_bent_here, 7 _law_other -/
/-! _law_put: 0 _law_program_here, 1 _law_d, 2 _law_boxes, 3 _law_procs, 4 _law_hands, 5 _law_odd, 6 _law_at, 7 _law_rows, 8 _law_some -/
/-! law06: 0 _law_script, 1 _law_menu, 2 _law_plan_here, 3 _law_program_here, 4 _law_row, 5 _law_one, 6 _law_k, 7 _law_d, 8 _law_bent -/
/-! law30_v1: 0 _law_script, 1 _law_menu, 2 _law_plan_here, 3 _law_program_here, 4 _law_most, 5 _law_k, 6 _law_d, 7 _law_thing, 8 _law_good, 9 _law_mark_here, 10 _law_rounds, 11 _law_kept, 12 _law_some -/
/-! _law_kinds: 0 _law_e, 1 _law_kinds_here -/
/-! _law_alone: 0 _law_e, 1 _law_number, 2 _law_k -/
/-! law11: 0 _law_script, 1 _law_numbers, 2 _law_text, 3 _law_program, 4 _law_some, 5 _law_cell, 6 _law_k -/
/-! _law_built__T_v1: 0 _law_plan_here, 1 _law_boxes, 2 _law_rounds, 3 _law_mark_here, 4 _law_hands, 5 _law_rows, 6 _law_hand, 7 _law_proc, 8 _law_procs, 9 _law_old, 10 _law_some, 11 _law_place, 12 _law_row, 13 _law_word -/
/-! law29_v1: 0 _law_script, 1 _law_menu, 2 _law_plan_here, 3 _law_program_here, 4 _law_kept, 5 _law_k, 6 _law_held, 7 _law_name_here, 8 _law_rows, 9 _law_d, 10 _law_mark_here, 11 _law_rounds, 12 _law_due, 13 _law_found, 14 _law_at -/
end Fs
set_option maxHeartbeats 4000000
namespace Vl
open PySem PySem.Spec PyProof.Rows L2
/-! ## calls that work on the caller's own cells -/
def callI (F : Fn) (ds : List D) (h : Hs) : Option ER := match F ds h with
  | some (.rt d h') => some (.ok d h')
  | some (.ex x h') => some (.ex x h')
  | none => none
def eCallI (F : Fn) (a : AM) : EM := eA a fun ds _ h => callI F ds h
section
variable {K : KF} {w : Wd}
theorem callI_of {mg : Str → Option Value} {W : WX} {σ : L2.St} {F : Fn} {ds : List D} {vs : List V} {Q : VK} (ok : w.Ok K)
    (r : RepDs K w ds vs) (h : WpE K mg W σ (callI F ds w.h) w fun _ v w' => Q v w'.H) : spF K mg ds.length F vs w.H Q fun cls d H => W cls d σ H := by
  refine ⟨w, ds, rfl, ok, r, rfl, ?_⟩
  unfold callI at h
  unfold WpF
  cases e : F ds w.h with
  | none => simp only [e] at h; exact h
  | some q =>
    cases q with
    | ex x h' =>
      simp only [e] at h
      exact h
    | rt d h' =>
      simp only [e] at h
      exact h
end
section
variable {X : Cx} {W : WX} {e : Expr} {es : List Expr} {a : AM} {F : Fn} {f : Addr} {fd : FuncData} {ps : List Str} {k : Nat} {x : Str} {p pos : Pos}
end
/-! ## slices of cells, of data -/
def slX (lo hi : Option Int) (x : D) (h : Hs) : Option D := match lstOf x h with
  | some xs => (unvs (cutP xs lo hi)).map fun ps => .v (.list ps)
  | none => none
def eSlX (f : EM) (lo hi : Option EM) : EM := f.bind fun x => ePart lo fun l => ePart hi fun u => EM.lift (slX l u x)
section
variable {X : Cx} {W : WX} {e : Expr} {lo hi : Option Expr} {f : EM} {ol oh : Option EM} {pos p2 : Pos}
end
@[simp] theorem z_slX (f : EM) (lo hi : Option EM) (s : Sl) (h : Hs) : eSlX f lo hi s h = match f s h with
  | some (.ok x h1) => ePart lo (fun l => ePart hi fun u => EM.lift (slX l u x)) s h1
  | some (.ex x h1) => some (.ex x h1)
  | none => none := rfl
@[simp] theorem y_slX (lo hi : Option Int) (n : Nat) (h : Hs) : slX lo hi (.ref n) h = match h[n]? with
  | some (.lst xs) => (unvs (cutP xs lo hi)).map fun ps => .v (.list ps)
  | _ => none := by
  unfold slX
  show (match lstOf (.ref n) h with
    | some xs => (unvs (cutP xs lo hi)).map fun ps => D.v (.list ps)
    | none => none) = _
  rw [z_lo1]
  cases h[n]? with
  | none => rfl
  | some c => cases c <;> rfl
@[simp] theorem z_callI {F : Fn} {a : AM} {s : Sl} {h : Hs} : eCallI F a s h = match a s h with
  | some (.ok ds h1) => callI F ds h1
  | some (.ex x h1) => some (.ex x h1)
  | none => none := rfl
@[simp] theorem z_callT' {F : Fn} {a : AM} {s : Sl} {h : Hs} : eCallT F a s h = match a s h with
  | some (.ok ds h1) => (match unvs ds with
    | some ps => callT F ps false h1
    | none => (match frzs h1 (dep + 1) ds with
      | some ps => callT F ps true h1
      | none => none))
  | some (.ex x h1) => some (.ex x h1)
  | none => none := rfl
@[simp] theorem z_callF' {F : Fn} {a : AM} {s : Sl} {h : Hs} : eCallF F a s h = match a s h with
  | some (.ok ds h1) => (match frzs h1 (dep + 1) ds with
    | some ps => callF F ps h1
    | none => none)
  | some (.ex x h1) => some (.ex x h1)
  | none => none := rfl
end Vl
set_option maxHeartbeats 0
namespace Fs
open PySem PySem.Spec PyProof.Rows L2 Vl
/-! _law_laid_v1: 0 _law_plan_here, 1 _law_steps, 2 _law_found, 3 _law_k, 4 _law_hand -/
/-! _law_apart_v1: 0 _law_weaving, 1 _law_lists, 2 _law_row_here, 3 _law_lengths, 4 _law_k, 5 _law_one -/
/-! law24_v1: 0 _law_script, 1 _law_plan_here, 2 _law_program_here, 3 _law_steps, 4 _law_state, 5 _law_kept, 6 _law_found, 7 _law_k, 8 _law_d, 9 _law_at, 10 _law_odd, 11 _law_bent, 12 _law_due, 13 _law_told_here -/
end Fs
set_option maxHeartbeats 4000000
namespace Vl
open PySem PySem.Spec PyProof.Rows L2
/-! ## constants of the module that are tuples of texts -/
/-! ## sum of ints -/
def intsP : List PyData → Option (List Int)
  | [] => some []
  | .int i :: r => (intsP r).map (i :: ·)
  | _ => none
def sumP : PyData → Option PyData
  | .list ds => (intsP ds).map fun ns => .int ns.sum
  | _ => none
@[simp] theorem y_sum (xs : List PyData) : sumP (.list xs) = (intsP xs).map fun ns => .int ns.sum := rfl
/-! ## a tuple so many times, once too -/
noncomputable def mulT : PyData → PyData → Option PyData
  | .tuple xs, .int k => if k = 1 then some (.tuple xs) else mulP (.tuple xs) (.int k)
  | p, q => mulP p q
noncomputable def eMulT (f g : EM) : EM := eBin (lift2 mulT) f g
@[simp] theorem z_MulT (f g : EM) (s : Sl) (h : Hs) : eMulT f g s h = eBin (lift2 mulT) f g s h := rfl
@[simp] theorem y_mulT (xs : List PyData) (k : Int) : mulT (.tuple xs) (.int k) = if k = 1 then some (.tuple xs) else mulP (.tuple xs) (.int k) := rfl
end Vl
set_option maxHeartbeats 4000000
namespace Vl
open PySem PySem.Spec PyProof.Rows L2
/-! ## enumerate of a list, a tuple, a text -/
def kEnumS : KI := fun ds h => match ds with
  | [d] => match srcD d h with
    | some q => if q.1.length ≤ sizeLine then some (enumI 0 q.1, q.2) else none
    | none => none
  | _ => none
@[simp] theorem y_enumS0 (xs : List PyData) (h : Hs) : kEnumS [.v (.list xs)] h = if xs.length ≤ sizeLine then some (enumI 0 (xs.map .v), none) else none := by
  simp [kEnumS, srcD]
@[simp] theorem y_enumS1 (xs : List PyData) (h : Hs) : kEnumS [.v (.tuple xs)] h = if xs.length ≤ sizeLine then some (enumI 0 (xs.map .v), none) else none := by
  simp [kEnumS, srcD]
end Vl
set_option maxHeartbeats 0
namespace Fs
open PySem PySem.Spec PyProof.Rows L2 Vl
/-! store_by: 0 boxes, 1 number, 2 found, 3 name, 4 worths, 5 first -/
/-! first_leaf: 0 scroll, 1 boxes, 2 rounds, 3 procs, 4 stores -/
/-! end_of: 0 scroll, 1 proc -/
/-! is_counted: 0 scroll, 1 proc, 2 place -/
/-! with_store: 0 leaf, 1 store, 2 page, 3 found, 4 pages, 5 margins -/
/-! box_moves: 0 row, 1 leaf, 2 rounds, 3 store, 4 holds -/
/-! on_moves: 0 row, 1 leaf, 2 rounds, 3 here, 4 end, 5 page, 6 found, 7 pages, 8 margins, 9 told -/
/-! opened: 0 scroll, 1 leaf, 2 choice, 3 boxes, 4 rounds, 5 procs, 6 page, 7 found, 8 pages, 9 margins, 10 stores, 11 number -/
/-! open_moves: 0 scroll, 1 row, 2 leaf, 3 many, 4 number, 5 choice -/
/-! moves: 0 scroll, 1 proc, 2 place, 3 leaf, 4 row, 5 page, 6 found, 7 pages, 8 margins, 9 choice, 10 to -/
/-! _law_scroll_row: 0 _law_d, 1 _law_worths, 2 _law_end, 3 _law_many, 4 _law_tos, 5 _law_box, 6 _law_one, 7 _law_other, 8 _law_stops, 9 _law_j -/
/-! _law_scroll: 0 _law_script, 1 _law_most_procs, 2 _law_most_rows, 3 _law_menu, 4 _law_head, 5 _law_worths, 6 _law_rounds, 7 _law_letters, 8 _law_boxes, 9 _law_procs, 10 _law_k, 11 _law_row, 12 _law_end, 13 _law_j -/
/-! _law_stores: 0 _law_boxes, 1 _law_found, 2 _law_name, 3 _law_worths, 4 _law_first, 5 _law_longer, 6 _law_worth, 7 _law_store -/
/-! _law_rows_of_stores: 0 _law_boxes, 1 _law_many, 2 _law_found, 3 _law_page, 4 _law_longer, 5 _law_store, 6 _law_some -/
/-! _law_box_moves: 0 _law_row, 1 _law_leaf_here, 2 _law_page, 3 _law_found, 4 _law_pages, 5 _law_margins, 6 _law_store, 7 _law_holds, 8 _law_to -/
/-! _law_moves: 0 _law_scroll_here, 1 _law_proc, 2 _law_place, 3 _law_leaf_here, 4 _law_boxes, 5 _law_rounds, 6 _law_procs, 7 _law_row, 8 _law_end, 9 _law_page, 10 _law_found, 11 _law_pages, 12 _law_margins, 13 _law_good, 14 _law_some, 15 _law_rows, 16 _law_choice, 17 _law_to, 18 _law_one, 19 _law_k -/
/-! _law_leaf: 0 _law_scroll_here, 1 _law_d, 2 _law_boxes, 3 _law_rounds, 4 _law_procs, 5 _law_stores_here, 6 _law_pages, 7 _law_margins, 8 _law_one -/
/-! _law_right_v3: 0 _law_scroll_here, 1 _law_leaf_here, 2 _law_proc, 3 _law_rows, 4 _law_place, 5 _law_row, 6 _law_told, 7 _law_counted, 8 _law_found -/
/-! law23: 0 _law_script, 1 _law_menu, 2 _law_scroll_here, 3 _law_kept, 4 _law_firsts, 5 _law_great, 6 _law_turn, 7 _law_cell, 8 _law_leaf_here, 9 _law_was, 10 _law_rows, 11 _law_name, 12 _law_worths, 13 _law_first, 14 _law_row -/
end Fs
set_option maxHeartbeats 0
namespace Fs
open PySem PySem.Spec PyProof.Rows L2 Vl
/-! ends_in: 0 scroll, 1 proc -/
/-! chosen: 0 scroll, 1 leaf, 2 pile, 3 choice, 4 proc, 5 place, 6 row, 7 one, 8 to, 9 later -/
/-! steps_of: 0 scroll, 1 run, 2 leaf, 3 pile, 4 told, 5 number, 6 choice, 7 behind -/
/-! ran: 0 scroll, 1 run, 2 told, 3 leaf, 4 pile, 5 proc, 6 place, 7 ahead -/
/-! _law_ways: 0 _law_scroll_here, 1 _law_leaf, 2 _law_pile, 3 _law_proc, 4 _law_place, 5 _law_row, 6 _law_found, 7 _law_choice, 8 _law_to, 9 _law_later, 10 _law_left -/
/-! _law_counts: 0 _law_scroll_here, 1 _law_pile, 2 _law_proc, 3 _law_place -/
/-! _law_run: 0 _law_scroll_here, 1 _law_picks, 2 _law_firsts, 3 _law_leaf, 4 _law_pile, 5 _law_run_here, 6 _law_many, 7 _law_pick, 8 _law_some, 9 _law_choice, 10 _law_name, 11 _law_worths, 12 _law_first -/
/-! law25: 0 _law_script, 1 _law_menu, 2 _law_scroll_here, 3 _law_picks, 4 _law_turn, 5 _law_cell, 6 _law_kept, 7 _law_run_here, 8 _law_due, 9 _law_handed, 10 _law_found, 11 _law_many, 12 _law_some, 13 _law_told -/
/-! _law_due_v3: 0 _law_scroll_here, 1 _law_run_here, 2 _law_firsts, 3 _law_leaf, 4 _law_pile, 5 _law_many, 6 _law_at, 7 _law_choice, 8 _law_some, 9 _law_one, 10 _law_name, 11 _law_worths, 12 _law_first -/
/-! _law_told_v6: 0 _law_scroll_here, 1 _law_run_here, 2 _law_found, 3 _law_error, 4 e -/
/-! _law_bent_v2: 0 _law_run_here, 1 _law_d, 2 _law_odd, 3 _law_at -/
/-! law26: 0 _law_script, 1 _law_menu, 2 _law_scroll_here, 3 _law_picks, 4 _law_turn, 5 _law_cell, 6 _law_run_here, 7 _law_k, 8 _law_bent_here, 9 _law_handed -/
end Fs
set_option maxHeartbeats 0
namespace Fs
open PySem PySem.Spec PyProof.Rows L2 Vl
/-! are_stores: 0 thing, 1 boxes, 2 many, 3 store, 4 holds, 5 box -/
/-! is_leaf: 0 scroll, 1 thing, 2 boxes, 3 rounds, 4 procs -/
/-! named_in: 0 deed, 1 book, 2 number, 3 key -/
/-! chosen_v1: 0 scroll, 1 proc, 2 place, 3 leaf, 4 deed, 5 choice, 6 to, 7 later -/
/-! walk_of: 0 scroll, 1 book, 2 number, 3 walks, 4 proc, 5 leaf, 6 deeds, 7 place, 8 counted, 9 many, 10 deed, 11 row, 12 behind, 13 named -/
/-! walks_of: 0 scroll, 1 book, 2 found, 3 number, 4 walk -/
/-! is_way: 0 scroll, 1 thing -/
/-! is_book: 0 scroll, 1 thing, 2 way -/
/-! book_tells: 0 scroll, 1 book -/
/-! unrolled: 0 scroll, 1 book, 2 run, 3 piled, 4 number, 5 at, 6 deeds -/
/-! _law_scroll_v1: 0 _law_calls, 1 _law_more, 2 _law_inner, 3 _law_last, 4 _law_first, 5 _law_second, 6 _law_third, 7 _law_k -/
/-! _law_book: 0 _law_calls, 1 _law_more, 2 _law_inner, 3 _law_last, 4 _law_leaf, 5 _law_book_here -/
/-! _law_kept: 0 _law_scroll_here, 1 _law_book_here, 2 _law_kept_here, 3 _law_some, 4 e -/
/-! _law_right_v4: 0 _law_calls, 1 _law_more, 2 _law_inner, 3 _law_last, 4 _law_scroll_here, 5 _law_book_here, 6 _law_many, 7 _law_small, 8 _law_found, 9 _law_one -/
/-! _law_short_right: 0 _law_scroll_here, 1 _law_rows, 2 _law_book_here, 3 _law_first, 4 _law_k -/
/-! law43: 0 _law_script, 1 _law_calls, 2 _law_more, 3 _law_inner, 4 _law_last, 5 _law_k, 6 _law_cell, 7 _law_d -/
end Fs
set_option maxHeartbeats 0
namespace Fs
open PySem PySem.Spec PyProof.Rows L2 Vl
/-! to_word: 0 to -/
/-! row_text: 0 row, 1 words, 2 part, 3 to -/
/-! written: 0 program, 1 boxes, 2 procs, 3 hands, 4 rows, 5 name, 6 some, 7 worths, 8 first, 9 proc, 10 row -/
/-! _law_menu:  -/
/-! _law_to: 0 _law_to_here -/
/-! _law_words: 0 _law_row, 1 _law_words_here, 2 _law_part, 3 _law_to_here -/
/-! _law_text: 0 _law_program_here, 1 _law_boxes, 2 _law_procs, 3 _law_hands, 4 _law_rows, 5 _law_name_here, 6 _law_some, 7 _law_worths, 8 _law_first, 9 _law_row, 10 _law_proc -/
/-! _law_program_at: 0 _law_script, 1 _law_at, 2 _law_plan_here -/
/-! _law_program_at__T: 0 _law_script, 1 _law_at, 2 _law_plan_here -/
/-! _law_right_v5: 0 _law_program_here, 1 _law_kept, 2 _law_found -/
/-! law07: 0 _law_script, 1 _law_ahead, 2 _law_at, 3 _law_program_here, 4 _law_kept, 5 _law_one -/
end Fs
set_option maxHeartbeats 4000000
namespace L2
open PySem PySem.Spec PyProof.Rows
section
variable {X : Cx}
end
end L2
namespace Vl
open PySem PySem.Spec PyProof.Rows L2
end Vl
set_option maxHeartbeats 0
namespace Fs
open PySem PySem.Spec PyProof.Rows L2 Vl
/-! store_number: 0 boxes, 1 store, 2 found, 3 times, 4 box, 5 holds -/
/-! guess_of: 0 program, 1 rounds, 2 states, 3 many, 4 choice, 5 number, 6 state -/
/-! work_of: 0 weaving, 1 hand, 2 found, 3 page, 4 number, 5 turns, 6 choice -/
/-! leave_of: 0 program, 1 pile, 2 finds, 3 ends, 4 proc, 5 place -/
/-! led_forth: 0 program, 1 rounds, 2 mark, 3 weaving, 4 states, 5 run, 6 hand, 7 pile -/
/-! _law_kind: 0 _law_error, 1 _law_kinds -/
/-! _law_told_v7: 0 _law_program_here, 1 _law_rounds, 2 _law_mark_here, 3 _law_weaving, 4 _law_found, 5 _law_error, 6 e -/
/-! _law_due_v4: 0 _law_state, 1 _law_weaving, 2 _law_rounds, 3 _law_mark_here, 4 _law_at, 5 _law_pile -/
/-! _law_asked: 0 _law_plan_here, 1 _law_program_here, 2 _law_state, 3 _law_weaving, 4 _law_d, 5 _law_most, 6 _law_mark_here, 7 _law_rounds, 8 _law_woven_by, 9 _law_at, 10 _law_due_here, 11 _law_kept, 12 _law_turn, 13 _law_end, 14 _law_name_here, 15 _law_rows, 16 _law_odd, 17 _law_some, 18 _law_turns -/
/-! law50: 0 _law_script, 1 _law_plan_here, 2 _law_program_here, 3 _law_weaving, 4 _law_state, 5 _law_k, 6 _law_d -/
end Fs
set_option maxHeartbeats 4000000
namespace Vl
open PySem PySem.Spec PyProof.Rows L2
/-! ## x.upper() -/
noncomputable def upperP : PyData → List PyData → Option PyData
  | .str a, [] => if yes (a.length ≤ 5592405) = true then some (.str (PySem.Txt.upper a)) else none
  | _, _ => none
/-! ## [f0, f1, f2][i](e, ..) -/
/-- what a call of f promises -/
def Calls (X : Cx) (E : L2.St → XK) (f : Addr) (sp : Sp) : Prop := PySem.W.keepIn X.K (.ref f) = true ∧ ∀ (pins : List (Addr × Obj)) (σ : L2.St) (H : Hp) (s : Shared) (vs : List V) (us : List Value) (Q : VK),
  Inv X pins σ H s → Vals vs us → sp vs H Q (E σ) → wpAny (model X.prog X.w) X.A (call (.ref f) us) (EP X pins σ Q) X.xe s
section
variable {X : Cx} {W : WX} {e fe ie : Expr} {es : List Expr} {a : AM} {i : EM} {F F0 F1 F2 : Fn} {f f0 f1 f2 : Addr} {fd : FuncData} {ps : List Str} {k n : Nat} {x0 x1 x2 : Str} {p0 p1 p2 lpos spos pos : Pos}
def eCallL (F0 F1 F2 : Fn) (i : EM) (a : AM) : EM := i.bind fun d s h => match d with
  | .v (.int 0) => eCall F0 a s h
  | .v (.int 1) => eCall F1 a s h
  | .v (.int 2) => eCall F2 a s h
  | _ => none
end
@[simp] theorem z_callL0 (F0 F1 F2 : Fn) (i : EM) (a : AM) (s : Sl) (h : Hs) : eCallL F0 F1 F2 i a s h = match i s h with
  | some (.ok (.v (.int j)) h1) => if j = 0 then eCall F0 a s h1 else if j = 1 then eCall F1 a s h1 else if j = 2 then eCall F2 a s h1 else none
  | some (.ex x h1) => some (.ex x h1)
  | _ => none := by
  unfold eCallL EM.bind
  cases i s h with
  | none => rfl
  | some r =>
    cases r with
    | ex x h1 => rfl
    | ok d h1 =>
      simp only
      cases d with
      | v p =>
        cases p with
        | int j =>
          by_cases j0 : j = 0
          · subst j0; rfl
          by_cases j1 : j = 1
          · subst j1; rfl
          by_cases j2 : j = 2
          · subst j2; rfl
          simp only [if_neg j0, if_neg j1, if_neg j2]
          split
          · rename_i e; cases e; exact absurd rfl j0
          · rename_i e; cases e; exact absurd rfl j1
          · rename_i e; cases e; exact absurd rfl j2
          · rfl
        | _ => rfl
      | _ => rfl
/-! ## x != [], x any list -/
def neL : D → D → Hs → Option D := fun x y _ => match x, y with
  | .v (.list xs), .v (.list []) => some (.v (.bool (!xs.isEmpty)))
  | _, _ => none
def eNeL (f g : EM) : EM := eBin neL f g
@[simp] theorem z_neL (f g : EM) (s : Sl) (h : Hs) : eNeL f g s h = eBin neL f g s h := rfl
@[simp] theorem y_neL (xs : List PyData) (h : Hs) : neL (.v (.list xs)) (.v (.list [])) h = some (.v (.bool (!xs.isEmpty))) := rfl
@[simp] theorem y_upper (a : Str) : upperP (.str a) [] = if yes (a.length ≤ 5592405) = true then some (.str (PySem.Txt.upper a)) else none := rfl
end Vl
set_option maxHeartbeats 0
namespace Fs
open PySem PySem.Spec PyProof.Rows L2 Vl
/-! _law_due_v5: 0 _law_thing, 1 _law_found, 2 _law_number, 3 _law_proc, 4 _law_at, 5 _law_row, 6 _law_part -/
/-! _law_right_v6: 0 _law_thing, 1 _law_kept, 2 _law_due_here -/
/-! _law_odd_box: 0 _law_box, 1 _law_d, 2 _law_name_here, 3 _law_worths, 4 _law_first, 5 _law_some -/
noncomputable def B__law_odd_box : SM := sSeq (sAsg (eVar 0) (gTp 3 (gsCons (gNm 2) (gsCons (gNm 3) (gsCons (gNm 4) (gsNil)))))) (sSeq (sAsg (eLst (eCons (eTup (eCons (eC (.str "")) (eCons (eVar 3) (eCons (eVar 4) (eNil))))) (eCons (eTup (eCons (eAdd (eVar 2) (eC (.str "toolongs"))) (eCons (eVar 3) (eCons (eVar 4) (eNil))))) (eCons (eTup (eCons (eAdd (eC (.str "A")) (eSl (eVar 2) (some (eC (.int 1))) none)) (eCons (eVar 3) (eCons (eVar 4) (eNil))))) (eCons (eTup (eCons (eVar 2) (eCons (eC (.int 1)) (eCons (eC (.int 0)) (eNil))))) (eNil)))))) (gNm 5)) (sSeq (sAsg (eAdd (eVar 5) (eLst (eCons (eTup (eCons (eVar 2) (eCons (eC (.int 7)) (eCons (eVar 4) (eNil))))) (eCons (eTup (eCons (eVar 2) (eCons (eVar 3) (eCons (eVar 3) (eNil))))) (eCons (eTup (eCons (eVar 2) (eCons (eVar 3) (eCons (eNeg (eC (.int 1))) (eNil))))) (eCons (eTup (eCons (eVar 2) (eCons (eC (.bool true)) (eCons (eC (.int 0)) (eNil))))) (eCons (eTup (eCons (eVar 2) (eCons (eVar 3) (eCons (eC .none) (eNil))))) (eNil)))))))) (gNm 5)) (sSeq (sAsg (eAdd (eVar 5) (eLst (eCons (eLst (eCons (eVar 2) (eCons (eVar 3) (eCons (eVar 4) (eNil))))) (eCons (eTup (eCons (eVar 2) (eCons (eVar 3) (eNil)))) (eCons (eTup (eCons (eVar 2) (eCons (eVar 3) (eCons (eVar 4) (eCons (eC (.int 0)) (eNil)))))) (eCons (eC .none) (eCons (eVar 2) (eCons (eTup (eCons (eC .none) (eCons (eVar 3) (eCons (eVar 4) (eNil))))) (eNil))))))))) (gNm 5)) (sSeq (sAsg (eAdd (eVar 5) (eLst (eCons (eTup (eCons (eVar 2) (eCons (eC (.int 6)) (eCons (eC (.int 5)) (eNil))))) (eCons (eTup (eCons (eVar 2) (eCons (eC (.int 2)) (eCons (eC (.bool true)) (eNil))))) (eCons (eTup (eCons (eVar 2) (eCons (eVar 3) (eCons (eC (.int 0)) (eNil))))) (eCons (eTup (eCons (eVar 2) (eCons (eC (.str "2")) (eCons (eVar 4) (eNil))))) (eCons (eTup (eCons (eVar 2) (eCons (eLst (eCons (eC (.int 2)) (eNil))) (eCons (eVar 4) (eNil))))) (eNil)))))))) (gNm 5)) (sSeq (sRet (eIx (eAdd (eVar 5) (eLst (eCons (eTup (eCons (eLst (eCons (eVar 2) (eNil))) (eCons (eVar 3) (eCons (eVar 4) (eNil))))) (eCons (eTup (eCons (eC (.dict [])) (eCons (eVar 3) (eCons (eVar 4) (eNil))))) (eNil))))) (eVar 1))) (sNext))))))
noncomputable def F__law_odd_box : Fn := mkFn 6 B__law_odd_box
/-! _law_odd_proc: 0 _law_proc, 1 _law_d, 2 _law_name_here, 3 _law_rows, 4 _law_some -/
noncomputable def B__law_odd_proc : SM := sSeq (sAsg (eVar 0) (gTp 2 (gsCons (gNm 2) (gsCons (gNm 3) (gsNil))))) (sSeq (sAsg (eLst (eCons (eTup (eCons (eC (.str "")) (eCons (eVar 3) (eNil)))) (eCons (eTup (eCons (eAdd (eVar 2) (eC (.str "toolongs"))) (eCons (eVar 3) (eNil)))) (eCons (eTup (eCons (eAdd (eSl (eVar 2) none (some (eNeg (eC (.int 1))))) (eC (.str "1"))) (eCons (eVar 3) (eNil)))) (eCons (eTup (eCons (eVar 2) (eCons (eLst (eNil)) (eNil)))) (eCons (eTup (eCons (eVar 2) (eCons (eSl (eMul (eVar 3) (eC (.int 9))) none (some (eC (.int 9)))) (eNil)))) (eNil))))))) (gNm 4)) (sSeq (sAsg (eAdd (eVar 4) (eLst (eCons (eTup (eCons (eVar 2) (eCons (eB (b1 tupOfP) (eCons (eVar 3) (eNil))) (eNil)))) (eCons (eLst (eCons (eVar 2) (eCons (eVar 3) (eNil)))) (eCons (eTup (eCons (eVar 2) (eNil))) (eCons (eTup (eCons (eVar 2) (eCons (eVar 3) (eCons (eVar 3) (eNil))))) (eCons (eC .none) (eCons (eVar 3) (eCons (eTup (eCons (eC (.int 7)) (eCons (eVar 3) (eNil)))) (eCons (eTup (eCons (eVar 2) (eCons (eC .none) (eNil)))) (eNil))))))))))) (gNm 4)) (sSeq (sAsg (eAdd (eVar 4) (eLst (eCons (eTup (eCons (eVar 2) (eCons (eSl (eMul (eVar 3) (eC (.int 8))) none (some (eC (.int 8)))) (eNil)))) (eCons (eTup (eCons (eVar 2) (eCons (eSl (eVar 3) none (some (eC (.int 1)))) (eNil)))) (eCons (eTup (eCons (eC (.bool true)) (eCons (eVar 3) (eNil)))) (eCons (eTup (eCons (eAdd (eVar 2) (eC (.str " "))) (eCons (eVar 3) (eNil)))) (eCons (eTup (eCons (eVar 2) (eCons (eVar 2) (eNil)))) (eNil)))))))) (gNm 4)) (sSeq (sRet (eIx (eAdd (eVar 4) (eLst (eCons (eTup (eCons (eLst (eCons (eVar 2) (eNil))) (eCons (eVar 3) (eNil)))) (eCons (eTup (eCons (eC (.dict [])) (eCons (eVar 3) (eNil)))) (eCons (eTup (eCons (eVar 2) (eCons (eC (.dict [])) (eNil)))) (eCons (eTup (eCons (eTup (eCons (eVar 2) (eNil))) (eCons (eVar 3) (eNil)))) (eNil))))))) (eVar 1))) (sNext)))))
noncomputable def F__law_odd_proc : Fn := mkFn 5 B__law_odd_proc
/-! _law_odd_hand: 0 _law_hand, 1 _law_d, 2 _law_name_here, 3 _law_proc, 4 _law_some -/
noncomputable def B__law_odd_hand : SM := sSeq (sAsg (eVar 0) (gTp 2 (gsCons (gNm 2) (gsCons (gNm 3) (gsNil))))) (sSeq (sAsg (eLst (eCons (eTup (eCons (eC (.str "")) (eCons (eVar 3) (eNil)))) (eCons (eTup (eCons (eAdd (eVar 2) (eC (.str "toolongs"))) (eCons (eVar 3) (eNil)))) (eCons (eTup (eCons (eBM "str" (liftM upperP) (eVar 2) eNil) (eCons (eVar 3) (eNil)))) (eCons (eTup (eCons (eVar 2) (eCons (eAdd (eVar 3) (eC (.str "x"))) (eNil)))) (eCons (eTup (eCons (eVar 2) (eCons (eC .none) (eNil)))) (eCons (eTup (eCons (eVar 2) (eCons (eC (.int 0)) (eNil)))) (eNil)))))))) (gNm 4)) (sSeq (sAsg (eAdd (eVar 4) (eLst (eCons (eLst (eCons (eVar 2) (eCons (eVar 3) (eNil)))) (eCons (eTup (eCons (eVar 2) (eNil))) (eCons (eTup (eCons (eVar 2) (eCons (eVar 3) (eCons (eVar 3) (eNil))))) (eCons (eC .none) (eCons (eVar 3) (eCons (eTup (eCons (eC (.int 0)) (eCons (eVar 3) (eNil)))) (eCons (eTup (eCons (eVar 2) (eCons (eLst (eCons (eVar 3) (eNil))) (eNil)))) (eCons (eTup (eCons (eVar 2) (eCons (eC (.str "")) (eNil)))) (eNil))))))))))) (gNm 4)) (sSeq (sAsg (eAdd (eVar 4) (eLst (eCons (eTup (eCons (eVar 2) (eCons (eSl (eVar 3) none (some (eNeg (eC (.int 1))))) (eNil)))) (eCons (eTup (eCons (eAdd (eVar 2) (eC (.str "\n"))) (eCons (eVar 3) (eNil)))) (eCons (eTup (eCons (eC (.bool true)) (eCons (eVar 3) (eNil)))) (eCons (eTup (eCons (eC (.str "z")) (eCons (eVar 3) (eNil)))) (eNil))))))) (gNm 4)) (sSeq (sRet (eIx (eAdd (eVar 4) (eLst (eCons (eTup (eCons (eLst (eCons (eVar 2) (eNil))) (eCons (eVar 3) (eNil)))) (eCons (eTup (eCons (eC (.dict [])) (eCons (eVar 3) (eNil)))) (eCons (eTup (eCons (eVar 2) (eCons (eC (.dict [])) (eNil)))) (eCons (eTup (eCons (eVar 2) (eCons (eTup (eCons (eVar 3) (eNil))) (eNil)))) (eNil))))))) (eVar 1))) (sNext)))))
noncomputable def F__law_odd_hand : Fn := mkFn 5 B__law_odd_hand
/-! _law_bent_v3: 0 _law_program_here, 1 _law_d, 2 _law_part, 3 _law_some, 4 _law_at, 5 _law_odd -/
/-! law04: 0 _law_script, 1 _law_menu, 2 _law_plan_here, 3 _law_program_here, 4 _law_k, 5 _law_some, 6 _law_thing, 7 _law_d, 8 _law_boxes -/
end Fs
set_option maxHeartbeats 4000000
namespace Vl
open PySem PySem.Spec PyProof.Rows L2
/-! ## instances of own classes -/
structure OwnC (K : KF) (C : Addr) (c : Str) : Prop where
  cls : Cls K C
  nm : clsN K C = some c
  uniq : ∀ C', clsN K C' = some c → C' = C
def ownB (K : KF) (C : Addr) (c : Str) : Bool := decide (clsN K C = some c) && K.all fun p => match p.2.data with
  | .cls cd => !(decide (cd.name = c)) || decide (p.1 = C)
  | _ => true
theorem ownB_ok {K : KF} {C : Addr} {c : Str} (h : ownB K C c = true) (k : Cls K C) : OwnC K C c := by
  unfold ownB at h
  rw [Bool.and_eq_true, decide_eq_true_eq] at h
  refine ⟨k, h.1, fun C' hc => ?_⟩
  unfold clsN at hc
  split at hc
  · rename_i o ho
    split at hc
    · rename_i cd hd
      have q := List.all_eq_true.mp h.2 _ (lookup_in ho)
      simp only [hd] at q
      simp only [Option.some.injEq] at hc
      simp only [hc, decide_true, Bool.not_true, Bool.false_or, decide_eq_true_eq] at q
      exact q
    · cases hc
  · cases hc
/-- a field is put -/
def putD (f : Str) (d : D) : List (Str × D) → List (Str × D)
  | [] => [(f, d)]
  | (g, x) :: r => if g = f then (g, d) :: r else (g, x) :: putD f d r
theorem lookup_rep {K : KF} {w : Wd} {f : Str} {d : D} : ∀ {fs : List (Str × D)} {fv : List (Str × V)}, fv.map (·.1) = fs.map (·.1) → RepDs K w (fs.map (·.2)) (fv.map (·.2)) → fs.lookup f = some d → ∃ v, fv.lookup f = some v ∧ RepD K w d v
  | [], _, _, _, h => by cases h
  | (g, x) :: r, [], e, _, _ => by simp at e
  | (g, x) :: r, (g', u) :: s, e, h, l => by
    simp only [List.map_cons, List.cons.injEq] at e
    obtain ⟨rfl, e⟩ := e
    obtain ⟨v, vr, ev, h1, h2⟩ := h
    simp only [List.map_cons, List.cons.injEq] at ev
    obtain ⟨rfl, rfl⟩ := ev
    rw [List.lookup_cons] at l ⊢
    by_cases q : f = g'
    · subst q
      simp only [beq_self_eq_true] at l ⊢
      cases l
      exact ⟨u, rfl, h1⟩
    · have : (f == g') = false := by simpa using q
      rw [this] at l ⊢
      exact lookup_rep e h2 l
theorem lookup_no {f : Str} : ∀ {fs : List (Str × D)} {fv : List (Str × V)}, fv.map (·.1) = fs.map (·.1) → fs.lookup f = none → fv.lookup f = none
  | [], [], _, _ => rfl
  | [], _ :: _, e, _ => by simp at e
  | (g, x) :: r, [], e, _ => by simp at e
  | (g, x) :: r, (g', u) :: s, e, l => by
    simp only [List.map_cons, List.cons.injEq] at e
    obtain ⟨rfl, e⟩ := e
    rw [List.lookup_cons] at l ⊢
    by_cases q : f = g'
    · subst q
      simp only [beq_self_eq_true] at l
      cases l
    · have : (f == g') = false := by simpa using q
      rw [this] at l ⊢
      exact lookup_no e l
theorem put_rep {K : KF} {w : Wd} {f : Str} {d : D} {v : V} (rd : RepD K w d v) : ∀ {fs : List (Str × D)} {fv : List (Str × V)}, fv.map (·.1) = fs.map (·.1) → RepDs K w (fs.map (·.2)) (fv.map (·.2)) →
    (putF f v fv).map (·.1) = (putD f d fs).map (·.1) ∧ RepDs K w ((putD f d fs).map (·.2)) ((putF f v fv).map (·.2))
  | [], [], _, _ => ⟨rfl, v, [], rfl, rd, rfl⟩
  | [], _ :: _, e, _ => by simp at e
  | (g, x) :: r, [], e, _ => by simp at e
  | (g, x) :: r, (g', u) :: s, e, h => by
    simp only [List.map_cons, List.cons.injEq] at e
    obtain ⟨rfl, e⟩ := e
    obtain ⟨v', vr, ev, h1, h2⟩ := h
    simp only [List.map_cons, List.cons.injEq] at ev
    obtain ⟨rfl, rfl⟩ := ev
    by_cases q : g' = f
    · rw [putF, putD, if_pos q, if_pos q]
      exact ⟨by simp only [List.map_cons, e], v, _, rfl, rd, h2⟩
    · obtain ⟨i1, i2⟩ := put_rep (f := f) rd e h2
      rw [putF, putD, if_neg q, if_neg q]
      exact ⟨by simp only [List.map_cons, i1], u, _, rfl, h1, i2⟩
/-- the fields of an instance of c -/
def insOf (c : Str) (x : D) (h : Hs) : Option (Nat × List (Str × D)) := match x with
  | .ref n => (match h[n]? with
    | some (.ins c' fs) => if c' = c then some (n, fs) else none
    | _ => none)
  | _ => none
theorem insOf_at {K : KF} {C : Addr} {c : Str} (O : OwnC K C c) {w : Wd} {x : D} {v : V} (ok : w.Ok K) (r : RepD K w x v) {n : Nat} {fs : List (Str × D)} (e : insOf c x w.h = some (n, fs)) :
    ∃ a dx fv, x = .ref n ∧ v = .ref a ∧ w.ι[n]? = some a ∧ w.h[n]? = some (.ins c fs) ∧ w.H a = some (.ins C dx fv) ∧ w.H dx = some (.own a) ∧ fv.map (·.1) = fs.map (·.1) ∧ RepDs K w (fs.map (·.2)) (fv.map (·.2)) := by
  unfold insOf at e
  split at e
  · rename_i m
    split at e
    · rename_i c' gs hc
      split at e
      · rename_i ec
        subst ec
        cases e
        obtain ⟨a, ha, rfl⟩ := r
        obtain ⟨C', dx, fv, h1, h2, h3, h4, h5⟩ := ok.cell n a _ ha hc
        cases O.uniq C' h1
        exact ⟨a, dx, fv, rfl, rfl, ha, hc, h2, h3, h4, h5⟩
      · cases e
    · cases e
  · cases e
def fldC (c f : Str) (x : D) (h : Hs) : Option D := match insOf c x h with
  | some (_, fs) => fs.lookup f
  | none => none
def eFldC (c f : Str) (g : EM) : EM := g.bind fun x => EM.lift (fldC c f x)
section
variable {X : Cx} {W : WX} {e o value : Expr} {es : List Expr} {f m c : Str} {C fa : Addr} {g h : EM} {a : AM} {F : Fn} {fd : FuncData} {ps : List Str} {k : Nat} {x : Str} {p pos pos' apos : Pos}
theorem se_fldC (O : OwnC X.K C c) (no : NoAttr X.K C f) (he : SE X W e g) (hb : attributeBase e f X.env (eval e X.env) = eval e X.env := by rfl) : SE X W (.Attribute e f pos) (eFldC c f g) :=
  PE.mono' (pe_fld he hb) fun σ H Q ⟨w, sl, eH, ok, hs, h⟩ => by
    subst eH
    unfold tFld
    refine tI_bind ok hs h fun dx x w1 l1 ok1 hs1 rx h1 => ?_
    obtain ⟨dz, ez, q⟩ := WpE.lift h1
    unfold fldC at ez
    cases ei : insOf c dx w1.h with
    | none => simp [ei] at ez
    | some r =>
      obtain ⟨n, fs⟩ := r
      simp only [ei] at ez
      obtain ⟨b, dx', fv, _, rfl, _, _, h2, _, h4, h5⟩ := insOf_at O ok1 rx ei
      obtain ⟨v, lv, rv⟩ := lookup_rep h4 h5 ez
      exact ⟨b, C, dx', fv, v, rfl, h2, O.cls, no, lv, q w1 v (Wd.Le.refl w1) ok1 rfl rv⟩
/-- o.f = value -/
def sFldC (c f : Str) (v o : EM) : SM := sE v fun d => sE o fun x s h => match insOf c x h with
  | some (n, fs) => if fs.length < 1000 then some (.nx s (h.set n (.ins c (putD f d fs)))) else none
  | none => none
theorem ss_fldC (O : OwnC X.K C c) (no : NoAttr X.K C f) (ho : SE X W o h) (hv : SE X W value g) (hs : swapsWith value (some (.Attribute o f pos')) pos.line X.env = pure false := by rfl) : SS X W (.Assign [.Attribute o f pos'] value pos) (sFldC c f g h) :=
  PS.mono' (ps_fld ho hv hs) fun E σ H ⟨w, sl, eH, ok, hs, h⟩ => by
    subst eH
    unfold sFld
    refine tIS_bind ok hs h fun d v w1 l1 ok1 hs1 r1 h1 => ?_
    refine tIS_bind ok1 hs1 h1 fun x u w2 l2 ok2 hs2 r2 h2 => ?_
    cases ei : insOf c x w2.h with
    | none => simp only [ei] at h2; exact h2.elim
    | some r =>
      obtain ⟨n, fs⟩ := r
      simp only [ei] at h2
      split at h2
      · rename_i hl
        obtain ⟨b, dx', fv, _, rfl, hb, _, e2, e3, e4, e5⟩ := insOf_at O ok2 r2 ei
        have rv := RepD.mono ok1 l2 d r1
        have hlen : fv.length = fs.length := by
          have := congrArg List.length e4
          simpa using this
        obtain ⟨i1, i2⟩ := put_rep (f := f) rv e4 e5
        refine ⟨b, C, dx', fv, rfl, e2, O.cls, no, by omega, ?_⟩
        have le : w2.Le (w2.setG n b (.ins c (putD f d fs)) (.ins C dx' (putF f v fv))) := Wd.setG_le hb
        have ok3 : (w2.setG n b (.ins c (putD f d fs)) (.ins C dx' (putF f v fv))).Ok X.K := Wd.setG_ok ok2 hb ⟨C, dx', putF f v fv, O.nm, upd_same, by
          have ne : dx' ≠ b := fun z => by
            subst z
            rw [e2] at e3
            cases e3
          show upd w2.H b _ dx' = _
          rw [upd_ne ne]
          exact e3, i1, RepDs.mono ok2 le _ i2⟩
        exact h2 _ σ le ok3 rfl (hs2.mono ok2 le)
      · exact h2.elim
theorem codeG {pins : List (Addr × Obj)} {σ : L2.St} {H : Hp} {s : Shared} {Q : VK} {us : List Value} {vs : List V} (tk : Takes X W) (G : FnG X.prog X.w X.K X.mg X.base (L2.CX X.prog X.w) k fa fd ps (spF X.K X.mg ps.length F)) (hr : Room k X.A) (gd : X.A.guards = some []) (hb : Binds X.K fd ps [])
    (I : Inv X pins σ H s) (r : Vals vs us) (h : spF X.K X.mg ps.length F vs H Q (WE W σ)) : codeAny (model X.prog X.w) X.A (.call (.ref fa) ⟨us, []⟩) (fun r s' => match r with | .ok (.ret v) => EP X pins σ Q v s' | .ok _ => False | .error e => X.xe e s') s := by
  have bd := hb s us I.kIn (by rw [List.append_nil, ← r.length]; exact G.len _ _ _ _ h)
  rw [List.append_nil] at bd
  refine codeAny_mono (G.run X.A X.stack s H ⟨us, []⟩ us vs Q (WE W σ) hr gd I.env0 bd r h) fun out s' hq => ?_
  cases out with
  | error u => exact passAt tk σ pins H s u s' I hq
  | ok fl =>
    cases fl with
    | ret u => exact I.after hq
    | _ => exact hq.elim
/-- o.m(..) works on the caller's own cells -/
def eMethC (c m : Str) (F : Fn) (o : EM) (a : AM) : EM := o.bind fun x s h => match insOf c x h with
  | some (_, fs) => (match fs.lookup m with
    | some _ => none
    | none => eA a (fun ds _ h => callI F (x :: ds) h) s h)
  | none => none
theorem se_methC0 (O : OwnC X.K C c) (hm : Meth X.K C m fa) (G : FnG X.prog X.w X.K X.mg X.base (L2.CX X.prog X.w) k fa fd ps (spF X.K X.mg ps.length F)) (tk : Takes X W) (hr : Room k X.A) (gd : X.A.guards = some []) (hb : Binds X.K fd ps []) {pl : Sem Bool}
    (hl : ps.length = 1) (ho : SE X W o g)
    (ht : eval (.Call (.Attribute o m apos) [] [] pos) X.env = (do
      let ov ← eval o X.env
      standAt apos.atName
      let (f, first) ← holding [ov] (getMethod ov m pl)
      callWith pos f first (backTo pos (starEach [] X.env)) (backToKw pos (keywordEach [] X.env))) := by rfl) :
    SE X W (.Call (.Attribute o m apos) [] [] pos) (eMethC c m F g eNil) := by
  refine ⟨fun pins s σ H Q I h => ?_⟩
  obtain ⟨w, sl, eH, ok, hs, h⟩ := h
  subst eH
  have hc : tI X.K X.mg W g σ w.H fun v H1 => ∃ b dx fs, v = .ref b ∧ H1 b = some (.ins C dx fs) ∧ fs.lookup m = none ∧ spF X.K X.mg ps.length F [v] H1 Q (WE W σ) := by
    refine tI_bind ok hs h fun dx x w1 l1 ok1 hs1 rx h1 => ?_
    cases ei : insOf c dx w1.h with
    | none => simp only [ei] at h1; exact h1.elim
    | some r =>
      obtain ⟨n, fs⟩ := r
      simp only [ei] at h1
      obtain ⟨b, dx', fv, ed, rfl, _, _, h2, _, h4, h5⟩ := insOf_at O ok1 rx ei
      cases el : fs.lookup m with
      | some z => simp only [el] at h1; exact h1.elim
      | none =>
        simp only [el] at h1
        have h1 : WpE X.K X.mg W σ (callI F [dx] w1.h) w1 fun _ v w' => Q v w'.H := h1
        have := callI_of (ds := [dx]) (vs := [.ref b]) ok1 ⟨.ref b, [], rfl, rx, rfl⟩ h1
        rw [show ([dx] : List D).length = ps.length by rw [hl]; rfl] at this
        exact ⟨b, dx', fv, rfl, h2, lookup_no h4 el, this⟩
  refine PySem.W.methodCall_KW (pl := pl) (thn (ho.run pins s σ w.H _ I hc) fun u s1 ⟨x, H1, I1, rx, b, dx, fs, ex, ea, l, q⟩ => ?_) ht
  subst ex
  obtain rfl : u = Value.ref b := rx
  refine getmeth_ok I1 ea O.cls hm l ?_
  exact PySem.W.callWith_K0 (first := [.ref b]) I1.kIn hm.kp (wpAny_call (codeG tk G hr gd hb (us := [.ref b]) (vs := [.ref b]) I1 (.cons rfl .nil) q))
/-- C(..) -/
def eNewC (c : Str) (F : Fn) (a : AM) : EM := eA a fun ds _ h => match callI F (.ref h.length :: ds) (h ++ [.ins c []]) with
  | some (.ok (.v .none) h') => some (.ok (.ref h.length) h')
  | some (.ex x h') => some (.ex x h')
  | _ => none
theorem se_newC (O : OwnC X.K C c) (M : Mk X.K C fa) (G : FnG X.prog X.w X.K X.mg X.base (L2.CX X.prog X.w) k fa fd ps (spF X.K X.mg ps.length F)) (tk : Takes X W) (hr : Room (k + 1) X.A) (gd : X.A.guards = some []) (hb : Binds X.K fd ps []) (hg : Gl X x) (hm : X.mg x = some (.ref C))
    (hl : ps.length = (e :: es).length + 1) (ha : SA X W (e :: es) a) (hal : ∀ s h ds h', a s h = some (.ok ds h') → ds.length = (e :: es).length) (hdb : (x == ("__debug__" : Str)) = false := by decide)
    (he : starEach (e :: es) X.env = (false, eval e X.env) :: starEach es X.env := by rfl) (hpl : (backTo pos (starEach es X.env)).any (·.1) = false := by rfl) : SE X W (.Call (.Name x p) (e :: es) [] pos) (eNewC c F a) := by
  refine ⟨fun pins s σ H Q I h => ?_⟩
  obtain ⟨w, sl, eH, ok, hs, h⟩ := h
  subst eH
  have hc : tIA X.K X.mg W a σ w.H fun vs H1 => ∀ y dx, H1 y = none → H1 dx = none → dx ≠ y → spF X.K X.mg ps.length F (.ref y :: vs) (upd (upd H1 dx (.own y)) y (.ins C dx [])) (fun v H2 => v = .non ∧ Q (.ref y) H2) (WE W σ) := by
    refine ⟨w, sl, rfl, ok, hs, ?_⟩
    unfold eNewC eA at h
    unfold WpA
    cases ea : a sl w.h with
    | none => simp only [ea] at h; exact h
    | some r =>
      cases r with
      | ex x h' => simp only [ea] at h; exact h
      | ok ds h' =>
        simp only [ea] at h
        intro w1 vs l1 ok1 eh1 r1
        subst eh1
        have hlen := hal _ _ _ _ ea
        have h1 := WpE.le h l1 ok1
        intro y dx hy hdx ne
        have l2 : w1.Le (w1.newT dx (.own y)) := Wd.newT_le hdx
        have ok2 : (w1.newT dx (.own y)).Ok X.K := Wd.newT_ok ok1 hdx
        have hy2 : (w1.newT dx (.own y)).H y = none := by
          show upd w1.H dx _ y = none
          rw [upd_ne (Ne.symm ne)]
          exact hy
        obtain ⟨w3, e3⟩ : ∃ w3, w3 = (w1.newT dx (.own y)).newG y (.ins c []) (.ins C dx []) := ⟨_, rfl⟩
        have l3 : w1.Le w3 := by rw [e3]; exact l2.trans (Wd.newG_le hy2) ok2
        have ok3 : w3.Ok X.K := by
          rw [e3]
          refine Wd.newG_ok ok2 hy2 ⟨C, dx, [], O.nm, upd_same, ?_, rfl, rfl⟩
          show upd (upd w1.H dx _) y _ dx = _
          rw [upd_ne ne, upd_same]
        have rn : RepD X.K w3 (.ref w1.h.length) (.ref y) := by rw [e3]; exact Wd.newG_rep ok2
        have eH3 : w3.H = upd (upd w1.H dx (.own y)) y (.ins C dx []) := by rw [e3]; rfl
        have eh3 : w3.h = w1.h ++ [.ins c []] := by rw [e3]; rfl
        rw [← eH3]
        have hl' : (D.ref w1.h.length :: ds).length = ps.length := by rw [List.length_cons, hlen, ← hl]
        rw [← hl']
        refine callI_of ok3 ⟨.ref y, vs, rfl, rn, RepDs.mono ok1 l3 _ r1⟩ ?_
        rw [← eh3] at h1
        cases ec : callI F (.ref w1.h.length :: ds) w3.h with
        | none => simp only [ec] at h1; exact h1
        | some q =>
          cases q with
          | ex x h' =>
            simp only [ec] at h1
            exact WpE.le h1 l3 ok3
          | ok d h' =>
            cases d with
            | v pd =>
              cases pd with
              | none =>
                simp only [ec] at h1
                intro w' v l' ok' eh' rv
                cases (show v = V.non from rv)
                exact ⟨rfl, h1 w' (.ref y) (l3.trans l' ok3) ok' eh' (RepD.mono ok3 l' _ rn)⟩
              | _ => simp only [ec] at h1; exact h1.elim
            | _ => simp only [ec] at h1; exact h1.elim
  refine wpAny_Call_Name_kw (ld_glob I hg hm ?_ hdb)
  refine PySem.W.callWith_K (h₀ := X.base) I.ok.mod.kin M.kp (thn (ha.run pos pins s σ w.H _ I hc) fun us s1 ⟨vs, H1, I1, r, q⟩ => ⟨I1.kIn, ?_⟩) he hpl
  have hq := q (s1.heap.objs.size + 1) s1.heap.objs.size (I1.hok.fresh (Nat.le_succ _)) (I1.hok.fresh (Nat.le_refl _)) (Nat.ne_of_lt (Nat.lt_succ_self _))
  have I2 := Inv.made (C := C) I1
  have r2 : Vals (V.ref (s1.heap.objs.size + 1) :: vs) (Value.ref (s1.heap.objs.size + 1) :: us) := .cons rfl r
  have bd := hb _ (Value.ref (s1.heap.objs.size + 1) :: us) I2.kIn (by rw [List.append_nil, ← r2.length]; exact G.len _ _ _ _ hq)
  rw [List.append_nil] at bd
  refine wpAny_call (make_map (f := fa) I1.kIn M.makes M.init (beq_iff_eq.mp M.fn) (codeAny_mono (G.run _ X.stack _ _ ⟨Value.ref (s1.heap.objs.size + 1) :: us, []⟩ (Value.ref (s1.heap.objs.size + 1) :: us) _ _ (WE W σ) (hr.make C us []) gd (I2.env0.make C us []) bd r2 hq) fun r s' hq' => ?_))
  cases r with
  | error u => exact passAt tk σ pins _ _ u s' I2 hq'
  | ok fl =>
    cases fl with
    | ret u =>
      obtain ⟨v, H', I3, rv, ev, q3⟩ := I2.after hq'
      subst ev
      exact ⟨rv, ⟨V.ref (s1.heap.objs.size + 1), H', I3, rfl, q3⟩⟩
    | _ => exact hq'.elim
end
section
variable (c f m : Str) (n : Nat) (h : Hs) (s : Sl) (F : Fn) (g o : EM) (a : AM) (x : D)
@[simp] theorem y_insOf : insOf c (.ref n) h = match h[n]? with
  | some (.ins c' fs) => if c' = c then some (n, fs) else none
  | _ => none := rfl
@[simp] theorem y_fldC : fldC c f x h = match insOf c x h with
  | some (_, fs) => fs.lookup f
  | none => none := rfl
@[simp] theorem z_fldC : eFldC c f g s h = match g s h with
  | some (.ok x h1) => (match fldC c f x h1 with
    | some d => some (.ok d h1)
    | none => none)
  | some (.ex x h1) => some (.ex x h1)
  | none => none := rfl
@[simp] theorem z_sfldC : sFldC c f g o s h = match g s h with
  | some (.ok d h1) => (match o s h1 with
    | some (.ok x h2) => (match insOf c x h2 with
      | some (n, fs) => if fs.length < 1000 then some (.nx s (h2.set n (.ins c (putD f d fs)))) else none
      | none => none)
    | some (.ex x h2) => some (.ex s x h2)
    | none => none)
  | some (.ex x h1) => some (.ex s x h1)
  | none => none := rfl
@[simp] theorem z_methC : eMethC c m F o a s h = match o s h with
  | some (.ok x h1) => (match insOf c x h1 with
    | some (_, fs) => (match fs.lookup m with
      | some _ => none
      | none => (match a s h1 with
        | some (.ok ds h2) => callI F (x :: ds) h2
        | some (.ex x h2) => some (.ex x h2)
        | none => none))
    | none => none)
  | some (.ex x h1) => some (.ex x h1)
  | none => none := by
  unfold eMethC EM.bind eA
  cases o s h with
  | none => rfl
  | some r =>
    cases r with
    | ex x h1 => rfl
    | ok d h1 => rfl
@[simp] theorem z_newC : eNewC c F a s h = match a s h with
  | some (.ok ds h1) => (match callI F (.ref h1.length :: ds) (h1 ++ [.ins c []]) with
    | some (.ok (.v .none) h') => some (.ok (.ref h1.length) h')
    | some (.ex x h') => some (.ex x h')
    | _ => none)
  | some (.ex x h1) => some (.ex x h1)
  | none => none := rfl
@[simp] theorem y_put0 (d : D) : putD f d [] = [(f, d)] := rfl
@[simp] theorem y_put1 (d e : D) (g : Str) (r : List (Str × D)) : putD f d ((g, e) :: r) = if g = f then (g, d) :: r else (g, e) :: putD f d r := rfl
end
end Vl
set_option maxHeartbeats 0
namespace Fs
open PySem PySem.Spec PyProof.Rows L2 Vl
/-! _wall: 0 k -/
noncomputable def L__wall_1 : SM := sSeq (sNext) (sNext)
noncomputable def W__wall_1 (s : Sl) (h : Hs) : Option SR := sWp [0] L__wall_1 s h
noncomputable def B__wall : SM := sSeq (sWhile [0] (tTru (eC (.bool true))) (W__wall_1)) (sNext)
noncomputable def F__wall : Fn := mkFn 1 B__wall
/-! Loom__init: 0 self, 1 program, 2 boxes, 3 procs, 4 hands, 5 name, 6 rows -/
noncomputable def B_Loom__init : SM := sSeq (sExpr (eCall F_look_at (eCons (eVar 1) (eNil)))) (sSeq (sAsg (eVar 1) (gTp 3 (gsCons (gNm 2) (gsCons (gNm 3) (gsCons (gNm 4) (gsNil)))))) (sSeq (sFldC "Loom" "program" (eTup (eCons (eB (b1 lstP) (eCons (eVar 2) (eNil))) (eCons (eComp (iSeq (eVar 3)) (gTp 2 (gsCons (gNm 5) (gsCons (gNm 6) (gsNil)))) (tYes') (eTup (eCons (eVar 5) (eCons (eB (b1 lstP) (eCons (eVar 6) (eNil))) (eNil)))) [5, 6]) (eCons (eB (b1 lstP) (eCons (eVar 4) (eNil))) (eNil))))) (eVar 0)) (sSeq (sFldC "Loom" "marks" (eLstN (eNil)) (eVar 0)) (sSeq (sFldC "Loom" "now" (eTup (eCons (eCall F_begun (eCons (eFldC "Loom" "program" (eVar 0)) (eNil))) (eCons (eC (.int 0)) (eCons (eC (.int 0)) (eCons (eTup (eNil)) (eNil)))))) (eVar 0)) (sNext)))))
noncomputable def F_Loom__init : Fn := mkFn 7 B_Loom__init
/-! Loom__state: 0 self -/
noncomputable def B_Loom__state : SM := sSeq (sRet (eIx (eFldC "Loom" "now" (eVar 0)) (eC (.int 0)))) (sNext)
noncomputable def F_Loom__state : Fn := mkFn 1 B_Loom__state
/-! Loom__turn: 0 self -/
noncomputable def B_Loom__turn : SM := sSeq (sRet (eTup (eCons (eIx (eFldC "Loom" "now" (eVar 0)) (eC (.int 1))) (eCons (eIx (eFldC "Loom" "now" (eVar 0)) (eC (.int 2))) (eNil))))) (sNext)
noncomputable def F_Loom__turn : Fn := mkFn 1 B_Loom__turn
/-! Loom__choices: 0 self -/
noncomputable def B_Loom__choices : SM := sSeq (sRet (eCall F_choices (eCons (eFldC "Loom" "program" (eVar 0)) (eCons (eIx (eFldC "Loom" "now" (eVar 0)) (eC (.int 0))) (eCons (eIx (eFldC "Loom" "now" (eVar 0)) (eC (.int 2))) (eNil)))))) (sNext)
noncomputable def F_Loom__choices : Fn := mkFn 1 B_Loom__choices
/-! _law_bad_v1: 0 _law_program_here, 1 _law_d, 2 _law_boxes, 3 _law_procs, 4 _law_hands, 5 _law_name_here, 6 _law_rows, 7 _law_box, 8 _law_some -/
noncomputable def B__law_bad_v1 : SM := sSeq (sAsg (eVar 0) (gTp 3 (gsCons (gNm 2) (gsCons (gNm 3) (gsCons (gNm 4) (gsNil)))))) (sSeq (sAsg (eIx (eVar 3) (eMod (eIx (eVar 1) (eC (.int 1))) (eB (lenD) (eCons (eVar 3) (eNil))))) (gTp 2 (gsCons (gNm 5) (gsCons (gNm 6) (gsNil))))) (sSeq (sAsg (eIx (eVar 2) (eMod (eIx (eVar 1) (eC (.int 1))) (eB (lenD) (eCons (eVar 2) (eNil))))) (gNm 7)) (sSeq (sAsg (eLstN (eCons (eTup (eCons (eLst (eNil)) (eCons (eVar 3) (eCons (eVar 4) (eNil))))) (eCons (eTup (eCons (eVar 2) (eCons (eLst (eNil)) (eCons (eVar 4) (eNil))))) (eCons (eTup (eCons (eVar 2) (eCons (eVar 3) (eCons (eLst (eNil)) (eNil))))) (eCons (eTup (eCons (eVar 2) (eCons (eVar 3) (eNil)))) (eCons (eC .none) (eCons (eLst (eCons (eVar 2) (eCons (eVar 3) (eCons (eVar 4) (eNil))))) (eNil)))))))) (gNm 8)) (sSeq (sExpr (eBM "list" appendD (eVar 8) (eCons (eTup (eCons (eAdd (eLst (eCons (eTup (eCons (eC (.str "Aa")) (eCons (eC (.int 2)) (eCons (eC (.int 0)) (eNil))))) (eNil))) (eVar 2)) (eCons (eVar 3) (eCons (eVar 4) (eNil))))) (eNil)))) (sSeq (sExpr (eBM "list" appendD (eVar 8) (eCons (eTup (eCons (eAdd (eVar 2) (eLst (eCons (eVar 7) (eNil)))) (eCons (eVar 3) (eCons (eVar 4) (eNil))))) (eNil)))) (sSeq (sExpr (eBM "list" appendD (eVar 8) (eCons (eTup (eCons (eVar 2) (eCons (eAdd (eVar 3) (eLst (eCons (eTup (eCons (eVar 5) (eCons (eVar 6) (eNil)))) (eNil)))) (eCons (eVar 4) (eNil))))) (eNil)))) (sSeq (sExpr (eBM "list" appendD (eVar 8) (eCons (eTup (eCons (eVar 2) (eCons (eAdd (eSl (eVar 3) none (some (eNeg (eC (.int 1))))) (eLst (eCons (eTup (eCons (eIx (eIx (eVar 3) (eNeg (eC (.int 1)))) (eC (.int 0))) (eCons (eLst (eCons (eTup (eCons (eC (.str "any")) (eCons (eTup (eCons (eC (.int 9)) (eNil))) (eNil)))) (eNil))) (eNil)))) (eNil)))) (eCons (eVar 4) (eNil))))) (eNil)))) (sSeq (sExpr (eBM "list" appendD (eVar 8) (eCons (eTup (eCons (eLst (eCons (eTup (eCons (eIx (eVar 7) (eC (.int 0))) (eCons (eC (.int 9)) (eCons (eC (.int 0)) (eNil))))) (eNil))) (eCons (eVar 3) (eCons (eVar 4) (eNil))))) (eNil)))) (sSeq (sExpr (eBM "list" appendD (eVar 8) (eCons (eTup (eCons (eVar 2) (eCons (eVar 3) (eCons (eAdd (eSl (eVar 4) none (some (eNeg (eC (.int 1))))) (eLst (eCons (eTup (eCons (eIx (eIx (eVar 4) (eNeg (eC (.int 1)))) (eC (.int 0))) (eCons (eC (.str "nowhere")) (eNil)))) (eNil)))) (eNil))))) (eNil)))) (sSeq (sRet (eIx (eVar 8) (eIx (eVar 1) (eC (.int 0))))) (sNext)))))))))))
noncomputable def F__law_bad_v1 : Fn := mkFn 9 B__law_bad_v1
/-! _law_fields_v1: 0 _law_which, 1 _law_thing, 2 _law_error, 3 e -/
noncomputable def B__law_fields_v1 : SM := sSeq (sAsg (eC .none) (gNm 2)) (sSeq (sTry ANC "HandError" 3 (sSeq (sIf (tBl (eEq (eVar 0) (eC (.int 0)))) (sSeq (sExpr (eCall F_look_at (eCons (eVar 1) (eNil)))) (sNext)) (sSeq (sExpr (eNewC "Loom" F_Loom__init (eCons (eVar 1) (eNil)))) (sNext))) (sNext)) (sSeq (sAsg (eVar 3) (gNm 2)) (sNext))) (sSeq (sIf (tTru (eIsX ANC ["NoText", "NoStep", "NoMark", "NoRun", "NoNames", "TooMany", "TooLong", "Bare", "NoRow", "NoName"] (eVar 2))) (sSeq (sRet (eC .none)) (sNext)) (sNext)) (sSeq (sIf (tNot (tTru (eIsX ANC ["NoProgram"] (eVar 2)))) (sSeq (sRet (eC .none)) (sNext)) (sNext)) (sSeq (sRet (eTup (eCons (eFldX ANC "part" (eVar 2)) (eCons (eFldX ANC "number" (eVar 2)) (eCons (eFldX ANC "row" (eVar 2)) (eNil)))))) (sNext)))))
noncomputable def F__law_fields_v1 : Fn := mkFn 4 B__law_fields_v1
/-! law22: 0 _law_script, 1 _law_plan_here, 2 _law_program_here, 3 _law_loom, 4 _law_k, 5 _law_thing, 6 _law_kept, 7 _law_found -/
abbrev S_law22_1 (l_script : D) (l_plan_here : D) (l_program_here : D) (l_loom : D) : Sl := [some l_script, some l_plan_here, some l_program_here, some l_loom, none, none, none, none]
abbrev G_law22_1 : GM := gNm 4
noncomputable def L_law22_1 : SM := sSeq (sAsg (eCall F__law_bad_v1 (eCons (eVar 2) (eCons (eCall F__law_digits (eCons (eCall F__law_cell_at (eCons (eVar 0) (eCons (eAdd (eC (.int 6)) (eVar 4)) (eNil)))) (eCons (eVar 4) (eCons (eLst (eCons (eC (.int 12)) (eCons (eC (.int 6)) (eNil)))) (eNil))))) (eNil)))) (gNm 5)) (sSeq (sAsg (eB (repr2D) (eCons (eVar 5) (eNil))) (gNm 6)) (sSeq (sAsg (eCall F__law_fields_v1 (eCons (eC (.int 1)) (eCons (eVar 5) (eNil)))) (gNm 7)) (sSeq (sIf (tOr (tBl (eIsN (eVar 7) (eC .none))) (tOr (tBl (eNe (eVar 7) (eCall F__law_fields_v1 (eCons (eC (.int 0)) (eCons (eVar 5) (eNil)))))) (tBl (eNe (eB (repr2D) (eCons (eVar 5) (eNil))) (eVar 6))))) (sSeq (sRet (eC (.bool false))) (sNext)) (sNext)) (sSeq (sIf (tOr (tBl (eNe (eMethC "Loom" "state" F_Loom__state (eVar 3) eNil) (eCall F__law_begun (eCons (eVar 1) (eNil))))) (tBl (eNe (eMethC "Loom" "choices" F_Loom__choices (eVar 3) eNil) (eCall F__law_choices (eCons (eVar 1) (eCons (eCall F__law_begun (eCons (eVar 1) (eNil))) (eCons (eC (.int 0)) (eNil)))))))) (sSeq (sRet (eC (.bool false))) (sNext)) (sNext)) (sNext)))))
noncomputable def W_law22_1 (s : Sl) (h : Hs) : Option SR := sWp [4, 5, 6, 7] L_law22_1 s h
noncomputable def B_law22 : SM := sSeq (sAsg (eCall F__law_plan (eCons (eVar 0) (eCons (eC (.int 4)) (eCons (eC (.int 5)) (eCons (eC (.int 3)) (eCons (eLst (eCons (eTup (eCons (eC (.int 2)) (eNil))) (eCons (eTup (eCons (eC (.int 3)) (eNil))) (eCons (eTup (eCons (eC (.int 2)) (eCons (eC (.int 2)) (eNil)))) (eCons (eTup (eCons (eC (.int 4)) (eNil))) (eCons (eTup (eCons (eC (.int 2)) (eCons (eC (.int 3)) (eNil)))) (eCons (eTup (eCons (eC (.int 5)) (eNil))) (eCons (eTup (eCons (eC (.int 2)) (eCons (eC (.int 2)) (eCons (eC (.int 2)) (eNil))))) (eCons (eTup (eCons (eC (.int 6)) (eNil))) (eNil)))))))))) (eNil))))))) (gNm 1)) (sSeq (sAsg (eCall F__law_program (eCons (eVar 1) (eCons (eB (b1 absP) (eCons (eCall F__law_cell_at (eCons (eVar 0) (eCons (eC (.int 5)) (eNil)))) (eNil))) (eNil)))) (gNm 2)) (sSeq (sAsg (eNewC "Loom" F_Loom__init (eCons (eVar 2) (eNil))) (gNm 3)) (sSeq (sFor [4, 5, 6, 7] (iP (eCons (eC (.int 6)) eNil) kRng1) (gNm 4) (W_law22_1)) (sSeq (sRet (eEq (eMethC "Loom" "turn" F_Loom__turn (eVar 3) eNil) (eTup (eCons (eC (.int 0)) (eCons (eC (.int 0)) (eNil)))))) (sNext)))))
noncomputable def F_law22 : Fn := mkFn 8 B_law22
end Fs
set_option maxHeartbeats 0
namespace G22
open PySem PySem.Spec PyProof.Rows L2 Vl Fs
def top (i : Nat) : Stmt := PySem.Challenge.pw_roundhand_k22_no_looms.main.body.getD i (.Pass ⟨0, 0, 0, 0⟩)
abbrev s__wall : Stmt := top 0
abbrev s_is_whole : Stmt := top 17
abbrev s_is_within : Stmt := top 18
abbrev s_is_name : Stmt := top 19
abbrev s_many_stores : Stmt := top 20
abbrev s_first_store : Stmt := top 21
abbrev s_put_into : Stmt := top 22
abbrev s_is_tuple : Stmt := top 31
abbrev s_is_box : Stmt := top 32
abbrev s_look_at_boxes : Stmt := top 33
abbrev s_look_at_procs : Stmt := top 34
abbrev s_worths_of : Stmt := top 35
abbrev s_are_tos : Stmt := top 36
abbrev s_is_row_of_box : Stmt := top 37
abbrev s_is_row : Stmt := top 38
abbrev s_look_at_rows : Stmt := top 39
abbrev s_look_at_hands : Stmt := top 40
abbrev s_look_at : Stmt := top 41
abbrev s_number_by : Stmt := top 42
abbrev s_settled : Stmt := top 44
abbrev s_gone_on : Stmt := top 45
abbrev s_with_call : Stmt := top 46
abbrev s_ends_of : Stmt := top 48
abbrev s_begun : Stmt := top 49
abbrev s_row_at : Stmt := top 50
abbrev s_waits : Stmt := top 51
abbrev s_choices : Stmt := top 52
abbrev s_done_to_box : Stmt := top 54
abbrev s_with_pile : Stmt := top 55
abbrev s_stepped : Stmt := top 56
abbrev s_Loom__init : Stmt := (clsB (top 58)).getD 0 (.Pass ⟨0, 0, 0, 0⟩)
abbrev s_Loom__state : Stmt := (clsB (top 58)).getD 5 (.Pass ⟨0, 0, 0, 0⟩)
abbrev s_Loom__turn : Stmt := (clsB (top 58)).getD 6 (.Pass ⟨0, 0, 0, 0⟩)
abbrev s_Loom__choices : Stmt := (clsB (top 58)).getD 8 (.Pass ⟨0, 0, 0, 0⟩)
abbrev s__law_cell_at : Stmt := top 60
abbrev s__law_digits : Stmt := top 61
abbrev s__law_name : Stmt := top 62
abbrev s__law_to_row : Stmt := top 63
abbrev s__law_plan : Stmt := top 64
abbrev s__law_program : Stmt := top 65
abbrev s__law_begun : Stmt := top 66
abbrev s__law_row : Stmt := top 67
abbrev s__law_choices : Stmt := top 68
abbrev s__law_step : Stmt := top 69
abbrev s__law_bad : Stmt := top 70
abbrev s__law_fields : Stmt := top 71
abbrev s_law : Stmt := top 72
abbrev si_NoProgram : Stmt := (clsB (top 3)).getD 0 (.Pass ⟨0, 0, 0, 0⟩)
abbrev NI_NoProgram : List Str := ["self", "part", "number", "row"]
theorem sci_NoProgram : FnScope NI_NoProgram ["self", "part", "number", "row"] (defScope si_NoProgram) := ⟨rfl, rfl, rfl, by decide +kernel, rfl, by decide +kernel, by decide +kernel⟩
abbrev si_NoStep : Stmt := (clsB (top 5)).getD 0 (.Pass ⟨0, 0, 0, 0⟩)
abbrev FnP (K : KF) (x : Str) (st : Stmt) (f : Addr) (fd : FuncData) : Prop := FunD K x x (defArgs st) (defBody st) (defScope st) [] [] f fd
abbrev N_is_whole : List Str := ["thing"]
theorem sc_is_whole : FnScope N_is_whole ["thing"] (defScope s_is_whole) := ⟨rfl, rfl, rfl, by decide +kernel, rfl, by decide +kernel, by decide +kernel⟩
abbrev N_is_within : List Str := ["thing", "low", "high"]
theorem sc_is_within : FnScope N_is_within ["thing", "low", "high"] (defScope s_is_within) := ⟨rfl, rfl, rfl, by decide +kernel, rfl, by decide +kernel, by decide +kernel⟩
abbrev N_is_name : List Str := ["thing", "sign"]
theorem sc_is_name : FnScope N_is_name ["thing"] (defScope s_is_name) := ⟨rfl, rfl, rfl, by decide +kernel, rfl, by decide +kernel, by decide +kernel⟩
abbrev N_many_stores : List Str := ["boxes", "many", "name", "worths", "first"]
theorem sc_many_stores : FnScope N_many_stores ["boxes"] (defScope s_many_stores) := ⟨rfl, rfl, rfl, by decide +kernel, rfl, by decide +kernel, by decide +kernel⟩
abbrev N_first_store : List Str := ["boxes", "name", "worths", "first"]
theorem sc_first_store : FnScope N_first_store ["boxes"] (defScope s_first_store) := ⟨rfl, rfl, rfl, by decide +kernel, rfl, by decide +kernel, by decide +kernel⟩
abbrev N_is_tuple : List Str := ["thing", "many"]
theorem sc_is_tuple : FnScope N_is_tuple ["thing", "many"] (defScope s_is_tuple) := ⟨rfl, rfl, rfl, by decide +kernel, rfl, by decide +kernel, by decide +kernel⟩
abbrev N_is_box : List Str := ["thing"]
theorem sc_is_box : FnScope N_is_box ["thing"] (defScope s_is_box) := ⟨rfl, rfl, rfl, by decide +kernel, rfl, by decide +kernel, by decide +kernel⟩
abbrev N_look_at_boxes : List Str := ["boxes", "number", "box", "one"]
theorem sc_look_at_boxes : FnScope N_look_at_boxes ["boxes"] (defScope s_look_at_boxes) := ⟨rfl, rfl, rfl, by decide +kernel, rfl, by decide +kernel, by decide +kernel⟩
abbrev N_look_at_procs : List Str := ["procs", "number", "proc", "one"]
theorem sc_look_at_procs : FnScope N_look_at_procs ["procs"] (defScope s_look_at_procs) := ⟨rfl, rfl, rfl, by decide +kernel, rfl, by decide +kernel, by decide +kernel⟩
abbrev N_worths_of : List Str := ["boxes", "name", "box"]
theorem sc_worths_of : FnScope N_worths_of ["boxes", "name"] (defScope s_worths_of) := ⟨rfl, rfl, rfl, by decide +kernel, rfl, by decide +kernel, by decide +kernel⟩
abbrev N_are_tos : List Str := ["thing", "end", "to"]
theorem sc_are_tos : FnScope N_are_tos ["thing", "end"] (defScope s_are_tos) := ⟨rfl, rfl, rfl, by decide +kernel, rfl, by decide +kernel, by decide +kernel⟩
abbrev N_is_row_of_box : List Str := ["row", "worths", "end", "many_hands", "to"]
theorem sc_is_row_of_box : FnScope N_is_row_of_box ["row", "worths", "end", "many_hands"] (defScope s_is_row_of_box) := ⟨rfl, rfl, rfl, by decide +kernel, rfl, by decide +kernel, by decide +kernel⟩
abbrev N_is_row : List Str := ["row", "program", "end", "boxes", "procs", "hands", "named", "proc"]
theorem sc_is_row : FnScope N_is_row ["row", "program", "end"] (defScope s_is_row) := ⟨rfl, rfl, rfl, by decide +kernel, rfl, by decide +kernel, by decide +kernel⟩
abbrev N_look_at_rows : List Str := ["program", "number", "proc", "at", "row"]
theorem sc_look_at_rows : FnScope N_look_at_rows ["program"] (defScope s_look_at_rows) := ⟨rfl, rfl, rfl, by decide +kernel, rfl, by decide +kernel, by decide +kernel⟩
abbrev N_look_at_hands : List Str := ["hands", "procs", "names", "number", "hand", "proc", "one"]
theorem sc_look_at_hands : FnScope N_look_at_hands ["hands", "procs"] (defScope s_look_at_hands) := ⟨rfl, rfl, rfl, by decide +kernel, rfl, by decide +kernel, by decide +kernel⟩
abbrev N_look_at : List Str := ["thing", "part"]
theorem sc_look_at : FnScope N_look_at ["thing"] (defScope s_look_at) := ⟨rfl, rfl, rfl, by decide +kernel, rfl, by decide +kernel, by decide +kernel⟩
abbrev N_number_by : List Str := ["rows", "name", "row"]
theorem sc_number_by : FnScope N_number_by ["rows", "name"] (defScope s_number_by) := ⟨rfl, rfl, rfl, by decide +kernel, rfl, by decide +kernel, by decide +kernel⟩
abbrev N_begun : List Str := ["program", "piles", "name", "proc"]
theorem sc_begun : FnScope N_begun ["program"] (defScope s_begun) := ⟨rfl, rfl, rfl, by decide +kernel, rfl, by decide +kernel, by decide +kernel⟩
abbrev N_row_at : List Str := ["program", "pile", "proc", "place"]
theorem sc_row_at : FnScope N_row_at ["program", "pile"] (defScope s_row_at) := ⟨rfl, rfl, rfl, by decide +kernel, rfl, by decide +kernel, by decide +kernel⟩
abbrev N_waits : List Str := ["program", "row", "holds", "hand"]
theorem sc_waits : FnScope N_waits ["program", "row", "holds", "hand"] (defScope s_waits) := ⟨rfl, rfl, rfl, by decide +kernel, rfl, by decide +kernel, by decide +kernel⟩
abbrev N_choices : List Str := ["program", "state", "hand", "store", "piles", "row"]
theorem sc_choices : FnScope N_choices ["program", "state", "hand"] (defScope s_choices) := ⟨rfl, rfl, rfl, by decide +kernel, rfl, by decide +kernel, by decide +kernel⟩
abbrev N_Loom__init : List Str := ["self", "program", "boxes", "procs", "hands", "name", "rows"]
theorem sc_Loom__init : FnScope N_Loom__init ["self", "program"] (defScope s_Loom__init) := ⟨rfl, rfl, rfl, by decide +kernel, rfl, by decide +kernel, by decide +kernel⟩
abbrev N_Loom__state : List Str := ["self"]
theorem sc_Loom__state : FnScope N_Loom__state ["self"] (defScope s_Loom__state) := ⟨rfl, rfl, rfl, by decide +kernel, rfl, by decide +kernel, by decide +kernel⟩
abbrev N_Loom__turn : List Str := ["self"]
theorem sc_Loom__turn : FnScope N_Loom__turn ["self"] (defScope s_Loom__turn) := ⟨rfl, rfl, rfl, by decide +kernel, rfl, by decide +kernel, by decide +kernel⟩
abbrev N_Loom__choices : List Str := ["self"]
theorem sc_Loom__choices : FnScope N_Loom__choices ["self"] (defScope s_Loom__choices) := ⟨rfl, rfl, rfl, by decide +kernel, rfl, by decide +kernel, by decide +kernel⟩
abbrev N__law_cell_at : List Str := ["_law_script", "_law_k"]
theorem sc__law_cell_at : FnScope N__law_cell_at ["_law_script", "_law_k"] (defScope s__law_cell_at) := ⟨rfl, rfl, rfl, by decide +kernel, rfl, by decide +kernel, by decide +kernel⟩
abbrev N__law_digits : List Str := ["_law_cell", "_law_turn", "_law_sizes", "_law_number", "_law_wide", "_law_seed", "_law_found", "_law_k", "_law_size"]
theorem sc__law_digits : FnScope N__law_digits ["_law_cell", "_law_turn", "_law_sizes"] (defScope s__law_digits) := ⟨rfl, rfl, rfl, by decide +kernel, rfl, by decide +kernel, by decide +kernel⟩
abbrev N__law_name : List Str := ["_law_number", "_law_k", "_law_stem", "_law_more"]
theorem sc__law_name : FnScope N__law_name ["_law_number", "_law_k"] (defScope s__law_name) := ⟨rfl, rfl, rfl, by decide +kernel, rfl, by decide +kernel, by decide +kernel⟩
abbrev N__law_to_row : List Str := ["_law_d", "_law_worths", "_law_end", "_law_hands", "_law_tos", "_law_box", "_law_one", "_law_other", "_law_stops", "_law_j"]
theorem sc__law_to_row : FnScope N__law_to_row ["_law_d", "_law_worths", "_law_end", "_law_hands"] (defScope s__law_to_row) := ⟨rfl, rfl, rfl, by decide +kernel, rfl, by decide +kernel, by decide +kernel⟩
abbrev N__law_plan : List Str := ["_law_script", "_law_most_procs", "_law_most_rows", "_law_most_hands", "_law_menu", "_law_head", "_law_worths", "_law_firsts", "_law_many", "_law_hands", "_law_procs", "_law_k", "_law_row_here", "_law_end", "_law_j"]
theorem sc__law_plan : FnScope N__law_plan ["_law_script", "_law_most_procs", "_law_most_rows", "_law_most_hands", "_law_menu"] (defScope s__law_plan) := ⟨rfl, rfl, rfl, by decide +kernel, rfl, by decide +kernel, by decide +kernel⟩
abbrev N__law_program : List Str := ["_law_plan_here", "_law_number", "_law_worths", "_law_firsts", "_law_procs", "_law_hands", "_law_boxes", "_law_titles", "_law_rows", "_law_k", "_law_proc", "_law_built", "_law_row_here"]
theorem sc__law_program : FnScope N__law_program ["_law_plan_here", "_law_number"] (defScope s__law_program) := ⟨rfl, rfl, rfl, by decide +kernel, rfl, by decide +kernel, by decide +kernel⟩
abbrev N__law_begun : List Str := ["_law_plan_here", "_law_proc"]
theorem sc__law_begun : FnScope N__law_begun ["_law_plan_here"] (defScope s__law_begun) := ⟨rfl, rfl, rfl, by decide +kernel, rfl, by decide +kernel, by decide +kernel⟩
abbrev N__law_row : List Str := ["_law_plan_here", "_law_pile"]
theorem sc__law_row : FnScope N__law_row ["_law_plan_here", "_law_pile"] (defScope s__law_row) := ⟨rfl, rfl, rfl, by decide +kernel, rfl, by decide +kernel, by decide +kernel⟩
abbrev N__law_choices : List Str := ["_law_plan_here", "_law_state", "_law_hand", "_law_store", "_law_piles", "_law_row_here"]
theorem sc__law_choices : FnScope N__law_choices ["_law_plan_here", "_law_state", "_law_hand"] (defScope s__law_choices) := ⟨rfl, rfl, rfl, by decide +kernel, rfl, by decide +kernel, by decide +kernel⟩
abbrev N__law_bad : List Str := ["_law_program_here", "_law_d", "_law_boxes", "_law_procs", "_law_hands", "_law_name_here", "_law_rows", "_law_box", "_law_some"]
theorem sc__law_bad : FnScope N__law_bad ["_law_program_here", "_law_d"] (defScope s__law_bad) := ⟨rfl, rfl, rfl, by decide +kernel, rfl, by decide +kernel, by decide +kernel⟩
abbrev N__law_fields : List Str := ["_law_which", "_law_thing", "_law_error", "e"]
theorem sc__law_fields : FnScope N__law_fields ["_law_which", "_law_thing"] (defScope s__law_fields) := ⟨rfl, rfl, rfl, by decide +kernel, rfl, by decide +kernel, by decide +kernel⟩
abbrev N_law : List Str := ["_law_script", "_law_plan_here", "_law_program_here", "_law_loom", "_law_k", "_law_thing", "_law_kept", "_law_found"]
theorem sc_law : FnScope N_law ["_law_script"] (defScope s_law) := ⟨rfl, rfl, rfl, by decide +kernel, rfl, by decide +kernel, by decide +kernel⟩
def pres : List Str := ["HandError", "NoProgram", "NoText", "NoStep", "NoMark", "NoRun", "NoNames", "TooMany", "TooLong", "Bare", "NoRow", "NoName"]
def tst : List Str := ["Bare", "HandError", "NoMark", "NoName", "NoNames", "NoProgram", "NoRow", "NoRun", "NoStep", "NoText", "TooLong", "TooMany"]
structure Cfg (K : KF) (mg : Str → Option Value) where
  C_Loom : Addr
  g_Loom : mg "Loom" = some (.ref C_Loom)
  O_Loom : OwnC K C_Loom "Loom"
  n_Loom__marks : NoAttr K C_Loom "marks"
  n_Loom__now : NoAttr K C_Loom "now"
  n_Loom__program : NoAttr K C_Loom "program"
  f__wall : Addr
  d__wall : FuncData
  F__wall : FnP K "_wall" s__wall f__wall d__wall
  g__wall : mg "_wall" = some (.ref f__wall)
  f_is_whole : Addr
  d_is_whole : FuncData
  F_is_whole : FnP K "is_whole" s_is_whole f_is_whole d_is_whole
  g_is_whole : mg "is_whole" = some (.ref f_is_whole)
  f_is_within : Addr
  d_is_within : FuncData
  F_is_within : FnP K "is_within" s_is_within f_is_within d_is_within
  g_is_within : mg "is_within" = some (.ref f_is_within)
  f_is_name : Addr
  d_is_name : FuncData
  F_is_name : FnP K "is_name" s_is_name f_is_name d_is_name
  g_is_name : mg "is_name" = some (.ref f_is_name)
  f_many_stores : Addr
  d_many_stores : FuncData
  F_many_stores : FnP K "many_stores" s_many_stores f_many_stores d_many_stores
  g_many_stores : mg "many_stores" = some (.ref f_many_stores)
  f_first_store : Addr
  d_first_store : FuncData
  F_first_store : FnP K "first_store" s_first_store f_first_store d_first_store
  g_first_store : mg "first_store" = some (.ref f_first_store)
  f_put_into : Addr
  d_put_into : FuncData
  F_put_into : FnP K "put_into" s_put_into f_put_into d_put_into
  g_put_into : mg "put_into" = some (.ref f_put_into)
  f_is_tuple : Addr
  d_is_tuple : FuncData
  F_is_tuple : FnP K "is_tuple" s_is_tuple f_is_tuple d_is_tuple
  g_is_tuple : mg "is_tuple" = some (.ref f_is_tuple)
  f_is_box : Addr
  d_is_box : FuncData
  F_is_box : FnP K "is_box" s_is_box f_is_box d_is_box
  g_is_box : mg "is_box" = some (.ref f_is_box)
  f_look_at_boxes : Addr
  d_look_at_boxes : FuncData
  F_look_at_boxes : FnP K "look_at_boxes" s_look_at_boxes f_look_at_boxes d_look_at_boxes
  g_look_at_boxes : mg "look_at_boxes" = some (.ref f_look_at_boxes)
  f_look_at_procs : Addr
  d_look_at_procs : FuncData
  F_look_at_procs : FnP K "look_at_procs" s_look_at_procs f_look_at_procs d_look_at_procs
  g_look_at_procs : mg "look_at_procs" = some (.ref f_look_at_procs)
  f_worths_of : Addr
  d_worths_of : FuncData
  F_worths_of : FnP K "worths_of" s_worths_of f_worths_of d_worths_of
  g_worths_of : mg "worths_of" = some (.ref f_worths_of)
  f_are_tos : Addr
  d_are_tos : FuncData
  F_are_tos : FnP K "are_tos" s_are_tos f_are_tos d_are_tos
  g_are_tos : mg "are_tos" = some (.ref f_are_tos)
  f_is_row_of_box : Addr
  d_is_row_of_box : FuncData
  F_is_row_of_box : FnP K "is_row_of_box" s_is_row_of_box f_is_row_of_box d_is_row_of_box
  g_is_row_of_box : mg "is_row_of_box" = some (.ref f_is_row_of_box)
  f_is_row : Addr
  d_is_row : FuncData
  F_is_row : FnP K "is_row" s_is_row f_is_row d_is_row
  g_is_row : mg "is_row" = some (.ref f_is_row)
  f_look_at_rows : Addr
  d_look_at_rows : FuncData
  F_look_at_rows : FnP K "look_at_rows" s_look_at_rows f_look_at_rows d_look_at_rows
  g_look_at_rows : mg "look_at_rows" = some (.ref f_look_at_rows)
  f_look_at_hands : Addr
  d_look_at_hands : FuncData
  F_look_at_hands : FnP K "look_at_hands" s_look_at_hands f_look_at_hands d_look_at_hands
  g_look_at_hands : mg "look_at_hands" = some (.ref f_look_at_hands)
  f_look_at : Addr
  d_look_at : FuncData
  F_look_at : FnP K "look_at" s_look_at f_look_at d_look_at
  g_look_at : mg "look_at" = some (.ref f_look_at)
  f_number_by : Addr
  d_number_by : FuncData
  F_number_by : FnP K "number_by" s_number_by f_number_by d_number_by
  g_number_by : mg "number_by" = some (.ref f_number_by)
  f_settled : Addr
  d_settled : FuncData
  F_settled : FnP K "settled" s_settled f_settled d_settled
  g_settled : mg "settled" = some (.ref f_settled)
  f_gone_on : Addr
  d_gone_on : FuncData
  F_gone_on : FnP K "gone_on" s_gone_on f_gone_on d_gone_on
  g_gone_on : mg "gone_on" = some (.ref f_gone_on)
  f_with_call : Addr
  d_with_call : FuncData
  F_with_call : FnP K "with_call" s_with_call f_with_call d_with_call
  g_with_call : mg "with_call" = some (.ref f_with_call)
  f_ends_of : Addr
  d_ends_of : FuncData
  F_ends_of : FnP K "ends_of" s_ends_of f_ends_of d_ends_of
  g_ends_of : mg "ends_of" = some (.ref f_ends_of)
  f_begun : Addr
  d_begun : FuncData
  F_begun : FnP K "begun" s_begun f_begun d_begun
  g_begun : mg "begun" = some (.ref f_begun)
  f_row_at : Addr
  d_row_at : FuncData
  F_row_at : FnP K "row_at" s_row_at f_row_at d_row_at
  g_row_at : mg "row_at" = some (.ref f_row_at)
  f_waits : Addr
  d_waits : FuncData
  F_waits : FnP K "waits" s_waits f_waits d_waits
  g_waits : mg "waits" = some (.ref f_waits)
  f_choices : Addr
  d_choices : FuncData
  F_choices : FnP K "choices" s_choices f_choices d_choices
  g_choices : mg "choices" = some (.ref f_choices)
  f_done_to_box : Addr
  d_done_to_box : FuncData
  F_done_to_box : FnP K "done_to_box" s_done_to_box f_done_to_box d_done_to_box
  g_done_to_box : mg "done_to_box" = some (.ref f_done_to_box)
  f_with_pile : Addr
  d_with_pile : FuncData
  F_with_pile : FnP K "with_pile" s_with_pile f_with_pile d_with_pile
  g_with_pile : mg "with_pile" = some (.ref f_with_pile)
  f_stepped : Addr
  d_stepped : FuncData
  F_stepped : FnP K "stepped" s_stepped f_stepped d_stepped
  g_stepped : mg "stepped" = some (.ref f_stepped)
  f_Loom__init : Addr
  d_Loom__init : FuncData
  F_Loom__init : FunD K "__init__" "Loom.__init__" (defArgs s_Loom__init) (defBody s_Loom__init) (defScope s_Loom__init) [] [] f_Loom__init d_Loom__init
  k_Loom__init : Mk K C_Loom f_Loom__init
  f_Loom__state : Addr
  d_Loom__state : FuncData
  F_Loom__state : FunD K "state" "Loom.state" (defArgs s_Loom__state) (defBody s_Loom__state) (defScope s_Loom__state) [] [] f_Loom__state d_Loom__state
  m_Loom__state : Meth K C_Loom "state" f_Loom__state
  f_Loom__turn : Addr
  d_Loom__turn : FuncData
  F_Loom__turn : FunD K "turn" "Loom.turn" (defArgs s_Loom__turn) (defBody s_Loom__turn) (defScope s_Loom__turn) [] [] f_Loom__turn d_Loom__turn
  m_Loom__turn : Meth K C_Loom "turn" f_Loom__turn
  f_Loom__choices : Addr
  d_Loom__choices : FuncData
  F_Loom__choices : FunD K "choices" "Loom.choices" (defArgs s_Loom__choices) (defBody s_Loom__choices) (defScope s_Loom__choices) [] [] f_Loom__choices d_Loom__choices
  m_Loom__choices : Meth K C_Loom "choices" f_Loom__choices
  f__law_cell_at : Addr
  d__law_cell_at : FuncData
  F__law_cell_at : FnP K "_law_cell_at" s__law_cell_at f__law_cell_at d__law_cell_at
  g__law_cell_at : mg "_law_cell_at" = some (.ref f__law_cell_at)
  f__law_digits : Addr
  d__law_digits : FuncData
  F__law_digits : FnP K "_law_digits" s__law_digits f__law_digits d__law_digits
  g__law_digits : mg "_law_digits" = some (.ref f__law_digits)
  f__law_name : Addr
  d__law_name : FuncData
  F__law_name : FnP K "_law_name" s__law_name f__law_name d__law_name
  g__law_name : mg "_law_name" = some (.ref f__law_name)
  f__law_to_row : Addr
  d__law_to_row : FuncData
  F__law_to_row : FnP K "_law_to_row" s__law_to_row f__law_to_row d__law_to_row
  g__law_to_row : mg "_law_to_row" = some (.ref f__law_to_row)
  f__law_plan : Addr
  d__law_plan : FuncData
  F__law_plan : FnP K "_law_plan" s__law_plan f__law_plan d__law_plan
  g__law_plan : mg "_law_plan" = some (.ref f__law_plan)
  f__law_program : Addr
  d__law_program : FuncData
  F__law_program : FnP K "_law_program" s__law_program f__law_program d__law_program
  g__law_program : mg "_law_program" = some (.ref f__law_program)
  f__law_begun : Addr
  d__law_begun : FuncData
  F__law_begun : FnP K "_law_begun" s__law_begun f__law_begun d__law_begun
  g__law_begun : mg "_law_begun" = some (.ref f__law_begun)
  f__law_row : Addr
  d__law_row : FuncData
  F__law_row : FnP K "_law_row" s__law_row f__law_row d__law_row
  g__law_row : mg "_law_row" = some (.ref f__law_row)
  f__law_choices : Addr
  d__law_choices : FuncData
  F__law_choices : FnP K "_law_choices" s__law_choices f__law_choices d__law_choices
  g__law_choices : mg "_law_choices" = some (.ref f__law_choices)
  f__law_step : Addr
  d__law_step : FuncData
  F__law_step : FnP K "_law_step" s__law_step f__law_step d__law_step
  g__law_step : mg "_law_step" = some (.ref f__law_step)
  f__law_bad : Addr
  d__law_bad : FuncData
  F__law_bad : FnP K "_law_bad" s__law_bad f__law_bad d__law_bad
  g__law_bad : mg "_law_bad" = some (.ref f__law_bad)
  f__law_fields : Addr
  d__law_fields : FuncData
  F__law_fields : FnP K "_law_fields" s__law_fields f__law_fields d__law_fields
  g__law_fields : mg "_law_fields" = some (.ref f__law_fields)
  g_choices_weaver : mg "choices_weaver" = some (.ref f_choices)
  C_HandError : Addr
  g_HandError : mg "HandError" = some (.ref C_HandError)
  H_HandError : HinC K C_HandError (.type "type")
  C_NoProgram : Addr
  g_NoProgram : mg "NoProgram" = some (.ref C_NoProgram)
  T_NoProgram : OexC K C_NoProgram
  fi_NoProgram : Addr
  di_NoProgram : FuncData
  FI_NoProgram : FunD K "__init__" "NoProgram.__init__" (defArgs si_NoProgram) (defBody si_NoProgram) (defScope si_NoProgram) [] [] fi_NoProgram di_NoProgram
  iC_NoProgram : PySem.W.findIn K (.ref C_NoProgram) "__init__" = some (some (.ref fi_NoProgram))
  tI_NoProgram : PySem.W.typeIn K (.ref fi_NoProgram) = some (.type "function")
  nf_NoProgram : ∀ g ∈ (["part", "number", "row"] : List Str), PySem.W.findIn K (.ref C_NoProgram) g = some none
  C_NoText : Addr
  g_NoText : mg "NoText" = some (.ref C_NoText)
  C_NoStep : Addr
  g_NoStep : mg "NoStep" = some (.ref C_NoStep)
  T_NoStep : OexC K C_NoStep
  fi_NoStep : Addr
  di_NoStep : FuncData
  FI_NoStep : FunD K "__init__" "NoStep.__init__" (defArgs si_NoStep) (defBody si_NoStep) (defScope si_NoStep) [] [] fi_NoStep di_NoStep
  iC_NoStep : PySem.W.findIn K (.ref C_NoStep) "__init__" = some (some (.ref fi_NoStep))
  tI_NoStep : PySem.W.typeIn K (.ref fi_NoStep) = some (.type "function")
  nf_NoStep : ∀ g ∈ (["at"] : List Str), PySem.W.findIn K (.ref C_NoStep) g = some none
  C_NoMark : Addr
  g_NoMark : mg "NoMark" = some (.ref C_NoMark)
  C_NoRun : Addr
  g_NoRun : mg "NoRun" = some (.ref C_NoRun)
  C_NoNames : Addr
  g_NoNames : mg "NoNames" = some (.ref C_NoNames)
  C_TooMany : Addr
  g_TooMany : mg "TooMany" = some (.ref C_TooMany)
  C_TooLong : Addr
  g_TooLong : mg "TooLong" = some (.ref C_TooLong)
  C_Bare : Addr
  g_Bare : mg "Bare" = some (.ref C_Bare)
  C_NoRow : Addr
  g_NoRow : mg "NoRow" = some (.ref C_NoRow)
  C_NoName : Addr
  g_NoName : mg "NoName" = some (.ref C_NoName)
  Ex : ExT K mg ANC tst FLD
  b_abs : mg "abs" = none
  b_all : mg "all" = none
  b_bool : mg "bool" = none
  b_enumerate : mg "enumerate" = none
  b_int : mg "int" = none
  b_isinstance : mg "isinstance" = none
  b_len : mg "len" = none
  b_list : mg "list" = none
  b_range : mg "range" = none
  b_repr : mg "repr" = none
  b_str : mg "str" = none
  b_tuple : mg "tuple" = none
  g_LETTERS : ∃ t, mg "LETTERS" = some (.str "abcdefghijklmnopqrstuvwxyz" t)
  g_LONGEST : ∃ t, mg "LONGEST" = some (.int (8) t)
  g_MOST_BOXES : ∃ t, mg "MOST_BOXES" = some (.int (3) t)
  g_MOST_HANDS : ∃ t, mg "MOST_HANDS" = some (.int (3) t)
  g_MOST_PROCS : ∃ t, mg "MOST_PROCS" = some (.int (6) t)
  g_MOST_ROWS : ∃ t, mg "MOST_ROWS" = some (.int (8) t)
  g_MOST_STORES : ∃ t, mg "MOST_STORES" = some (.int (8) t)
  g_MOST_WAYS : ∃ t, mg "MOST_WAYS" = some (.int (4) t)
  g_MOST_WORTHS : ∃ t, mg "MOST_WORTHS" = some (.int (6) t)
section
variable {P : Program} {w : World} {K : KF} {mg : Str → Option Value} {base : Heap}
theorem bi_NoProgram (c : Cfg K mg) : Binds K c.di_NoProgram ["self", "part", "number", "row"] [] := c.FI_NoProgram.bindsN fun _ _ _ _ _ _ us hl => match us, hl with | [_, _, _, _], _ => rfl
theorem ok_init_NoProgram (c : Cfg K mg) : FnOk P w K mg base (L2.CX P w) (0 + 1) c.fi_NoProgram c.di_NoProgram ["self", "part", "number", "row"] (spInit c.C_NoProgram ["part", "number", "row"]) :=
  init_ok (m := "no program") c.FI_NoProgram sci_NoProgram c.T_NoProgram rfl (by decide) c.nf_NoProgram fun cdv A outer s H E => ⟨ps_expr (pe_hinit rfl c.g_HandError c.H_HandError (pa_cons (pe_var (i := 0) rfl (.inl rfl)) (pa_cons pe_str pa_nil))), .cons (ps_ost (pe_var (i := 0) rfl (.inl rfl)) (pe_var (i := 1) rfl (.inl rfl))) (.cons (ps_ost (pe_var (i := 0) rfl (.inl rfl)) (pe_var (i := 2) rfl (.inl rfl))) (.cons (ps_ost (pe_var (i := 0) rfl (.inl rfl)) (pe_var (i := 3) rfl (.inl rfl))) (.nil)))⟩
theorem b_is_whole (c : Cfg K mg) : Binds K c.d_is_whole ["thing"] [] := c.F_is_whole.bindsN fun _ _ _ _ _ _ us hl => match us, hl with | [_], _ => rfl
theorem ok_is_whole (c : Cfg K mg) : FnG P w K mg base (L2.CX P w) (0 + 1) c.f_is_whole c.d_is_whole ["thing"] (spF K mg 1 F_is_whole) :=
  fn_okG c.F_is_whole sc_is_whole rfl fun cdv A outer s H E hr gd =>
  ss_cons (ss_ret (se_and (se_isi (T := "int") (se_var 0) rfl c.b_isinstance rfl c.b_int (by decide +kernel)) (se_one (se_not (se_isi (T := "bool") (se_var 0) rfl c.b_isinstance rfl c.b_bool (by decide +kernel)))))) (ss_nil)
theorem b_is_within (c : Cfg K mg) : Binds K c.d_is_within ["thing", "low", "high"] [] := c.F_is_within.bindsN fun _ _ _ _ _ _ us hl => match us, hl with | [_, _, _], _ => rfl
theorem ok_is_within (c : Cfg K mg) : FnG P w K mg base (L2.CX P w) (1 + 1) c.f_is_within c.d_is_within ["thing", "low", "high"] (spF K mg 3 F_is_within) :=
  fn_okG c.F_is_within sc_is_within rfl fun cdv A outer s H E hr gd =>
  ss_cons (ss_ret (se_and (se_callG (ok_is_whole c) (takes_of rfl rfl rfl rfl) (hr.mono (by decide)) gd rfl c.g_is_whole c.F_is_whole.kp (b_is_whole c) rfl (sa_cons (se_var 0) (sa_nil)) (al_cons (al_nil))) (se_one (se_chain op_le op_leP.d op_lt op_ltP.d (se_var 1) (se_var 0) (se_var 2))))) (ss_nil)
theorem b_is_name (c : Cfg K mg) : Binds K c.d_is_name ["thing"] [] := c.F_is_name.bindsN fun _ _ _ _ _ _ us hl => match us, hl with | [_], _ => rfl
theorem ok_is_name (c : Cfg K mg) : FnG P w K mg base (L2.CX P w) (0 + 1) c.f_is_name c.d_is_name ["thing"] (spF K mg 1 F_is_name) :=
  fn_okG c.F_is_name sc_is_name rfl fun cdv A outer s H E hr gd =>
  ss_cons (ss_if (st_of (sw_or (st_not (st_tru (se_isi (T := "str") (se_var 0) rfl c.b_isinstance rfl c.b_str (by decide +kernel)))) (sw_or1 (st_not (st_chain op_le op_leP.d op_le op_leP.d (se_int) (se_callB call_len call_lenD rfl c.b_len (by decide +kernel) (sa_cons (se_var 0) (sa_nil))) (se_gInt rfl c.g_LONGEST)))))) (ss_cons (ss_ret (se_bl)) (ss_nil)) (ss_nil)) (ss_cons (ss_ret (se_callB (cr_all rfl) call_allP.d rfl c.b_all (by decide +kernel) (sa_cons (se_comp (own := [("sign", 1)]) rfl sc_is_name.nd (si_seq (se_var 0)) (show BlkOk N_is_name (defScope s_is_name) _ _ from ⟨by rfl, by decide +kernel, by decide +kernel, by decide +kernel, by decide +kernel⟩) (fun _ _ _ _ _ => sg_name (i := 1) sc_is_name.nd rfl (.inl rfl)) (fun _ _ _ _ _ => sts_nil) (fun _ _ _ _ _ => se_in hr (se_var 1) (se_gStr rfl c.g_LETTERS))) (sa_nil)))) (ss_nil))
theorem b_many_stores (c : Cfg K mg) : Binds K c.d_many_stores ["boxes"] [] := c.F_many_stores.bindsN fun _ _ _ _ _ _ us hl => match us, hl with | [_], _ => rfl
theorem ok_many_stores (c : Cfg K mg) : FnG P w K mg base (L2.CX P w) (0 + 1) c.f_many_stores c.d_many_stores ["boxes"] (spF K mg 1 F_many_stores) :=
  fn_okG c.F_many_stores sc_many_stores rfl fun cdv A outer s H E hr gd =>
  ss_cons (ss_set (i := 1) sc_many_stores.nd rfl (.inl rfl) (se_int)) (ss_cons (ss_for (passes_of rfl) rfl (si_seq (se_var 0)) (sg_tup (n := 3) rfl (sgs_cons (sg_name (i := 2) sc_many_stores.nd rfl (.inl rfl)) (sgs_cons (sg_name (i := 3) sc_many_stores.nd rfl (.inl rfl)) (sgs_cons (sg_name (i := 4) sc_many_stores.nd rfl (.inl rfl)) (sgs_nil))))) (sss_wp (ss_cons (ss_set (i := 1) sc_many_stores.nd rfl (.inl rfl) (se_mul (se_var 1) (se_var 3))) (ss_nil)))) (ss_cons (ss_ret (se_var 1)) (ss_nil)))
theorem b_first_store (c : Cfg K mg) : Binds K c.d_first_store ["boxes"] [] := c.F_first_store.bindsN fun _ _ _ _ _ _ us hl => match us, hl with | [_], _ => rfl
theorem ok_first_store (c : Cfg K mg) : FnG P w K mg base (L2.CX P w) (0 + 1) c.f_first_store c.d_first_store ["boxes"] (spF K mg 1 F_first_store) :=
  fn_okG c.F_first_store sc_first_store rfl fun cdv A outer s H E hr gd =>
  ss_cons (ss_ret (se_callTy call_tuple_of call_tupP.d rfl c.b_tuple (by decide +kernel) (sa_cons (se_comp (own := [("name", 1), ("worths", 2), ("first", 3)]) rfl sc_first_store.nd (si_seq (se_var 0)) (show BlkOk N_first_store (defScope s_first_store) _ _ from ⟨by rfl, by decide +kernel, by decide +kernel, by decide +kernel, by decide +kernel⟩) (fun _ _ _ _ _ => sg_tup (n := 3) rfl (sgs_cons (sg_name (i := 1) sc_first_store.nd rfl (.inl rfl)) (sgs_cons (sg_name (i := 2) sc_first_store.nd rfl (.inl rfl)) (sgs_cons (sg_name (i := 3) sc_first_store.nd rfl (.inl rfl)) (sgs_nil))))) (fun _ _ _ _ _ => sts_nil) (fun _ _ _ _ _ => se_var 3)) (sa_nil)))) (ss_nil)
theorem b_is_tuple (c : Cfg K mg) : Binds K c.d_is_tuple ["thing", "many"] [] := c.F_is_tuple.bindsN fun _ _ _ _ _ _ us hl => match us, hl with | [_, _], _ => rfl
theorem ok_is_tuple (c : Cfg K mg) : FnG P w K mg base (L2.CX P w) (0 + 1) c.f_is_tuple c.d_is_tuple ["thing", "many"] (spF K mg 2 F_is_tuple) :=
  fn_okG c.F_is_tuple sc_is_tuple rfl fun cdv A outer s H E hr gd =>
  ss_cons (ss_ret (se_and (se_isi (T := "tuple") (se_var 0) rfl c.b_isinstance rfl c.b_tuple (by decide +kernel)) (se_one (se_eq hr (se_callB call_len call_lenD rfl c.b_len (by decide +kernel) (sa_cons (se_var 0) (sa_nil))) (se_var 1))))) (ss_nil)
theorem b_is_box (c : Cfg K mg) : Binds K c.d_is_box ["thing"] [] := c.F_is_box.bindsN fun _ _ _ _ _ _ us hl => match us, hl with | [_], _ => rfl
theorem ok_is_box (c : Cfg K mg) : FnG P w K mg base (L2.CX P w) (2 + 1) c.f_is_box c.d_is_box ["thing"] (spF K mg 1 F_is_box) :=
  fn_okG c.F_is_box sc_is_box rfl fun cdv A outer s H E hr gd =>
  ss_cons (ss_if (st_of (sw_or (st_not (st_tru (se_callG (ok_is_tuple c) (takes_of rfl rfl rfl rfl) (hr.mono (by decide)) gd rfl c.g_is_tuple c.F_is_tuple.kp (b_is_tuple c) rfl (sa_cons (se_var 0) (sa_cons (se_int) (sa_nil))) (al_cons (al_cons (al_nil)))))) (sw_or (st_not (st_tru (se_callG (ok_is_name c) (takes_of rfl rfl rfl rfl) (hr.mono (by decide)) gd rfl c.g_is_name c.F_is_name.kp (b_is_name c) rfl (sa_cons (se_idx (se_var 0) (se_int) (fun _ _ => rfl)) (sa_nil)) (al_cons (al_nil))))) (sw_or1 (st_not (st_tru (se_callG (ok_is_within c) (takes_of rfl rfl rfl rfl) (hr.mono (by decide)) gd rfl c.g_is_within c.F_is_within.kp (b_is_within c) rfl (sa_cons (se_idx (se_var 0) (se_int) (fun _ _ => rfl)) (sa_cons (se_int) (sa_cons (se_add (se_gInt rfl c.g_MOST_WORTHS) (se_int)) (sa_nil)))) (al_cons (al_cons (al_cons (al_nil))))))))))) (ss_cons (ss_ret (se_bl)) (ss_nil)) (ss_nil)) (ss_cons (ss_ret (se_callG (ok_is_within c) (takes_of rfl rfl rfl rfl) (hr.mono (by decide)) gd rfl c.g_is_within c.F_is_within.kp (b_is_within c) rfl (sa_cons (se_idx (se_var 0) (se_int) (fun _ _ => rfl)) (sa_cons (se_int) (sa_cons (se_idx (se_var 0) (se_int) (fun _ _ => rfl)) (sa_nil)))) (al_cons (al_cons (al_cons (al_nil)))))) (ss_nil))
theorem b_look_at_boxes (c : Cfg K mg) : Binds K c.d_look_at_boxes ["boxes"] [] := c.F_look_at_boxes.bindsN fun _ _ _ _ _ _ us hl => match us, hl with | [_], _ => rfl
theorem ok_look_at_boxes (c : Cfg K mg) : FnG P w K mg base (L2.CX P w) (3 + 1) c.f_look_at_boxes c.d_look_at_boxes ["boxes"] (spF K mg 1 F_look_at_boxes) :=
  fn_okG c.F_look_at_boxes sc_look_at_boxes rfl fun cdv A outer s H E hr gd =>
  ss_cons (ss_if (st_not (st_chain op_le op_leP.d op_le op_leP.d (se_int) (se_callB call_len call_lenD rfl c.b_len (by decide +kernel) (sa_cons (se_var 0) (sa_nil))) (se_gInt rfl c.g_MOST_BOXES))) (ss_cons (ss_throw c.T_NoProgram c.iC_NoProgram c.tI_NoProgram (ok_init_NoProgram c) (hr.mono (by decide)) (bi_NoProgram c) (takes_of rfl rfl rfl rfl) rfl rfl c.g_NoProgram (sa_cons (se_str) (sa_cons (se_non) (sa_cons (se_non) (sa_nil)))) (al_cons (al_cons (al_cons (al_nil)))) (by decide)) (ss_nil)) (ss_nil)) (ss_cons (ss_for (passes_of rfl) rfl (si_enum rfl c.b_enumerate (se_var 0)) (sg_tup (n := 2) rfl (sgs_cons (sg_name (i := 1) sc_look_at_boxes.nd rfl (.inl rfl)) (sgs_cons (sg_name (i := 2) sc_look_at_boxes.nd rfl (.inl rfl)) (sgs_nil)))) (sss_wp (ss_cons (ss_if (st_of (sw_or (st_not (st_tru (se_callG (ok_is_box c) (takes_of rfl rfl rfl rfl) (hr.mono (by decide)) gd rfl c.g_is_box c.F_is_box.kp (b_is_box c) rfl (sa_cons (se_var 2) (sa_nil)) (al_cons (al_nil))))) (sw_or1 (st_in hr (se_idx (se_var 2) (se_int) (fun _ _ => rfl)) (se_comp (own := [("one", 3)]) rfl sc_look_at_boxes.nd (si_seq (se_slice (se_var 0) (ol := none) rfl (by exact ⟨_, rfl, se_var 1⟩))) (show BlkOk N_look_at_boxes (defScope s_look_at_boxes) _ _ from ⟨by rfl, by decide +kernel, by decide +kernel, by decide +kernel, by decide +kernel⟩) (fun _ _ _ _ _ => sg_name (i := 3) sc_look_at_boxes.nd rfl (.inl rfl)) (fun _ _ _ _ _ => sts_nil) (fun _ _ _ _ _ => se_idx (se_var 3) (se_int) (fun _ _ => rfl))))))) (ss_cons (ss_throw c.T_NoProgram c.iC_NoProgram c.tI_NoProgram (ok_init_NoProgram c) (hr.mono (by decide)) (bi_NoProgram c) (takes_of rfl rfl rfl rfl) rfl rfl c.g_NoProgram (sa_cons (se_str) (sa_cons (se_var 1) (sa_cons (se_non) (sa_nil)))) (al_cons (al_cons (al_cons (al_nil)))) (by decide)) (ss_nil)) (ss_nil)) (ss_cons (ss_if (st_gt (se_callG (ok_many_stores c) (takes_of rfl rfl rfl rfl) (hr.mono (by decide)) gd rfl c.g_many_stores c.F_many_stores.kp (b_many_stores c) rfl (sa_cons (se_slice (se_var 0) (ol := none) rfl (by exact ⟨_, rfl, se_add (se_var 1) (se_int)⟩)) (sa_nil)) (al_cons (al_nil))) (se_gInt rfl c.g_MOST_STORES)) (ss_cons (ss_throw c.T_NoProgram c.iC_NoProgram c.tI_NoProgram (ok_init_NoProgram c) (hr.mono (by decide)) (bi_NoProgram c) (takes_of rfl rfl rfl rfl) rfl rfl c.g_NoProgram (sa_cons (se_str) (sa_cons (se_var 1) (sa_cons (se_non) (sa_nil)))) (al_cons (al_cons (al_cons (al_nil)))) (by decide)) (ss_nil)) (ss_nil)) (ss_nil))))) (ss_nil))
theorem b_look_at_procs (c : Cfg K mg) : Binds K c.d_look_at_procs ["procs"] [] := c.F_look_at_procs.bindsN fun _ _ _ _ _ _ us hl => match us, hl with | [_], _ => rfl
theorem ok_look_at_procs (c : Cfg K mg) : FnG P w K mg base (L2.CX P w) (2 + 1) c.f_look_at_procs c.d_look_at_procs ["procs"] (spF K mg 1 F_look_at_procs) :=
  fn_okG c.F_look_at_procs sc_look_at_procs rfl fun cdv A outer s H E hr gd =>
  ss_cons (ss_if (st_not (st_chain op_le op_leP.d op_le op_leP.d (se_int) (se_callB call_len call_lenD rfl c.b_len (by decide +kernel) (sa_cons (se_var 0) (sa_nil))) (se_gInt rfl c.g_MOST_PROCS))) (ss_cons (ss_throw c.T_NoProgram c.iC_NoProgram c.tI_NoProgram (ok_init_NoProgram c) (hr.mono (by decide)) (bi_NoProgram c) (takes_of rfl rfl rfl rfl) rfl rfl c.g_NoProgram (sa_cons (se_str) (sa_cons (se_non) (sa_cons (se_non) (sa_nil)))) (al_cons (al_cons (al_cons (al_nil)))) (by decide)) (ss_nil)) (ss_nil)) (ss_cons (ss_for (passes_of rfl) rfl (si_enum rfl c.b_enumerate (se_var 0)) (sg_tup (n := 2) rfl (sgs_cons (sg_name (i := 1) sc_look_at_procs.nd rfl (.inl rfl)) (sgs_cons (sg_name (i := 2) sc_look_at_procs.nd rfl (.inl rfl)) (sgs_nil)))) (sss_wp (ss_cons (ss_if (st_of (sw_or (st_not (st_tru (se_callG (ok_is_tuple c) (takes_of rfl rfl rfl rfl) (hr.mono (by decide)) gd rfl c.g_is_tuple c.F_is_tuple.kp (b_is_tuple c) rfl (sa_cons (se_var 2) (sa_cons (se_int) (sa_nil))) (al_cons (al_cons (al_nil)))))) (sw_or (st_not (st_tru (se_callG (ok_is_name c) (takes_of rfl rfl rfl rfl) (hr.mono (by decide)) gd rfl c.g_is_name c.F_is_name.kp (b_is_name c) rfl (sa_cons (se_idx (se_var 2) (se_int) (fun _ _ => rfl)) (sa_nil)) (al_cons (al_nil))))) (sw_or1 (st_not (st_tru (se_isi (T := "list") (se_idx (se_var 2) (se_int) (fun _ _ => rfl)) rfl c.b_isinstance rfl c.b_list (by decide +kernel)))))))) (ss_cons (ss_throw c.T_NoProgram c.iC_NoProgram c.tI_NoProgram (ok_init_NoProgram c) (hr.mono (by decide)) (bi_NoProgram c) (takes_of rfl rfl rfl rfl) rfl rfl c.g_NoProgram (sa_cons (se_str) (sa_cons (se_var 1) (sa_cons (se_non) (sa_nil)))) (al_cons (al_cons (al_cons (al_nil)))) (by decide)) (ss_nil)) (ss_nil)) (ss_cons (ss_if (st_of (sw_or (st_not (st_chain op_le op_leP.d op_le op_leP.d (se_int) (se_callB call_len call_lenD rfl c.b_len (by decide +kernel) (sa_cons (se_idx (se_var 2) (se_int) (fun _ _ => rfl)) (sa_nil))) (se_gInt rfl c.g_MOST_ROWS))) (sw_or1 (st_in hr (se_idx (se_var 2) (se_int) (fun _ _ => rfl)) (se_comp (own := [("one", 3)]) rfl sc_look_at_procs.nd (si_seq (se_slice (se_var 0) (ol := none) rfl (by exact ⟨_, rfl, se_var 1⟩))) (show BlkOk N_look_at_procs (defScope s_look_at_procs) _ _ from ⟨by rfl, by decide +kernel, by decide +kernel, by decide +kernel, by decide +kernel⟩) (fun _ _ _ _ _ => sg_name (i := 3) sc_look_at_procs.nd rfl (.inl rfl)) (fun _ _ _ _ _ => sts_nil) (fun _ _ _ _ _ => se_idx (se_var 3) (se_int) (fun _ _ => rfl))))))) (ss_cons (ss_throw c.T_NoProgram c.iC_NoProgram c.tI_NoProgram (ok_init_NoProgram c) (hr.mono (by decide)) (bi_NoProgram c) (takes_of rfl rfl rfl rfl) rfl rfl c.g_NoProgram (sa_cons (se_str) (sa_cons (se_var 1) (sa_cons (se_non) (sa_nil)))) (al_cons (al_cons (al_cons (al_nil)))) (by decide)) (ss_nil)) (ss_nil)) (ss_nil))))) (ss_nil))
theorem b_worths_of (c : Cfg K mg) : Binds K c.d_worths_of ["boxes", "name"] [] := c.F_worths_of.bindsN fun _ _ _ _ _ _ us hl => match us, hl with | [_, _], _ => rfl
theorem ok_worths_of (c : Cfg K mg) : FnG P w K mg base (L2.CX P w) (0 + 1) c.f_worths_of c.d_worths_of ["boxes", "name"] (spF K mg 2 F_worths_of) :=
  fn_okG c.F_worths_of sc_worths_of rfl fun cdv A outer s H E hr gd =>
  ss_cons (ss_for (passes_of rfl) rfl (si_seq (se_var 0)) (sg_name (i := 2) sc_worths_of.nd rfl (.inl rfl)) (sss_wp (ss_cons (ss_if (st_of (sw_and (st_tru (se_isi (T := "str") (se_var 1) rfl c.b_isinstance rfl c.b_str (by decide +kernel))) (sw_and1 (st_eq hr (se_idx (se_var 2) (se_int) (fun _ _ => rfl)) (se_var 1))))) (ss_cons (ss_ret (se_idx (se_var 2) (se_int) (fun _ _ => rfl))) (ss_nil)) (ss_nil)) (ss_nil)))) (ss_cons (ss_ret (se_int)) (ss_nil))
theorem b_are_tos (c : Cfg K mg) : Binds K c.d_are_tos ["thing", "end"] [] := c.F_are_tos.bindsN fun _ _ _ _ _ _ us hl => match us, hl with | [_, _], _ => rfl
theorem ok_are_tos (c : Cfg K mg) : FnG P w K mg base (L2.CX P w) (2 + 1) c.f_are_tos c.d_are_tos ["thing", "end"] (spF K mg 2 F_are_tos) :=
  fn_okG c.F_are_tos sc_are_tos rfl fun cdv A outer s H E hr gd =>
  ss_cons (ss_ret (se_and (se_isi (T := "tuple") (se_var 0) rfl c.b_isinstance rfl c.b_tuple (by decide +kernel)) (se_one (se_callB (cr_all rfl) call_allP.d rfl c.b_all (by decide +kernel) (sa_cons (se_comp (own := [("to", 2)]) rfl sc_are_tos.nd (si_seq (se_var 0)) (show BlkOk N_are_tos (defScope s_are_tos) _ _ from ⟨by rfl, by decide +kernel, by decide +kernel, by decide +kernel, by decide +kernel⟩) (fun _ _ _ _ _ => sg_name (i := 2) sc_are_tos.nd rfl (.inl rfl)) (fun _ _ _ _ _ => sts_nil) (fun _ _ _ _ _ => se_callG (ok_is_within c) takes0 (hr.mono (by decide)) gd rfl c.g_is_within c.F_is_within.kp (b_is_within c) rfl (sa_cons (se_var 2) (sa_cons (se_int) (sa_cons (se_add (se_var 1) (se_int)) (sa_nil)))) (al_cons (al_cons (al_cons (al_nil)))))) (sa_nil)))))) (ss_nil)
theorem b_is_row_of_box (c : Cfg K mg) : Binds K c.d_is_row_of_box ["row", "worths", "end", "many_hands"] [] := c.F_is_row_of_box.bindsN fun _ _ _ _ _ _ us hl => match us, hl with | [_, _, _, _], _ => rfl
theorem ok_is_row_of_box (c : Cfg K mg) : FnG P w K mg base (L2.CX P w) (3 + 1) c.f_is_row_of_box c.d_is_row_of_box ["row", "worths", "end", "many_hands"] (spF K mg 4 F_is_row_of_box) :=
  fn_okG c.F_is_row_of_box sc_is_row_of_box rfl fun cdv A outer s H E hr gd =>
  ss_cons (ss_if (st_eq hr (se_var 1) (se_int)) (ss_cons (ss_ret (se_bl)) (ss_nil)) (ss_nil)) (ss_cons (ss_if (st_eq hr (se_idx (se_var 0) (se_int) (fun _ _ => rfl)) (se_str)) (ss_cons (ss_ret (se_and (se_eq hr (se_callB call_len call_lenD rfl c.b_len (by decide +kernel) (sa_cons (se_var 0) (sa_nil))) (se_int)) (se_and (se_callG (ok_is_within c) (takes_of rfl rfl rfl rfl) (hr.mono (by decide)) gd rfl c.g_is_within c.F_is_within.kp (b_is_within c) rfl (sa_cons (se_idx (se_var 0) (se_int) (fun _ _ => rfl)) (sa_cons (se_int) (sa_cons (se_var 1) (sa_nil)))) (al_cons (al_cons (al_cons (al_nil))))) (se_one (se_callG (ok_is_within c) (takes_of rfl rfl rfl rfl) (hr.mono (by decide)) gd rfl c.g_is_within c.F_is_within.kp (b_is_within c) rfl (sa_cons (se_idx (se_var 0) (se_int) (fun _ _ => rfl)) (sa_cons (se_int) (sa_cons (se_add (se_var 2) (se_int)) (sa_nil)))) (al_cons (al_cons (al_cons (al_nil))))))))) (ss_nil)) (ss_nil)) (ss_cons (ss_if (st_eq hr (se_idx (se_var 0) (se_int) (fun _ _ => rfl)) (se_str)) (ss_cons (ss_if (st_of (sw_or (st_ne hr (se_callB call_len call_lenD rfl c.b_len (by decide +kernel) (sa_cons (se_var 0) (sa_nil))) (se_int)) (sw_or (st_not (st_tru (se_callG (ok_is_within c) (takes_of rfl rfl rfl rfl) (hr.mono (by decide)) gd rfl c.g_is_within c.F_is_within.kp (b_is_within c) rfl (sa_cons (se_idx (se_var 0) (se_int) (fun _ _ => rfl)) (sa_cons (se_int) (sa_cons (se_var 1) (sa_nil)))) (al_cons (al_cons (al_cons (al_nil))))))) (sw_or1 (st_not (st_tru (se_callG (ok_is_within c) (takes_of rfl rfl rfl rfl) (hr.mono (by decide)) gd rfl c.g_is_within c.F_is_within.kp (b_is_within c) rfl (sa_cons (se_idx (se_var 0) (se_int) (fun _ _ => rfl)) (sa_cons (se_int) (sa_cons (se_var 1) (sa_nil)))) (al_cons (al_cons (al_cons (al_nil))))))))))) (ss_cons (ss_ret (se_bl)) (ss_nil)) (ss_nil)) (ss_cons (ss_ret (se_callG (ok_is_within c) (takes_of rfl rfl rfl rfl) (hr.mono (by decide)) gd rfl c.g_is_within c.F_is_within.kp (b_is_within c) rfl (sa_cons (se_idx (se_var 0) (se_int) (fun _ _ => rfl)) (sa_cons (se_int) (sa_cons (se_add (se_var 2) (se_int)) (sa_nil)))) (al_cons (al_cons (al_cons (al_nil)))))) (ss_nil))) (ss_nil)) (ss_cons (ss_if (st_eq hr (se_idx (se_var 0) (se_int) (fun _ _ => rfl)) (se_str)) (ss_cons (ss_if (st_of (sw_or (st_not (st_tru (se_callG (ok_is_tuple c) (takes_of rfl rfl rfl rfl) (hr.mono (by decide)) gd rfl c.g_is_tuple c.F_is_tuple.kp (b_is_tuple c) rfl (sa_cons (se_idx (se_var 0) (se_int) (fun _ _ => rfl)) (sa_cons (se_var 1) (sa_nil))) (al_cons (al_cons (al_nil)))))) (sw_or1 (st_ne hr (se_callB call_len call_lenD rfl c.b_len (by decide +kernel) (sa_cons (se_var 0) (sa_nil))) (se_int))))) (ss_cons (ss_ret (se_bl)) (ss_nil)) (ss_nil)) (ss_cons (ss_ret (se_callG (ok_are_tos c) (takes_of rfl rfl rfl rfl) (hr.mono (by decide)) gd rfl c.g_are_tos c.F_are_tos.kp (b_are_tos c) rfl (sa_cons (se_callTy call_tuple_of call_tupP.d rfl c.b_tuple (by decide +kernel) (sa_cons (se_comp (own := [("to", 4)]) rfl sc_is_row_of_box.nd (si_seq (se_idx (se_var 0) (se_int) (fun _ _ => rfl))) (show BlkOk N_is_row_of_box (defScope s_is_row_of_box) _ _ from ⟨by rfl, by decide +kernel, by decide +kernel, by decide +kernel, by decide +kernel⟩) (fun _ _ _ _ _ => sg_name (i := 4) sc_is_row_of_box.nd rfl (.inl rfl)) (fun _ _ _ _ _ => sts_one (st_nisN (se_var 4) (se_non))) (fun _ _ _ _ _ => se_var 4)) (sa_nil))) (sa_cons (se_var 2) (sa_nil))) (al_cons (al_cons (al_nil))))) (ss_nil))) (ss_nil)) (ss_cons (ss_ret (se_and (se_eq hr (se_callB call_len call_lenD rfl c.b_len (by decide +kernel) (sa_cons (se_var 0) (sa_nil))) (se_int)) (se_and (se_gt (se_var 1) (se_var 3)) (se_one (se_callG (ok_is_within c) (takes_of rfl rfl rfl rfl) (hr.mono (by decide)) gd rfl c.g_is_within c.F_is_within.kp (b_is_within c) rfl (sa_cons (se_idx (se_var 0) (se_int) (fun _ _ => rfl)) (sa_cons (se_int) (sa_cons (se_add (se_var 2) (se_int)) (sa_nil)))) (al_cons (al_cons (al_cons (al_nil))))))))) (ss_nil)))))
theorem b_is_row (c : Cfg K mg) : Binds K c.d_is_row ["row", "program", "end"] [] := c.F_is_row.bindsN fun _ _ _ _ _ _ us hl => match us, hl with | [_, _, _], _ => rfl
theorem ok_is_row (c : Cfg K mg) : FnG P w K mg base (L2.CX P w) (4 + 1) c.f_is_row c.d_is_row ["row", "program", "end"] (spF K mg 3 F_is_row) :=
  fn_okG c.F_is_row sc_is_row rfl fun cdv A outer s H E hr gd =>
  ss_cons (ss_asg (se_var 1) (sg_tup (n := 3) rfl (sgs_cons (sg_name (i := 3) sc_is_row.nd rfl (.inl rfl)) (sgs_cons (sg_name (i := 4) sc_is_row.nd rfl (.inl rfl)) (sgs_cons (sg_name (i := 5) sc_is_row.nd rfl (.inl rfl)) (sgs_nil)))))) (ss_cons (ss_if (st_of (sw_or (st_not (st_tru (se_isi (T := "tuple") (se_var 0) rfl c.b_isinstance rfl c.b_tuple (by decide +kernel)))) (sw_or (st_lt (se_callB call_len call_lenD rfl c.b_len (by decide +kernel) (sa_cons (se_var 0) (sa_nil))) (se_int)) (sw_or1 (st_not (st_tru (se_isi (T := "str") (se_idx (se_var 0) (se_int) (fun _ _ => rfl)) rfl c.b_isinstance rfl c.b_str (by decide +kernel)))))))) (ss_cons (ss_ret (se_bl)) (ss_nil)) (ss_nil)) (ss_cons (ss_if (st_eq hr (se_idx (se_var 0) (se_int) (fun _ _ => rfl)) (se_str)) (ss_cons (ss_ret (se_and (se_eq hr (se_callB call_len call_lenD rfl c.b_len (by decide +kernel) (sa_cons (se_var 0) (sa_nil))) (se_int)) (se_and (se_callG (ok_are_tos c) (takes_of rfl rfl rfl rfl) (hr.mono (by decide)) gd rfl c.g_are_tos c.F_are_tos.kp (b_are_tos c) rfl (sa_cons (se_idx (se_var 0) (se_int) (fun _ _ => rfl)) (sa_cons (se_var 2) (sa_nil))) (al_cons (al_cons (al_nil)))) (se_one (se_chain op_le op_leP.d op_le op_leP.d (se_int) (se_callB call_len call_lenD rfl c.b_len (by decide +kernel) (sa_cons (se_idx (se_var 0) (se_int) (fun _ _ => rfl)) (sa_nil))) (se_gInt rfl c.g_MOST_WAYS)))))) (ss_nil)) (ss_nil)) (ss_cons (ss_if (st_eq hr (se_idx (se_var 0) (se_int) (fun _ _ => rfl)) (se_str)) (ss_cons (ss_setLc (own := [("proc", 7)]) (i := 6) rfl sc_is_row.nd rfl rfl (sw_true rfl rfl rfl (by decide +kernel)) (si_seq (se_var 4)) (show BlkOk N_is_row (defScope s_is_row) _ _ from ⟨by rfl, by decide +kernel, by decide +kernel, by decide +kernel, by decide +kernel⟩) (fun _ _ _ _ _ => sg_name (i := 7) sc_is_row.nd rfl (.inl rfl)) (fun _ _ _ _ _ => sts_one (st_of (sw_and (st_tru (se_isi (T := "str") (se_idx (se_var 0) (se_int) (fun _ _ => rfl)) rfl c.b_isinstance rfl c.b_str (by decide +kernel))) (sw_and1 (st_eq hr (se_idx (se_var 7) (se_int) (fun _ _ => rfl)) (se_idx (se_var 0) (se_int) (fun _ _ => rfl))))))) (fun _ _ _ _ _ => se_idx (se_var 7) (se_int) (fun _ _ => rfl))) (ss_cons (ss_ret (se_and (se_eq hr (se_callB call_len call_lenD rfl c.b_len (by decide +kernel) (sa_cons (se_var 0) (sa_nil))) (se_int)) (se_and (se_ne hr (se_var 6) (se_lst (sa_nil))) (se_one (se_callG (ok_is_within c) (takes_of rfl rfl rfl rfl) (hr.mono (by decide)) gd rfl c.g_is_within c.F_is_within.kp (b_is_within c) rfl (sa_cons (se_idx (se_var 0) (se_int) (fun _ _ => rfl)) (sa_cons (se_int) (sa_cons (se_add (se_var 2) (se_int)) (sa_nil)))) (al_cons (al_cons (al_cons (al_nil))))))))) (ss_nil))) (ss_nil)) (ss_cons (ss_if (st_of (sw_or (st_nin hr (se_idx (se_var 0) (se_int) (fun _ _ => rfl)) (se_tup (sa_cons (se_str) (sa_cons (se_str) (sa_cons (se_str) (sa_cons (se_str) (sa_cons (se_str) (sa_nil)))))))) (sw_or1 (st_lt (se_callB call_len call_lenD rfl c.b_len (by decide +kernel) (sa_cons (se_var 0) (sa_nil))) (se_int))))) (ss_cons (ss_ret (se_bl)) (ss_nil)) (ss_nil)) (ss_cons (ss_ret (se_callG (ok_is_row_of_box c) (takes_of rfl rfl rfl rfl) (hr.mono (by decide)) gd rfl c.g_is_row_of_box c.F_is_row_of_box.kp (b_is_row_of_box c) rfl (sa_cons (se_var 0) (sa_cons (se_callG (ok_worths_of c) (takes_of rfl rfl rfl rfl) (hr.mono (by decide)) gd rfl c.g_worths_of c.F_worths_of.kp (b_worths_of c) rfl (sa_cons (se_var 3) (sa_cons (se_idx (se_var 0) (se_int) (fun _ _ => rfl)) (sa_nil))) (al_cons (al_cons (al_nil)))) (sa_cons (se_var 2) (sa_cons (se_callB call_len call_lenD rfl c.b_len (by decide +kernel) (sa_cons (se_var 5) (sa_nil))) (sa_nil))))) (al_cons (al_cons (al_cons (al_cons (al_nil))))))) (ss_nil))))))
theorem b_look_at_rows (c : Cfg K mg) : Binds K c.d_look_at_rows ["program"] [] := c.F_look_at_rows.bindsN fun _ _ _ _ _ _ us hl => match us, hl with | [_], _ => rfl
theorem ok_look_at_rows (c : Cfg K mg) : FnG P w K mg base (L2.CX P w) (5 + 1) c.f_look_at_rows c.d_look_at_rows ["program"] (spF K mg 1 F_look_at_rows) :=
  fn_okG c.F_look_at_rows sc_look_at_rows rfl fun cdv A outer s H E hr gd =>
  ss_cons (ss_for (passes_of rfl) rfl (si_enum rfl c.b_enumerate (se_idx (se_var 0) (se_int) (fun _ _ => rfl))) (sg_tup (n := 2) rfl (sgs_cons (sg_name (i := 1) sc_look_at_rows.nd rfl (.inl rfl)) (sgs_cons (sg_name (i := 2) sc_look_at_rows.nd rfl (.inl rfl)) (sgs_nil)))) (sss_wp (ss_cons (ss_for (passes_of rfl) rfl (si_enum rfl c.b_enumerate (se_idx (se_var 2) (se_int) (fun _ _ => rfl))) (sg_tup (n := 2) rfl (sgs_cons (sg_name (i := 3) sc_look_at_rows.nd rfl (.inl rfl)) (sgs_cons (sg_name (i := 4) sc_look_at_rows.nd rfl (.inl rfl)) (sgs_nil)))) (sss_wp (ss_cons (ss_if (st_not (st_tru (se_callG (ok_is_row c) (takes_of rfl rfl rfl rfl) (hr.mono (by decide)) gd rfl c.g_is_row c.F_is_row.kp (b_is_row c) rfl (sa_cons (se_var 4) (sa_cons (se_var 0) (sa_cons (se_callB call_len call_lenD rfl c.b_len (by decide +kernel) (sa_cons (se_idx (se_var 2) (se_int) (fun _ _ => rfl)) (sa_nil))) (sa_nil)))) (al_cons (al_cons (al_cons (al_nil))))))) (ss_cons (ss_throw c.T_NoProgram c.iC_NoProgram c.tI_NoProgram (ok_init_NoProgram c) (hr.mono (by decide)) (bi_NoProgram c) (takes_of rfl rfl rfl rfl) rfl rfl c.g_NoProgram (sa_cons (se_str) (sa_cons (se_var 1) (sa_cons (se_var 3) (sa_nil)))) (al_cons (al_cons (al_cons (al_nil)))) (by decide)) (ss_nil)) (ss_nil)) (ss_nil)))) (ss_nil)))) (ss_nil)
theorem b_look_at_hands (c : Cfg K mg) : Binds K c.d_look_at_hands ["hands", "procs"] [] := c.F_look_at_hands.bindsN fun _ _ _ _ _ _ us hl => match us, hl with | [_, _], _ => rfl
theorem ok_look_at_hands (c : Cfg K mg) : FnG P w K mg base (L2.CX P w) (2 + 1) c.f_look_at_hands c.d_look_at_hands ["hands", "procs"] (spF K mg 2 F_look_at_hands) :=
  fn_okG c.F_look_at_hands sc_look_at_hands rfl fun cdv A outer s H E hr gd =>
  ss_cons (ss_if (st_not (st_chain op_le op_leP.d op_le op_leP.d (se_int) (se_callB call_len call_lenD rfl c.b_len (by decide +kernel) (sa_cons (se_var 0) (sa_nil))) (se_gInt rfl c.g_MOST_HANDS))) (ss_cons (ss_throw c.T_NoProgram c.iC_NoProgram c.tI_NoProgram (ok_init_NoProgram c) (hr.mono (by decide)) (bi_NoProgram c) (takes_of rfl rfl rfl rfl) rfl rfl c.g_NoProgram (sa_cons (se_str) (sa_cons (se_non) (sa_cons (se_non) (sa_nil)))) (al_cons (al_cons (al_cons (al_nil)))) (by decide)) (ss_nil)) (ss_nil)) (ss_cons (ss_setLc (own := [("proc", 5)]) (i := 2) rfl sc_look_at_hands.nd rfl rfl (sw_true rfl rfl rfl (by decide +kernel)) (si_seq (se_var 1)) (show BlkOk N_look_at_hands (defScope s_look_at_hands) _ _ from ⟨by rfl, by decide +kernel, by decide +kernel, by decide +kernel, by decide +kernel⟩) (fun _ _ _ _ _ => sg_name (i := 5) sc_look_at_hands.nd rfl (.inl rfl)) (fun _ _ _ _ _ => sts_nil) (fun _ _ _ _ _ => se_idx (se_var 5) (se_int) (fun _ _ => rfl))) (ss_cons (ss_for (passes_of rfl) rfl (si_enum rfl c.b_enumerate (se_var 0)) (sg_tup (n := 2) rfl (sgs_cons (sg_name (i := 3) sc_look_at_hands.nd rfl (.inl rfl)) (sgs_cons (sg_name (i := 4) sc_look_at_hands.nd rfl (.inl rfl)) (sgs_nil)))) (sss_wp (ss_cons (ss_if (st_of (sw_or (st_not (st_tru (se_callG (ok_is_tuple c) (takes_of rfl rfl rfl rfl) (hr.mono (by decide)) gd rfl c.g_is_tuple c.F_is_tuple.kp (b_is_tuple c) rfl (sa_cons (se_var 4) (sa_cons (se_int) (sa_nil))) (al_cons (al_cons (al_nil)))))) (sw_or (st_not (st_tru (se_callG (ok_is_name c) (takes_of rfl rfl rfl rfl) (hr.mono (by decide)) gd rfl c.g_is_name c.F_is_name.kp (b_is_name c) rfl (sa_cons (se_idx (se_var 4) (se_int) (fun _ _ => rfl)) (sa_nil)) (al_cons (al_nil))))) (sw_or (st_not (st_tru (se_callG (ok_is_name c) (takes_of rfl rfl rfl rfl) (hr.mono (by decide)) gd rfl c.g_is_name c.F_is_name.kp (b_is_name c) rfl (sa_cons (se_idx (se_var 4) (se_int) (fun _ _ => rfl)) (sa_nil)) (al_cons (al_nil))))) (sw_or1 (st_nin hr (se_idx (se_var 4) (se_int) (fun _ _ => rfl)) (se_var 2))))))) (ss_cons (ss_throw c.T_NoProgram c.iC_NoProgram c.tI_NoProgram (ok_init_NoProgram c) (hr.mono (by decide)) (bi_NoProgram c) (takes_of rfl rfl rfl rfl) rfl rfl c.g_NoProgram (sa_cons (se_str) (sa_cons (se_var 3) (sa_cons (se_non) (sa_nil)))) (al_cons (al_cons (al_cons (al_nil)))) (by decide)) (ss_nil)) (ss_nil)) (ss_cons (ss_if (st_in hr (se_idx (se_var 4) (se_int) (fun _ _ => rfl)) (se_comp (own := [("one", 6)]) rfl sc_look_at_hands.nd (si_seq (se_slice (se_var 0) (ol := none) rfl (by exact ⟨_, rfl, se_var 3⟩))) (show BlkOk N_look_at_hands (defScope s_look_at_hands) _ _ from ⟨by rfl, by decide +kernel, by decide +kernel, by decide +kernel, by decide +kernel⟩) (fun _ _ _ _ _ => sg_name (i := 6) sc_look_at_hands.nd rfl (.inl rfl)) (fun _ _ _ _ _ => sts_nil) (fun _ _ _ _ _ => se_idx (se_var 6) (se_int) (fun _ _ => rfl)))) (ss_cons (ss_throw c.T_NoProgram c.iC_NoProgram c.tI_NoProgram (ok_init_NoProgram c) (hr.mono (by decide)) (bi_NoProgram c) (takes_of rfl rfl rfl rfl) rfl rfl c.g_NoProgram (sa_cons (se_str) (sa_cons (se_var 3) (sa_cons (se_non) (sa_nil)))) (al_cons (al_cons (al_cons (al_nil)))) (by decide)) (ss_nil)) (ss_nil)) (ss_nil))))) (ss_nil)))
theorem b_look_at (c : Cfg K mg) : Binds K c.d_look_at ["thing"] [] := c.F_look_at.bindsN fun _ _ _ _ _ _ us hl => match us, hl with | [_], _ => rfl
theorem ok_look_at (c : Cfg K mg) : FnG P w K mg base (L2.CX P w) (6 + 1) c.f_look_at c.d_look_at ["thing"] (spF K mg 1 F_look_at) :=
  fn_okG c.F_look_at sc_look_at rfl fun cdv A outer s H E hr gd =>
  ss_cons (ss_if (st_of (sw_or (st_not (st_tru (se_callG (ok_is_tuple c) (takes_of rfl rfl rfl rfl) (hr.mono (by decide)) gd rfl c.g_is_tuple c.F_is_tuple.kp (b_is_tuple c) rfl (sa_cons (se_var 0) (sa_cons (se_int) (sa_nil))) (al_cons (al_cons (al_nil)))))) (sw_or1 (st_not (st_tru (se_callB (cr_all rfl) call_allP.d rfl c.b_all (by decide +kernel) (sa_cons (se_comp (own := [("part", 1)]) rfl sc_look_at.nd (si_seq (se_var 0)) (show BlkOk N_look_at (defScope s_look_at) _ _ from ⟨by rfl, by decide +kernel, by decide +kernel, by decide +kernel, by decide +kernel⟩) (fun _ _ _ _ _ => sg_name (i := 1) sc_look_at.nd rfl (.inl rfl)) (fun _ _ _ _ _ => sts_nil) (fun _ _ _ _ _ => se_isi (T := "list") (se_var 1) rfl c.b_isinstance rfl c.b_list (by decide +kernel))) (sa_nil)))))))) (ss_cons (ss_throw c.T_NoProgram c.iC_NoProgram c.tI_NoProgram (ok_init_NoProgram c) (hr.mono (by decide)) (bi_NoProgram c) (takes_of rfl rfl rfl rfl) rfl rfl c.g_NoProgram (sa_cons (se_str) (sa_cons (se_non) (sa_cons (se_non) (sa_nil)))) (al_cons (al_cons (al_cons (al_nil)))) (by decide)) (ss_nil)) (ss_nil)) (ss_cons (ss_expr (se_callG (ok_look_at_boxes c) (takes_of rfl rfl rfl rfl) (hr.mono (by decide)) gd rfl c.g_look_at_boxes c.F_look_at_boxes.kp (b_look_at_boxes c) rfl (sa_cons (se_idx (se_var 0) (se_int) (fun _ _ => rfl)) (sa_nil)) (al_cons (al_nil)))) (ss_cons (ss_expr (se_callG (ok_look_at_procs c) (takes_of rfl rfl rfl rfl) (hr.mono (by decide)) gd rfl c.g_look_at_procs c.F_look_at_procs.kp (b_look_at_procs c) rfl (sa_cons (se_idx (se_var 0) (se_int) (fun _ _ => rfl)) (sa_nil)) (al_cons (al_nil)))) (ss_cons (ss_expr (se_callG (ok_look_at_rows c) (takes_of rfl rfl rfl rfl) (hr.mono (by decide)) gd rfl c.g_look_at_rows c.F_look_at_rows.kp (b_look_at_rows c) rfl (sa_cons (se_var 0) (sa_nil)) (al_cons (al_nil)))) (ss_cons (ss_expr (se_callG (ok_look_at_hands c) (takes_of rfl rfl rfl rfl) (hr.mono (by decide)) gd rfl c.g_look_at_hands c.F_look_at_hands.kp (b_look_at_hands c) rfl (sa_cons (se_idx (se_var 0) (se_int) (fun _ _ => rfl)) (sa_cons (se_idx (se_var 0) (se_int) (fun _ _ => rfl)) (sa_nil))) (al_cons (al_cons (al_nil))))) (ss_nil)))))
theorem b_number_by (c : Cfg K mg) : Binds K c.d_number_by ["rows", "name"] [] := c.F_number_by.bindsN fun _ _ _ _ _ _ us hl => match us, hl with | [_, _], _ => rfl
theorem ok_number_by (c : Cfg K mg) : FnG P w K mg base (L2.CX P w) (0 + 1) c.f_number_by c.d_number_by ["rows", "name"] (spF K mg 2 F_number_by) :=
  fn_okG c.F_number_by sc_number_by rfl fun cdv A outer s H E hr gd =>
  ss_cons (ss_ret (se_bm (.inl rfl) PySem.F.plainAttrs_list PySem.F.slot_list_index PySem.F.type_list_index (mt_indexD (u65 hr)) mt_indexP.d (se_comp (own := [("row", 2)]) rfl sc_number_by.nd (si_seq (se_var 0)) (show BlkOk N_number_by (defScope s_number_by) _ _ from ⟨by rfl, by decide +kernel, by decide +kernel, by decide +kernel, by decide +kernel⟩) (fun _ _ _ _ _ => sg_name (i := 2) sc_number_by.nd rfl (.inl rfl)) (fun _ _ _ _ _ => sts_nil) (fun _ _ _ _ _ => se_idx (se_var 2) (se_int) (fun _ _ => rfl))) (sa_cons (se_var 1) (sa_nil)))) (ss_nil)
theorem b_begun (c : Cfg K mg) : Binds K c.d_begun ["program"] [] := c.F_begun.bindsN fun _ _ _ _ _ _ us hl => match us, hl with | [_], _ => rfl
theorem ok_begun (c : Cfg K mg) : FnG P w K mg base (L2.CX P w) (1 + 1) c.f_begun c.d_begun ["program"] (spF K mg 1 F_begun) :=
  fn_okG c.F_begun sc_begun rfl fun cdv A outer s H E hr gd =>
  ss_cons (ss_set (i := 1) sc_begun.nd rfl (.inl rfl) (se_callTy call_tuple_of call_tupP.d rfl c.b_tuple (by decide +kernel) (sa_cons (se_comp (own := [("name", 2), ("proc", 3)]) rfl sc_begun.nd (si_seq (se_idx (se_var 0) (se_int) (fun _ _ => rfl))) (show BlkOk N_begun (defScope s_begun) _ _ from ⟨by rfl, by decide +kernel, by decide +kernel, by decide +kernel, by decide +kernel⟩) (fun _ _ _ _ _ => sg_tup (n := 2) rfl (sgs_cons (sg_name (i := 2) sc_begun.nd rfl (.inl rfl)) (sgs_cons (sg_name (i := 3) sc_begun.nd rfl (.inl rfl)) (sgs_nil)))) (fun _ _ _ _ _ => sts_nil) (fun _ _ _ _ _ => se_tup (sa_cons (se_tup (sa_cons (se_callG (ok_number_by c) takes0 (hr.mono (by decide)) gd rfl c.g_number_by c.F_number_by.kp (b_number_by c) rfl (sa_cons (se_idx (se_var 0) (se_int) (fun _ _ => rfl)) (sa_cons (se_var 3) (sa_nil))) (al_cons (al_cons (al_nil)))) (sa_cons (se_int) (sa_nil)))) (sa_nil)))) (sa_nil)))) (ss_cons (ss_ret (se_tup (sa_cons (se_callG (ok_first_store c) (takes_of rfl rfl rfl rfl) (hr.mono (by decide)) gd rfl c.g_first_store c.F_first_store.kp (b_first_store c) rfl (sa_cons (se_idx (se_var 0) (se_int) (fun _ _ => rfl)) (sa_nil)) (al_cons (al_nil))) (sa_cons (se_var 1) (sa_nil))))) (ss_nil))
theorem b_row_at (c : Cfg K mg) : Binds K c.d_row_at ["program", "pile"] [] := c.F_row_at.bindsN fun _ _ _ _ _ _ us hl => match us, hl with | [_, _], _ => rfl
theorem ok_row_at (c : Cfg K mg) : FnG P w K mg base (L2.CX P w) (0 + 1) c.f_row_at c.d_row_at ["program", "pile"] (spF K mg 2 F_row_at) :=
  fn_okG c.F_row_at sc_row_at rfl fun cdv A outer s H E hr gd =>
  ss_cons (ss_asg (se_idx (se_var 1) (se_neg (se_int)) (fun _ _ => rfl)) (sg_tup (n := 2) rfl (sgs_cons (sg_name (i := 2) sc_row_at.nd rfl (.inl rfl)) (sgs_cons (sg_name (i := 3) sc_row_at.nd rfl (.inl rfl)) (sgs_nil))))) (ss_cons (ss_ret (se_idx (se_idx (se_idx (se_idx (se_var 0) (se_int) (fun _ _ => rfl)) (se_var 2) (fun _ _ => rfl)) (se_int) (fun _ _ => rfl)) (se_var 3) (fun _ _ => rfl))) (ss_nil))
theorem b_waits (c : Cfg K mg) : Binds K c.d_waits ["program", "row", "holds", "hand"] [] := c.F_waits.bindsN fun _ _ _ _ _ _ us hl => match us, hl with | [_, _, _, _], _ => rfl
theorem ok_waits (c : Cfg K mg) : FnG P w K mg base (L2.CX P w) (0 + 1) c.f_waits c.d_waits ["program", "row", "holds", "hand"] (spF K mg 4 F_waits) :=
  fn_okG c.F_waits sc_waits rfl fun cdv A outer s H E hr gd =>
  ss_cons (ss_if (st_eq hr (se_idx (se_var 1) (se_int) (fun _ _ => rfl)) (se_str)) (ss_cons (ss_ret (se_ne hr (se_var 2) (se_idx (se_var 1) (se_int) (fun _ _ => rfl)))) (ss_nil)) (ss_nil)) (ss_cons (ss_if (st_eq hr (se_idx (se_var 1) (se_int) (fun _ _ => rfl)) (se_str)) (ss_cons (ss_ret (se_isN (se_idx (se_idx (se_var 1) (se_int) (fun _ _ => rfl)) (se_var 2) (fun _ _ => rfl)) (se_non))) (ss_nil)) (ss_nil)) (ss_cons (ss_if (st_eq hr (se_idx (se_var 1) (se_int) (fun _ _ => rfl)) (se_str)) (ss_cons (ss_ret (se_ne hr (se_var 2) (se_int))) (ss_nil)) (ss_nil)) (ss_cons (ss_if (st_eq hr (se_idx (se_var 1) (se_int) (fun _ _ => rfl)) (se_str)) (ss_cons (ss_ret (se_ne hr (se_var 2) (se_add (se_var 3) (se_int)))) (ss_nil)) (ss_nil)) (ss_cons (ss_ret (se_bl)) (ss_nil)))))
theorem b_choices (c : Cfg K mg) : Binds K c.d_choices ["program", "state", "hand"] [] := c.F_choices.bindsN fun _ _ _ _ _ _ us hl => match us, hl with | [_, _, _], _ => rfl
theorem ok_choices (c : Cfg K mg) : FnG P w K mg base (L2.CX P w) (1 + 1) c.f_choices c.d_choices ["program", "state", "hand"] (spF K mg 3 F_choices) :=
  fn_okG c.F_choices sc_choices rfl fun cdv A outer s H E hr gd =>
  ss_cons (ss_asg (se_var 1) (sg_tup (n := 2) rfl (sgs_cons (sg_name (i := 3) sc_choices.nd rfl (.inl rfl)) (sgs_cons (sg_name (i := 4) sc_choices.nd rfl (.inl rfl)) (sgs_nil))))) (ss_cons (ss_if (st_eq hr (se_idx (se_var 4) (se_var 2) (fun _ _ => rfl)) (se_tup (sa_nil))) (ss_cons (ss_ret (se_lst (sa_nil))) (ss_nil)) (ss_nil)) (ss_cons (ss_set (i := 5) sc_choices.nd rfl (.inl rfl) (se_callG (ok_row_at c) (takes_of rfl rfl rfl rfl) (hr.mono (by decide)) gd rfl c.g_row_at c.F_row_at.kp (b_row_at c) rfl (sa_cons (se_var 0) (sa_cons (se_idx (se_var 4) (se_var 2) (fun _ _ => rfl)) (sa_nil))) (al_cons (al_cons (al_nil))))) (ss_cons (ss_if (st_eq hr (se_idx (se_var 5) (se_int) (fun _ _ => rfl)) (se_str)) (ss_cons (ss_ret (se_lstRg rfl rfl c.b_list rfl c.b_range (se_callB call_len call_lenD rfl c.b_len (by decide +kernel) (sa_cons (se_idx (se_var 5) (se_int) (fun _ _ => rfl)) (sa_nil))))) (ss_nil)) (ss_nil)) (ss_cons (ss_if (st_of (sw_and (st_ne hr (se_idx (se_var 5) (se_int) (fun _ _ => rfl)) (se_str)) (sw_and1 (st_tru (se_callG (ok_waits c) (takes_of rfl rfl rfl rfl) (hr.mono (by decide)) gd rfl c.g_waits c.F_waits.kp (b_waits c) rfl (sa_cons (se_var 0) (sa_cons (se_var 5) (sa_cons (se_idx (se_var 3) (se_callG (ok_number_by c) (takes_of rfl rfl rfl rfl) (hr.mono (by decide)) gd rfl c.g_number_by c.F_number_by.kp (b_number_by c) rfl (sa_cons (se_idx (se_var 0) (se_int) (fun _ _ => rfl)) (sa_cons (se_idx (se_var 5) (se_int) (fun _ _ => rfl)) (sa_nil))) (al_cons (al_cons (al_nil)))) (fun _ _ => rfl)) (sa_cons (se_var 2) (sa_nil))))) (al_cons (al_cons (al_cons (al_cons (al_nil)))))))))) (ss_cons (ss_ret (se_lst (sa_nil))) (ss_nil)) (ss_nil)) (ss_cons (ss_ret (se_lst (sa_cons (se_int) (sa_nil)))) (ss_nil))))))
theorem b_Loom__init (c : Cfg K mg) : Binds K c.d_Loom__init ["self", "program"] [] := c.F_Loom__init.bindsN fun _ _ _ _ _ _ us hl => match us, hl with | [_, _], _ => rfl
theorem ok_Loom__init (c : Cfg K mg) : FnG P w K mg base (L2.CX P w) (7 + 1) c.f_Loom__init c.d_Loom__init ["self", "program"] (spF K mg 2 F_Loom__init) :=
  fn_okG c.F_Loom__init sc_Loom__init rfl fun cdv A outer s H E hr gd =>
  ss_cons (ss_expr (se_callG (ok_look_at c) (takes_of rfl rfl rfl rfl) (hr.mono (by decide)) gd rfl c.g_look_at c.F_look_at.kp (b_look_at c) rfl (sa_cons (se_var 1) (sa_nil)) (al_cons (al_nil)))) (ss_cons (ss_asg (se_var 1) (sg_tup (n := 3) rfl (sgs_cons (sg_name (i := 2) sc_Loom__init.nd rfl (.inl rfl)) (sgs_cons (sg_name (i := 3) sc_Loom__init.nd rfl (.inl rfl)) (sgs_cons (sg_name (i := 4) sc_Loom__init.nd rfl (.inl rfl)) (sgs_nil)))))) (ss_cons (ss_fldC c.O_Loom c.n_Loom__program (se_var 0) (se_tup (sa_cons (se_callTy (call_listA rfl) call_lstA.d rfl c.b_list (by decide +kernel) (sa_cons (se_var 2) (sa_nil))) (sa_cons (se_comp (own := [("name", 5), ("rows", 6)]) rfl sc_Loom__init.nd (si_seq (se_var 3)) (show BlkOk N_Loom__init (defScope s_Loom__init) _ _ from ⟨by rfl, by decide +kernel, by decide +kernel, by decide +kernel, by decide +kernel⟩) (fun _ _ _ _ _ => sg_tup (n := 2) rfl (sgs_cons (sg_name (i := 5) sc_Loom__init.nd rfl (.inl rfl)) (sgs_cons (sg_name (i := 6) sc_Loom__init.nd rfl (.inl rfl)) (sgs_nil)))) (fun _ _ _ _ _ => sts_nil) (fun _ _ _ _ _ => se_tup (sa_cons (se_var 5) (sa_cons (se_callTy (call_listA rfl) call_lstA.d rfl c.b_list (by decide +kernel) (sa_cons (se_var 6) (sa_nil))) (sa_nil))))) (sa_cons (se_callTy (call_listA rfl) call_lstA.d rfl c.b_list (by decide +kernel) (sa_cons (se_var 4) (sa_nil))) (sa_nil)))))) (ss_cons (ss_fldC c.O_Loom c.n_Loom__marks (se_var 0) (se_lstN (sa_nil))) (ss_cons (ss_fldC c.O_Loom c.n_Loom__now (se_var 0) (se_tup (sa_cons (se_callG (ok_begun c) (takes_of rfl rfl rfl rfl) (hr.mono (by decide)) gd rfl c.g_begun c.F_begun.kp (b_begun c) rfl (sa_cons (se_fldC c.O_Loom c.n_Loom__program (se_var 0)) (sa_nil)) (al_cons (al_nil))) (sa_cons (se_int) (sa_cons (se_int) (sa_cons (se_tup (sa_nil)) (sa_nil))))))) (ss_nil)))))
theorem b_Loom__state (c : Cfg K mg) : Binds K c.d_Loom__state ["self"] [] := c.F_Loom__state.bindsN fun _ _ _ _ _ _ us hl => match us, hl with | [_], _ => rfl
theorem ok_Loom__state (c : Cfg K mg) : FnG P w K mg base (L2.CX P w) (0 + 1) c.f_Loom__state c.d_Loom__state ["self"] (spF K mg 1 F_Loom__state) :=
  fn_okG c.F_Loom__state sc_Loom__state rfl fun cdv A outer s H E hr gd =>
  ss_cons (ss_ret (se_idx (se_fldC c.O_Loom c.n_Loom__now (se_var 0)) (se_int) (fun _ _ => rfl))) (ss_nil)
theorem b_Loom__turn (c : Cfg K mg) : Binds K c.d_Loom__turn ["self"] [] := c.F_Loom__turn.bindsN fun _ _ _ _ _ _ us hl => match us, hl with | [_], _ => rfl
theorem ok_Loom__turn (c : Cfg K mg) : FnG P w K mg base (L2.CX P w) (0 + 1) c.f_Loom__turn c.d_Loom__turn ["self"] (spF K mg 1 F_Loom__turn) :=
  fn_okG c.F_Loom__turn sc_Loom__turn rfl fun cdv A outer s H E hr gd =>
  ss_cons (ss_ret (se_tup (sa_cons (se_idx (se_fldC c.O_Loom c.n_Loom__now (se_var 0)) (se_int) (fun _ _ => rfl)) (sa_cons (se_idx (se_fldC c.O_Loom c.n_Loom__now (se_var 0)) (se_int) (fun _ _ => rfl)) (sa_nil))))) (ss_nil)
theorem b_Loom__choices (c : Cfg K mg) : Binds K c.d_Loom__choices ["self"] [] := c.F_Loom__choices.bindsN fun _ _ _ _ _ _ us hl => match us, hl with | [_], _ => rfl
theorem ok_Loom__choices (c : Cfg K mg) : FnG P w K mg base (L2.CX P w) (2 + 1) c.f_Loom__choices c.d_Loom__choices ["self"] (spF K mg 1 F_Loom__choices) :=
  fn_okG c.F_Loom__choices sc_Loom__choices rfl fun cdv A outer s H E hr gd =>
  ss_cons (ss_ret (se_callG (ok_choices c) (takes_of rfl rfl rfl rfl) (hr.mono (by decide)) gd rfl c.g_choices_weaver c.F_choices.kp (b_choices c) rfl (sa_cons (se_fldC c.O_Loom c.n_Loom__program (se_var 0)) (sa_cons (se_idx (se_fldC c.O_Loom c.n_Loom__now (se_var 0)) (se_int) (fun _ _ => rfl)) (sa_cons (se_idx (se_fldC c.O_Loom c.n_Loom__now (se_var 0)) (se_int) (fun _ _ => rfl)) (sa_nil)))) (al_cons (al_cons (al_cons (al_nil)))))) (ss_nil)
theorem b__law_cell_at (c : Cfg K mg) : Binds K c.d__law_cell_at ["_law_script", "_law_k"] [] := c.F__law_cell_at.bindsN fun _ _ _ _ _ _ us hl => match us, hl with | [_, _], _ => rfl
theorem ok__law_cell_at (c : Cfg K mg) : FnG P w K mg base (L2.CX P w) (0 + 1) c.f__law_cell_at c.d__law_cell_at ["_law_script", "_law_k"] (spF K mg 2 F__law_cell_at) :=
  fn_okG c.F__law_cell_at sc__law_cell_at rfl fun cdv A outer s H E hr gd =>
  ss_cons (ss_if (st_lt (se_var 1) (se_callB call_len call_lenD rfl c.b_len (by decide +kernel) (sa_cons (se_var 0) (sa_nil)))) (ss_cons (ss_ret (se_idx (se_var 0) (se_var 1) (fun _ _ => rfl))) (ss_nil)) (ss_nil)) (ss_cons (ss_ret (se_int)) (ss_nil))
theorem b__law_digits (c : Cfg K mg) : Binds K c.d__law_digits ["_law_cell", "_law_turn", "_law_sizes"] [] := c.F__law_digits.bindsN fun _ _ _ _ _ _ us hl => match us, hl with | [_, _, _], _ => rfl
theorem ok__law_digits (c : Cfg K mg) : FnG P w K mg base (L2.CX P w) (0 + 1) c.f__law_digits c.d__law_digits ["_law_cell", "_law_turn", "_law_sizes"] (spF K mg 3 F__law_digits) :=
  fn_okG c.F__law_digits sc__law_digits rfl fun cdv A outer s H E hr gd =>
  ss_cons (ss_set (i := 3) sc__law_digits.nd rfl (.inl rfl) (se_callB call_abs call_absP.d rfl c.b_abs (by decide +kernel) (sa_cons (se_var 0) (sa_nil)))) (ss_cons (ss_set (i := 4) sc__law_digits.nd rfl (.inl rfl) (se_ge (se_var 3) (se_pow (se_int) (se_int)))) (ss_cons (ss_set (i := 5) sc__law_digits.nd rfl (.inl rfl) (se_add (se_mod (se_var 3) (se_int)) (se_mul (se_int) (se_var 1)))) (ss_cons (ss_set (i := 6) sc__law_digits.nd rfl (.inl rfl) (se_lstN (sa_nil))) (ss_cons (ss_for (passes_of rfl) rfl (si_enum rfl c.b_enumerate (se_var 2)) (sg_tup (n := 2) rfl (sgs_cons (sg_name (i := 7) sc__law_digits.nd rfl (.inl rfl)) (sgs_cons (sg_name (i := 8) sc__law_digits.nd rfl (.inl rfl)) (sgs_nil)))) (sss_wp (ss_cons (ss_if (st_of (sw_and (st_tru (se_var 4)) (sw_and1 (st_gt (se_var 3) (se_int))))) (ss_cons (ss_expr (se_bm (.inl rfl) PySem.F.plainAttrs_list PySem.F.slot_list_append PySem.F.type_list_append mt_append mt_appendD (se_var 6) (sa_cons (se_mod (se_var 3) (se_var 8)) (sa_nil)))) (ss_cons (ss_set (i := 3) sc__law_digits.nd rfl (.inl rfl) (se_fdiv (se_var 3) (se_var 8))) (ss_nil))) (ss_cons (ss_set (i := 5) sc__law_digits.nd rfl (.inl rfl) (se_mod (se_pow (se_add (se_var 5) (se_mul (se_int) (se_add (se_var 7) (se_int)))) (se_int)) (se_int))) (ss_cons (ss_expr (se_bm (.inl rfl) PySem.F.plainAttrs_list PySem.F.slot_list_append PySem.F.type_list_append mt_append mt_appendD (se_var 6) (sa_cons (se_mod (se_fdiv (se_var 5) (se_int)) (se_var 8)) (sa_nil)))) (ss_nil)))) (ss_nil)))) (ss_cons (ss_ret (se_var 6)) (ss_nil))))))
theorem b__law_name (c : Cfg K mg) : Binds K c.d__law_name ["_law_number", "_law_k"] [] := c.F__law_name.bindsN fun _ _ _ _ _ _ us hl => match us, hl with | [_, _], _ => rfl
theorem ok__law_name (c : Cfg K mg) : FnG P w K mg base (L2.CX P w) (0 + 1) c.f__law_name c.d__law_name ["_law_number", "_law_k"] (spF K mg 2 F__law_name) :=
  fn_okG c.F__law_name sc__law_name rfl fun cdv A outer s H E hr gd =>
  ss_cons (ss_set (i := 2) sc__law_name.nd rfl (.inl rfl) (se_idx (se_str) (se_mod (se_add (se_var 0) (se_mul (se_int) (se_var 1))) (se_int)) (fun _ _ => rfl))) (ss_cons (ss_set (i := 3) sc__law_name.nd rfl (.inl rfl) (se_idx (se_lst (sa_cons (se_str) (sa_cons (se_str) (sa_cons (se_str) (sa_cons (se_str) (sa_nil)))))) (se_mod (se_fdiv (se_var 0) (se_int)) (se_int)) (fun _ _ => rfl))) (ss_cons (ss_ret (se_idx (se_lst (sa_cons (se_add (se_var 3) (se_var 2)) (sa_cons (se_add (se_var 2) (se_var 3)) (sa_nil)))) (se_mod (se_fdiv (se_var 0) (se_int)) (se_int)) (fun _ _ => rfl))) (ss_nil)))
theorem b__law_to_row (c : Cfg K mg) : Binds K c.d__law_to_row ["_law_d", "_law_worths", "_law_end", "_law_hands"] [] := c.F__law_to_row.bindsN fun _ _ _ _ _ _ us hl => match us, hl with | [_, _, _, _], _ => rfl
theorem ok__law_to_row (c : Cfg K mg) : FnG P w K mg base (L2.CX P w) (0 + 1) c.f__law_to_row c.d__law_to_row ["_law_d", "_law_worths", "_law_end", "_law_hands"] (spF K mg 4 F__law_to_row) :=
  fn_okG c.F__law_to_row sc__law_to_row rfl fun cdv A outer s H E hr gd =>
  ss_cons (ss_set (i := 4) sc__law_to_row.nd rfl (.inr rfl) (se_comp (own := [("_law_j", 9)]) rfl sc__law_to_row.nd (si_rng1 rfl c.b_range (se_int)) (show BlkOk N__law_to_row (defScope s__law_to_row) _ _ from ⟨by rfl, by decide +kernel, by decide +kernel, by decide +kernel, by decide +kernel⟩) (fun _ _ _ _ _ => sg_name (i := 9) sc__law_to_row.nd rfl (.inl rfl)) (fun _ _ _ _ _ => sts_nil) (fun _ _ _ _ _ => se_mod (se_add (se_idx (se_var 0) (se_int) (fun _ _ => rfl)) (se_mul (se_var 9) (se_add (se_idx (se_var 0) (se_int) (fun _ _ => rfl)) (se_int)))) (se_add (se_var 2) (se_int))))) (ss_cons (ss_set (i := 5) sc__law_to_row.nd rfl (.inl rfl) (se_mod (se_idx (se_var 0) (se_int) (fun _ _ => rfl)) (se_callB call_len call_lenD rfl c.b_len (by decide +kernel) (sa_cons (se_var 1) (sa_nil))))) (ss_cons (ss_set (i := 6) sc__law_to_row.nd rfl (.inl rfl) (se_mod (se_idx (se_var 0) (se_int) (fun _ _ => rfl)) (se_idx (se_var 1) (se_var 5) (fun _ _ => rfl)))) (ss_cons (ss_set (i := 7) sc__law_to_row.nd rfl (.inl rfl) (se_mod (se_idx (se_var 0) (se_int) (fun _ _ => rfl)) (se_idx (se_var 1) (se_var 5) (fun _ _ => rfl)))) (ss_cons (ss_if (st_eq hr (se_idx (se_var 0) (se_int) (fun _ _ => rfl)) (se_int)) (ss_cons (ss_ret (se_tup (sa_cons (se_str) (sa_cons (se_var 5) (sa_cons (se_var 6) (sa_cons (se_idx (se_var 4) (se_int) (fun _ _ => rfl)) (sa_nil))))))) (ss_nil)) (ss_nil)) (ss_cons (ss_if (st_eq hr (se_idx (se_var 0) (se_int) (fun _ _ => rfl)) (se_int)) (ss_cons (ss_ret (se_tup (sa_cons (se_str) (sa_cons (se_var 5) (sa_cons (se_var 6) (sa_cons (se_var 7) (sa_cons (se_idx (se_var 4) (se_int) (fun _ _ => rfl)) (sa_nil)))))))) (ss_nil)) (ss_nil)) (ss_cons (ss_if (st_lt (se_idx (se_var 0) (se_int) (fun _ _ => rfl)) (se_int)) (ss_cons (ss_set (i := 8) sc__law_to_row.nd rfl (.inr rfl) (se_comp (own := [("_law_j", 9)]) rfl sc__law_to_row.nd (si_rng1 rfl c.b_range (se_int)) (show BlkOk N__law_to_row (defScope s__law_to_row) _ _ from ⟨by rfl, by decide +kernel, by decide +kernel, by decide +kernel, by decide +kernel⟩) (fun _ _ _ _ _ => sg_name (i := 9) sc__law_to_row.nd rfl (.inl rfl)) (fun _ _ _ _ _ => sts_nil) (fun _ _ _ _ _ => se_and (se_eq hr (se_idx (se_var 0) (se_int) (fun _ _ => rfl)) (se_int)) (se_one (se_eq hr (se_mod (se_fdiv (se_idx (se_var 0) (se_int) (fun _ _ => rfl)) (se_idx (se_lst (sa_cons (se_int) (sa_cons (se_int) (sa_cons (se_int) (sa_cons (se_int) (sa_cons (se_int) (sa_cons (se_int) (sa_nil)))))))) (se_var 9) (fun _ _ => rfl))) (se_int)) (se_int)))))) (ss_cons (ss_ret (se_tup (sa_cons (se_str) (sa_cons (se_var 5) (sa_cons (se_callTy call_tuple_of call_tupP.d rfl c.b_tuple (by decide +kernel) (sa_cons (se_comp (own := [("_law_j", 9)]) rfl sc__law_to_row.nd (si_rng1 rfl c.b_range (se_idx (se_var 1) (se_var 5) (fun _ _ => rfl))) (show BlkOk N__law_to_row (defScope s__law_to_row) _ _ from ⟨by rfl, by decide +kernel, by decide +kernel, by decide +kernel, by decide +kernel⟩) (fun _ _ _ _ _ => sg_name (i := 9) sc__law_to_row.nd rfl (.inl rfl)) (fun _ _ _ _ _ => sts_nil) (fun _ _ _ _ _ => se_idx (se_lst (sa_cons (se_idx (se_var 4) (se_var 9) (fun _ _ => rfl)) (sa_cons (se_non) (sa_nil)))) (se_callTy call_int1 call_intP.d rfl c.b_int (by decide +kernel) (sa_cons (se_idx (se_var 8) (se_var 9) (fun _ _ => rfl)) (sa_nil))) (fun _ _ => rfl))) (sa_nil))) (sa_nil)))))) (ss_nil))) (ss_nil)) (ss_cons (ss_if (st_eq hr (se_idx (se_var 0) (se_int) (fun _ _ => rfl)) (se_int)) (ss_cons (ss_ret (se_tup (sa_cons (se_str) (sa_cons (se_callTy call_tuple_of call_tupP.d rfl c.b_tuple (by decide +kernel) (sa_cons (se_slice (se_var 4) (ol := none) rfl (by exact ⟨_, rfl, se_add (se_int) (se_mod (se_idx (se_var 0) (se_int) (fun _ _ => rfl)) (se_int))⟩)) (sa_nil))) (sa_nil))))) (ss_nil)) (ss_nil)) (ss_cons (ss_if (st_eq hr (se_idx (se_var 0) (se_int) (fun _ _ => rfl)) (se_int)) (ss_cons (ss_ret (se_tup (sa_cons (se_str) (sa_cons (se_idx (se_var 0) (se_int) (fun _ _ => rfl)) (sa_cons (se_idx (se_var 4) (se_int) (fun _ _ => rfl)) (sa_nil)))))) (ss_nil)) (ss_nil)) (ss_cons (ss_if (st_le (se_idx (se_var 1) (se_var 5) (fun _ _ => rfl)) (se_var 3)) (ss_cons (ss_ret (se_tup (sa_cons (se_str) (sa_cons (se_var 5) (sa_cons (se_var 7) (sa_cons (se_idx (se_var 4) (se_int) (fun _ _ => rfl)) (sa_nil))))))) (ss_nil)) (ss_nil)) (ss_cons (ss_ret (se_tup (sa_cons (se_idx (se_lst (sa_cons (se_str) (sa_cons (se_str) (sa_nil)))) (se_sub (se_idx (se_var 0) (se_int) (fun _ _ => rfl)) (se_int)) (fun _ _ => rfl)) (sa_cons (se_var 5) (sa_cons (se_idx (se_var 4) (se_int) (fun _ _ => rfl)) (sa_nil)))))) (ss_nil)))))))))))
theorem b__law_plan (c : Cfg K mg) : Binds K c.d__law_plan ["_law_script", "_law_most_procs", "_law_most_rows", "_law_most_hands", "_law_menu"] [] := c.F__law_plan.bindsN fun _ _ _ _ _ _ us hl => match us, hl with | [_, _, _, _, _], _ => rfl
theorem ok__law_plan (c : Cfg K mg) : FnG P w K mg base (L2.CX P w) (1 + 1) c.f__law_plan c.d__law_plan ["_law_script", "_law_most_procs", "_law_most_rows", "_law_most_hands", "_law_menu"] (spF K mg 5 F__law_plan) :=
  fn_okG c.F__law_plan sc__law_plan rfl fun cdv A outer s H E hr gd =>
  ss_cons (ss_set (i := 5) sc__law_plan.nd rfl (.inr rfl) (se_callG (ok__law_digits c) (takes_of rfl rfl rfl rfl) (hr.mono (by decide)) gd rfl c.g__law_digits c.F__law_digits.kp (b__law_digits c) rfl (sa_cons (se_callG (ok__law_cell_at c) (takes_of rfl rfl rfl rfl) (hr.mono (by decide)) gd rfl c.g__law_cell_at c.F__law_cell_at.kp (b__law_cell_at c) rfl (sa_cons (se_var 0) (sa_cons (se_int) (sa_nil))) (al_cons (al_cons (al_nil)))) (sa_cons (se_int) (sa_cons (se_lst (sa_cons (se_callB call_len call_lenD rfl c.b_len (by decide +kernel) (sa_cons (se_var 4) (sa_nil))) (sa_cons (se_var 1) (sa_cons (se_var 3) (sa_cons (se_int) (sa_cons (se_int) (sa_cons (se_int) (sa_cons (se_int) (sa_cons (se_int) (sa_cons (se_int) (sa_nil))))))))))) (sa_nil)))) (al_cons (al_cons (al_cons (al_nil)))))) (ss_cons (ss_set (i := 6) sc__law_plan.nd rfl (.inr rfl) (se_idx (se_var 4) (se_idx (se_var 5) (se_int) (fun _ _ => rfl)) (fun _ _ => rfl))) (ss_cons (ss_setLc (own := [("_law_k", 11)]) (i := 7) rfl sc__law_plan.nd rfl rfl (sw_true rfl rfl rfl (by decide +kernel)) (si_rng1 rfl c.b_range (se_callB call_len call_lenD rfl c.b_len (by decide +kernel) (sa_cons (se_var 6) (sa_nil)))) (show BlkOk N__law_plan (defScope s__law_plan) _ _ from ⟨by rfl, by decide +kernel, by decide +kernel, by decide +kernel, by decide +kernel⟩) (fun _ _ _ _ _ => sg_name (i := 11) sc__law_plan.nd rfl (.inl rfl)) (fun _ _ _ _ _ => sts_nil) (fun _ _ _ _ _ => se_mod (se_idx (se_var 5) (se_add (se_int) (se_var 11)) (fun _ _ => rfl)) (se_idx (se_var 6) (se_var 11) (fun _ _ => rfl)))) (ss_cons (ss_set (i := 8) sc__law_plan.nd rfl (.inr rfl) (se_add (se_int) (se_idx (se_var 5) (se_int) (fun _ _ => rfl)))) (ss_cons (ss_set (i := 9) sc__law_plan.nd rfl (.inr rfl) (se_comp (own := [("_law_k", 11)]) rfl sc__law_plan.nd (si_rng1 rfl c.b_range (se_add (se_int) (se_idx (se_var 5) (se_int) (fun _ _ => rfl)))) (show BlkOk N__law_plan (defScope s__law_plan) _ _ from ⟨by rfl, by decide +kernel, by decide +kernel, by decide +kernel, by decide +kernel⟩) (fun _ _ _ _ _ => sg_name (i := 11) sc__law_plan.nd rfl (.inl rfl)) (fun _ _ _ _ _ => sts_nil) (fun _ _ _ _ _ => se_mod (se_idx (se_var 5) (se_add (se_int) (se_var 11)) (fun _ _ => rfl)) (se_var 8)))) (ss_cons (ss_set (i := 10) sc__law_plan.nd rfl (.inl rfl) (se_lstN (sa_nil))) (ss_cons (ss_for (passes_of rfl) rfl (si_rng1 rfl c.b_range (se_var 8)) (sg_name (i := 11) sc__law_plan.nd rfl (.inl rfl)) (sss_wp (ss_cons (ss_set (i := 12) sc__law_plan.nd rfl (.inr rfl) (se_callG (ok__law_digits c) (takes_of rfl rfl rfl rfl) (hr.mono (by decide)) gd rfl c.g__law_digits c.F__law_digits.kp (b__law_digits c) rfl (sa_cons (se_callG (ok__law_cell_at c) (takes_of rfl rfl rfl rfl) (hr.mono (by decide)) gd rfl c.g__law_cell_at c.F__law_cell_at.kp (b__law_cell_at c) rfl (sa_cons (se_var 0) (sa_cons (se_add (se_int) (se_var 11)) (sa_nil))) (al_cons (al_cons (al_nil)))) (sa_cons (se_add (se_int) (se_var 11)) (sa_cons (se_add (se_lst (sa_cons (se_var 2) (sa_nil))) (se_mul (se_lst (sa_cons (se_int) (sa_cons (se_int) (sa_cons (se_int) (sa_cons (se_int) (sa_cons (se_int) (sa_cons (se_int) (sa_cons (se_int) (sa_cons (se_var 8) (sa_nil)))))))))) (se_var 2))) (sa_nil)))) (al_cons (al_cons (al_cons (al_nil)))))) (ss_cons (ss_set (i := 13) sc__law_plan.nd rfl (.inr rfl) (se_add (se_int) (se_idx (se_var 12) (se_int) (fun _ _ => rfl)))) (ss_cons (ss_expr (se_bm (.inl rfl) PySem.F.plainAttrs_list PySem.F.slot_list_append PySem.F.type_list_append mt_append mt_appendD (se_var 10) (sa_cons (se_comp (own := [("_law_j", 14)]) rfl sc__law_plan.nd (si_rng1 rfl c.b_range (se_var 13)) (show BlkOk N__law_plan (defScope s__law_plan) _ _ from ⟨by rfl, by decide +kernel, by decide +kernel, by decide +kernel, by decide +kernel⟩) (fun _ _ _ _ _ => sg_name (i := 14) sc__law_plan.nd rfl (.inl rfl)) (fun _ _ _ _ _ => sts_nil) (fun _ _ _ _ _ => se_callG (ok__law_to_row c) takes0 (hr.mono (by decide)) gd rfl c.g__law_to_row c.F__law_to_row.kp (b__law_to_row c) rfl (sa_cons (se_slice (se_var 12) (by exact ⟨_, rfl, se_add (se_int) (se_mul (se_int) (se_var 14))⟩) (by exact ⟨_, rfl, se_add (se_int) (se_mul (se_int) (se_var 14))⟩)) (sa_cons (se_var 6) (sa_cons (se_var 13) (sa_cons (se_callB call_len call_lenD rfl c.b_len (by decide +kernel) (sa_cons (se_var 9) (sa_nil))) (sa_nil))))) (al_cons (al_cons (al_cons (al_cons (al_nil))))))) (sa_nil)))) (ss_nil)))))) (ss_cons (ss_ret (se_tup (sa_cons (se_var 6) (sa_cons (se_var 7) (sa_cons (se_var 10) (sa_cons (se_var 9) (sa_nil))))))) (ss_nil))))))))
theorem b__law_program (c : Cfg K mg) : Binds K c.d__law_program ["_law_plan_here", "_law_number"] [] := c.F__law_program.bindsN fun _ _ _ _ _ _ us hl => match us, hl with | [_, _], _ => rfl
theorem ok__law_program (c : Cfg K mg) : FnG P w K mg base (L2.CX P w) (1 + 1) c.f__law_program c.d__law_program ["_law_plan_here", "_law_number"] (spF K mg 2 F__law_program) :=
  fn_okG c.F__law_program sc__law_program rfl fun cdv A outer s H E hr gd =>
  ss_cons (ss_asg (se_var 0) (sg_tup (n := 4) rfl (sgs_cons (sg_name (i := 2) sc__law_program.nd rfl (.inr rfl)) (sgs_cons (sg_name (i := 3) sc__law_program.nd rfl (.inr rfl)) (sgs_cons (sg_name (i := 4) sc__law_program.nd rfl (.inl rfl)) (sgs_cons (sg_name (i := 5) sc__law_program.nd rfl (.inl rfl)) (sgs_nil))))))) (ss_cons (ss_setLc (own := [("_law_k", 9)]) (i := 6) rfl sc__law_program.nd rfl rfl (sw_true rfl rfl rfl (by decide +kernel)) (si_rng1 rfl c.b_range (se_callB call_len call_lenD rfl c.b_len (by decide +kernel) (sa_cons (se_var 2) (sa_nil)))) (show BlkOk N__law_program (defScope s__law_program) _ _ from ⟨by rfl, by decide +kernel, by decide +kernel, by decide +kernel, by decide +kernel⟩) (fun _ _ _ _ _ => sg_name (i := 9) sc__law_program.nd rfl (.inl rfl)) (fun _ _ _ _ _ => sts_nil) (fun _ _ _ _ _ => se_tup (sa_cons (se_callG (ok__law_name c) takes0 (hr.mono (by decide)) gd rfl c.g__law_name c.F__law_name.kp (b__law_name c) rfl (sa_cons (se_mod (se_var 1) (se_int)) (sa_cons (se_var 9) (sa_nil))) (al_cons (al_cons (al_nil)))) (sa_cons (se_idx (se_var 2) (se_var 9) (fun _ _ => rfl)) (sa_cons (se_idx (se_var 3) (se_var 9) (fun _ _ => rfl)) (sa_nil)))))) (ss_cons (ss_set (i := 7) sc__law_program.nd rfl (.inr rfl) (se_comp (own := [("_law_k", 9)]) rfl sc__law_program.nd (si_rng1 rfl c.b_range (se_callB call_len call_lenD rfl c.b_len (by decide +kernel) (sa_cons (se_var 4) (sa_nil)))) (show BlkOk N__law_program (defScope s__law_program) _ _ from ⟨by rfl, by decide +kernel, by decide +kernel, by decide +kernel, by decide +kernel⟩) (fun _ _ _ _ _ => sg_name (i := 9) sc__law_program.nd rfl (.inl rfl)) (fun _ _ _ _ _ => sts_nil) (fun _ _ _ _ _ => se_callG (ok__law_name c) takes0 (hr.mono (by decide)) gd rfl c.g__law_name c.F__law_name.kp (b__law_name c) rfl (sa_cons (se_mod (se_fdiv (se_var 1) (se_int)) (se_int)) (sa_cons (se_var 9) (sa_nil))) (al_cons (al_cons (al_nil)))))) (ss_cons (ss_set (i := 8) sc__law_program.nd rfl (.inl rfl) (se_lstN (sa_nil))) (ss_cons (ss_for (passes_of rfl) rfl (si_enum rfl c.b_enumerate (se_var 4)) (sg_tup (n := 2) rfl (sgs_cons (sg_name (i := 9) sc__law_program.nd rfl (.inl rfl)) (sgs_cons (sg_name (i := 10) sc__law_program.nd rfl (.inl rfl)) (sgs_nil)))) (sss_wp (ss_cons (ss_set (i := 11) sc__law_program.nd rfl (.inl rfl) (se_lstN (sa_nil))) (ss_cons (ss_for (passes_of rfl) rfl (si_seq (se_var 10)) (sg_name (i := 12) sc__law_program.nd rfl (.inl rfl)) (sss_wp (ss_cons (ss_if (st_eq hr (se_idx (se_var 12) (se_int) (fun _ _ => rfl)) (se_str)) (ss_cons (ss_set (i := 12) sc__law_program.nd rfl (.inl rfl) (se_tup (sa_cons (se_str) (sa_cons (se_idx (se_var 7) (se_idx (se_var 12) (se_int) (fun _ _ => rfl)) (fun _ _ => rfl)) (sa_cons (se_idx (se_var 12) (se_int) (fun _ _ => rfl)) (sa_nil)))))) (ss_nil)) (ss_cons (ss_if (st_ne hr (se_idx (se_var 12) (se_int) (fun _ _ => rfl)) (se_str)) (ss_cons (ss_set (i := 12) sc__law_program.nd rfl (.inl rfl) (se_add (se_tup (sa_cons (se_idx (se_var 12) (se_int) (fun _ _ => rfl)) (sa_cons (se_idx (se_idx (se_var 6) (se_idx (se_var 12) (se_int) (fun _ _ => rfl)) (fun _ _ => rfl)) (se_int) (fun _ _ => rfl)) (sa_nil)))) (se_slice (se_var 12) (by exact ⟨_, rfl, se_int⟩) (oh := none) rfl))) (ss_nil)) (ss_nil)) (ss_nil))) (ss_cons (ss_expr (se_bm (.inl rfl) PySem.F.plainAttrs_list PySem.F.slot_list_append PySem.F.type_list_append mt_append mt_appendD (se_var 11) (sa_cons (se_var 12) (sa_nil)))) (ss_nil))))) (ss_cons (ss_expr (se_bm (.inl rfl) PySem.F.plainAttrs_list PySem.F.slot_list_append PySem.F.type_list_append mt_append mt_appendD (se_var 8) (sa_cons (se_tup (sa_cons (se_idx (se_var 7) (se_var 9) (fun _ _ => rfl)) (sa_cons (se_var 11) (sa_nil)))) (sa_nil)))) (ss_nil)))))) (ss_cons (ss_ret (se_tup (sa_cons (se_var 6) (sa_cons (se_var 8) (sa_cons (se_comp (own := [("_law_k", 9), ("_law_proc", 10)]) rfl sc__law_program.nd (si_enum rfl c.b_enumerate (se_var 5)) (show BlkOk N__law_program (defScope s__law_program) _ _ from ⟨by rfl, by decide +kernel, by decide +kernel, by decide +kernel, by decide +kernel⟩) (fun _ _ _ _ _ => sg_tup (n := 2) rfl (sgs_cons (sg_name (i := 9) sc__law_program.nd rfl (.inl rfl)) (sgs_cons (sg_name (i := 10) sc__law_program.nd rfl (.inl rfl)) (sgs_nil)))) (fun _ _ _ _ _ => sts_nil) (fun _ _ _ _ _ => se_tup (sa_cons (se_callG (ok__law_name c) takes0 (hr.mono (by decide)) gd rfl c.g__law_name c.F__law_name.kp (b__law_name c) rfl (sa_cons (se_mod (se_fdiv (se_var 1) (se_int)) (se_int)) (sa_cons (se_var 9) (sa_nil))) (al_cons (al_cons (al_nil)))) (sa_cons (se_idx (se_var 7) (se_var 10) (fun _ _ => rfl)) (sa_nil))))) (sa_nil)))))) (ss_nil))))))
theorem b__law_begun (c : Cfg K mg) : Binds K c.d__law_begun ["_law_plan_here"] [] := c.F__law_begun.bindsN fun _ _ _ _ _ _ us hl => match us, hl with | [_], _ => rfl
theorem ok__law_begun (c : Cfg K mg) : FnG P w K mg base (L2.CX P w) (0 + 1) c.f__law_begun c.d__law_begun ["_law_plan_here"] (spF K mg 1 F__law_begun) :=
  fn_okG c.F__law_begun sc__law_begun rfl fun cdv A outer s H E hr gd =>
  ss_cons (ss_ret (se_tup (sa_cons (se_callTy call_tuple_of call_tupP.d rfl c.b_tuple (by decide +kernel) (sa_cons (se_idx (se_var 0) (se_int) (fun _ _ => rfl)) (sa_nil))) (sa_cons (se_callTy call_tuple_of call_tupP.d rfl c.b_tuple (by decide +kernel) (sa_cons (se_comp (own := [("_law_proc", 1)]) rfl sc__law_begun.nd (si_seq (se_idx (se_var 0) (se_int) (fun _ _ => rfl))) (show BlkOk N__law_begun (defScope s__law_begun) _ _ from ⟨by rfl, by decide +kernel, by decide +kernel, by decide +kernel, by decide +kernel⟩) (fun _ _ _ _ _ => sg_name (i := 1) sc__law_begun.nd rfl (.inl rfl)) (fun _ _ _ _ _ => sts_nil) (fun _ _ _ _ _ => se_tup (sa_cons (se_tup (sa_cons (se_var 1) (sa_cons (se_int) (sa_nil)))) (sa_nil)))) (sa_nil))) (sa_nil))))) (ss_nil)
theorem b__law_row (c : Cfg K mg) : Binds K c.d__law_row ["_law_plan_here", "_law_pile"] [] := c.F__law_row.bindsN fun _ _ _ _ _ _ us hl => match us, hl with | [_, _], _ => rfl
theorem ok__law_row (c : Cfg K mg) : FnG P w K mg base (L2.CX P w) (0 + 1) c.f__law_row c.d__law_row ["_law_plan_here", "_law_pile"] (spF K mg 2 F__law_row) :=
  fn_okG c.F__law_row sc__law_row rfl fun cdv A outer s H E hr gd =>
  ss_cons (ss_ret (se_idx (se_idx (se_idx (se_var 0) (se_int) (fun _ _ => rfl)) (se_idx (se_idx (se_var 1) (se_neg (se_int)) (fun _ _ => rfl)) (se_int) (fun _ _ => rfl)) (fun _ _ => rfl)) (se_idx (se_idx (se_var 1) (se_neg (se_int)) (fun _ _ => rfl)) (se_int) (fun _ _ => rfl)) (fun _ _ => rfl))) (ss_nil)
theorem b__law_choices (c : Cfg K mg) : Binds K c.d__law_choices ["_law_plan_here", "_law_state", "_law_hand"] [] := c.F__law_choices.bindsN fun _ _ _ _ _ _ us hl => match us, hl with | [_, _, _], _ => rfl
theorem ok__law_choices (c : Cfg K mg) : FnG P w K mg base (L2.CX P w) (1 + 1) c.f__law_choices c.d__law_choices ["_law_plan_here", "_law_state", "_law_hand"] (spF K mg 3 F__law_choices) :=
  fn_okG c.F__law_choices sc__law_choices rfl fun cdv A outer s H E hr gd =>
  ss_cons (ss_asg (se_var 1) (sg_tup (n := 2) rfl (sgs_cons (sg_name (i := 3) sc__law_choices.nd rfl (.inl rfl)) (sgs_cons (sg_name (i := 4) sc__law_choices.nd rfl (.inl rfl)) (sgs_nil))))) (ss_cons (ss_if (st_eq hr (se_idx (se_var 4) (se_var 2) (fun _ _ => rfl)) (se_tup (sa_nil))) (ss_cons (ss_ret (se_lst (sa_nil))) (ss_nil)) (ss_nil)) (ss_cons (ss_set (i := 5) sc__law_choices.nd rfl (.inl rfl) (se_callG (ok__law_row c) (takes_of rfl rfl rfl rfl) (hr.mono (by decide)) gd rfl c.g__law_row c.F__law_row.kp (b__law_row c) rfl (sa_cons (se_var 0) (sa_cons (se_idx (se_var 4) (se_var 2) (fun _ _ => rfl)) (sa_nil))) (al_cons (al_cons (al_nil))))) (ss_cons (ss_if (st_eq hr (se_idx (se_var 5) (se_int) (fun _ _ => rfl)) (se_str)) (ss_cons (ss_ret (se_lstRg rfl rfl c.b_list rfl c.b_range (se_callB call_len call_lenD rfl c.b_len (by decide +kernel) (sa_cons (se_idx (se_var 5) (se_int) (fun _ _ => rfl)) (sa_nil))))) (ss_nil)) (ss_nil)) (ss_cons (ss_if (st_of (sw_or (st_of (sw_and (st_eq hr (se_idx (se_var 5) (se_int) (fun _ _ => rfl)) (se_str)) (sw_and1 (st_ne hr (se_idx (se_var 3) (se_idx (se_var 5) (se_int) (fun _ _ => rfl)) (fun _ _ => rfl)) (se_idx (se_var 5) (se_int) (fun _ _ => rfl)))))) (sw_or1 (st_of (sw_and (st_eq hr (se_idx (se_var 5) (se_int) (fun _ _ => rfl)) (se_str)) (sw_and1 (st_isN (se_idx (se_idx (se_var 5) (se_int) (fun _ _ => rfl)) (se_idx (se_var 3) (se_idx (se_var 5) (se_int) (fun _ _ => rfl)) (fun _ _ => rfl)) (fun _ _ => rfl)) (se_non)))))))) (ss_cons (ss_ret (se_lst (sa_nil))) (ss_nil)) (ss_nil)) (ss_cons (ss_if (st_of (sw_or (st_of (sw_and (st_eq hr (se_idx (se_var 5) (se_int) (fun _ _ => rfl)) (se_str)) (sw_and1 (st_ne hr (se_idx (se_var 3) (se_idx (se_var 5) (se_int) (fun _ _ => rfl)) (fun _ _ => rfl)) (se_int))))) (sw_or1 (st_of (sw_and (st_eq hr (se_idx (se_var 5) (se_int) (fun _ _ => rfl)) (se_str)) (sw_and1 (st_ne hr (se_idx (se_var 3) (se_idx (se_var 5) (se_int) (fun _ _ => rfl)) (fun _ _ => rfl)) (se_add (se_var 2) (se_int))))))))) (ss_cons (ss_ret (se_lst (sa_nil))) (ss_nil)) (ss_nil)) (ss_cons (ss_ret (se_lst (sa_cons (se_int) (sa_nil)))) (ss_nil)))))))
theorem b__law_bad (c : Cfg K mg) : Binds K c.d__law_bad ["_law_program_here", "_law_d"] [] := c.F__law_bad.bindsN fun _ _ _ _ _ _ us hl => match us, hl with | [_, _], _ => rfl
theorem ok__law_bad (c : Cfg K mg) : FnG P w K mg base (L2.CX P w) (0 + 1) c.f__law_bad c.d__law_bad ["_law_program_here", "_law_d"] (spF K mg 2 F__law_bad_v1) :=
  fn_okG c.F__law_bad sc__law_bad rfl fun cdv A outer s H E hr gd =>
  ss_cons (ss_asg (se_var 0) (sg_tup (n := 3) rfl (sgs_cons (sg_name (i := 2) sc__law_bad.nd rfl (.inl rfl)) (sgs_cons (sg_name (i := 3) sc__law_bad.nd rfl (.inl rfl)) (sgs_cons (sg_name (i := 4) sc__law_bad.nd rfl (.inl rfl)) (sgs_nil)))))) (ss_cons (ss_asg (se_idx (se_var 3) (se_mod (se_idx (se_var 1) (se_int) (fun _ _ => rfl)) (se_callB call_len call_lenD rfl c.b_len (by decide +kernel) (sa_cons (se_var 3) (sa_nil)))) (fun _ _ => rfl)) (sg_tup (n := 2) rfl (sgs_cons (sg_name (i := 5) sc__law_bad.nd rfl (.inl rfl)) (sgs_cons (sg_name (i := 6) sc__law_bad.nd rfl (.inl rfl)) (sgs_nil))))) (ss_cons (ss_set (i := 7) sc__law_bad.nd rfl (.inl rfl) (se_idx (se_var 2) (se_mod (se_idx (se_var 1) (se_int) (fun _ _ => rfl)) (se_callB call_len call_lenD rfl c.b_len (by decide +kernel) (sa_cons (se_var 2) (sa_nil)))) (fun _ _ => rfl))) (ss_cons (ss_set (i := 8) sc__law_bad.nd rfl (.inl rfl) (se_lstN (sa_cons (se_tup (sa_cons (se_lst (sa_nil)) (sa_cons (se_var 3) (sa_cons (se_var 4) (sa_nil))))) (sa_cons (se_tup (sa_cons (se_var 2) (sa_cons (se_lst (sa_nil)) (sa_cons (se_var 4) (sa_nil))))) (sa_cons (se_tup (sa_cons (se_var 2) (sa_cons (se_var 3) (sa_cons (se_lst (sa_nil)) (sa_nil))))) (sa_cons (se_tup (sa_cons (se_var 2) (sa_cons (se_var 3) (sa_nil)))) (sa_cons (se_non) (sa_cons (se_lst (sa_cons (se_var 2) (sa_cons (se_var 3) (sa_cons (se_var 4) (sa_nil))))) (sa_nil))))))))) (ss_cons (ss_expr (se_bm (.inl rfl) PySem.F.plainAttrs_list PySem.F.slot_list_append PySem.F.type_list_append mt_append mt_appendD (se_var 8) (sa_cons (se_tup (sa_cons (se_add (se_lst (sa_cons (se_tup (sa_cons (se_str) (sa_cons (se_int) (sa_cons (se_int) (sa_nil))))) (sa_nil))) (se_var 2)) (sa_cons (se_var 3) (sa_cons (se_var 4) (sa_nil))))) (sa_nil)))) (ss_cons (ss_expr (se_bm (.inl rfl) PySem.F.plainAttrs_list PySem.F.slot_list_append PySem.F.type_list_append mt_append mt_appendD (se_var 8) (sa_cons (se_tup (sa_cons (se_add (se_var 2) (se_lst (sa_cons (se_var 7) (sa_nil)))) (sa_cons (se_var 3) (sa_cons (se_var 4) (sa_nil))))) (sa_nil)))) (ss_cons (ss_expr (se_bm (.inl rfl) PySem.F.plainAttrs_list PySem.F.slot_list_append PySem.F.type_list_append mt_append mt_appendD (se_var 8) (sa_cons (se_tup (sa_cons (se_var 2) (sa_cons (se_add (se_var 3) (se_lst (sa_cons (se_tup (sa_cons (se_var 5) (sa_cons (se_var 6) (sa_nil)))) (sa_nil)))) (sa_cons (se_var 4) (sa_nil))))) (sa_nil)))) (ss_cons (ss_expr (se_bm (.inl rfl) PySem.F.plainAttrs_list PySem.F.slot_list_append PySem.F.type_list_append mt_append mt_appendD (se_var 8) (sa_cons (se_tup (sa_cons (se_var 2) (sa_cons (se_add (se_slice (se_var 3) (ol := none) rfl (by exact ⟨_, rfl, se_neg (se_int)⟩)) (se_lst (sa_cons (se_tup (sa_cons (se_idx (se_idx (se_var 3) (se_neg (se_int)) (fun _ _ => rfl)) (se_int) (fun _ _ => rfl)) (sa_cons (se_lst (sa_cons (se_tup (sa_cons (se_str) (sa_cons (se_tup (sa_cons (se_int) (sa_nil))) (sa_nil)))) (sa_nil))) (sa_nil)))) (sa_nil)))) (sa_cons (se_var 4) (sa_nil))))) (sa_nil)))) (ss_cons (ss_expr (se_bm (.inl rfl) PySem.F.plainAttrs_list PySem.F.slot_list_append PySem.F.type_list_append mt_append mt_appendD (se_var 8) (sa_cons (se_tup (sa_cons (se_lst (sa_cons (se_tup (sa_cons (se_idx (se_var 7) (se_int) (fun _ _ => rfl)) (sa_cons (se_int) (sa_cons (se_int) (sa_nil))))) (sa_nil))) (sa_cons (se_var 3) (sa_cons (se_var 4) (sa_nil))))) (sa_nil)))) (ss_cons (ss_expr (se_bm (.inl rfl) PySem.F.plainAttrs_list PySem.F.slot_list_append PySem.F.type_list_append mt_append mt_appendD (se_var 8) (sa_cons (se_tup (sa_cons (se_var 2) (sa_cons (se_var 3) (sa_cons (se_add (se_slice (se_var 4) (ol := none) rfl (by exact ⟨_, rfl, se_neg (se_int)⟩)) (se_lst (sa_cons (se_tup (sa_cons (se_idx (se_idx (se_var 4) (se_neg (se_int)) (fun _ _ => rfl)) (se_int) (fun _ _ => rfl)) (sa_cons (se_str) (sa_nil)))) (sa_nil)))) (sa_nil))))) (sa_nil)))) (ss_cons (ss_ret (se_idx (se_var 8) (se_idx (se_var 1) (se_int) (fun _ _ => rfl)) (fun _ _ => rfl))) (ss_nil)))))))))))
theorem b__law_fields (c : Cfg K mg) : Binds K c.d__law_fields ["_law_which", "_law_thing"] [] := c.F__law_fields.bindsN fun _ _ _ _ _ _ us hl => match us, hl with | [_, _], _ => rfl
theorem ok__law_fields (c : Cfg K mg) : FnG P w K mg base (L2.CX P w) (9 + 1) c.f__law_fields c.d__law_fields ["_law_which", "_law_thing"] (spF K mg 2 F__law_fields_v1) :=
  fn_okG c.F__law_fields sc__law_fields rfl fun cdv A outer s H E hr gd =>
  ss_cons (ss_set (i := 2) sc__law_fields.nd rfl (.inl rfl) (se_non)) (ss_cons (ss_try (i := 3) rfl rfl sc__law_fields.nd rfl rfl c.Ex rfl c.g_HandError (by decide) (takes_of rfl rfl rfl rfl) (fun W pn xe tk hp => ss_cons (ss_if (st_eq hr (se_var 0) (se_int)) (ss_cons (ss_expr (se_callG (ok_look_at c) tk (hr.mono (by decide)) gd rfl c.g_look_at c.F_look_at.kp (b_look_at c) rfl (sa_cons (se_var 1) (sa_nil)) (al_cons (al_nil)))) (ss_nil)) (ss_cons (ss_expr (se_newC c.O_Loom c.k_Loom__init (ok_Loom__init c) tk (hr.mono (by decide)) gd (b_Loom__init c) rfl c.g_Loom rfl (sa_cons (se_var 1) (sa_nil)) (al_cons (al_nil)))) (ss_nil))) (ss_nil)) (fun a pn => ss_cons (ss_set (i := 2) sc__law_fields.nd rfl (.inl rfl) (se_var 3)) (ss_nil))) (ss_cons (ss_if (st_tru (se_isXT c.Ex (se_var 2) rfl c.b_isinstance (.cons rfl c.g_NoText (by decide) rfl (.cons rfl c.g_NoStep (by decide) rfl (.cons rfl c.g_NoMark (by decide) rfl (.cons rfl c.g_NoRun (by decide) rfl (.cons rfl c.g_NoNames (by decide) rfl (.cons rfl c.g_TooMany (by decide) rfl (.cons rfl c.g_TooLong (by decide) rfl (.cons rfl c.g_Bare (by decide) rfl (.cons rfl c.g_NoRow (by decide) rfl (.cons rfl c.g_NoName (by decide) rfl (.nil))))))))))) (by decide))) (ss_cons (ss_ret (se_non)) (ss_nil)) (ss_nil)) (ss_cons (ss_if (st_not (st_tru (se_isX c.Ex (se_var 2) rfl c.b_isinstance rfl c.g_NoProgram (by decide)))) (ss_cons (ss_ret (se_non)) (ss_nil)) (ss_nil)) (ss_cons (ss_ret (se_tup (sa_cons (se_fldX c.Ex (by decide) (se_var 2)) (sa_cons (se_fldX c.Ex (by decide) (se_var 2)) (sa_cons (se_fldX c.Ex (by decide) (se_var 2)) (sa_nil)))))) (ss_nil)))))
theorem ok_law {f : Addr} {fd : FuncData} (Fd : FnP K "law" s_law f fd) (c : Cfg K mg) : FnG P w K mg base CX0 (10 + 1) f fd ["_law_script"] (fun vs H Q _ => spF K mg 1 F_law22 vs H Q fun _ _ _ => False) :=
  fn_okLG Fd sc_law rfl fun cdv A outer s H E hr gd =>
  ss_cons (ss_set (i := 1) sc_law.nd rfl (.inl rfl) (se_callG (ok__law_plan c) takes0 (hr.mono (by decide)) gd rfl c.g__law_plan c.F__law_plan.kp (b__law_plan c) rfl (sa_cons (se_var 0) (sa_cons (se_int) (sa_cons (se_int) (sa_cons (se_int) (sa_cons (se_lst (sa_cons (se_tup (sa_cons (se_int) (sa_nil))) (sa_cons (se_tup (sa_cons (se_int) (sa_nil))) (sa_cons (se_tup (sa_cons (se_int) (sa_cons (se_int) (sa_nil)))) (sa_cons (se_tup (sa_cons (se_int) (sa_nil))) (sa_cons (se_tup (sa_cons (se_int) (sa_cons (se_int) (sa_nil)))) (sa_cons (se_tup (sa_cons (se_int) (sa_nil))) (sa_cons (se_tup (sa_cons (se_int) (sa_cons (se_int) (sa_cons (se_int) (sa_nil))))) (sa_cons (se_tup (sa_cons (se_int) (sa_nil))) (sa_nil)))))))))) (sa_nil)))))) (al_cons (al_cons (al_cons (al_cons (al_cons (al_nil)))))))) (ss_cons (ss_set (i := 2) sc_law.nd rfl (.inl rfl) (se_callG (ok__law_program c) takes0 (hr.mono (by decide)) gd rfl c.g__law_program c.F__law_program.kp (b__law_program c) rfl (sa_cons (se_var 1) (sa_cons (se_callB call_abs call_absP.d rfl c.b_abs (by decide +kernel) (sa_cons (se_callG (ok__law_cell_at c) takes0 (hr.mono (by decide)) gd rfl c.g__law_cell_at c.F__law_cell_at.kp (b__law_cell_at c) rfl (sa_cons (se_var 0) (sa_cons (se_int) (sa_nil))) (al_cons (al_cons (al_nil)))) (sa_nil))) (sa_nil))) (al_cons (al_cons (al_nil))))) (ss_cons (ss_set (i := 3) sc_law.nd rfl (.inl rfl) (se_newC c.O_Loom c.k_Loom__init (ok_Loom__init c) takes0 (hr.mono (by decide)) gd (b_Loom__init c) rfl c.g_Loom rfl (sa_cons (se_var 2) (sa_nil)) (al_cons (al_nil)))) (ss_cons (ss_for (passes_of rfl) rfl (si_rng1 rfl c.b_range (se_int)) (sg_name (i := 4) sc_law.nd rfl (.inl rfl)) (sss_wp (ss_cons (ss_set (i := 5) sc_law.nd rfl (.inl rfl) (se_callG (ok__law_bad c) takes0 (hr.mono (by decide)) gd rfl c.g__law_bad c.F__law_bad.kp (b__law_bad c) rfl (sa_cons (se_var 2) (sa_cons (se_callG (ok__law_digits c) takes0 (hr.mono (by decide)) gd rfl c.g__law_digits c.F__law_digits.kp (b__law_digits c) rfl (sa_cons (se_callG (ok__law_cell_at c) takes0 (hr.mono (by decide)) gd rfl c.g__law_cell_at c.F__law_cell_at.kp (b__law_cell_at c) rfl (sa_cons (se_var 0) (sa_cons (se_add (se_int) (se_var 4)) (sa_nil))) (al_cons (al_cons (al_nil)))) (sa_cons (se_var 4) (sa_cons (se_lst (sa_cons (se_int) (sa_cons (se_int) (sa_nil)))) (sa_nil)))) (al_cons (al_cons (al_cons (al_nil))))) (sa_nil))) (al_cons (al_cons (al_nil))))) (ss_cons (ss_set (i := 6) sc_law.nd rfl (.inl rfl) (se_callB (call_repr2 hr gd) call_repr2D rfl c.b_repr (by decide +kernel) (sa_cons (se_var 5) (sa_nil)))) (ss_cons (ss_set (i := 7) sc_law.nd rfl (.inl rfl) (se_callG (ok__law_fields c) takes0 (hr.mono (by decide)) gd rfl c.g__law_fields c.F__law_fields.kp (b__law_fields c) rfl (sa_cons (se_int) (sa_cons (se_var 5) (sa_nil))) (al_cons (al_cons (al_nil))))) (ss_cons (ss_if (st_of (sw_or (st_isN (se_var 7) (se_non)) (sw_or (st_ne hr (se_var 7) (se_callG (ok__law_fields c) takes0 (hr.mono (by decide)) gd rfl c.g__law_fields c.F__law_fields.kp (b__law_fields c) rfl (sa_cons (se_int) (sa_cons (se_var 5) (sa_nil))) (al_cons (al_cons (al_nil))))) (sw_or1 (st_ne hr (se_callB (call_repr2 hr gd) call_repr2D rfl c.b_repr (by decide +kernel) (sa_cons (se_var 5) (sa_nil))) (se_var 6)))))) (ss_cons (ss_ret (se_bl)) (ss_nil)) (ss_nil)) (ss_cons (ss_if (st_of (sw_or (st_ne hr (se_methC0 c.O_Loom c.m_Loom__state (ok_Loom__state c) takes0 (hr.mono (by decide)) gd (b_Loom__state c) rfl (se_var 3)) (se_callG (ok__law_begun c) takes0 (hr.mono (by decide)) gd rfl c.g__law_begun c.F__law_begun.kp (b__law_begun c) rfl (sa_cons (se_var 1) (sa_nil)) (al_cons (al_nil)))) (sw_or1 (st_ne hr (se_methC0 c.O_Loom c.m_Loom__choices (ok_Loom__choices c) takes0 (hr.mono (by decide)) gd (b_Loom__choices c) rfl (se_var 3)) (se_callG (ok__law_choices c) takes0 (hr.mono (by decide)) gd rfl c.g__law_choices c.F__law_choices.kp (b__law_choices c) rfl (sa_cons (se_var 1) (sa_cons (se_callG (ok__law_begun c) takes0 (hr.mono (by decide)) gd rfl c.g__law_begun c.F__law_begun.kp (b__law_begun c) rfl (sa_cons (se_var 1) (sa_nil)) (al_cons (al_nil))) (sa_cons (se_int) (sa_nil)))) (al_cons (al_cons (al_cons (al_nil))))))))) (ss_cons (ss_ret (se_bl)) (ss_nil)) (ss_nil)) (ss_nil)))))))) (ss_cons (ss_ret (se_eq hr (se_methC0 c.O_Loom c.m_Loom__turn (ok_Loom__turn c) takes0 (hr.mono (by decide)) gd (b_Loom__turn c) rfl (se_var 3)) (se_tup (sa_cons (se_int) (sa_cons (se_int) (sa_nil)))))) (ss_nil)))))
end
abbrev R : PySem.W.OpenRow := PySem.W.OpenLaw.row PySem.Challenge.rw_roundhand_k22_no_looms
def dd__wall : He.DefD := ⟨("_wall", none), "_wall", "_wall", defArgs s__wall, defBody s__wall, defScope s__wall, [], []⟩
def dd_is_whole : He.DefD := ⟨("is_whole", none), "is_whole", "is_whole", defArgs s_is_whole, defBody s_is_whole, defScope s_is_whole, [], []⟩
def dd_is_within : He.DefD := ⟨("is_within", none), "is_within", "is_within", defArgs s_is_within, defBody s_is_within, defScope s_is_within, [], []⟩
def dd_is_name : He.DefD := ⟨("is_name", none), "is_name", "is_name", defArgs s_is_name, defBody s_is_name, defScope s_is_name, [], []⟩
def dd_many_stores : He.DefD := ⟨("many_stores", none), "many_stores", "many_stores", defArgs s_many_stores, defBody s_many_stores, defScope s_many_stores, [], []⟩
def dd_first_store : He.DefD := ⟨("first_store", none), "first_store", "first_store", defArgs s_first_store, defBody s_first_store, defScope s_first_store, [], []⟩
def dd_put_into : He.DefD := ⟨("put_into", none), "put_into", "put_into", defArgs s_put_into, defBody s_put_into, defScope s_put_into, [], []⟩
def dd_is_tuple : He.DefD := ⟨("is_tuple", none), "is_tuple", "is_tuple", defArgs s_is_tuple, defBody s_is_tuple, defScope s_is_tuple, [], []⟩
def dd_is_box : He.DefD := ⟨("is_box", none), "is_box", "is_box", defArgs s_is_box, defBody s_is_box, defScope s_is_box, [], []⟩
def dd_look_at_boxes : He.DefD := ⟨("look_at_boxes", none), "look_at_boxes", "look_at_boxes", defArgs s_look_at_boxes, defBody s_look_at_boxes, defScope s_look_at_boxes, [], []⟩
def dd_look_at_procs : He.DefD := ⟨("look_at_procs", none), "look_at_procs", "look_at_procs", defArgs s_look_at_procs, defBody s_look_at_procs, defScope s_look_at_procs, [], []⟩
def dd_worths_of : He.DefD := ⟨("worths_of", none), "worths_of", "worths_of", defArgs s_worths_of, defBody s_worths_of, defScope s_worths_of, [], []⟩
def dd_are_tos : He.DefD := ⟨("are_tos", none), "are_tos", "are_tos", defArgs s_are_tos, defBody s_are_tos, defScope s_are_tos, [], []⟩
def dd_is_row_of_box : He.DefD := ⟨("is_row_of_box", none), "is_row_of_box", "is_row_of_box", defArgs s_is_row_of_box, defBody s_is_row_of_box, defScope s_is_row_of_box, [], []⟩
def dd_is_row : He.DefD := ⟨("is_row", none), "is_row", "is_row", defArgs s_is_row, defBody s_is_row, defScope s_is_row, [], []⟩
def dd_look_at_rows : He.DefD := ⟨("look_at_rows", none), "look_at_rows", "look_at_rows", defArgs s_look_at_rows, defBody s_look_at_rows, defScope s_look_at_rows, [], []⟩
def dd_look_at_hands : He.DefD := ⟨("look_at_hands", none), "look_at_hands", "look_at_hands", defArgs s_look_at_hands, defBody s_look_at_hands, defScope s_look_at_hands, [], []⟩
def dd_look_at : He.DefD := ⟨("look_at", none), "look_at", "look_at", defArgs s_look_at, defBody s_look_at, defScope s_look_at, [], []⟩
def dd_number_by : He.DefD := ⟨("number_by", none), "number_by", "number_by", defArgs s_number_by, defBody s_number_by, defScope s_number_by, [], []⟩
def dd_settled : He.DefD := ⟨("settled", none), "settled", "settled", defArgs s_settled, defBody s_settled, defScope s_settled, [], []⟩
def dd_gone_on : He.DefD := ⟨("gone_on", none), "gone_on", "gone_on", defArgs s_gone_on, defBody s_gone_on, defScope s_gone_on, [], []⟩
def dd_with_call : He.DefD := ⟨("with_call", none), "with_call", "with_call", defArgs s_with_call, defBody s_with_call, defScope s_with_call, [], []⟩
def dd_ends_of : He.DefD := ⟨("ends_of", none), "ends_of", "ends_of", defArgs s_ends_of, defBody s_ends_of, defScope s_ends_of, [], []⟩
def dd_begun : He.DefD := ⟨("begun", none), "begun", "begun", defArgs s_begun, defBody s_begun, defScope s_begun, [], []⟩
def dd_row_at : He.DefD := ⟨("row_at", none), "row_at", "row_at", defArgs s_row_at, defBody s_row_at, defScope s_row_at, [], []⟩
def dd_waits : He.DefD := ⟨("waits", none), "waits", "waits", defArgs s_waits, defBody s_waits, defScope s_waits, [], []⟩
def dd_choices : He.DefD := ⟨("choices", none), "choices", "choices", defArgs s_choices, defBody s_choices, defScope s_choices, [], []⟩
def dd_done_to_box : He.DefD := ⟨("done_to_box", none), "done_to_box", "done_to_box", defArgs s_done_to_box, defBody s_done_to_box, defScope s_done_to_box, [], []⟩
def dd_with_pile : He.DefD := ⟨("with_pile", none), "with_pile", "with_pile", defArgs s_with_pile, defBody s_with_pile, defScope s_with_pile, [], []⟩
def dd_stepped : He.DefD := ⟨("stepped", none), "stepped", "stepped", defArgs s_stepped, defBody s_stepped, defScope s_stepped, [], []⟩
def dd_Loom__init : He.DefD := ⟨("Loom", some "__init__"), "__init__", "Loom.__init__", defArgs s_Loom__init, defBody s_Loom__init, defScope s_Loom__init, [], []⟩
def dd_Loom__state : He.DefD := ⟨("Loom", some "state"), "state", "Loom.state", defArgs s_Loom__state, defBody s_Loom__state, defScope s_Loom__state, [], []⟩
def dd_Loom__turn : He.DefD := ⟨("Loom", some "turn"), "turn", "Loom.turn", defArgs s_Loom__turn, defBody s_Loom__turn, defScope s_Loom__turn, [], []⟩
def dd_Loom__choices : He.DefD := ⟨("Loom", some "choices"), "choices", "Loom.choices", defArgs s_Loom__choices, defBody s_Loom__choices, defScope s_Loom__choices, [], []⟩
def dd__law_cell_at : He.DefD := ⟨("_law_cell_at", none), "_law_cell_at", "_law_cell_at", defArgs s__law_cell_at, defBody s__law_cell_at, defScope s__law_cell_at, [], []⟩
def dd__law_digits : He.DefD := ⟨("_law_digits", none), "_law_digits", "_law_digits", defArgs s__law_digits, defBody s__law_digits, defScope s__law_digits, [], []⟩
def dd__law_name : He.DefD := ⟨("_law_name", none), "_law_name", "_law_name", defArgs s__law_name, defBody s__law_name, defScope s__law_name, [], []⟩
def dd__law_to_row : He.DefD := ⟨("_law_to_row", none), "_law_to_row", "_law_to_row", defArgs s__law_to_row, defBody s__law_to_row, defScope s__law_to_row, [], []⟩
def dd__law_plan : He.DefD := ⟨("_law_plan", none), "_law_plan", "_law_plan", defArgs s__law_plan, defBody s__law_plan, defScope s__law_plan, [], []⟩
def dd__law_program : He.DefD := ⟨("_law_program", none), "_law_program", "_law_program", defArgs s__law_program, defBody s__law_program, defScope s__law_program, [], []⟩
def dd__law_begun : He.DefD := ⟨("_law_begun", none), "_law_begun", "_law_begun", defArgs s__law_begun, defBody s__law_begun, defScope s__law_begun, [], []⟩
def dd__law_row : He.DefD := ⟨("_law_row", none), "_law_row", "_law_row", defArgs s__law_row, defBody s__law_row, defScope s__law_row, [], []⟩
def dd__law_choices : He.DefD := ⟨("_law_choices", none), "_law_choices", "_law_choices", defArgs s__law_choices, defBody s__law_choices, defScope s__law_choices, [], []⟩
def dd__law_step : He.DefD := ⟨("_law_step", none), "_law_step", "_law_step", defArgs s__law_step, defBody s__law_step, defScope s__law_step, [], []⟩
def dd__law_bad : He.DefD := ⟨("_law_bad", none), "_law_bad", "_law_bad", defArgs s__law_bad, defBody s__law_bad, defScope s__law_bad, [], []⟩
def dd__law_fields : He.DefD := ⟨("_law_fields", none), "_law_fields", "_law_fields", defArgs s__law_fields, defBody s__law_fields, defScope s__law_fields, [], []⟩
def dd_law : He.DefD := ⟨("law", none), "law", "law", defArgs s_law, defBody s_law, defScope s_law, [], []⟩
def di_NoProgram : He.DefD := ⟨("NoProgram", some "__init__"), "__init__", "NoProgram.__init__", defArgs si_NoProgram, defBody si_NoProgram, defScope si_NoProgram, [], []⟩
def di_NoStep : He.DefD := ⟨("NoStep", some "__init__"), "__init__", "NoStep.__init__", defArgs si_NoStep, defBody si_NoStep, defScope si_NoStep, [], []⟩
def fn : List He.DefD := [dd__wall, dd_is_whole, dd_is_within, dd_is_name, dd_many_stores, dd_first_store, dd_put_into, dd_is_tuple, dd_is_box, dd_look_at_boxes, dd_look_at_procs, dd_worths_of, dd_are_tos, dd_is_row_of_box, dd_is_row, dd_look_at_rows, dd_look_at_hands, dd_look_at, dd_number_by, dd_settled, dd_gone_on, dd_with_call, dd_ends_of, dd_begun, dd_row_at, dd_waits, dd_choices, dd_done_to_box, dd_with_pile, dd_stepped, dd_Loom__init, dd_Loom__state, dd_Loom__turn, dd_Loom__choices, dd__law_cell_at, dd__law_digits, dd__law_name, dd__law_to_row, dd__law_plan, dd__law_program, dd__law_begun, dd__law_row, dd__law_choices, dd__law_step, dd__law_bad, dd__law_fields, dd_law, di_NoProgram, di_NoStep]
def fa : List He.Fa := [.glo "_wall", .glo "is_whole", .glo "is_within", .glo "is_name", .glo "many_stores", .glo "first_store", .glo "put_into", .glo "is_tuple", .glo "is_box", .glo "look_at_boxes", .glo "look_at_procs", .glo "worths_of", .glo "are_tos", .glo "is_row_of_box", .glo "is_row", .glo "look_at_rows", .glo "look_at_hands", .glo "look_at", .glo "number_by", .glo "settled", .glo "gone_on", .glo "with_call", .glo "ends_of", .glo "begun", .glo "row_at", .glo "waits", .glo "choices", .glo "done_to_box", .glo "with_pile", .glo "stepped", .mkr "Loom", .meth "Loom" "state", .meth "Loom" "turn", .meth "Loom" "choices", .glo "_law_cell_at", .glo "_law_digits", .glo "_law_name", .glo "_law_to_row", .glo "_law_plan", .glo "_law_program", .glo "_law_begun", .glo "_law_row", .glo "_law_choices", .glo "_law_step", .glo "_law_bad", .glo "_law_fields", .glo "law", .glo "Loom", .cls "Loom", .noat "Loom" "marks", .noat "Loom" "now", .noat "Loom" "program", .glo "choices_weaver", .glo "HandError", .glo "NoProgram", .glo "NoText", .glo "NoStep", .glo "NoMark", .glo "NoRun", .glo "NoNames", .glo "TooMany", .glo "TooLong", .glo "Bare", .glo "NoRow", .glo "NoName", .free "abs", .free "all", .free "bool", .free "enumerate", .free "int", .free "isinstance", .free "len", .free "list", .free "range", .free "repr", .free "str", .free "tuple", .str "LETTERS" "abcdefghijklmnopqrstuvwxyz", .int "LONGEST" (8), .int "MOST_BOXES" (3), .int "MOST_HANDS" (3), .int "MOST_PROCS" (6), .int "MOST_ROWS" (8), .int "MOST_STORES" (8), .int "MOST_WAYS" (4), .int "MOST_WORTHS" (6)]
def ex (K : KF) : Bool := ([exTB K ANC pres tst FLD, ownB K (He.ga K "Loom") "Loom", decide (He.ga K "choices_weaver" = He.ga K "choices"), hinB K (He.ga K "HandError"), exB K (He.ga K "NoProgram") (He.ma K (He.ga K "NoProgram") "__init__") ["part", "number", "row"], exB K (He.ga K "NoStep") (He.ma K (He.ga K "NoStep") "__init__") ["at"]] : List Bool).all id
abbrev hk : PySem.W.Hook := hookV 4 fa fn ex
def ob (s : PySem.W.SharedT) : AlV := obsV 4 fa fn ex (HandSHeadRun.getT s)
theorem ob_eq (s : PySem.W.SharedT) : ob s = hk.obs s.abs := obsV_eq (HandSHeadRun.getT_eq s)
def loose : List Str := (["_wall", "HandError", "NoProgram", "NoText", "NoStep", "NoMark", "NoRun", "NoNames", "TooMany", "TooLong", "Bare", "NoRow", "NoName", "LETTERS", "LONGEST", "is_whole", "is_within", "is_name", "many_stores", "first_store", "put_into", "MOST_BOXES", "MOST_WORTHS", "MOST_STORES", "MOST_PROCS", "MOST_ROWS", "MOST_HANDS", "MOST_WAYS", "is_tuple", "is_box"] : List Str) ++ (["look_at_boxes", "look_at_procs", "worths_of", "are_tos", "is_row_of_box", "is_row", "look_at_rows", "look_at_hands", "look_at", "number_by", "settled", "gone_on", "with_call", "ends_of", "begun", "row_at", "waits", "choices", "choices_weaver", "done_to_box", "with_pile", "stepped", "Loom", "_law_cell_at", "_law_digits", "_law_name", "_law_to_row", "_law_plan", "_law_program", "_law_begun"] : List Str) ++ (["_law_row", "_law_choices", "_law_step", "_law_bad", "_law_fields"] : List Str)
theorem run (w : World) : HandSHeadRun.RunEq R (PySem.W.view R.prog [72]) hk ob 12000 loose w := by
  intro os
  kernel_rfl
theorem cfg {K : KF} {h : Heap} {mg : Str → Option Value} (X : K.In h) (G : h.Ns mainGlobals mg) (c : He.SaysD fa fn K) (cx : ex K = true) : Nonempty (Cfg K mg) := by
  have x0 := List.all_eq_true.mp cx _ (List.mem_of_getElem? (i := 0) rfl)
  have x1 := List.all_eq_true.mp cx _ (List.mem_of_getElem? (i := 1) rfl)
  have x2 := List.all_eq_true.mp cx _ (List.mem_of_getElem? (i := 2) rfl)
  have x3 := List.all_eq_true.mp cx _ (List.mem_of_getElem? (i := 3) rfl)
  have x4 := List.all_eq_true.mp cx _ (List.mem_of_getElem? (i := 4) rfl)
  have x5 := List.all_eq_true.mp cx _ (List.mem_of_getElem? (i := 5) rfl)
  obtain ⟨d0, F0⟩ := c.def_ 0 (d := dd__wall) rfl
  obtain ⟨d1, F1⟩ := c.def_ 1 (d := dd_is_whole) rfl
  obtain ⟨d2, F2⟩ := c.def_ 2 (d := dd_is_within) rfl
  obtain ⟨d3, F3⟩ := c.def_ 3 (d := dd_is_name) rfl
  obtain ⟨d4, F4⟩ := c.def_ 4 (d := dd_many_stores) rfl
  obtain ⟨d5, F5⟩ := c.def_ 5 (d := dd_first_store) rfl
  obtain ⟨d6, F6⟩ := c.def_ 6 (d := dd_put_into) rfl
  obtain ⟨d7, F7⟩ := c.def_ 7 (d := dd_is_tuple) rfl
  obtain ⟨d8, F8⟩ := c.def_ 8 (d := dd_is_box) rfl
  obtain ⟨d9, F9⟩ := c.def_ 9 (d := dd_look_at_boxes) rfl
  obtain ⟨d10, F10⟩ := c.def_ 10 (d := dd_look_at_procs) rfl
  obtain ⟨d11, F11⟩ := c.def_ 11 (d := dd_worths_of) rfl
  obtain ⟨d12, F12⟩ := c.def_ 12 (d := dd_are_tos) rfl
  obtain ⟨d13, F13⟩ := c.def_ 13 (d := dd_is_row_of_box) rfl
  obtain ⟨d14, F14⟩ := c.def_ 14 (d := dd_is_row) rfl
  obtain ⟨d15, F15⟩ := c.def_ 15 (d := dd_look_at_rows) rfl
  obtain ⟨d16, F16⟩ := c.def_ 16 (d := dd_look_at_hands) rfl
  obtain ⟨d17, F17⟩ := c.def_ 17 (d := dd_look_at) rfl
  obtain ⟨d18, F18⟩ := c.def_ 18 (d := dd_number_by) rfl
  obtain ⟨d19, F19⟩ := c.def_ 19 (d := dd_settled) rfl
  obtain ⟨d20, F20⟩ := c.def_ 20 (d := dd_gone_on) rfl
  obtain ⟨d21, F21⟩ := c.def_ 21 (d := dd_with_call) rfl
  obtain ⟨d22, F22⟩ := c.def_ 22 (d := dd_ends_of) rfl
  obtain ⟨d23, F23⟩ := c.def_ 23 (d := dd_begun) rfl
  obtain ⟨d24, F24⟩ := c.def_ 24 (d := dd_row_at) rfl
  obtain ⟨d25, F25⟩ := c.def_ 25 (d := dd_waits) rfl
  obtain ⟨d26, F26⟩ := c.def_ 26 (d := dd_choices) rfl
  obtain ⟨d27, F27⟩ := c.def_ 27 (d := dd_done_to_box) rfl
  obtain ⟨d28, F28⟩ := c.def_ 28 (d := dd_with_pile) rfl
  obtain ⟨d29, F29⟩ := c.def_ 29 (d := dd_stepped) rfl
  obtain ⟨d30, F30⟩ := c.def_ 30 (d := dd_Loom__init) rfl
  obtain ⟨d31, F31⟩ := c.def_ 31 (d := dd_Loom__state) rfl
  obtain ⟨d32, F32⟩ := c.def_ 32 (d := dd_Loom__turn) rfl
  obtain ⟨d33, F33⟩ := c.def_ 33 (d := dd_Loom__choices) rfl
  obtain ⟨d34, F34⟩ := c.def_ 34 (d := dd__law_cell_at) rfl
  obtain ⟨d35, F35⟩ := c.def_ 35 (d := dd__law_digits) rfl
  obtain ⟨d36, F36⟩ := c.def_ 36 (d := dd__law_name) rfl
  obtain ⟨d37, F37⟩ := c.def_ 37 (d := dd__law_to_row) rfl
  obtain ⟨d38, F38⟩ := c.def_ 38 (d := dd__law_plan) rfl
  obtain ⟨d39, F39⟩ := c.def_ 39 (d := dd__law_program) rfl
  obtain ⟨d40, F40⟩ := c.def_ 40 (d := dd__law_begun) rfl
  obtain ⟨d41, F41⟩ := c.def_ 41 (d := dd__law_row) rfl
  obtain ⟨d42, F42⟩ := c.def_ 42 (d := dd__law_choices) rfl
  obtain ⟨d43, F43⟩ := c.def_ 43 (d := dd__law_step) rfl
  obtain ⟨d44, F44⟩ := c.def_ 44 (d := dd__law_bad) rfl
  obtain ⟨d45, F45⟩ := c.def_ 45 (d := dd__law_fields) rfl
  obtain ⟨y4a, y4b, y4c, y4d⟩ := exB_ok x4
  obtain ⟨e4, E4⟩ := c.def_ 47 (d := di_NoProgram) rfl
  obtain ⟨y5a, y5b, y5c, y5d⟩ := exB_ok x5
  obtain ⟨e5, E5⟩ := c.def_ 48 (d := di_NoStep) rfl
  have hp : ∀ x ∈ pres, mg x = some (.ref (He.ga K x)) := fun x hx => match x, hx with | _, .head _ => (He.glo_ok X G (c.fact 53 (f := .glo "HandError") rfl)) | _, .tail _ (.head _) => (He.glo_ok X G (c.fact 54 (f := .glo "NoProgram") rfl)) | _, .tail _ (.tail _ (.head _)) => (He.glo_ok X G (c.fact 55 (f := .glo "NoText") rfl)) | _, .tail _ (.tail _ (.tail _ (.head _))) => (He.glo_ok X G (c.fact 56 (f := .glo "NoStep") rfl)) | _, .tail _ (.tail _ (.tail _ (.tail _ (.head _)))) => (He.glo_ok X G (c.fact 57 (f := .glo "NoMark") rfl)) | _, .tail _ (.tail _ (.tail _ (.tail _ (.tail _ (.head _))))) => (He.glo_ok X G (c.fact 58 (f := .glo "NoRun") rfl)) | _, .tail _ (.tail _ (.tail _ (.tail _ (.tail _ (.tail _ (.head _)))))) => (He.glo_ok X G (c.fact 59 (f := .glo "NoNames") rfl)) | _, .tail _ (.tail _ (.tail _ (.tail _ (.tail _ (.tail _ (.tail _ (.head _))))))) => (He.glo_ok X G (c.fact 60 (f := .glo "TooMany") rfl)) | _, .tail _ (.tail _ (.tail _ (.tail _ (.tail _ (.tail _ (.tail _ (.tail _ (.head _)))))))) => (He.glo_ok X G (c.fact 61 (f := .glo "TooLong") rfl)) | _, .tail _ (.tail _ (.tail _ (.tail _ (.tail _ (.tail _ (.tail _ (.tail _ (.tail _ (.head _))))))))) => (He.glo_ok X G (c.fact 62 (f := .glo "Bare") rfl)) | _, .tail _ (.tail _ (.tail _ (.tail _ (.tail _ (.tail _ (.tail _ (.tail _ (.tail _ (.tail _ (.head _)))))))))) => (He.glo_ok X G (c.fact 63 (f := .glo "NoRow") rfl)) | _, .tail _ (.tail _ (.tail _ (.tail _ (.tail _ (.tail _ (.tail _ (.tail _ (.tail _ (.tail _ (.tail _ (.head _))))))))))) => (He.glo_ok X G (c.fact 64 (f := .glo "NoName") rfl))
  have hn : ∀ r ∈ ANC, r.1 ∉ pres → mg r.1 = none := fun r hr => match r, hr with | _, .head _ => fun z => absurd (by decide) z | _, .tail _ (.head _) => fun z => absurd (by decide) z | _, .tail _ (.tail _ (.head _)) => fun z => absurd (by decide) z | _, .tail _ (.tail _ (.tail _ (.head _))) => fun z => absurd (by decide) z | _, .tail _ (.tail _ (.tail _ (.tail _ (.head _)))) => fun z => absurd (by decide) z | _, .tail _ (.tail _ (.tail _ (.tail _ (.tail _ (.head _))))) => fun z => absurd (by decide) z | _, .tail _ (.tail _ (.tail _ (.tail _ (.tail _ (.tail _ (.head _)))))) => fun z => absurd (by decide) z | _, .tail _ (.tail _ (.tail _ (.tail _ (.tail _ (.tail _ (.tail _ (.head _))))))) => fun z => absurd (by decide) z | _, .tail _ (.tail _ (.tail _ (.tail _ (.tail _ (.tail _ (.tail _ (.tail _ (.head _)))))))) => fun z => absurd (by decide) z | _, .tail _ (.tail _ (.tail _ (.tail _ (.tail _ (.tail _ (.tail _ (.tail _ (.tail _ (.head _))))))))) => fun z => absurd (by decide) z | _, .tail _ (.tail _ (.tail _ (.tail _ (.tail _ (.tail _ (.tail _ (.tail _ (.tail _ (.tail _ (.head _)))))))))) => fun z => absurd (by decide) z | _, .tail _ (.tail _ (.tail _ (.tail _ (.tail _ (.tail _ (.tail _ (.tail _ (.tail _ (.tail _ (.tail _ (.head _))))))))))) => fun z => absurd (by decide) z
  exact ⟨⟨_, (He.glo_ok X G (c.fact 47 (f := .glo "Loom") rfl)), (ownB_ok x1 (He.cls_ok (c.fact 48 (f := .cls "Loom") rfl))), (He.noat_ok (c.fact 49 (f := .noat "Loom" "marks") rfl)), (He.noat_ok (c.fact 50 (f := .noat "Loom" "now") rfl)), (He.noat_ok (c.fact 51 (f := .noat "Loom" "program") rfl)), _, d0, F0, (He.glo_ok X G (c.fact 0 (f := .glo "_wall") rfl)), _, d1, F1, (He.glo_ok X G (c.fact 1 (f := .glo "is_whole") rfl)), _, d2, F2, (He.glo_ok X G (c.fact 2 (f := .glo "is_within") rfl)), _, d3, F3, (He.glo_ok X G (c.fact 3 (f := .glo "is_name") rfl)), _, d4, F4, (He.glo_ok X G (c.fact 4 (f := .glo "many_stores") rfl)), _, d5, F5, (He.glo_ok X G (c.fact 5 (f := .glo "first_store") rfl)), _, d6, F6, (He.glo_ok X G (c.fact 6 (f := .glo "put_into") rfl)), _, d7, F7, (He.glo_ok X G (c.fact 7 (f := .glo "is_tuple") rfl)), _, d8, F8, (He.glo_ok X G (c.fact 8 (f := .glo "is_box") rfl)), _, d9, F9, (He.glo_ok X G (c.fact 9 (f := .glo "look_at_boxes") rfl)), _, d10, F10, (He.glo_ok X G (c.fact 10 (f := .glo "look_at_procs") rfl)), _, d11, F11, (He.glo_ok X G (c.fact 11 (f := .glo "worths_of") rfl)), _, d12, F12, (He.glo_ok X G (c.fact 12 (f := .glo "are_tos") rfl)), _, d13, F13, (He.glo_ok X G (c.fact 13 (f := .glo "is_row_of_box") rfl)), _, d14, F14, (He.glo_ok X G (c.fact 14 (f := .glo "is_row") rfl)), _, d15, F15, (He.glo_ok X G (c.fact 15 (f := .glo "look_at_rows") rfl)), _, d16, F16, (He.glo_ok X G (c.fact 16 (f := .glo "look_at_hands") rfl)), _, d17, F17, (He.glo_ok X G (c.fact 17 (f := .glo "look_at") rfl)), _, d18, F18, (He.glo_ok X G (c.fact 18 (f := .glo "number_by") rfl)), _, d19, F19, (He.glo_ok X G (c.fact 19 (f := .glo "settled") rfl)), _, d20, F20, (He.glo_ok X G (c.fact 20 (f := .glo "gone_on") rfl)), _, d21, F21, (He.glo_ok X G (c.fact 21 (f := .glo "with_call") rfl)), _, d22, F22, (He.glo_ok X G (c.fact 22 (f := .glo "ends_of") rfl)), _, d23, F23, (He.glo_ok X G (c.fact 23 (f := .glo "begun") rfl)), _, d24, F24, (He.glo_ok X G (c.fact 24 (f := .glo "row_at") rfl)), _, d25, F25, (He.glo_ok X G (c.fact 25 (f := .glo "waits") rfl)), _, d26, F26, (He.glo_ok X G (c.fact 26 (f := .glo "choices") rfl)), _, d27, F27, (He.glo_ok X G (c.fact 27 (f := .glo "done_to_box") rfl)), _, d28, F28, (He.glo_ok X G (c.fact 28 (f := .glo "with_pile") rfl)), _, d29, F29, (He.glo_ok X G (c.fact 29 (f := .glo "stepped") rfl)), _, d30, F30, (He.mkr_ok (c.fact 30 (f := .mkr "Loom") rfl)), _, d31, F31, (He.meth_ok (c.fact 31 (f := .meth "Loom" "state") rfl)), _, d32, F32, (He.meth_ok (c.fact 32 (f := .meth "Loom" "turn") rfl)), _, d33, F33, (He.meth_ok (c.fact 33 (f := .meth "Loom" "choices") rfl)), _, d34, F34, (He.glo_ok X G (c.fact 34 (f := .glo "_law_cell_at") rfl)), _, d35, F35, (He.glo_ok X G (c.fact 35 (f := .glo "_law_digits") rfl)), _, d36, F36, (He.glo_ok X G (c.fact 36 (f := .glo "_law_name") rfl)), _, d37, F37, (He.glo_ok X G (c.fact 37 (f := .glo "_law_to_row") rfl)), _, d38, F38, (He.glo_ok X G (c.fact 38 (f := .glo "_law_plan") rfl)), _, d39, F39, (He.glo_ok X G (c.fact 39 (f := .glo "_law_program") rfl)), _, d40, F40, (He.glo_ok X G (c.fact 40 (f := .glo "_law_begun") rfl)), _, d41, F41, (He.glo_ok X G (c.fact 41 (f := .glo "_law_row") rfl)), _, d42, F42, (He.glo_ok X G (c.fact 42 (f := .glo "_law_choices") rfl)), _, d43, F43, (He.glo_ok X G (c.fact 43 (f := .glo "_law_step") rfl)), _, d44, F44, (He.glo_ok X G (c.fact 44 (f := .glo "_law_bad") rfl)), _, d45, F45, (He.glo_ok X G (c.fact 45 (f := .glo "_law_fields") rfl)), ((He.glo_ok X G (c.fact 52 (f := .glo "choices_weaver") rfl)).trans (by rw [of_decide_eq_true x2]; rfl)), _, (He.glo_ok X G (c.fact 53 (f := .glo "HandError") rfl)), (hinB_ok x3), _, (He.glo_ok X G (c.fact 54 (f := .glo "NoProgram") rfl)), y4a, _, e4, E4, y4b, y4c, y4d, _, (He.glo_ok X G (c.fact 55 (f := .glo "NoText") rfl)), _, (He.glo_ok X G (c.fact 56 (f := .glo "NoStep") rfl)), y5a, _, e5, E5, y5b, y5c, y5d, _, (He.glo_ok X G (c.fact 57 (f := .glo "NoMark") rfl)), _, (He.glo_ok X G (c.fact 58 (f := .glo "NoRun") rfl)), _, (He.glo_ok X G (c.fact 59 (f := .glo "NoNames") rfl)), _, (He.glo_ok X G (c.fact 60 (f := .glo "TooMany") rfl)), _, (He.glo_ok X G (c.fact 61 (f := .glo "TooLong") rfl)), _, (He.glo_ok X G (c.fact 62 (f := .glo "Bare") rfl)), _, (He.glo_ok X G (c.fact 63 (f := .glo "NoRow") rfl)), _, (He.glo_ok X G (c.fact 64 (f := .glo "NoName") rfl)), (exT_ok hp hn x0), (He.free_ok X G (c.fact 65 (f := .free "abs") rfl)), (He.free_ok X G (c.fact 66 (f := .free "all") rfl)), (He.free_ok X G (c.fact 67 (f := .free "bool") rfl)), (He.free_ok X G (c.fact 68 (f := .free "enumerate") rfl)), (He.free_ok X G (c.fact 69 (f := .free "int") rfl)), (He.free_ok X G (c.fact 70 (f := .free "isinstance") rfl)), (He.free_ok X G (c.fact 71 (f := .free "len") rfl)), (He.free_ok X G (c.fact 72 (f := .free "list") rfl)), (He.free_ok X G (c.fact 73 (f := .free "range") rfl)), (He.free_ok X G (c.fact 74 (f := .free "repr") rfl)), (He.free_ok X G (c.fact 75 (f := .free "str") rfl)), (He.free_ok X G (c.fact 76 (f := .free "tuple") rfl)), (He.str_ok X G (c.fact 77 (f := .str "LETTERS" "abcdefghijklmnopqrstuvwxyz") rfl)), (He.int_ok X G (c.fact 78 (f := .int "LONGEST" (8)) rfl)), (He.int_ok X G (c.fact 79 (f := .int "MOST_BOXES" (3)) rfl)), (He.int_ok X G (c.fact 80 (f := .int "MOST_HANDS" (3)) rfl)), (He.int_ok X G (c.fact 81 (f := .int "MOST_PROCS" (6)) rfl)), (He.int_ok X G (c.fact 82 (f := .int "MOST_ROWS" (8)) rfl)), (He.int_ok X G (c.fact 83 (f := .int "MOST_STORES" (8)) rfl)), (He.int_ok X G (c.fact 84 (f := .int "MOST_WAYS" (4)) rfl)), (He.int_ok X G (c.fact 85 (f := .int "MOST_WORTHS" (6)) rfl))⟩⟩
theorem facts {P : Program} {w : World} {K : KF} {h : Heap} {mg : Str → Option Value} {f : Addr} (X : K.In h) (G : h.Ns mainGlobals mg) (hfa : mg ("law" : Str) = some (.ref f)) (c : He.SaysD fa fn K) (cx : ex K = true) :
    ∃ fd : FuncData, (∀ (s : Shared) (v : Value), BindsTo s fd ⟨[v], []⟩ [("_law_script", v)]) ∧ ∀ base : Heap, K.In base → base.Ns mainGlobals mg → FnG P w K mg base CX0 11 f fd ["_law_script"] (fun vs H Q _ => spF K mg 1 F_law22 vs H Q fun _ _ _ => False) := by
  obtain ⟨fd, F⟩ := c.def_ 46 (d := dd_law) rfl
  obtain ⟨cf⟩ := cfg X G c cx
  have e := hfa.symm.trans (He.glo_ok X G (c.fact 46 (f := .glo "law") rfl))
  cases e
  have b := FunD.bindsA (ps := ["_law_script"]) F fun _ _ _ _ _ _ us hl => match us, hl with | [_], _ => rfl
  exact ⟨fd, fun s v => b s [v] rfl, fun base _ _ => ok_law F cf⟩
end G22
open PySem PySem.W PySem.Calls PyProof.Rows
theorem G22.holds_of (H : ∀ ns : List Int, ns.length ≤ 63 → ∃ h', Fs.F_law22 [.v (.list (ns.map .int))] [] = some (.rt (.v (.bool true)) h')) : PySem.Challenge.rw_roundhand_k22_no_looms.Holds := by
  w_on; o_law
  refine HandSHeadRun.head_any (r := OpenLaw.row PySem.Challenge.rw_roundhand_k22_no_looms) (q := view (OpenLaw.row PySem.Challenge.rw_roundhand_k22_no_looms).prog [72]) (H := G22.hk) (ob := G22.ob) (M := 12000) (loose := G22.loose) (d := HandSHeadRun.topDef (OpenLaw.row PySem.Challenge.rw_roundhand_k22_no_looms).prog 72) (kwd := []) G22.ob_eq
    (by kernel_rfl) (fun s => by kernel_rfl) G22.run (by kernel_rfl) (by kernel_rfl) (by kernel_rfl) (by rfl) (by first | assumption | decide +kernel) (by decide +kernel) ⟨rfl, rfl, rfl, rfl, rfl, by decide +kernel⟩ ?hw ?hc
  case hw => w_witness2
  case hc =>
    refine Vl.walk_G (l := PySem.Challenge.rw_roundhand_k22_no_looms) (n := 63) (k := 11) (x := "_law_script") rfl (by decide) (by kernel_rfl) ⟨rfl, by decide, by decide⟩ ?F
    intro w mg fa h Y G hmg0
    obtain ⟨K, KX, c, cx⟩ := Y
    have hmg : mg ("law" : PySem.Str) = some (.ref fa) := by
      have e : (HandSHeadRun.topDef (OpenLaw.row PySem.Challenge.rw_roundhand_k22_no_looms).prog 72).name = ("law" : PySem.Str) := by kernel_rfl
      rw [← e]
      exact hmg0
    obtain ⟨fd, hb, hF⟩ := G22.facts (P := (PySem.Challenge.rw_roundhand_k22_no_looms).prog) (w := w) KX G hmg c cx
    exact ⟨K, fd, (fun vs H Q _ => Vl.spF K mg 1 Fs.F_law22 vs H Q fun _ _ _ => False), KX, hb, fun Hp a ns hl _ hS => Vl.law_sp hS (H ns hl), hF⟩
set_option maxHeartbeats 4000000
namespace Fs
open PySem PySem.Spec PyProof.Rows L2 Vl
/-! ## digits -/
/-- within the sizes -/
def Dig : List Int → List Int → Prop
  | [], [] => True
  | s :: ss, d :: ds => (0 ≤ d ∧ d < s) ∧ Dig ss ds
  | _, _ => False
theorem Dig.snoc : ∀ {ss ds : List Int} {s d : Int}, Dig ss ds → 0 ≤ d → d < s → Dig (ss ++ [s]) (ds ++ [d])
  | [], [], _, _, _, h1, h2 => ⟨⟨h1, h2⟩, trivial⟩
  | [], _ :: _, _, _, h, _, _ => h.elim
  | _ :: _, [], _, _, h, _, _ => h.elim
  | _ :: _, _ :: _, _, _, h, h1, h2 => ⟨h.1, Dig.snoc h.2 h1 h2⟩
theorem Dig.len : ∀ {ss ds : List Int}, Dig ss ds → ds.length = ss.length
  | [], [], _ => rfl
  | [], _ :: _, h => h.elim
  | _ :: _, [], h => h.elim
  | _ :: _, _ :: _, h => by rw [List.length_cons, List.length_cons, Dig.len h.2]
theorem Dig.at : ∀ {ss ds : List Int} {i : Nat} {s : Int}, Dig ss ds → ss[i]? = some s → ∃ d, ds[i]? = some d ∧ 0 ≤ d ∧ d < s
  | [], [], i, _, _, h => by simp at h
  | [], _ :: _, _, _, h, _ => h.elim
  | _ :: _, [], _, _, h, _ => h.elim
  | s :: ss, d :: ds, 0, _, h, e => by
    cases e
    exact ⟨d, rfl, h.1⟩
  | s :: ss, d :: ds, i + 1, t, h, e => Dig.at (i := i) h.2 (by simpa using e)
theorem Dig.ix {ss ds : List Int} (h : Dig ss ds) {i : Nat} {s : Int} (e : ss[i]? = some s) : ∃ d, atI ds (i : Int) = some d ∧ 0 ≤ d ∧ d < s := by
  obtain ⟨d, e1, h1, h2⟩ := h.at e
  refine ⟨d, ?_, h1, h2⟩
  obtain ⟨hl, _⟩ := List.getElem?_eq_some_iff.mp e1
  obtain ⟨x, q, _, q2⟩ := atI_in (xs := ds) (i := i) (by omega) (by omega)
  rw [Int.toNat_natCast, e1] at q2
  cases q2
  exact q
theorem Dig.drop : ∀ (n : Nat) {ss ds : List Int}, Dig ss ds → Dig (ss.drop n) (ds.drop n)
  | 0, _, _, h => h
  | n + 1, [], [], _ => trivial
  | n + 1, [], _ :: _, h => h.elim
  | n + 1, _ :: _, [], h => h.elim
  | n + 1, _ :: _, _ :: _, h => Dig.drop n h.2
theorem Dig.all {B : Int} : ∀ {ss ds : List Int}, Dig ss ds → (∀ s ∈ ss, s ≤ B) → ∀ d ∈ ds, 0 ≤ d ∧ d < B
  | [], [], _, _, _, hd => by cases hd
  | [], _ :: _, h, _, _, _ => h.elim
  | _ :: _, [], h, _, _, _ => h.elim
  | s :: ss, d :: ds, h, hs, x, hx => by
    rcases List.mem_cons.mp hx with e | e
    · subst e
      have := hs s List.mem_cons_self
      exact ⟨h.1.1, Int.lt_of_lt_of_le h.1.2 this⟩
    · exact Dig.all h.2 (fun t ht => hs t (List.mem_cons_of_mem _ ht)) x e
theorem dig_step {num seed s : Int} {k : Nat} {wide : Bool} {ds : List D} (hs : 0 < s) (hs2 : s < 1073741824) (h0 : 0 ≤ num) (h1 : 0 ≤ seed) (h2 : seed < 4294967296) (hk : k < 1000) (hd : ds.length ≤ 1000) :
    ∃ num' seed' d : Int, 0 ≤ num' ∧ 0 ≤ seed' ∧ seed' < 4294967296 ∧ 0 ≤ d ∧ d < s ∧
      W__law_digits_1 [none, none, none, some (.v (.int num)), some (.v (.bool wide)), some (.v (.int seed)), some (.ref 0), some (.v (.int k)), some (.v (.int s))] [.lst ds] =
      some (.nx (S__law_digits_1 (.v (.int num')) (.v (.bool wide)) (.v (.int seed')) (.ref 0)) [.lst (ds ++ [.v (.int d)])]) := by
  have hl : ds.length < sizeLine := lt_line (by omega)
  by_cases hw : wide = true ∧ 0 < num
  · obtain ⟨rfl, hn⟩ := hw
    refine ⟨num / s, seed, num % s, Int.ediv_nonneg h0 (by omega), h1, h2, Int.emod_nonneg _ (by omega), Int.emod_lt_of_pos _ hs, ?_⟩
    have hc : cdiv s = true := by
      exact cdivI hs hs2
    simp [W__law_digits_1, L__law_digits_1, hn, hs, hl, hc]
  · have hp : cpow (seed + 104729 * ((k : Int) + 1)) 2 = true := by
      exact cpowI (by decide) (by decide) (by omega)
    have hm : cmul 104729 ((k : Int) + 1) = true := cmulL (by decide) (by decide)
    refine ⟨num, (seed + 104729 * ((k : Int) + 1)) ^ 2 % 2147483587, (seed + 104729 * ((k : Int) + 1)) ^ 2 % 2147483587 / 16 % s, h0, Int.emod_nonneg _ (by decide), Int.lt_trans (Int.emod_lt_of_pos _ (by decide)) (by decide), Int.emod_nonneg _ (by omega), Int.emod_lt_of_pos _ hs, ?_⟩
    have hd : cdiv 16 = true := cdivI (by decide) (by decide)
    cases wide with
    | false => simp [W__law_digits_1, L__law_digits_1, hm, hp, hd, hl, hs]
    | true =>
      have hn : ¬ 0 < num := fun z => hw ⟨rfl, z⟩
      simp [W__law_digits_1, L__law_digits_1, hn, hm, hp, hd, hl, hs]
theorem dig_loop {wide : Bool} : ∀ {sizes : List Int} {k : Nat} {num seed : Int} {pre : List Int} {ds : List Int}, (∀ s ∈ sizes, 0 < s ∧ s < 1073741824) → k + sizes.length ≤ 1000 → 0 ≤ num → 0 ≤ seed → seed < 4294967296 → Dig pre ds → ds.length = k →
    ∃ n' s' es, forL none G__law_digits_1 W__law_digits_1 (enumI k ((sizes.map PyData.int).map .v)) (S__law_digits_1 (.v (.int num)) (.v (.bool wide)) (.v (.int seed)) (.ref 0)) [.lst ((ds.map PyData.int).map .v)] =
      some (.nx (S__law_digits_1 n' (.v (.bool wide)) s' (.ref 0)) [.lst ((es.map PyData.int).map .v)]) ∧ Dig (pre ++ sizes) es
  | [], k, num, seed, pre, ds, _, _, _, _, _, hd, _ => ⟨_, _, ds, by rw [List.map_nil, List.map_nil, enumI, forL, if_pos (show gok none _ from trivial)], by rw [List.append_nil]; exact hd⟩
  | s :: r, k, num, seed, pre, ds, hs, hk, h0, h1, h2, hd, hl => by
    rw [List.length_cons] at hk
    obtain ⟨p1, p2⟩ := hs s List.mem_cons_self
    obtain ⟨num', seed', d, q0, q1, q2, q3, q4, e⟩ := dig_step (k := k) (wide := wide) (ds := (ds.map PyData.int).map .v) p1 p2 h0 h1 h2 (by omega) (by rw [List.length_map, List.length_map]; omega)
    obtain ⟨n', s', es, e3, e5⟩ := dig_loop (wide := wide) (sizes := r) (k := k + 1) (num := num') (seed := seed') (pre := pre ++ [s]) (ds := ds ++ [d]) (fun x hx => hs x (List.mem_cons_of_mem _ hx)) (by omega) q0 q1 q2 (Dig.snoc hd q3 q4) (by rw [List.length_append, hl]; rfl)
    refine ⟨n', s', es, ?_, by rw [List.append_assoc] at e5; exact e5⟩
    rw [List.map_cons, List.map_cons, enumI, forL, if_pos (show gok none _ from trivial)]
    rw [List.map_append, List.map_append] at e3
    simp [-List.map_map, e]
    exact e3
theorem dig_call {cell turn : Int} {sizes : List Int} {h : Hs} (hs : ∀ s ∈ sizes, 0 < s ∧ s < 1073741824) (hl : sizes.length ≤ 1000) (h0 : 0 ≤ turn) (h1 : turn ≤ 1000) :
    ∃ es : List Int, callR F__law_digits [.int cell, .int turn, .list (sizes.map .int)] false h = some (.ok (.v (.list (es.map .int))) h) ∧ Dig sizes es := by
  have hn : 0 ≤ (if cell < 0 then -cell else cell) := by split <;> omega
  generalize hN : (if cell < 0 then -cell else cell) = num at hn
  have hp : cpow 10 18 = true := cpowI (by decide) (by decide) (by decide)
  have hm : cmul 7919 turn = true := cmulL (by decide) (by decide)
  have q1 : 0 ≤ num % 2147483647 := Int.emod_nonneg _ (by decide)
  have q2 : num % 2147483647 < 2147483647 := Int.emod_lt_of_pos _ (by decide)
  obtain ⟨n', s', es, e3, e5⟩ := dig_loop (wide := decide (1000000000000000000 ≤ num)) (sizes := sizes) (k := 0) (num := num) (seed := num % 2147483647 + 7919 * turn) (pre := []) (ds := []) hs (by omega) hn (by omega) (by omega) trivial rfl
  refine ⟨es, callR_rt (h' := [.lst ((es.map PyData.int).map .v)]) (d := .ref 0) ?_ ?_, e5⟩
  · unfold F__law_digits mkFn B__law_digits
    simp [-List.map_map] at e3
    simp [-List.map_map, hN, hp, hm, e3]
  · show frz _ (11 + 1) (.ref 0) = _
    rw [y_frz1]
    simp only [List.getElem?_cons_zero]
    rw [y_frzs]
    rfl
end Fs
set_option maxHeartbeats 4000000
namespace Fs
open PySem PySem.Spec PyProof.Rows L2 Vl
/-! ## things of moderate size -/
def Dt : Nat → PyData → Prop
  | _, .none => True
  | _, .bool _ => True
  | _, .int _ => True
  | _, .str z => Tx 100000 z
  | _, .dict _ => True
  | 0, .list _ => False
  | 0, .tuple _ => False
  | n + 1, .list xs => xs.length ≤ 100000 ∧ ∀ x ∈ xs, Dt n x
  | n + 1, .tuple xs => xs.length ≤ 100000 ∧ ∀ x ∈ xs, Dt n x
theorem Dt.str {n : Nat} {z : Str} (h : Dt n (.str z)) : Tx 100000 z := by
  cases n <;> exact h
theorem Dt.list {n : Nat} {xs : List PyData} (h : Dt n (.list xs)) : ∃ m, n = m + 1 ∧ xs.length ≤ 100000 ∧ ∀ x ∈ xs, Dt m x := by
  cases n with
  | zero => exact h.elim
  | succ n => exact ⟨n, rfl, h⟩
theorem Dt.tuple {n : Nat} {xs : List PyData} (h : Dt n (.tuple xs)) : ∃ m, n = m + 1 ∧ xs.length ≤ 100000 ∧ ∀ x ∈ xs, Dt m x := by
  cases n with
  | zero => exact h.elim
  | succ n => exact ⟨n, rfl, h⟩
/-! ## the program's small tests, of any thing -/
abbrev abc : Str := Str.ofString "abcdefghijklmnopqrstuvwxyz"
def isName (z : Str) : Bool := decide (1 ≤ z.length) && decide (z.length ≤ 8) && z.cps.toList.all (fun c => decide (c ∈ abc.cps.toList))
def isNm : PyData → Bool
  | .str z => isName z
  | _ => false
def isInt : PyData → Bool
  | .int _ => true
  | _ => false
def isIn (lo hi : Int) : PyData → Bool
  | .int i => decide (lo ≤ i) && decide (i < hi)
  | _ => false
def isTup (n : Int) : PyData → Bool
  | .tuple xs => decide ((xs.length : Int) = n)
  | _ => false
theorem callR_b {F : Fn} {ps : List PyData} {h h' : Hs} {b : Bool} (e : F (ps.map .v) [] = some (.rt (.v (.bool b)) h')) : callR F ps false h = some (.ok (.v (.bool b)) h) := callR_rt e (frz_v _ _ _)
theorem callR_v {F : Fn} {ps : List PyData} {h h' : Hs} {b : PyData} (e : F (ps.map .v) [] = some (.rt (.v b) h')) : callR F ps false h = some (.ok (.v b) h) := callR_rt e (frz_v _ _ _)
@[simp] theorem is_whole_ok (d : PyData) (h : Hs) : callR F_is_whole [d] false h = some (.ok (.v (.bool (isInt d))) h) := by
  refine callR_b (h' := []) ?_
  cases d <;> simp [F_is_whole, mkFn, B_is_whole, isInt]
@[simp] theorem is_within_ok (d : PyData) (lo hi : Int) (h : Hs) : callR F_is_within [d, .int lo, .int hi] false h = some (.ok (.v (.bool (isIn lo hi d))) h) := by
  refine callR_b (h' := []) ?_
  cases d with
  | int i =>
    by_cases h1 : lo ≤ i <;> simp [F_is_within, mkFn, B_is_within, is_whole_ok, isInt, isIn, h1]
  | _ => simp [F_is_within, mkFn, B_is_within, is_whole_ok, isInt, isIn]
theorem is_name_ok {n : Nat} {d : PyData} (hd : Dt n d) (h : Hs) : callR F_is_name [d] false h = some (.ok (.v (.bool (isNm d))) h) := by
  refine callR_b (h' := []) ?_
  cases d with
  | str z =>
    have hz := hd.str.line
    have hc : compL none (gNm 1) tYes' (eIn (eVar 1) (eC (.str abc))) (signsD z) [some (.v (.str z)), none] [] = some (((z.cps.toList.filter fun _ => true).map fun c => .bool (decide (c ∈ abc.cps.toList))).map .v, []) := by
      refine compSigns z _ _ _ _ _ fun c => ⟨_, rfl, rfl, fun _ => ?_⟩
      simp [ngt]
    by_cases h1 : 1 ≤ z.length
    · have h1' : 1 ≤ (z.length : Int) := by omega
      by_cases h2 : z.length ≤ 8
      · have h2' : (z.length : Int) ≤ 8 := by omega
        simp [F_is_name, mkFn, B_is_name, isNm, isName, hz, hc, bools_map, h1, h2, h1', h2']
      · have h2' : ¬ (z.length : Int) ≤ 8 := by omega
        simp [F_is_name, mkFn, B_is_name, isNm, isName, hz, h1, h2, h1', h2']
    · have h1' : ¬ 1 ≤ (z.length : Int) := by omega
      simp [F_is_name, mkFn, B_is_name, isNm, isName, hz, h1, h1']
  | _ => simp [F_is_name, mkFn, B_is_name, isNm]
theorem eqD_int {neg : Bool} {i j : Int} {h : Hs} : eqD neg (.v (.int i)) (.v (.int j)) h = some (.v (.bool (if neg = true then !decide (i = j) else decide (i = j)))) := by
  rw [eqD_v (sh_int (n := 0) i).shaped (sh_int (n := 0) j).shaped]
  simp [PyData.eqv]
  rfl
@[simp] theorem is_tuple_ok (d : PyData) (n : Int) (h : Hs) : callR F_is_tuple [d, .int n] false h = some (.ok (.v (.bool (isTup n d))) h) := by
  refine callR_b (h' := []) ?_
  cases d <;> simp [F_is_tuple, mkFn, B_is_tuple, isTup, eqD_int]
theorem len3 {α : Type} {xs : List α} (h : xs.length = 3) : ∃ a b c, xs = [a, b, c] := by
  match xs, h with
  | [a, b, c], _ => exact ⟨a, b, c, rfl⟩
theorem len2 {α : Type} {xs : List α} (h : xs.length = 2) : ∃ a b, xs = [a, b] := by
  match xs, h with
  | [a, b], _ => exact ⟨a, b, rfl⟩
theorem atI_nat {α : Type} {xs : List α} {k : Nat} {x : α} (h : xs[k]? = some x) : atI xs (k : Int) = some x := by
  obtain ⟨hl, _⟩ := List.getElem?_eq_some_iff.mp h
  obtain ⟨y, e1, _, e2⟩ := atI_in (xs := xs) (i := k) (by omega) (by omega)
  rw [Int.toNat_natCast, h] at e2
  cases e2
  exact e1
@[simp] theorem at0 {α : Type} (a : α) (r : List α) : atI (a :: r) 0 = some a := atI_nat (k := 0) rfl
@[simp] theorem at1 {α : Type} (a b : α) (r : List α) : atI (a :: b :: r) 1 = some b := atI_nat (k := 1) rfl
@[simp] theorem at2 {α : Type} (a b c : α) (r : List α) : atI (a :: b :: c :: r) 2 = some c := atI_nat (k := 2) rfl
@[simp] theorem at3 {α : Type} (a b c d : α) (r : List α) : atI (a :: b :: c :: d :: r) 3 = some d := atI_nat (k := 3) rfl
@[simp] theorem at4 {α : Type} (a b c d e : α) (r : List α) : atI (a :: b :: c :: d :: e :: r) 4 = some e := atI_nat (k := 4) rfl
/-- a box -/
def isBx : PyData → Bool
  | .tuple [n, .int w, f] => isNm n && decide (2 ≤ w) && decide (w < 7) && isIn 0 w f
  | _ => false
theorem is_box_ok {n : Nat} {d : PyData} (hd : Dt n d) (h : Hs) : callR F_is_box [d] false h = some (.ok (.v (.bool (isBx d))) h) := by
  refine callR_b (h' := []) ?_
  cases d with
  | tuple xs =>
    obtain ⟨m, rfl, hl, hx⟩ := hd.tuple
    by_cases h3 : xs.length = 3
    · obtain ⟨a, b, c, rfl⟩ := len3 h3
      have ha := is_name_ok (hx a (by simp))
      cases b with
      | int w => 
        cases hn : isNm a <;> by_cases h1 : 2 ≤ w <;> by_cases h2 : w < 7 <;> simp [F_is_box, mkFn, B_is_box, ha, isTup, isIn, isBx, hn, h1, h2]
      | _ => cases hn : isNm a <;> simp [F_is_box, mkFn, B_is_box, ha, isTup, isIn, isBx, hn]
    · have : isBx (.tuple xs) = false := by
        unfold isBx
        split
        · rename_i e
          cases e
          exact absurd rfl h3
        · rfl
      have h3' : ¬ (xs.length : Int) = 3 := by omega
      simp [F_is_box, mkFn, B_is_box, isTup, this, h3']
  | _ => simp [F_is_box, mkFn, B_is_box, isTup, isBx]
/-- a call that is left by a refusal, its fields data -/
theorem callR_x {F : Fn} {ps : List PyData} {h h' : Hs} {c : Str} {fs : List (Str × PyData)} (e : F (ps.map .v) [] = some (.ex ⟨c, fs.map fun f => (f.1, .v f.2)⟩ h')) : callR F ps false h = some (.ex ⟨c, fs.map fun f => (f.1, .v f.2)⟩ h) := by
  unfold callR
  rw [e]
  have e1 : (fs.map fun f => (f.1, D.v f.2)).map (·.2) = (fs.map (·.2)).map D.v := by simp [Function.comp_def]
  have e2 : (fs.map fun f => (f.1, D.v f.2)).map (·.1) = fs.map (·.1) := by simp [Function.comp_def]
  simp only [e1, e2, y_frzs, Bool.false_and, Bool.false_eq_true, if_false]
  congr 3
  clear e e1 e2
  induction fs with
  | nil => rfl
  | cons f r ih =>
    simp only [List.map_cons, List.zip_cons_cons]
    rw [ih]
/-! ## boxes -/
def nmOf : PyData → Str
  | .tuple (.str z :: _) => z
  | _ => ⟨#[]⟩
def woOf : PyData → Int
  | .tuple (_ :: .int w :: _) => w
  | _ => 1
theorem isBx_shape {d : PyData} (h : isBx d = true) : ∃ z w f, d = .tuple [.str z, .int w, .int f] ∧ isName z = true ∧ 2 ≤ w ∧ w < 7 ∧ 0 ≤ f ∧ f < w := by
  unfold isBx at h
  split at h
  · rename_i n w f
    simp only [Bool.and_eq_true, decide_eq_true_eq] at h
    obtain ⟨⟨⟨h1, h2⟩, h3⟩, h4⟩ := h
    cases n with
    | str z =>
      cases f with
      | int f =>
        simp only [isIn, Bool.and_eq_true, decide_eq_true_eq] at h4
        exact ⟨z, w, f, rfl, h1, h2, h3, h4.1, h4.2⟩
      | _ => cases h4
    | _ => cases h1
  · cases h
def prodW : List PyData → Int
  | [] => 1
  | b :: r => woOf b * prodW r
theorem prodW_app (a b : List PyData) : prodW (a ++ b) = prodW a * prodW b := by
  induction a with
  | nil => simp [prodW]
  | cons x r ih => rw [List.cons_append, prodW, prodW, ih, Int.mul_assoc]
theorem many_loop {h : Hs} : ∀ (bs : List PyData) (m : Int), (∀ b ∈ bs, isBx b = true) → forL none G_many_stores_1 W_many_stores_1 (bs.map .v) (S_many_stores_1 (.v (.int m))) h = some (.nx (S_many_stores_1 (.v (.int (m * prodW bs)))) h)
  | [], m, _ => by simp [forL, gok, prodW]
  | b :: r, m, hb => by
    obtain ⟨z, w, f, rfl, _, h2, h3, _⟩ := isBx_shape (hb b List.mem_cons_self)
    have ih := many_loop (h := h) r (m * w) fun x hx => hb x (List.mem_cons_of_mem _ hx)
    have hc : cmul m w = true := by
      exact cmulR (by omega) (by omega)
    simp [forL, gok, W_many_stores_1, L_many_stores_1, hc, ih, prodW, woOf, Int.mul_assoc]
theorem many_stores_ok {bs : List PyData} (hb : ∀ b ∈ bs, isBx b = true) (h : Hs) : callR F_many_stores [.list bs] false h = some (.ok (.v (.int (prodW bs))) h) := by
  refine callR_v (h' := []) ?_
  have e := many_loop (h := []) bs 1 hb
  simp only [Int.one_mul] at e
  simp [F_many_stores, mkFn, B_many_stores, e]
theorem cut_pre {α : Type} (a b : List α) : cutP (a ++ b) none (some (a.length : Int)) = a := by
  unfold cutP
  rw [HT.sIx_nat, HT.sIx_none]
  simp
theorem inP_list {neg : Bool} {x : PyData} {ys : List PyData} : inP neg x (.list ys) = if (SeqAt.shaped x && SeqAt.shaped (.list ys)) = true then some (.bool (ngt neg (ys.any fun z => PyData.eqv z x))) else none := by
  cases x <;> rfl
theorem inP_tuple {neg : Bool} {x : PyData} {ys : List PyData} : inP neg x (.tuple ys) = if (isFlat x && ys.all isFlat) = true then some (.bool (ngt neg (ys.any fun z => PyData.eqv z x))) else none := by
  cases x <;> rfl
theorem inS {neg : Bool} {z : Str} {l : List Str} (hz : okS z) (hl : ∀ y ∈ l, okS y) : inP neg (.str z) (.list (l.map .str)) = some (.bool (ngt neg (decide (z ∈ l)))) := by
  have h1 : SeqAt.shaped (.str z) = true := (sh_str (n := 0) hz).shaped
  have h2 : SeqAt.shaped (.list (l.map .str)) = true := (sh_list (n := 0) (xs := l.map .str) fun x hx => by
    obtain ⟨y, hy, rfl⟩ := List.mem_map.mp hx
    exact sh_str (hl y hy)).shaped
  rw [inP_list, h1, h2]
  simp only [Bool.and_self, if_true, List.any_map]
  congr 3
  rw [Bool.eq_iff_iff, List.any_eq_true, decide_eq_true_eq]
  constructor
  · rintro ⟨x, hx, e⟩
    have e : x = z := by simpa [PyData.eqv] using e
    exact e ▸ hx
  · intro h
    exact ⟨z, h, by simp [PyData.eqv]⟩
theorem isName_ok {z : Str} (h : isName z = true) : Tx 8 z := by
  unfold isName at h
  simp only [Bool.and_eq_true, decide_eq_true_eq, List.all_eq_true] at h
  refine ⟨fun c hc => ?_, h.1.2⟩
  have := h.2 c hc
  have ok : ∀ c ∈ abc.cps.toList, c < 0x110000 := by decide +kernel
  exact ok c this
def bxDue : List PyData → List PyData → Option Nat
  | _, [] => none
  | pre, b :: r => if isBx b = false ∨ nmOf b ∈ pre.map nmOf ∨ 8 < prodW (pre ++ [b]) then some pre.length else bxDue (pre ++ [b]) r
abbrev noProg (p : Str) (n r : PyData) : Ex := ⟨"NoProgram", [("row", .v r), ("number", .v n), ("part", .v (.str p))]⟩
theorem callR_np {F : Fn} {ps : List PyData} {h h' : Hs} {p : Str} {n r : PyData} (e : F (ps.map .v) [] = some (.ex (noProg p n r) h')) : callR F ps false h = some (.ex (noProg p n r) h) := callR_x (fs := [("row", r), ("number", n), ("part", .str p)]) e
theorem boxes_loop {n : Nat} {all : List PyData} {h : Hs} (hl : all.length ≤ 1000) : ∀ (r pre : List PyData), all = pre ++ r → (∀ b ∈ pre, isBx b = true) → (∀ b ∈ r, Dt n b) →
    (bxDue pre r = none → forL none G_look_at_boxes_1 W_look_at_boxes_1 (enumI pre.length (r.map .v)) (S_look_at_boxes_1 (.v (.list all))) h = some (.nx (S_look_at_boxes_1 (.v (.list all))) h)) ∧
    (∀ k, bxDue pre r = some k → ∃ s, forL none G_look_at_boxes_1 W_look_at_boxes_1 (enumI pre.length (r.map .v)) (S_look_at_boxes_1 (.v (.list all))) h = some (.ex s (noProg "boxes" (.int k) .none) h))
  | [], pre, _, _, _ => ⟨fun _ => by simp [forL, gok, enumI], fun k e => by cases e⟩
  | b :: r, pre, ea, hp, hd => by
    have ih := boxes_loop (n := n) (h := h) hl r (pre ++ [b]) (by rw [ea, List.append_assoc]; rfl)
    have hb := is_box_ok (hd b List.mem_cons_self)
    have e1 : cutP all none (some (pre.length : Int)) = pre := by rw [ea]; exact cut_pre pre (b :: r)
    have e2 : cutP all none (some ((pre.length : Int) + 1)) = pre ++ [b] := by
      have := cut_pre (pre ++ [b]) r
      rw [List.length_append, List.append_assoc] at this
      rw [ea]
      exact this
    have step : isBx b = true → ∃ z w f, b = .tuple [.str z, .int w, .int f] ∧ okS z ∧ compL none (gNm 3) tYes' (eIx (eVar 3) (eC (.int 0))) (pre.map .v) [some (.v (.list all)), some (.v (.int pre.length)), some (.v b), none] h = some ((pre.map nmOf).map (fun z => .v (.str z)), h) := fun hx => by
      obtain ⟨z, w, f, rfl, hz, _⟩ := isBx_shape hx
      refine ⟨z, w, f, rfl, (isName_ok hz).1, ?_⟩
      rw [compMap pre D.v (gNm 3) _ (fun b => .str (nmOf b)) fun c hc => ⟨_, rfl, ?_⟩, List.map_map]
      · rfl
      · obtain ⟨z', w', f', rfl, _⟩ := isBx_shape (hp c hc)
        simp [nmOf]
    unfold bxDue
    cases hx : isBx b with
    | false =>
      refine ⟨fun e => by simp at e, fun k e => ?_⟩
      simp at e
      subst e
      exact ⟨_, by
        simp [forL, gok, enumI, W_look_at_boxes_1, L_look_at_boxes_1, hb, hx, sThrow]
        rfl⟩
    | true =>
      obtain ⟨z, w, f, eb, hz, hc⟩ := step hx
      have hin : inP false (.str z) (.list ((pre.map nmOf).map .str)) = some (.bool (decide (z ∈ pre.map nmOf))) := inS hz fun y hy => by
        obtain ⟨c, hc, rfl⟩ := List.mem_map.mp hy
        obtain ⟨z', w', f', rfl, h', _⟩ := isBx_shape (hp c hc)
        exact (isName_ok h').1
      have hpb : ∀ c ∈ pre ++ [b], isBx c = true := fun c hc => by
        rcases List.mem_append.mp hc with hc | hc
        · exact hp c hc
        · rw [List.mem_singleton.mp hc]
          exact hx
      have hm := many_stores_ok hpb
      have ih := ih hpb fun c hc => hd c (List.mem_cons_of_mem _ hc)
      have en : nmOf b = z := by rw [eb]; rfl
      have ei : ixD (.v b) (.v (.int 0)) h = some (.v (.str z)) := by rw [eb]; simp
      by_cases hn : z ∈ pre.map nmOf
      · refine ⟨fun e => (by simp only [en, hn, true_or, or_true, if_true] at e; cases e), fun k e => ?_⟩
        simp only [en, hn, true_or, or_true, if_true, Option.some.injEq] at e
        subst e
        exact ⟨_, by
          simp [-List.map_map, -List.mem_map, forL, gok, enumI, W_look_at_boxes_1, L_look_at_boxes_1, hb, hx, sThrow, ei, e1, hc, hin, hn, ngt]
          rfl⟩
      · by_cases hp8 : 8 < prodW (pre ++ [b])
        · refine ⟨fun e => (by simp only [hp8, or_true, if_true] at e; cases e), fun k e => ?_⟩
          simp only [hp8, or_true, if_true, Option.some.injEq] at e
          subst e
          exact ⟨_, by
            simp [-List.map_map, -List.mem_map, forL, gok, enumI, W_look_at_boxes_1, L_look_at_boxes_1, hb, hx, sThrow, ei, e1, e2, hc, hin, hn, ngt, hm, hp8]
            rfl⟩
        · have st : W_look_at_boxes_1 [some (.v (.list all)), some (.v (.int pre.length)), some (.v b), none] h = some (.nx (S_look_at_boxes_1 (.v (.list all))) h) := by
            simp [-List.map_map, -List.mem_map, W_look_at_boxes_1, L_look_at_boxes_1, hb, hx, sThrow, ei, e1, e2, hc, hin, hn, ngt, hm, hp8]
          simp only [en, hn, hp8, Bool.true_eq_false, false_or, if_false]
          rw [List.length_append] at ih
          simp [-List.map_map, forL, gok, enumI, st]
          simpa using ih
theorem boxes_ok {n : Nat} {bs : List PyData} (hd : ∀ b ∈ bs, Dt n b) (hl : bs.length ≤ 100000) (h : Hs) : callR F_look_at_boxes [.list bs] false h =
    (if 1 ≤ bs.length ∧ bs.length ≤ 3 then (match bxDue [] bs with
      | none => some (.ok (.v .none) h)
      | some k => some (.ex (noProg "boxes" (.int k) .none) h)) else some (.ex (noProg "boxes" .none .none) h)) := by
  by_cases h1 : 1 ≤ bs.length
  · have h1' : 1 ≤ (bs.length : Int) := by omega
    by_cases h3 : bs.length ≤ 3
    · have h3' : (bs.length : Int) ≤ 3 := by omega
      obtain ⟨a1, a2⟩ := boxes_loop (all := bs) (h := []) (by omega) bs [] rfl (by simp) hd
      rw [if_pos ⟨h1, h3⟩]
      cases e : bxDue [] bs with
      | none =>
        refine callR_v (h' := []) ?_
        have := a1 e
        rw [List.length_nil] at this
        simp [F_look_at_boxes, mkFn, B_look_at_boxes, h1', h3', this]
      | some k =>
        obtain ⟨s, hs⟩ := a2 k e
        rw [List.length_nil] at hs
        refine callR_np (h' := []) ?_
        simp [F_look_at_boxes, mkFn, B_look_at_boxes, h1', h3', hs]
    · have h3' : ¬ (bs.length : Int) ≤ 3 := by omega
      rw [if_neg (fun z => h3 z.2)]
      refine callR_np (h' := []) ?_
      simp [F_look_at_boxes, mkFn, B_look_at_boxes, h1', h3', sThrow]
  · have h1' : ¬ 1 ≤ (bs.length : Int) := by omega
    rw [if_neg (fun z => h1 z.1)]
    refine callR_np (h' := []) ?_
    simp [F_look_at_boxes, mkFn, B_look_at_boxes, h1', sThrow]
end Fs
set_option maxHeartbeats 4000000
namespace Fs
open PySem PySem.Spec PyProof.Rows L2 Vl
theorem eqD_s {neg : Bool} {a b : Str} {h : Hs} : eqD neg (.v (.str a)) (.v (.str b)) h = some (.v (.bool (if neg = true then !decide (a = b) else decide (a = b)))) := by
  rw [eqD_str]
  rfl
/-! ## procedures -/
def isPr : PyData → Bool
  | .tuple [n, .list _] => isNm n
  | _ => false
def rwOf : PyData → List PyData
  | .tuple [_, .list r] => r
  | _ => []
def prDue : List PyData → List PyData → Option Nat
  | _, [] => none
  | pre, p :: r => if isPr p = false ∨ (rwOf p).length < 1 ∨ 8 < (rwOf p).length ∨ nmOf p ∈ pre.map nmOf then some pre.length else prDue (pre ++ [p]) r
theorem isPr_shape {d : PyData} (h : isPr d = true) : ∃ z r, d = .tuple [.str z, .list r] ∧ isName z = true := by
  unfold isPr at h
  split at h
  · rename_i n r
    cases n with
    | str z => exact ⟨z, r, rfl, h⟩
    | _ => cases h
  · cases h
theorem names_comp {s0 : Sl} {h : Hs} {i : Nat} {l : List PyData} (hs : i < s0.length) (hl : ∀ d ∈ l, ∃ z r, d = .tuple (.str z :: r)) : compL none (gNm i) tYes' (eIx (eVar i) (eC (.int 0))) (l.map .v) s0 h = some (((l.map nmOf).map .str).map .v, h) := by
  rw [compMap l D.v (gNm i) _ (fun b => .str (nmOf b)) fun c hc => ⟨_, rfl, ?_⟩, List.map_map, List.map_map]
  · rfl
  · obtain ⟨z, r, rfl⟩ := hl c hc
    simp [nmOf, hs]
theorem procs_loop {n : Nat} {all : List PyData} {h : Hs} (hl : all.length ≤ 1000) : ∀ (r pre : List PyData), all = pre ++ r → (∀ b ∈ pre, isPr b = true) → (∀ b ∈ r, Dt n b) →
    (prDue pre r = none → forL none G_look_at_procs_1 W_look_at_procs_1 (enumI pre.length (r.map .v)) (S_look_at_procs_1 (.v (.list all))) h = some (.nx (S_look_at_procs_1 (.v (.list all))) h)) ∧
    (∀ k, prDue pre r = some k → ∃ s, forL none G_look_at_procs_1 W_look_at_procs_1 (enumI pre.length (r.map .v)) (S_look_at_procs_1 (.v (.list all))) h = some (.ex s (noProg "procs" (.int k) .none) h))
  | [], pre, _, _, _ => ⟨fun _ => by simp [forL, gok, enumI], fun k e => by cases e⟩
  | b :: r, pre, ea, hp, hd => by
    have ih := procs_loop (n := n) (h := h) hl r (pre ++ [b]) (by rw [ea, List.append_assoc]; rfl)
    have hb := hd b List.mem_cons_self
    have e1 : cutP all none (some (pre.length : Int)) = pre := by rw [ea]; exact cut_pre pre (b :: r)
    have hpre : ∀ d ∈ pre, ∃ z r, d = .tuple (.str z :: r) := fun d hd => by
      obtain ⟨z, r, rfl, _⟩ := isPr_shape (hp d hd)
      exact ⟨z, _, rfl⟩
    unfold prDue
    cases hx : isPr b with
    | false =>
      refine ⟨fun e => by simp at e, fun k e => ?_⟩
      simp at e
      subst e
      cases b with
      | tuple xs =>
        by_cases h2 : xs.length = 2
        · obtain ⟨x, y, rfl⟩ := len2 h2
          obtain ⟨m, rfl, _, hxs⟩ := hb.tuple
          have hn := is_name_ok (hxs x (by simp)) h
          cases ex : isNm x with
          | false =>
            exact ⟨_, by
              simp [forL, gok, enumI, W_look_at_procs_1, L_look_at_procs_1, isTup, hn, ex, sThrow]
              rfl⟩
          | true =>
            cases y with
            | list r =>
              simp [isPr, ex] at hx
            | _ =>
              exact ⟨_, by
                simp [forL, gok, enumI, W_look_at_procs_1, L_look_at_procs_1, isTup, hn, ex, sThrow]
                rfl⟩
        · have h2' : ¬ (xs.length : Int) = 2 := by omega
          exact ⟨_, by
            simp [forL, gok, enumI, W_look_at_procs_1, L_look_at_procs_1, isTup, h2', sThrow]
            rfl⟩
      | _ =>
        exact ⟨_, by
          simp [forL, gok, enumI, W_look_at_procs_1, L_look_at_procs_1, isTup, sThrow]
          rfl⟩
    | true =>
      obtain ⟨z, rs, rfl, hz⟩ := isPr_shape hx
      obtain ⟨m, rfl, _, hxs⟩ := hb.tuple
      have hn := is_name_ok (hxs (.str z) (by simp)) h
      have hnz : isNm (.str z) = true := hz
      have hc := names_comp (h := h) (i := 3) (s0 := [some (.v (.list all)), some (.v (.int pre.length)), some (.v (.tuple [.str z, .list rs])), none]) (by simp) hpre
      have hin : inP false (.str z) (.list ((pre.map nmOf).map .str)) = some (.bool (ngt false (decide (z ∈ pre.map nmOf)))) := inS (isName_ok hz).1 fun y hy => by
        obtain ⟨c, hc, rfl⟩ := List.mem_map.mp hy
        obtain ⟨z', r', rfl, h'⟩ := isPr_shape (hp c hc)
        exact (isName_ok h').1
      have hpb : ∀ c ∈ pre ++ [.tuple [.str z, .list rs]], isPr c = true := fun c hc => by
        rcases List.mem_append.mp hc with hc | hc
        · exact hp c hc
        · rw [List.mem_singleton.mp hc]
          exact hx
      have ih := ih hpb fun c hc => hd c (List.mem_cons_of_mem _ hc)
      have en : nmOf (.tuple [.str z, .list rs]) = z := rfl
      have er : rwOf (.tuple [.str z, .list rs]) = rs := rfl
      rw [en, er]
      by_cases g1 : 1 ≤ rs.length
      · have g1' : 1 ≤ (rs.length : Int) := by omega
        by_cases g2 : rs.length ≤ 8
        · have g2' : (rs.length : Int) ≤ 8 := by omega
          by_cases g3 : z ∈ pre.map nmOf
          · refine ⟨fun e => (by simp only [g3, or_true, if_true] at e; cases e), fun k e => ?_⟩
            simp only [g3, or_true, if_true, Option.some.injEq] at e
            subst e
            exact ⟨_, by
              simp [-List.map_map, -List.mem_map, forL, gok, enumI, W_look_at_procs_1, L_look_at_procs_1, isTup, hn, hnz, g1', g2', g3, e1, hc, hin, ngt, sThrow]
              rfl⟩
          · have st : W_look_at_procs_1 [some (.v (.list all)), some (.v (.int pre.length)), some (.v (.tuple [.str z, .list rs])), none] h = some (.nx (S_look_at_procs_1 (.v (.list all))) h) := by
              simp [-List.map_map, -List.mem_map, W_look_at_procs_1, L_look_at_procs_1, isTup, hn, hnz, g1', g2', g3, e1, hc, hin, ngt, sThrow]
            have n1 : ¬ rs.length < 1 := by omega
            have n2 : ¬ 8 < rs.length := by omega
            simp only [n1, n2, g3, Bool.true_eq_false, false_or, if_false]
            rw [List.length_append] at ih
            simp [-List.map_map, forL, gok, enumI, st]
            simpa using ih
        · have g2' : ¬ (rs.length : Int) ≤ 8 := by omega
          have n2 : 8 < rs.length := by omega
          refine ⟨fun e => (by simp only [n2, true_or, or_true, if_true] at e; cases e), fun k e => ?_⟩
          simp only [n2, true_or, or_true, if_true, Option.some.injEq] at e
          subst e
          exact ⟨_, by
            simp [-List.map_map, -List.mem_map, forL, gok, enumI, W_look_at_procs_1, L_look_at_procs_1, isTup, hn, hnz, g1', g2', sThrow]
            rfl⟩
      · have g1' : ¬ 1 ≤ (rs.length : Int) := by omega
        have n1 : rs.length < 1 := by omega
        refine ⟨fun e => (by simp only [n1, true_or, or_true, if_true] at e; cases e), fun k e => ?_⟩
        simp only [n1, true_or, or_true, if_true, Option.some.injEq] at e
        subst e
        exact ⟨_, by
          simp [-List.map_map, -List.mem_map, forL, gok, enumI, W_look_at_procs_1, L_look_at_procs_1, isTup, hn, hnz, g1', sThrow]
          rfl⟩
theorem procs_ok {n : Nat} {bs : List PyData} (hd : ∀ b ∈ bs, Dt n b) (h : Hs) : callR F_look_at_procs [.list bs] false h =
    (if 1 ≤ bs.length ∧ bs.length ≤ 6 then (match prDue [] bs with
      | none => some (.ok (.v .none) h)
      | some k => some (.ex (noProg "procs" (.int k) .none) h)) else some (.ex (noProg "procs" .none .none) h)) := by
  by_cases h1 : 1 ≤ bs.length
  · have h1' : 1 ≤ (bs.length : Int) := by omega
    by_cases h3 : bs.length ≤ 6
    · have h3' : (bs.length : Int) ≤ 6 := by omega
      obtain ⟨a1, a2⟩ := procs_loop (all := bs) (h := []) (by omega) bs [] rfl (by simp) hd
      rw [if_pos ⟨h1, h3⟩]
      cases e : prDue [] bs with
      | none =>
        refine callR_v (h' := []) ?_
        have := a1 e
        rw [List.length_nil] at this
        simp [F_look_at_procs, mkFn, B_look_at_procs, h1', h3', this]
      | some k =>
        obtain ⟨s, hs⟩ := a2 k e
        rw [List.length_nil] at hs
        refine callR_np (h' := []) ?_
        simp [F_look_at_procs, mkFn, B_look_at_procs, h1', h3', hs]
    · have h3' : ¬ (bs.length : Int) ≤ 6 := by omega
      rw [if_neg (fun z => h3 z.2)]
      refine callR_np (h' := []) ?_
      simp [F_look_at_procs, mkFn, B_look_at_procs, h1', h3', sThrow]
  · have h1' : ¬ 1 ≤ (bs.length : Int) := by omega
    rw [if_neg (fun z => h1 z.1)]
    refine callR_np (h' := []) ?_
    simp [F_look_at_procs, mkFn, B_look_at_procs, h1', sThrow]
end Fs
set_option maxHeartbeats 4000000
namespace Fs
open PySem PySem.Spec PyProof.Rows L2 Vl
theorem _root_.Vl.Sh.shaped' {n : Nat} {d : PyData} (h : Sh n d) (hn : n ≤ 64) : SeqAt.shaped d = true := Sh.shaped h hn
/-! ## rows -/
theorem names_pr {bs : List PyData} (hb : ∀ b ∈ bs, isPr b = true) : ∀ d ∈ bs, ∃ z r, d = .tuple (.str z :: r) := fun d hd => by
  obtain ⟨z, w, rfl, _⟩ := isPr_shape (hb d hd)
  exact ⟨z, _, rfl⟩
def woAt : List PyData → Str → Int
  | [], _ => 0
  | b :: r, z => if nmOf b = z then woOf b else woAt r z
theorem worths_loop {z : Str} {h : Hs} : ∀ (bs : List PyData), (∀ b ∈ bs, isBx b = true) →
    (z ∉ bs.map nmOf ∧ forL none G_worths_of_1 W_worths_of_1 (bs.map .v) (S_worths_of_1 (.v (.str z))) h = some (.nx (S_worths_of_1 (.v (.str z))) h)) ∨
    (z ∈ bs.map nmOf ∧ forL none G_worths_of_1 W_worths_of_1 (bs.map .v) (S_worths_of_1 (.v (.str z))) h = some (.rt (.v (.int (woAt bs z))) h))
  | [], _ => .inl ⟨by simp, by simp [forL, gok]⟩
  | b :: r, hb => by
    obtain ⟨n, w, f, rfl, _⟩ := isBx_shape (hb b List.mem_cons_self)
    have ih := worths_loop (z := z) (h := h) r fun x hx => hb x (List.mem_cons_of_mem _ hx)
    by_cases e : n = z
    · subst e
      exact .inr ⟨by simp [nmOf], by simp [forL, gok, W_worths_of_1, L_worths_of_1, eqD_s, woAt, nmOf, woOf]⟩
    · have st : W_worths_of_1 [none, some (.v (.str z)), some (.v (.tuple [.str n, .int w, .int f]))] h = some (.nx (S_worths_of_1 (.v (.str z))) h) := by
        simp [W_worths_of_1, L_worths_of_1, eqD_s, e]
      rcases ih with ⟨h1, h2⟩ | ⟨h1, h2⟩
      · refine .inl ⟨?_, ?_⟩
        · rw [List.map_cons, List.mem_cons, not_or]
          exact ⟨fun q => e q.symm, h1⟩
        · simp [forL, gok, st, h2]
      · refine .inr ⟨List.mem_cons_of_mem _ h1, ?_⟩
        simp [forL, gok, st, h2, woAt, nmOf, e]
theorem woAt_none : ∀ {bs : List PyData} {z : Str}, z ∉ bs.map nmOf → woAt bs z = 0
  | [], _, _ => rfl
  | b :: r, z, h => by
    rw [List.map_cons, List.mem_cons, not_or] at h
    rw [woAt, if_neg fun e => h.1 e.symm]
    exact woAt_none h.2
theorem worths_str {bs : List PyData} (hb : ∀ b ∈ bs, isBx b = true) (z : Str) (h : Hs) : callR F_worths_of [.list bs, .str z] false h = some (.ok (.v (.int (woAt bs z))) h) := by
  refine callR_v (h' := []) ?_
  rcases worths_loop (z := z) (h := []) bs hb with ⟨h1, h2⟩ | ⟨h1, h2⟩
  · simp [F_worths_of, mkFn, B_worths_of, h2, woAt_none h1]
  · simp [F_worths_of, mkFn, B_worths_of, h2]
theorem worths_else {bs : List PyData} {d : PyData} (hd : ∀ z, d ≠ .str z) (h : Hs) : callR F_worths_of [.list bs, d] false h = some (.ok (.v (.int 0)) h) := by
  refine callR_v (h' := []) ?_
  have hi : isiD "str" (.v d) [] = some (.v (.bool false)) := by
    cases d with
    | str z => exact absurd rfl (hd z)
    | _ => simp
  have e : ∀ bs : List PyData, forL none G_worths_of_1 W_worths_of_1 (bs.map .v) (S_worths_of_1 (.v d)) [] = some (.nx (S_worths_of_1 (.v d)) []) := fun bs => by
    induction bs with
    | nil => simp [forL, gok]
    | cons b r ih =>
      have st : W_worths_of_1 [none, some (.v d), some (.v b)] [] = some (.nx (S_worths_of_1 (.v d)) []) := by simp [W_worths_of_1, L_worths_of_1, hi]
      simp [forL, gok, st, ih]
  simp [F_worths_of, mkFn, B_worths_of, e]
def isTos (e : Int) : PyData → Bool
  | .tuple xs => xs.all (isIn 0 (e + 1))
  | _ => false
theorem are_tos_ok (d : PyData) (e : Int) (h : Hs) : callR F_are_tos [d, .int e] false h = some (.ok (.v (.bool (isTos e d))) h) := by
  refine callR_b (h' := []) ?_
  cases d with
  | tuple xs =>
    have hc : compL none (gNm 2) tYes' (eCall F_is_within (eCons (eVar 2) (eCons (eC (.int 0)) (eCons (eAdd (eVar 1) (eC (.int 1))) eNil)))) (xs.map .v) [some (.v (.tuple xs)), some (.v (.int e)), none] [] = some (xs.map (fun c => .v (.bool (isIn 0 (e + 1) c))), []) :=
      compMap xs D.v (gNm 2) _ (fun c => .bool (isIn 0 (e + 1) c)) fun c _ => ⟨_, rfl, by simp⟩
    simp [F_are_tos, mkFn, B_are_tos, hc, isTos, bools_map, Function.comp_def]
  | _ => simp [F_are_tos, mkFn, B_are_tos, isTos]
/-- a row that names a box, behind its first word: the worths of the box, the end, how many hands -/
def rowB (s : Str) (w e nh : Int) : List PyData → Bool
  | r => if w = 0 then false else if s = "put" then (match r with
      | [x, t] => isIn 0 w x && isIn 0 (e + 1) t
      | _ => false)
    else if s = "swap" then (match r with
      | [x, y, t] => isIn 0 w x && isIn 0 w y && isIn 0 (e + 1) t
      | _ => false)
    else if s = "ask" then (match r with
      | [.tuple ts] => decide ((ts.length : Int) = w) && (ts.filter fun t => !(isNoneD (.v t))).all (isIn 0 (e + 1))
      | _ => false)
    else (match r with
      | [t] => decide (nh < w) && isIn 0 (e + 1) t
      | _ => false)
theorem row_box_ok (s : Str) (a b : PyData) (r : List PyData) (hr : r.length ≤ 100000) (w e nh : Int) (h : Hs) : callR F_is_row_of_box [.tuple (.str s :: a :: b :: r), .int w, .int e, .int nh] false h = some (.ok (.v (.bool (rowB s w e nh (b :: r)))) h) := by
  refine callR_b (h' := []) ?_
  by_cases h0 : w = 0
  · simp [F_is_row_of_box, mkFn, B_is_row_of_box, eqD_int, h0, rowB]
  by_cases h1 : s = "put"
  · match r with
    | [] => simp [F_is_row_of_box, mkFn, B_is_row_of_box, eqD_int, eqD_s, h0, h1, rowB]
    | [t] =>
      cases q : isIn 0 w b <;> simp [F_is_row_of_box, mkFn, B_is_row_of_box, eqD_int, eqD_s, h0, h1, rowB, q]
    | t :: u :: v =>
      have hl : ¬ ((v.length : Int) + 1 + 1 + 1 + 1 + 1 = 4) := by omega
      simp [F_is_row_of_box, mkFn, B_is_row_of_box, eqD_int, eqD_s, h0, h1, rowB, hl]
  by_cases h2 : s = "swap"
  · match r with
    | [] => simp [F_is_row_of_box, mkFn, B_is_row_of_box, eqD_int, eqD_s, h0, h1, eq_true h2, rowB]
    | [t] => simp [F_is_row_of_box, mkFn, B_is_row_of_box, eqD_int, eqD_s, h0, h1, eq_true h2, rowB]
    | [t, u] =>
      cases q : isIn 0 w b <;> cases q2 : isIn 0 w t <;> simp [F_is_row_of_box, mkFn, B_is_row_of_box, eqD_int, eqD_s, h0, h1, eq_true h2, rowB, q, q2]
    | t :: u :: v :: x =>
      have hl : ¬ ((x.length : Int) + 1 + 1 + 1 + 1 + 1 + 1 = 5) := by omega
      simp [F_is_row_of_box, mkFn, B_is_row_of_box, eqD_int, eqD_s, h0, h1, eq_true h2, rowB, hl]
  by_cases h3 : s = "ask"
  · cases b with
    | tuple ts =>
      by_cases hw : (ts.length : Int) = w
      · match r with
        | [] =>
          have hc : compL none (gNm 4) (tBl (eNisN (eVar 4) (eC .none))) (eVar 4) (ts.map .v) [some (.v (.tuple (.str s :: a :: [.tuple ts]))), some (.v (.int w)), some (.v (.int e)), some (.v (.int nh)), none] [] = some (((ts.filter fun t => !(isNoneD (.v t))).map id).map .v, []) :=
            compData ts D.v (gNm 4) _ _ (fun t => !(isNoneD (.v t))) id fun c _ => ⟨_, rfl, by simp [ngt], fun _ => by simp⟩
          rw [List.map_id] at hc
          have hat := are_tos_ok (.tuple (ts.filter fun t => !(isNoneD (.v t)))) e
          simp [F_is_row_of_box, mkFn, B_is_row_of_box, eqD_int, eqD_s, h0, h1, h2, rowB, isTup, hw, eq_true h3] at hc ⊢
          simp [hc, hat, isTos]
        | t :: u =>
          have hl : ¬ ((u.length : Int) + 1 + 1 + 1 + 1 = 3) := by omega
          simp [F_is_row_of_box, mkFn, B_is_row_of_box, eqD_int, eqD_s, h0, h1, h2, eq_true h3, rowB, isTup, hw, hl]
      · match r with
        | [] => simp [F_is_row_of_box, mkFn, B_is_row_of_box, eqD_int, eqD_s, h0, h1, h2, eq_true h3, rowB, isTup, hw]
        | t :: u => simp [F_is_row_of_box, mkFn, B_is_row_of_box, eqD_int, eqD_s, h0, h1, h2, eq_true h3, rowB, isTup, hw]
    | _ =>
      match r with
      | [] => simp [F_is_row_of_box, mkFn, B_is_row_of_box, eqD_int, eqD_s, h0, h1, h2, eq_true h3, rowB, isTup]
      | t :: u => simp [F_is_row_of_box, mkFn, B_is_row_of_box, eqD_int, eqD_s, h0, h1, h2, eq_true h3, rowB, isTup]
  · match r with
    | [] =>
      by_cases hn : nh < w <;> simp [F_is_row_of_box, mkFn, B_is_row_of_box, eqD_int, eqD_s, h0, h1, h2, h3, rowB, hn]
    | t :: u =>
      have hl : ¬ ((u.length : Int) + 1 + 1 + 1 + 1 = 3) := by omega
      simp [F_is_row_of_box, mkFn, B_is_row_of_box, eqD_int, eqD_s, h0, h1, h2, h3, rowB, hl]
/-- a row, by the boxes, the procedures, how many hands, the end -/
def rowOk (bs ps : List PyData) (nh e : Int) : PyData → Bool
  | .tuple (.str s :: a :: r) =>
    if s = "any" then r.isEmpty && isTos e a && (match a with
      | .tuple ts => decide (1 ≤ ts.length) && decide (ts.length ≤ 4)
      | _ => false)
    else if s = "call" then (match a, r with
      | .str z, [t] => decide (z ∈ ps.map nmOf) && isIn 0 (e + 1) t
      | _, _ => false)
    else if s ∈ (["put", "swap", "ask", "take", "give"] : List Str) then (match a, r with
      | .str z, b :: r => rowB s (woAt bs z) e nh (b :: r)
      | _, _ => false)
    else false
  | _ => false
theorem inT {neg : Bool} {z : Str} {l : List Str} : inP neg (.str z) (.tuple (l.map .str)) = some (.bool (ngt neg (decide (z ∈ l)))) := by
  have h2 : (l.map PyData.str).all isFlat = true := by
    rw [List.all_map, List.all_eq_true]
    intro x _
    rfl
  rw [inP_tuple, h2]
  simp only [isFlat, Bool.and_self, if_true, List.any_map]
  congr 3
  rw [Bool.eq_iff_iff, List.any_eq_true, decide_eq_true_eq]
  constructor
  · rintro ⟨x, hx, e⟩
    have e : x = z := by simpa [PyData.eqv] using e
    exact e ▸ hx
  · intro h
    exact ⟨z, h, by simp [PyData.eqv]⟩
theorem eq_nil {neg : Bool} {ys : List PyData} {n : Nat} (hn : n ≤ 63) (hy : ∀ y ∈ ys, Sh n y) (h : Hs) : eqD neg (.v (.list ys)) (.v (.list [])) h = some (.v (.bool (ngt neg ys.isEmpty))) := by
  rw [eqD_v ((sh_list hy).shaped' (by omega)) (sh_list (n := 0) (xs := []) (by simp)).shaped]
  cases ys <;> cases neg <;> simp [PyData.eqv, PyData.eqvAll, ngt]
theorem row_ok {n : Nat} {bs ps hs : List PyData} (hb : ∀ b ∈ bs, isBx b = true) (hp : ∀ b ∈ ps, isPr b = true) {row : PyData} (hd : Dt n row) (e : Int) (h : Hs) :
    callR F_is_row [row, .tuple [.list bs, .list ps, .list hs], .int e] false h = some (.ok (.v (.bool (rowOk bs ps hs.length e row))) h) := by
  refine callR_b (h' := []) ?_
  cases row with
  | tuple xs =>
    match xs with
    | [] => simp [F_is_row, mkFn, B_is_row, rowOk]
    | [a] => simp [F_is_row, mkFn, B_is_row, rowOk]
    | s :: a :: r =>
      have hl : ¬ ((r.length : Int) + 1 + 1 < 2) := by omega
      cases s with
      | str s =>
        by_cases h1 : s = "any"
        · have hat := are_tos_ok a e
          match r with
          | [] =>
            cases a with
            | tuple ts =>
              cases q : isTos e (.tuple ts) with
              | false => simp [F_is_row, mkFn, B_is_row, rowOk, eqD_s, eqD_int, h1, hat, q]
              | true =>
                by_cases g : 1 ≤ ts.length
                · have g' : 1 ≤ (ts.length : Int) := by omega
                  simp [F_is_row, mkFn, B_is_row, rowOk, eqD_s, eqD_int, h1, hat, q, g, g']
                  omega
                · have g' : ¬ 1 ≤ (ts.length : Int) := by omega
                  simp [F_is_row, mkFn, B_is_row, rowOk, eqD_s, eqD_int, h1, hat, q, g, g']
            | _ => simp [F_is_row, mkFn, B_is_row, rowOk, eqD_s, eqD_int, h1, hat, isTos]
          | t :: u =>
            have hl2 : ¬ ((u.length : Int) + 1 + 1 + 1 = 2) := by omega
            have hl3 : ¬ ((u.length : Int) + 1 + 1 + 1 < 2) := by omega
            simp [F_is_row, mkFn, B_is_row, rowOk, eqD_s, eqD_int, h1, hl2, hl3]
        by_cases h2 : s = "call"
        · have hc : ∀ z, a = .str z → ∀ sl : Sl, sl.length = 8 → sl[0]? = some (some (.v (.tuple (.str s :: a :: r)))) → compL none (gNm 7) (tAnd (tTru (eIsi "str" (eIx (eVar 0) (eC (.int 1))))) (tBl (eEq (eIx (eVar 7) (eC (.int 0))) (eIx (eVar 0) (eC (.int 1)))))) (eIx (eVar 7) (eC (.int 0))) (ps.map .v) sl [] =
              some ((((ps.filter fun p => decide (nmOf p = z)).map fun p => .str (nmOf p)).map .v), []) := fun z ea sl hsl h0 => by
            refine compData ps D.v (gNm 7) _ _ (fun p => decide (nmOf p = z)) (fun p => .str (nmOf p)) fun c hc => ?_
            obtain ⟨z', r', rfl, _⟩ := isPr_shape (hp c hc)
            subst ea
            have h0' : (sl.set 7 (some (.v (.tuple [.str z', .list r']))))[0]? = some (some (.v (.tuple (.str s :: .str z :: r)))) := by
              rw [List.getElem?_set_ne (by decide)]
              exact h0
            have h7 : (sl.set 7 (some (.v (.tuple [.str z', .list r']))))[7]? = some (some (.v (.tuple [.str z', .list r']))) := by
              rw [List.getElem?_set_self (by omega)]
            exact ⟨_, rfl, by simp [h0', h7, eqD_s, nmOf] <;> rfl, fun _ => by simp [h7, nmOf]⟩
          have hcn : ∀ z, a = .str z → ∀ sl : Sl, sl.length = 8 → sl[0]? = some (some (.v (.tuple (.str s :: a :: r)))) → ∃ ys : List PyData, (ys = [] ↔ z ∉ ps.map nmOf) ∧ (∀ y ∈ ys, ∃ v, y = .str v ∧ okS v) ∧ compL none (gNm 7) (tAnd (tTru (eIsi "str" (eIx (eVar 0) (eC (.int 1))))) (tBl (eEq (eIx (eVar 7) (eC (.int 0))) (eIx (eVar 0) (eC (.int 1)))))) (eIx (eVar 7) (eC (.int 0))) (ps.map .v) sl [] = some (ys.map .v, []) := fun z ea sl hsl h0 => by
            refine ⟨_, ?_, ?_, hc z ea sl hsl h0⟩
            · rw [List.map_eq_nil_iff, List.filter_eq_nil_iff]
              constructor
              · intro q hm
                obtain ⟨p, hp', e⟩ := List.mem_map.mp hm
                exact q p hp' (by simpa using e)
              · intro q p hp' e
                exact q (List.mem_map.mpr ⟨p, hp', by simpa using e⟩)
            · intro y hy
              obtain ⟨p, hp', rfl⟩ := List.mem_map.mp hy
              obtain ⟨z', r', rfl, h'⟩ := isPr_shape (hp p (List.mem_filter.mp hp').1)
              exact ⟨_, rfl, (isName_ok h').1⟩
          have hce : (∀ z, a ≠ .str z) → ∀ sl : Sl, sl.length = 8 → sl[0]? = some (some (.v (.tuple (.str s :: a :: r)))) → compL none (gNm 7) (tAnd (tTru (eIsi "str" (eIx (eVar 0) (eC (.int 1))))) (tBl (eEq (eIx (eVar 7) (eC (.int 0))) (eIx (eVar 0) (eC (.int 1)))))) (eIx (eVar 7) (eC (.int 0))) (ps.map .v) sl [] = some ([], []) := fun ea sl hsl h0 => by
            have := compData (s := sl) (h := []) ps D.v (gNm 7) (tAnd (tTru (eIsi "str" (eIx (eVar 0) (eC (.int 1))))) (tBl (eEq (eIx (eVar 7) (eC (.int 0))) (eIx (eVar 0) (eC (.int 1)))))) (eIx (eVar 7) (eC (.int 0))) (fun p => false) (fun p => .str (nmOf p)) fun c hc => by
              have h0' : (sl.set 7 (some (.v c)))[0]? = some (some (.v (.tuple (.str s :: a :: r)))) := by
                rw [List.getElem?_set_ne (by decide)]
                exact h0
              have hi : isiD "str" (.v a) [] = some (.v (.bool false)) := by
                cases a with
                | str z => exact absurd rfl (ea z)
                | _ => simp
              exact ⟨_, rfl, by simp [h0', hi], fun z => by cases z⟩
            rw [List.filter_eq_nil_iff.mpr (by simp)] at this
            simpa using this
          have hsh : ∀ {ys : List PyData}, (∀ y ∈ ys, ∃ v, y = .str v ∧ okS v) → ∀ y ∈ ys, Sh 0 y := fun hy y h => by
            obtain ⟨v, rfl, hv⟩ := hy y h
            exact sh_str hv
          cases a with
          | str z =>
            obtain ⟨ys, y1, y2, y3⟩ := hcn z rfl [some (.v (.tuple (.str s :: .str z :: r))), some (.v (.tuple [.list bs, .list ps, .list hs])), some (.v (.int e)), some (.v (.list bs)), some (.v (.list ps)), some (.v (.list hs)), none, none] rfl rfl
            have hq := eq_nil (neg := true) (by decide) (hsh y2) []
            have hz : z ∈ ps.map nmOf ↔ ys.isEmpty = false := by
              rw [List.isEmpty_eq_false_iff, ne_eq, y1, Decidable.not_not]
            rcases r with _ | ⟨t, _ | ⟨u, v⟩⟩
            · simp [-List.mem_map, F_is_row, mkFn, B_is_row, rowOk, eqD_s, eqD_int, h1, eq_true h2, y3, hq]
            · cases q : ys.isEmpty with
              | true =>
                have hz' : ¬ z ∈ ps.map nmOf := by rw [hz, q]; decide
                simp [-List.mem_map, F_is_row, mkFn, B_is_row, rowOk, eqD_s, eqD_int, h1, eq_true h2, y3, hq, q, ngt, hz']
              | false =>
                have hz' : z ∈ ps.map nmOf := by rw [hz, q]
                simp [-List.mem_map, F_is_row, mkFn, B_is_row, rowOk, eqD_s, eqD_int, h1, eq_true h2, y3, hq, q, ngt, hz']
            · have g1 : ¬ ((v.length : Int) + 1 + 1 + 1 + 1 < 2) := by omega
              have g2 : ¬ ((v.length : Int) + 1 + 1 + 1 + 1 = 3) := by omega
              simp [-List.mem_map, F_is_row, mkFn, B_is_row, rowOk, eqD_s, eqD_int, h1, eq_true h2, g1, g2, y3, hq]
          | _ =>
            have y3 := hce (fun z e => by cases e) [some (.v (.tuple (.str s :: _ :: r))), some (.v (.tuple [.list bs, .list ps, .list hs])), some (.v (.int e)), some (.v (.list bs)), some (.v (.list ps)), some (.v (.list hs)), none, none] rfl rfl
            have hq := eq_nil (neg := true) (ys := []) (n := 0) (by decide) (by simp) []
            rcases r with _ | ⟨t, _ | ⟨u, v⟩⟩
            · simp [-List.mem_map, F_is_row, mkFn, B_is_row, rowOk, eqD_s, eqD_int, h1, eq_true h2, y3, hq]
            · simp [-List.mem_map, F_is_row, mkFn, B_is_row, rowOk, eqD_s, eqD_int, h1, eq_true h2, y3, hq, ngt]
            · have g1 : ¬ ((v.length : Int) + 1 + 1 + 1 + 1 < 2) := by omega
              have g2 : ¬ ((v.length : Int) + 1 + 1 + 1 + 1 = 3) := by omega
              simp [-List.mem_map, F_is_row, mkFn, B_is_row, rowOk, eqD_s, eqD_int, h1, eq_true h2, g1, g2, y3, hq]
        · have h5 : inP true (.str s) (.tuple [.str "put", .str "swap", .str "ask", .str "take", .str "give"]) = some (.bool (!decide (s ∈ (["put", "swap", "ask", "take", "give"] : List Str)))) :=
            inT (neg := true) (z := s) (l := ["put", "swap", "ask", "take", "give"])
          by_cases h3 : s ∈ (["put", "swap", "ask", "take", "give"] : List Str)
          · rcases r with _ | ⟨b, r⟩
            · cases a <;> simp [-List.mem_cons, F_is_row, mkFn, B_is_row, rowOk, eqD_s, eqD_int, h1, h2, h5, h3]
            · have hl3 : ¬ ((r.length : Int) + 1 + 1 + 1 < 2) := by omega
              have hl4 : ¬ ((r.length : Int) + 1 + 1 + 1 < 3) := by omega
              obtain ⟨m, rfl, hlen, hxs⟩ := hd.tuple
              have hb' := fun w => row_box_ok s a b r (by simp only [List.length_cons] at hlen; omega) w e hs.length []
              cases a with
              | str z =>
                have hw := worths_str hb z []
                simp [-List.mem_cons, F_is_row, mkFn, B_is_row, rowOk, eqD_s, eqD_int, h1, h2, hl3, hl4, h5, h3, hw, hb']
              | _ =>
                simp [-List.mem_cons, F_is_row, mkFn, B_is_row, rowOk, eqD_s, eqD_int, h1, h2, hl3, hl4, h5, h3, worths_else, hb', rowB]
          · simp [-List.mem_cons, F_is_row, mkFn, B_is_row, rowOk, eqD_s, eqD_int, h1, h2, hl, h5, h3]
      | _ => simp [F_is_row, mkFn, B_is_row, rowOk, hl]
  | _ => simp [F_is_row, mkFn, B_is_row, rowOk]
end Fs
set_option maxHeartbeats 4000000
namespace Fs
open PySem PySem.Spec PyProof.Rows L2 Vl
def rwDue (bs ps : List PyData) (nh e : Int) : Nat → List PyData → Option Nat
  | _, [] => none
  | k, x :: r => if rowOk bs ps nh e x = true then rwDue bs ps nh e (k + 1) r else some k
def rowsDue (bs ps : List PyData) (nh : Int) : Nat → List PyData → Option (Nat × Nat)
  | _, [] => none
  | k, p :: r => match rwDue bs ps nh (rwOf p).length 0 (rwOf p) with
    | some j => some (k, j)
    | none => rowsDue bs ps nh (k + 1) r
section
variable {n : Nat} {bs ps hs : List PyData} (hb : ∀ b ∈ bs, isBx b = true) (hp : ∀ b ∈ ps, isPr b = true) {h : Hs}
include hb hp
theorem rows_loop1 {number : D} {z : Str} {rows : List PyData} : ∀ (r : List PyData) (k : Nat), (∀ x ∈ r, Dt n x) →
    (rwDue bs ps hs.length rows.length k r = none → forL none G_look_at_rows_1 W_look_at_rows_1 (enumI k (r.map .v)) (S_look_at_rows_1 (.v (.tuple [.list bs, .list ps, .list hs])) number (.v (.tuple [.str z, .list rows]))) h =
      some (.nx (S_look_at_rows_1 (.v (.tuple [.list bs, .list ps, .list hs])) number (.v (.tuple [.str z, .list rows]))) h)) ∧
    (∀ i m, number = .v (.int m) → rwDue bs ps hs.length rows.length k r = some i → ∃ s, forL none G_look_at_rows_1 W_look_at_rows_1 (enumI k (r.map .v)) (S_look_at_rows_1 (.v (.tuple [.list bs, .list ps, .list hs])) number (.v (.tuple [.str z, .list rows]))) h =
      some (.ex s (noProg "rows" (.int m) (.int i)) h))
  | [], k, _ => ⟨fun _ => by simp [forL, gok, enumI], fun _ _ _ e => by cases e⟩
  | x :: r, k, hd => by
    have ih := rows_loop1 (number := number) (z := z) (rows := rows) r (k + 1) fun y hy => hd y (List.mem_cons_of_mem _ hy)
    have hr := row_ok (hs := hs) hb hp (hd x List.mem_cons_self) rows.length h
    unfold rwDue
    cases q : rowOk bs ps hs.length rows.length x with
    | true =>
      have st : W_look_at_rows_1 [some (.v (.tuple [.list bs, .list ps, .list hs])), some number, some (.v (.tuple [.str z, .list rows])), some (.v (.int k)), some (.v x)] h =
          some (.nx (S_look_at_rows_1 (.v (.tuple [.list bs, .list ps, .list hs])) number (.v (.tuple [.str z, .list rows]))) h) := by
        simp [W_look_at_rows_1, L_look_at_rows_1, hr, q]
      simpa [-List.map_map, forL, gok, enumI, st] using ih
    | false =>
      refine ⟨fun e => by simp at e, fun i m hm e => ?_⟩
      simp at e
      subst e hm
      exact ⟨_, by
        simp [-List.map_map, forL, gok, enumI, W_look_at_rows_1, L_look_at_rows_1, hr, q, sThrow]
        rfl⟩
theorem rows_loop2 : ∀ (r : List PyData) (k : Nat), (∀ p ∈ r, isPr p = true ∧ Dt n p) →
    (rowsDue bs ps hs.length k r = none → forL none G_look_at_rows_2 W_look_at_rows_2 (enumI k (r.map .v)) (S_look_at_rows_2 (.v (.tuple [.list bs, .list ps, .list hs]))) h = some (.nx (S_look_at_rows_2 (.v (.tuple [.list bs, .list ps, .list hs]))) h)) ∧
    (∀ i j, rowsDue bs ps hs.length k r = some (i, j) → ∃ s, forL none G_look_at_rows_2 W_look_at_rows_2 (enumI k (r.map .v)) (S_look_at_rows_2 (.v (.tuple [.list bs, .list ps, .list hs]))) h = some (.ex s (noProg "rows" (.int i) (.int j)) h))
  | [], k, _ => ⟨fun _ => by simp [forL, gok, enumI], fun _ _ e => by cases e⟩
  | p :: r, k, hd => by
    have ih := rows_loop2 r (k + 1) fun y hy => hd y (List.mem_cons_of_mem _ hy)
    obtain ⟨hpr, hdp⟩ := hd p List.mem_cons_self
    obtain ⟨z, rows, rfl, _⟩ := isPr_shape hpr
    obtain ⟨m, rfl, _, hx⟩ := hdp.tuple
    obtain ⟨m2, rfl, _, hx2⟩ := (hx (.list rows) (by simp)).list
    obtain ⟨a1, a2⟩ := rows_loop1 (h := h) (hs := hs) (n := m2) hb hp (number := .v (.int k)) (z := z) (rows := rows) rows 0 hx2
    have er : rwOf (.tuple [.str z, .list rows]) = rows := rfl
    unfold rowsDue
    rw [er]
    cases q : rwDue bs ps hs.length rows.length 0 rows with
    | none =>
      have a1 := a1 q
      have st : W_look_at_rows_2 [some (.v (.tuple [.list bs, .list ps, .list hs])), some (.v (.int k)), some (.v (.tuple [.str z, .list rows])), none, none] h = some (.nx (S_look_at_rows_2 (.v (.tuple [.list bs, .list ps, .list hs]))) h) := by
        simp [W_look_at_rows_2, L_look_at_rows_2, a1]
      simpa [-List.map_map, forL, gok, enumI, st] using ih
    | some j =>
      obtain ⟨s, a2⟩ := a2 j k rfl q
      refine ⟨fun e => by simp at e, fun i j' e => ?_⟩
      simp at e
      obtain ⟨rfl, rfl⟩ := e
      exact ⟨_, by
        simp [-List.map_map, forL, gok, enumI, W_look_at_rows_2, L_look_at_rows_2, a2]
        rfl⟩
theorem rows_ok (hd : ∀ p ∈ ps, Dt n p) : callR F_look_at_rows [.tuple [.list bs, .list ps, .list hs]] false h = (match rowsDue bs ps hs.length 0 ps with
    | none => some (.ok (.v .none) h)
    | some (i, j) => some (.ex (noProg "rows" (.int i) (.int j)) h)) := by
  obtain ⟨a1, a2⟩ := rows_loop2 (n := n) (h := []) (hs := hs) hb hp ps 0 fun p h => ⟨hp p h, hd p h⟩
  cases q : rowsDue bs ps hs.length 0 ps with
  | none =>
    have a1 := a1 q
    refine callR_v (h' := []) ?_
    simp [F_look_at_rows, mkFn, B_look_at_rows, a1]
  | some ij =>
    obtain ⟨i, j⟩ := ij
    obtain ⟨s, a2⟩ := a2 i j q
    refine callR_np (h' := []) ?_
    simp [F_look_at_rows, mkFn, B_look_at_rows, a2]
end
/-! ## hands -/
def hnDue (ps : List PyData) : List PyData → List PyData → Option Nat
  | _, [] => none
  | pre, x :: r => (match x with
    | .tuple [.str a, .str b] => if isName a = true ∧ isName b = true ∧ b ∈ ps.map nmOf ∧ a ∉ pre.map nmOf then hnDue ps (pre ++ [x]) r else some pre.length
    | _ => some pre.length)
def isHn : PyData → Bool
  | .tuple [.str a, .str _] => isName a
  | _ => false
theorem isHn_shape {d : PyData} (h : isHn d = true) : ∃ z y, d = .tuple [.str z, .str y] ∧ isName z = true := by
  unfold isHn at h
  split at h
  · rename_i a b
    exact ⟨a, b, rfl, h⟩
  · cases h
theorem hands_loop {n : Nat} {ps all : List PyData} (hp : ∀ b ∈ ps, isPr b = true) {h : Hs} : ∀ (r pre : List PyData), all = pre ++ r → (∀ b ∈ pre, isHn b = true) → (∀ b ∈ r, Dt n b) →
    (hnDue ps pre r = none → forL none G_look_at_hands_1 W_look_at_hands_1 (enumI pre.length (r.map .v)) (S_look_at_hands_1 (.v (.list all)) (.v (.list ((ps.map nmOf).map .str)))) h = some (.nx (S_look_at_hands_1 (.v (.list all)) (.v (.list ((ps.map nmOf).map .str)))) h)) ∧
    (∀ k, hnDue ps pre r = some k → ∃ s, forL none G_look_at_hands_1 W_look_at_hands_1 (enumI pre.length (r.map .v)) (S_look_at_hands_1 (.v (.list all)) (.v (.list ((ps.map nmOf).map .str)))) h = some (.ex s (noProg "hands" (.int k) .none) h))
  | [], pre, _, _, _ => ⟨fun _ => by simp [forL, gok, enumI], fun k e => by cases e⟩
  | x :: r, pre, ea, hpre, hd => by
    have ih := hands_loop (n := n) (all := all) hp (h := h) r (pre ++ [x]) (by rw [ea, List.append_assoc]; rfl)
    have hx := hd x List.mem_cons_self
    have e1 : cutP all none (some (pre.length : Int)) = pre := by rw [ea]; exact cut_pre pre (x :: r)
    have bad : hnDue ps pre (x :: r) = some pre.length → (∃ s, W_look_at_hands_1 [some (.v (.list all)), none, some (.v (.list ((ps.map nmOf).map .str))), some (.v (.int pre.length)), some (.v x), none, none] h = some (.ex s (noProg "hands" (.int pre.length) .none) h)) →
        (hnDue ps pre (x :: r) = none → forL none G_look_at_hands_1 W_look_at_hands_1 (enumI pre.length ((x :: r).map .v)) (S_look_at_hands_1 (.v (.list all)) (.v (.list ((ps.map nmOf).map .str)))) h = some (.nx (S_look_at_hands_1 (.v (.list all)) (.v (.list ((ps.map nmOf).map .str)))) h)) ∧
        (∀ k, hnDue ps pre (x :: r) = some k → ∃ s, forL none G_look_at_hands_1 W_look_at_hands_1 (enumI pre.length ((x :: r).map .v)) (S_look_at_hands_1 (.v (.list all)) (.v (.list ((ps.map nmOf).map .str)))) h = some (.ex s (noProg "hands" (.int k) .none) h)) := fun e ⟨s, hs⟩ => by
      refine ⟨fun z => (by rw [e] at z; cases z), fun k z => ?_⟩
      rw [e] at z
      cases z
      exact ⟨s, by simp [-List.map_map, forL, gok, enumI, hs]⟩
    cases x with
    | tuple xs =>
      by_cases h2 : xs.length = 2
      · obtain ⟨a, b, rfl⟩ := len2 h2
        obtain ⟨m, rfl, _, hxs⟩ := hx.tuple
        have hna := is_name_ok (hxs a (by simp)) h
        have hnb := is_name_ok (hxs b (by simp)) h
        cases qa : isNm a with
        | false =>
          refine bad ?_ ⟨_, by
            simp [-List.map_map, W_look_at_hands_1, L_look_at_hands_1, isTup, hna, qa, sThrow]
            rfl⟩
          cases a with
          | str a =>
            have qa : isName a = false := qa
            cases b <;> simp [hnDue, qa]
          | _ => rfl
        | true =>
          cases qb : isNm b with
          | false =>
            refine bad ?_ ⟨_, by
              simp [-List.map_map, W_look_at_hands_1, L_look_at_hands_1, isTup, hna, qa, hnb, qb, sThrow]
              rfl⟩
            cases b with
            | str b =>
              have qb : isName b = false := qb
              cases a <;> simp [hnDue, qb]
            | _ => cases a <;> rfl
          | true =>
            cases a with
            | str a =>
              cases b with
              | str b =>
                have qa' : isName a = true := qa
                have qb' : isName b = true := qb
                have okp : ∀ y ∈ ps.map nmOf, okS y := fun y hy => by
                  obtain ⟨c, hc, rfl⟩ := List.mem_map.mp hy
                  obtain ⟨z', r', rfl, h'⟩ := isPr_shape (hp c hc)
                  exact (isName_ok h').1
                have okq : ∀ y ∈ pre.map nmOf, okS y := fun y hy => by
                  obtain ⟨c, hc, rfl⟩ := List.mem_map.mp hy
                  obtain ⟨z', r', rfl, h'⟩ := isHn_shape (hpre c hc)
                  exact (isName_ok h').1
                have hin1 := inS (neg := true) (isName_ok qb').1 okp
                have hin2 := inS (neg := false) (isName_ok qa').1 okq
                have hc := names_comp (h := h) (i := 6) (s0 := [some (.v (.list all)), none, some (.v (.list ((ps.map nmOf).map .str))), some (.v (.int pre.length)), some (.v (.tuple [.str a, .str b])), none, none]) (by simp) (l := pre) fun d hd => by
                  obtain ⟨z, r, rfl, _⟩ := isHn_shape (hpre d hd)
                  exact ⟨z, _, rfl⟩
                by_cases g1 : b ∈ ps.map nmOf
                · by_cases g2 : a ∈ pre.map nmOf
                  · refine bad (by simp only [hnDue, qa', qb', g1, g2, not_true, and_false, if_false]) ⟨_, by
                      simp [-List.map_map, -List.mem_map, W_look_at_hands_1, L_look_at_hands_1, isTup, hna, qa, hnb, qb, sThrow, hin1, hin2, g1, g2, ngt, e1, hc]
                      rfl⟩
                  · have st : W_look_at_hands_1 [some (.v (.list all)), none, some (.v (.list ((ps.map nmOf).map .str))), some (.v (.int pre.length)), some (.v (.tuple [.str a, .str b])), none, none] h =
                        some (.nx (S_look_at_hands_1 (.v (.list all)) (.v (.list ((ps.map nmOf).map .str)))) h) := by
                      simp [-List.map_map, -List.mem_map, W_look_at_hands_1, L_look_at_hands_1, isTup, hna, qa, hnb, qb, sThrow, hin1, hin2, g1, g2, ngt, e1, hc]
                    have ih := ih (fun c hc => by
                      rcases List.mem_append.mp hc with hc | hc
                      · exact hpre c hc
                      · rw [List.mem_singleton.mp hc]
                        exact qa') fun c hc => hd c (List.mem_cons_of_mem _ hc)
                    have eq : hnDue ps pre (.tuple [.str a, .str b] :: r) = hnDue ps (pre ++ [.tuple [.str a, .str b]]) r := by
                      simp only [hnDue, qa', qb', g1, g2, not_false_eq_true, and_self, if_true]
                    rw [eq]
                    rw [List.length_append] at ih
                    simpa [-List.map_map, forL, gok, enumI, st] using ih
                · refine bad (by simp only [hnDue, g1, false_and, and_false, if_false]) ⟨_, by
                    simp [-List.map_map, -List.mem_map, W_look_at_hands_1, L_look_at_hands_1, isTup, hna, qa, hnb, qb, sThrow, hin1, g1, ngt]
                    rfl⟩
              | _ => cases qb
            | _ => cases qa
      · have h2' : ¬ (xs.length : Int) = 2 := by omega
        refine bad ?_ ⟨_, by
          simp [-List.map_map, W_look_at_hands_1, L_look_at_hands_1, isTup, h2', sThrow]
          rfl⟩
        unfold hnDue
        split
        · rename_i e
          cases e
          exact absurd rfl h2
        · rfl
    | _ =>
      exact bad rfl ⟨_, by
        simp [-List.map_map, W_look_at_hands_1, L_look_at_hands_1, isTup, sThrow]
        rfl⟩
theorem hands_ok {n : Nat} {ps hs : List PyData} (hp : ∀ b ∈ ps, isPr b = true) (hd : ∀ b ∈ hs, Dt n b) (h : Hs) : callR F_look_at_hands [.list hs, .list ps] false h =
    (if 1 ≤ hs.length ∧ hs.length ≤ 3 then (match hnDue ps [] hs with
      | none => some (.ok (.v .none) h)
      | some k => some (.ex (noProg "hands" (.int k) .none) h)) else some (.ex (noProg "hands" .none .none) h)) := by
  have hc := names_comp (h := []) (i := 5) (s0 := [some (.v (.list hs)), some (.v (.list ps)), none, none, none, none, none]) (by simp) (names_pr hp)
  by_cases h1 : 1 ≤ hs.length
  · have h1' : 1 ≤ (hs.length : Int) := by omega
    by_cases h3 : hs.length ≤ 3
    · have h3' : (hs.length : Int) ≤ 3 := by omega
      obtain ⟨a1, a2⟩ := hands_loop (n := n) (all := hs) hp (h := []) hs [] rfl (by simp) hd
      rw [if_pos ⟨h1, h3⟩]
      cases e : hnDue ps [] hs with
      | none =>
        refine callR_v (h' := []) ?_
        have := a1 e
        rw [List.length_nil] at this
        simp [-List.map_map, F_look_at_hands, mkFn, B_look_at_hands, h1', h3', hc, this]
      | some k =>
        obtain ⟨s, hs⟩ := a2 k e
        rw [List.length_nil] at hs
        refine callR_np (h' := []) ?_
        simp [-List.map_map, F_look_at_hands, mkFn, B_look_at_hands, h1', h3', hc, hs]
    · have h3' : ¬ (hs.length : Int) ≤ 3 := by omega
      rw [if_neg (fun z => h3 z.2)]
      refine callR_np (h' := []) ?_
      simp [F_look_at_hands, mkFn, B_look_at_hands, h1', h3', sThrow]
  · have h1' : ¬ 1 ≤ (hs.length : Int) := by omega
    rw [if_neg (fun z => h1 z.1)]
    refine callR_np (h' := []) ?_
    simp [F_look_at_hands, mkFn, B_look_at_hands, h1', sThrow]
/-! ## look_at -/
/-- what is amiss first, of any thing: the part, the number, the row -/
def due : PyData → Option (Str × PyData × PyData)
  | .tuple [.list bs, .list ps, .list hs] =>
    if 1 ≤ bs.length ∧ bs.length ≤ 3 then (match bxDue [] bs with
      | some k => some ("boxes", .int k, .none)
      | none => if 1 ≤ ps.length ∧ ps.length ≤ 6 then (match prDue [] ps with
        | some k => some ("procs", .int k, .none)
        | none => (match rowsDue bs ps hs.length 0 ps with
          | some (i, j) => some ("rows", .int i, .int j)
          | none => if 1 ≤ hs.length ∧ hs.length ≤ 3 then (match hnDue ps [] hs with
            | some k => some ("hands", .int k, .none)
            | none => none) else some ("hands", .none, .none))) else some ("procs", .none, .none)) else some ("boxes", .none, .none)
  | _ => some ("program", .none, .none)
theorem bxDue_all : ∀ (r pre : List PyData), bxDue pre r = none → ∀ b ∈ r, isBx b = true
  | [], _, _, b, hb => by cases hb
  | x :: r, pre, e, b, hb => by
    unfold bxDue at e
    split at e
    · cases e
    · rename_i q
      rcases List.mem_cons.mp hb with rfl | hb
      · exact (Bool.not_eq_false _).mp fun z => q (.inl z)
      · exact bxDue_all r _ e b hb
theorem prDue_all : ∀ (r pre : List PyData), prDue pre r = none → ∀ b ∈ r, isPr b = true
  | [], _, _, b, hb => by cases hb
  | x :: r, pre, e, b, hb => by
    unfold prDue at e
    split at e
    · cases e
    · rename_i q
      rcases List.mem_cons.mp hb with rfl | hb
      · exact (Bool.not_eq_false _).mp fun z => q (.inl z)
      · exact prDue_all r _ e b hb
def isLst : PyData → Bool
  | .list _ => true
  | _ => false
theorem isi_lst (d : PyData) (h : Hs) : isiD "list" (.v d) h = some (.v (.bool (isLst d))) := by
  cases d <;> simp [isLst]
theorem len3' {α : Type} {xs : List α} : xs.length = 3 ∨ ¬ (xs.length : Int) = 3 := by omega
theorem look_at_ok {n : Nat} {d : PyData} (hd : Dt n d) (h : Hs) : callR F_look_at [d] false h = (match due d with
    | none => some (.ok (.v .none) h)
    | some (p, k, r) => some (.ex (noProg p k r) h)) := by
  cases d with
  | tuple xs =>
    rcases len3' (xs := xs) with h3 | h3
    · obtain ⟨a, b, c, rfl⟩ := len3 h3
      obtain ⟨m, rfl, _, hx⟩ := hd.tuple
      have hcomp : compL none (gNm 1) tYes' (eIsi "list" (eVar 1)) [.v a, .v b, .v c] [some (.v (.tuple [a, b, c])), none] [] = some ([.v (.bool (isLst a)), .v (.bool (isLst b)), .v (.bool (isLst c))], []) :=
        compMap (s := [some (.v (.tuple [a, b, c])), none]) (h := []) [a, b, c] D.v (gNm 1) (eIsi "list" (eVar 1)) (fun d => .bool (isLst d)) fun d _ => ⟨_, rfl, by simp [isi_lst]⟩
      by_cases hl : (∃ bs, a = .list bs) ∧ (∃ ps, b = .list ps) ∧ (∃ hs, c = .list hs)
      · obtain ⟨⟨bs, rfl⟩, ⟨ps, rfl⟩, ⟨hs, rfl⟩⟩ := hl
        obtain ⟨m1, rfl, hl1, hx1⟩ := (hx (.list bs) (by simp)).list
        obtain ⟨m2, e2, hl2, hx2⟩ := (hx (.list ps) (by simp)).list
        cases e2
        obtain ⟨m3, e3, hl3, hx3⟩ := (hx (.list hs) (by simp)).list
        cases e3
        have o1 := boxes_ok hx1 hl1 []
        by_cases g1 : 1 ≤ bs.length ∧ bs.length ≤ 3
        · rw [if_pos g1] at o1
          simp only [due, if_pos g1]
          cases q1 : bxDue [] bs with
          | some k =>
            rw [q1] at o1
            refine callR_np (h' := []) ?_
            simp [F_look_at, mkFn, B_look_at, isTup, hcomp, isLst, bools, o1]
          | none =>
            rw [q1] at o1
            have hb := bxDue_all bs [] q1
            have o2 := procs_ok hx2 []
            by_cases g2 : 1 ≤ ps.length ∧ ps.length ≤ 6
            · simp only [if_pos g2] at o2 ⊢
              cases q2 : prDue [] ps with
              | some k =>
                rw [q2] at o2
                refine callR_np (h' := []) ?_
                simp [F_look_at, mkFn, B_look_at, isTup, hcomp, isLst, bools, o1, o2]
              | none =>
                rw [q2] at o2
                have hp := prDue_all ps [] q2
                have o3 := rows_ok (hs := hs) hb hp (h := []) hx2
                cases q3 : rowsDue bs ps hs.length 0 ps with
                | some ij =>
                  obtain ⟨i, j⟩ := ij
                  rw [q3] at o3
                  refine callR_np (h' := []) ?_
                  simp [F_look_at, mkFn, B_look_at, isTup, hcomp, isLst, bools, o1, o2, o3]
                | none =>
                  rw [q3] at o3
                  have o4 := hands_ok hp hx3 []
                  by_cases g4 : 1 ≤ hs.length ∧ hs.length ≤ 3
                  · simp only [if_pos g4] at o4 ⊢
                    cases q4 : hnDue ps [] hs with
                    | some k =>
                      rw [q4] at o4
                      refine callR_np (h' := []) ?_
                      simp [F_look_at, mkFn, B_look_at, isTup, hcomp, isLst, bools, o1, o2, o3, o4]
                    | none =>
                      rw [q4] at o4
                      refine callR_v (h' := []) ?_
                      simp [F_look_at, mkFn, B_look_at, isTup, hcomp, isLst, bools, o1, o2, o3, o4]
                  · simp only [if_neg g4] at o4 ⊢
                    refine callR_np (h' := []) ?_
                    simp [F_look_at, mkFn, B_look_at, isTup, hcomp, isLst, bools, o1, o2, o3, o4]
            · simp only [if_neg g2] at o2 ⊢
              refine callR_np (h' := []) ?_
              simp [F_look_at, mkFn, B_look_at, isTup, hcomp, isLst, bools, o1, o2]
        · rw [if_neg g1] at o1
          simp only [due, if_neg g1]
          refine callR_np (h' := []) ?_
          simp [F_look_at, mkFn, B_look_at, isTup, hcomp, isLst, bools, o1]
      · have ed : due (.tuple [a, b, c]) = some (("program" : Str), PyData.none, PyData.none) := by
          unfold due
          split
          · rename_i e
            cases e
            exact absurd ⟨⟨_, rfl⟩, ⟨_, rfl⟩, ⟨_, rfl⟩⟩ hl
          · rfl
        rw [ed]
        refine callR_np (h' := []) ?_
        cases a <;> cases b <;> cases c <;> first | exact absurd ⟨⟨_, rfl⟩, ⟨_, rfl⟩, ⟨_, rfl⟩⟩ hl | simp [F_look_at, mkFn, B_look_at, isTup, hcomp, isLst, bools, sThrow]
    · have ed : due (.tuple xs) = some (("program" : Str), PyData.none, PyData.none) := by
        unfold due
        split
        · rename_i e
          cases e
          exact absurd rfl h3
        · rfl
      rw [ed]
      refine callR_np (h' := []) ?_
      simp [F_look_at, mkFn, B_look_at, isTup, h3, sThrow]
  | _ =>
    refine callR_np (h' := []) ?_
    simp [F_look_at, mkFn, B_look_at, isTup, sThrow]
end Fs
set_option maxHeartbeats 4000000
namespace Fs
open PySem PySem.Spec PyProof.Rows L2 Vl
@[simp] theorem at5 {α : Type} (a b c d e f : α) (r : List α) : atI (a :: b :: c :: d :: e :: f :: r) 5 = some f := atI_nat (k := 5) rfl
@[simp] theorem at6 {α : Type} (a b c d e f g : α) (r : List α) : atI (a :: b :: c :: d :: e :: f :: g :: r) 6 = some g := atI_nat (k := 6) rfl
@[simp] theorem at7 {α : Type} (a b c d e f g i : α) (r : List α) : atI (a :: b :: c :: d :: e :: f :: g :: i :: r) 7 = some i := atI_nat (k := 7) rfl
theorem rng1 {n : Int} {h : Hs} (h0 : 0 ≤ n) (h1 : n ≤ 1000000) : kRng1 [.v (.int n)] h = some ((List.range n.toNat).map fun k : Nat => D.v (.int (k : Int)), none) := by
  unfold kRng1 inLine
  have e1 : yes (-(2 ^ 62) ≤ n ∧ n < 2 ^ 62) = true := yes_of ⟨by omega, by omega⟩
  have e2 : yes (n ≤ 10000000) = true := yes_of (by omega)
  simp only [e1, e2, Bool.and_self, if_true]
  unfold rngItems
  simp
/-! ## programs, typed: what names a box and what names a procedure are left open -/
inductive Row (β κ : Type) where
  | put (b : β) (w t : Int)
  | swap (b : β) (x y t : Int)
  | ask (b : β) (ts : List (Option Int))
  | any (ts : List Int)
  | call (p : κ) (t : Int)
  | take (b : β) (t : Int)
  | give (b : β) (t : Int)
def oint : Option Int → PyData
  | none => .none
  | some i => .int i
def rowP {β κ : Type} (f : β → PyData) (g : κ → PyData) : Row β κ → PyData
  | .put b w t => .tuple [.str "put", f b, .int w, .int t]
  | .swap b x y t => .tuple [.str "swap", f b, .int x, .int y, .int t]
  | .ask b ts => .tuple [.str "ask", f b, .tuple (ts.map oint)]
  | .any ts => .tuple [.str "any", .tuple (ts.map .int)]
  | .call p t => .tuple [.str "call", g p, .int t]
  | .take b t => .tuple [.str "take", f b, .int t]
  | .give b t => .tuple [.str "give", f b, .int t]
def Row.map {β κ β' κ' : Type} (f : β → β') (g : κ → κ') : Row β κ → Row β' κ'
  | .put b w t => .put (f b) w t
  | .swap b x y t => .swap (f b) x y t
  | .ask b ts => .ask (f b) ts
  | .any ts => .any ts
  | .call p t => .call (g p) t
  | .take b t => .take (f b) t
  | .give b t => .give (f b) t
abbrev RowI := Row Int Int
abbrev rowI : RowI → PyData := rowP .int .int
/-- a place -/
def ToOk (e t : Int) : Prop := 0 ≤ t ∧ t ≤ e
/-- a row by numbers: the boxes' worths, how many procedures, the end, how many hands -/
def RowOk (ws : List Int) (np e nh : Int) : RowI → Prop
  | .put b w t => ∃ k : Nat, b = k ∧ ∃ m, ws[k]? = some m ∧ 0 ≤ w ∧ w < m ∧ ToOk e t
  | .swap b x y t => ∃ k : Nat, b = k ∧ ∃ m, ws[k]? = some m ∧ 0 ≤ x ∧ x < m ∧ 0 ≤ y ∧ y < m ∧ ToOk e t
  | .ask b ts => ∃ k : Nat, b = k ∧ ∃ m, ws[k]? = some m ∧ (ts.length : Int) = m ∧ ∀ t ∈ ts, ∀ i, t = some i → ToOk e i
  | .any ts => 1 ≤ ts.length ∧ ts.length ≤ 4 ∧ ∀ t ∈ ts, ToOk e t
  | .call p t => 0 ≤ p ∧ p < np ∧ ToOk e t
  | .take b t => ∃ k : Nat, b = k ∧ ∃ m, ws[k]? = some m ∧ nh < m ∧ ToOk e t
  | .give b t => ∃ k : Nat, b = k ∧ ∃ m, ws[k]? = some m ∧ nh < m ∧ ToOk e t
/-- worths of boxes -/
def WsOk (ws : List Int) : Prop := 1 ≤ ws.length ∧ ws.length ≤ 3 ∧ ∀ w ∈ ws, 2 ≤ w ∧ w ≤ 6
theorem dig8 {s0 s1 s2 s3 s4 s5 s6 s7 : Int} {es : List Int} (h : Dig [s0, s1, s2, s3, s4, s5, s6, s7] es) : ∃ d0 d1 d2 d3 d4 d5 d6 d7, es = [d0, d1, d2, d3, d4, d5, d6, d7] ∧ (0 ≤ d0 ∧ d0 < s0) ∧ (0 ≤ d1 ∧ d1 < s1) ∧ (0 ≤ d2 ∧ d2 < s2) ∧ (0 ≤ d3 ∧ d3 < s3) ∧ (0 ≤ d4 ∧ d4 < s4) ∧ (0 ≤ d5 ∧ d5 < s5) ∧ (0 ≤ d6 ∧ d6 < s6) ∧ (0 ≤ d7 ∧ d7 < s7) := by
  match es, h with
  | [d0, d1, d2, d3, d4, d5, d6, d7], h => exact ⟨d0, d1, d2, d3, d4, d5, d6, d7, rfl, h.1, h.2.1, h.2.2.1, h.2.2.2.1, h.2.2.2.2.1, h.2.2.2.2.2.1, h.2.2.2.2.2.2.1, h.2.2.2.2.2.2.2.1⟩
theorem tos_comp {d0 d1 d2 d3 d4 d5 d6 d7 e : Int} (h4 : 0 ≤ d4 ∧ d4 < 9) (h5 : 0 ≤ d5 ∧ d5 < 8) (he : 1 ≤ e ∧ e ≤ 1000) : ∃ tos : List Int, tos.length = 8 ∧ (∀ t ∈ tos, ToOk e t) ∧ ∀ sl : Sl, sl.length = 10 → sl[0]? = some (some (.v (.list ([d0, d1, d2, d3, d4, d5, d6, d7].map .int)))) → sl[2]? = some (some (.v (.int e))) →
      compL none (gNm 9) tYes' (eMod (eAdd (eIx (eVar 0) (eC (.int 4))) (eMul (eVar 9) (eAdd (eIx (eVar 0) (eC (.int 5))) (eC (.int 1))))) (eAdd (eVar 2) (eC (.int 1)))) ((List.range 8).map fun k : Nat => D.v (.int (k : Int))) sl [] = some ((tos.map .int).map .v, []) := by
  have hpos : 0 < e + 1 := by omega
  refine ⟨(List.range 8).map fun k : Nat => (d4 + k * (d5 + 1)) % (e + 1), by simp, fun t ht => ?_, fun sl hl e0 e2 => ?_⟩
  · obtain ⟨k, _, rfl⟩ := List.mem_map.mp ht
    have := Int.emod_nonneg (d4 + k * (d5 + 1)) (b := e + 1) (by omega)
    have := Int.emod_lt_of_pos (d4 + k * (d5 + 1)) hpos
    exact ⟨by omega, by omega⟩
  · rw [compMap (List.range 8) _ (gNm 9) _ (fun k : Nat => .int ((d4 + k * (d5 + 1)) % (e + 1))) fun k hk => ⟨_, rfl, ?_⟩]
    · rw [List.map_map, List.map_map]
      rfl
    · have hk' : k < 8 := List.mem_range.mp hk
      have hm : cmul (k : Int) (d5 + 1) = true := cmulL (by omega) (by omega)
      have g0 : (sl.set 9 (some (.v (.int (k : Int)))))[0]? = some (some (.v (.list ([d0, d1, d2, d3, d4, d5, d6, d7].map .int)))) := by
        rw [List.getElem?_set_ne (by decide)]
        exact e0
      have g2 : (sl.set 9 (some (.v (.int (k : Int)))))[2]? = some (some (.v (.int e))) := by
        rw [List.getElem?_set_ne (by decide)]
        exact e2
      have g9 : (sl.set 9 (some (.v (.int (k : Int)))))[9]? = some (some (.v (.int (k : Int)))) := by
        rw [List.getElem?_set_self (by omega)]
      simp [g0, g2, g9, hm, hpos]
theorem cut_take {α : Type} (xs : List α) {k : Int} (h : 0 ≤ k) : cutP xs none (some k) = xs.take k.toNat := by
  obtain ⟨n, rfl⟩ := Int.eq_ofNat_of_zero_le h
  unfold cutP
  rw [HT.sIx_nat, HT.sIx_none, List.drop_zero, Int.toNat_natCast, Nat.sub_zero]
  rcases Nat.le_total n xs.length with h | h
  · rw [Nat.min_eq_left h]
  · rw [Nat.min_eq_right h, List.take_of_length_le (Nat.le_refl _), List.take_of_length_le h]
theorem stops_comp {d0 d1 d2 d3 d4 d5 d6 d7 : Int} (h0 : d0 = 2 ∨ d0 = 3) : ∃ bs : List Bool, bs.length = 6 ∧ ∀ sl : Sl, sl.length = 10 → sl[0]? = some (some (.v (.list ([d0, d1, d2, d3, d4, d5, d6, d7].map .int)))) →
      compL none (gNm 9) tYes' (eAnd (eEq (eIx (eVar 0) (eC (.int 0))) (eC (.int 3))) (eEq (eMod (eFdiv (eIx (eVar 0) (eC (.int 6))) (eIx (eLst (eCons (eC (.int 1)) (eCons (eC (.int 2)) (eCons (eC (.int 4)) (eCons (eC (.int 8)) (eCons (eC (.int 16)) (eCons (eC (.int 32)) eNil))))))) (eVar 9))) (eC (.int 2))) (eC (.int 1))))
        ((List.range 6).map fun k : Nat => D.v (.int (k : Int))) sl [] = some ((bs.map .bool).map .v, []) := by
  refine ⟨(List.range 6).map fun k : Nat => decide (d0 = 3) && decide (d6 / 2 ^ k % 2 = 1), by simp, fun sl hl e0 => ?_⟩
  rw [compMap (List.range 6) _ (gNm 9) _ (fun k : Nat => .bool (decide (d0 = 3) && decide (d6 / 2 ^ k % 2 = 1))) fun k hk => ⟨_, rfl, ?_⟩]
  · rw [List.map_map, List.map_map]
    rfl
  · have hk' : k < 6 := List.mem_range.mp hk
    have g0 : (sl.set 9 (some (.v (.int (k : Int)))))[0]? = some (some (.v (.list ([d0, d1, d2, d3, d4, d5, d6, d7].map .int)))) := by
      rw [List.getElem?_set_ne (by decide)]
      exact e0
    have g9 : ∀ x, (sl.set 9 x)[9]? = some x := fun x => by
      rw [List.getElem?_set_self (by omega)]
    have c1 : ∀ j : Int, 0 < j → j < 1000 → cdiv j = true := fun j h1 h2 => cdivI h1 (by omega)
    rcases h0 with rfl | rfl
    · simp [g0, g9, e0, eqD_int]
    · have ek : k = 0 ∨ k = 1 ∨ k = 2 ∨ k = 3 ∨ k = 4 ∨ k = 5 := by omega
      rcases ek with rfl | rfl | rfl | rfl | rfl | rfl <;> simp [g0, g9, e0, eqD_int, c1]
theorem asks_comp {bs : List Bool} {tos : List Int} {e w : Int} (hb : bs.length = 6) (ht : tos.length = 8) (hw : 2 ≤ w ∧ w ≤ 6) (hto : ∀ t ∈ tos, ToOk e t) :
    ∃ ts : List (Option Int), (ts.length : Int) = w ∧ (∀ t ∈ ts, ∀ i, t = some i → ToOk e i) ∧ ∀ sl : Sl, sl.length = 10 → sl[4]? = some (some (.v (.list (tos.map .int)))) → sl[8]? = some (some (.v (.list (bs.map .bool)))) →
      compL none (gNm 9) tYes' (eIx (eLst (eCons (eIx (eVar 4) (eVar 9)) (eCons (eC .none) eNil))) (eB (b1 intOfP) (eCons (eIx (eVar 8) (eVar 9)) eNil))) ((List.range w.toNat).map fun k : Nat => D.v (.int (k : Int))) sl [] = some ((ts.map oint).map .v, []) := by
  refine ⟨(List.range w.toNat).map fun k : Nat => if bs.getD k false = true then none else some (tos.getD k 0), by simp; omega, fun t h i e1 => ?_, fun sl hl e4 e8 => ?_⟩
  · obtain ⟨k, hk, rfl⟩ := List.mem_map.mp h
    have hk' : k < w.toNat := List.mem_range.mp hk
    have hkl : k < tos.length := by omega
    split at e1
    · cases e1
    · cases e1
      rw [List.getD_eq_getElem?_getD, List.getElem?_eq_getElem hkl]
      exact hto _ (List.getElem_mem hkl)
  · rw [compMap (List.range w.toNat) _ (gNm 9) _ (fun k : Nat => oint (if bs.getD k false = true then none else some (tos.getD k 0))) fun k hk => ⟨_, rfl, ?_⟩]
    · rw [List.map_map, List.map_map]
      rfl
    · have hk' : k < w.toNat := List.mem_range.mp hk
      have hkl : k < tos.length := by omega
      have hkb : k < bs.length := by omega
      have g4 : (sl.set 9 (some (.v (.int (k : Int)))))[4]? = some (some (.v (.list (tos.map .int)))) := by
        rw [List.getElem?_set_ne (by decide)]
        exact e4
      have g8 : (sl.set 9 (some (.v (.int (k : Int)))))[8]? = some (some (.v (.list (bs.map .bool)))) := by
        rw [List.getElem?_set_ne (by decide)]
        exact e8
      have g9 : (sl.set 9 (some (.v (.int (k : Int)))))[9]? = some (some (.v (.int (k : Int)))) := by
        rw [List.getElem?_set_self (by omega)]
      have i1 : atI tos (k : Int) = some tos[k] := atI_nat (List.getElem?_eq_getElem hkl)
      have i2 : atI bs (k : Int) = some bs[k] := atI_nat (List.getElem?_eq_getElem hkb)
      have j1 : tos.getD k 0 = tos[k] := by rw [List.getD_eq_getElem?_getD, List.getElem?_eq_getElem hkl]; rfl
      have j2 : bs.getD k false = bs[k] := by rw [List.getD_eq_getElem?_getD, List.getElem?_eq_getElem hkb]; rfl
      rw [j1, j2]
      cases hq : bs[k] <;> simp [g4, g8, g9, i1, i2, hq, oint, intOfP]
theorem to_row_ok {es ws : List Int} {m e nh : Int} (hd : Dig [8, 3, 6, 6, 9, 8, 64, m] es) (hw : WsOk ws) (he : 1 ≤ e ∧ e ≤ 1000) (hh : 0 ≤ nh ∧ nh ≤ 100) (h : Hs) :
    ∃ r : RowI, callR F__law_to_row [.list (es.map .int), .tuple (ws.map .int), .int e, .int nh] false h = some (.ok (.v (rowI r)) h) ∧ RowOk ws m e nh r := by
  obtain ⟨d0, d1, d2, d3, d4, d5, d6, d7, rfl, h0, h1, h2, h3, h4, h5, h6, h7⟩ := dig8 hd
  obtain ⟨w1, w2, w3⟩ := hw
  have hb0 : 0 ≤ d1 % (ws.length : Int) := Int.emod_nonneg _ (by omega)
  have hb1 : d1 % (ws.length : Int) < ws.length := Int.emod_lt_of_pos _ (by omega)
  obtain ⟨w, hwat, hwm, hwk⟩ := atI_in (xs := ws) hb0 hb1
  have hwb := w3 w hwm
  have hwl : 0 < ws.length := by omega
  generalize hB : d1 % (ws.length : Int) = box at hb0 hb1 hwat hwk
  have hbk : box = (box.toNat : Int) := by omega
  have ho0 : 0 ≤ d2 % w := Int.emod_nonneg _ (by omega)
  have ho1 : d2 % w < w := Int.emod_lt_of_pos _ (by omega)
  have hp0 : 0 ≤ d3 % w := Int.emod_nonneg _ (by omega)
  have hp1 : d3 % w < w := Int.emod_lt_of_pos _ (by omega)
  have hw0 : 0 < w := by omega
  generalize hO : d2 % w = one at ho0 ho1
  generalize hP : d3 % w = other at hp0 hp1
  obtain ⟨tos, htl, hto, htc⟩ := tos_comp (d0 := d0) (d1 := d1) (d2 := d2) (d3 := d3) (d6 := d6) (d7 := d7) h4 h5 he
  obtain ⟨t0, t1, t2, t3, t4, t5, t6, t7, rfl⟩ : ∃ t0 t1 t2 t3 t4 t5 t6 t7, tos = [t0, t1, t2, t3, t4, t5, t6, t7] := by
    match tos, htl with
    | [t0, t1, t2, t3, t4, t5, t6, t7], _ => exact ⟨_, _, _, _, _, _, _, _, rfl⟩
  have k0 := hto t0 (by simp)
  have c0 := htc [some (.v (.list ([d0, d1, d2, d3, d4, d5, d6, d7].map .int))), some (.v (.tuple (ws.map .int))), some (.v (.int e)), some (.v (.int nh)), none, none, none, none, none, none] rfl rfl rfl
  have r8 : kRng1 [.v (.int 8)] [] = _ := rng1 (n := 8) (by decide) (by decide)
  have hz : ∀ r : RowI, F__law_to_row [.v (.list ([d0, d1, d2, d3, d4, d5, d6, d7].map .int)), .v (.tuple (ws.map .int)), .v (.int e), .v (.int nh)] [] = some (.rt (.v (rowI r)) []) → callR F__law_to_row [.list ([d0, d1, d2, d3, d4, d5, d6, d7].map .int), .tuple (ws.map .int), .int e, .int nh] false h = some (.ok (.v (rowI r)) h) := fun r e => callR_v (h' := []) e
  have ex : d0 = 0 ∨ d0 = 1 ∨ d0 = 2 ∨ d0 = 3 ∨ d0 = 4 ∨ d0 = 5 ∨ d0 = 6 ∨ d0 = 7 := by omega
  have pre := (eqD_int (neg := false) (i := d0) (j := 0) (h := []))
  have r6 : kRng1 [.v (.int 6)] [] = _ := rng1 (n := 6) (by decide) (by decide)
  have rw_ : kRng1 [.v (.int w)] [] = _ := rng1 (n := w) (by omega) (by omega)
  simp [-List.map_map] at c0 r8 r6 rw_
  rcases ex with rfl | rfl | rfl | rfl | rfl | rfl | rfl | rfl
  · refine ⟨.put box one t0, hz _ ?_, box.toNat, hbk, w, hwk, ho0, ho1, k0⟩
    simp [-List.map_map, F__law_to_row, mkFn, B__law_to_row, c0, r8, hwl, hB, hwat, hw0, hO, hP, eqD_int, rowI, rowP]
  · refine ⟨.swap box one other t0, hz _ ?_, box.toNat, hbk, w, hwk, ho0, ho1, hp0, hp1, k0⟩
    simp [-List.map_map, F__law_to_row, mkFn, B__law_to_row, c0, r8, hwl, hB, hwat, hw0, hO, hP, eqD_int, rowI, rowP]
  · obtain ⟨bs, b1, b2⟩ := stops_comp (d0 := 2) (d1 := d1) (d2 := d2) (d3 := d3) (d4 := d4) (d5 := d5) (d6 := d6) (d7 := d7) (.inl rfl)
    obtain ⟨ts, a1, a2, a3⟩ := asks_comp (bs := bs) (tos := [t0, t1, t2, t3, t4, t5, t6, t7]) (e := e) b1 rfl hwb hto
    refine ⟨.ask box ts, hz _ ?_, box.toNat, hbk, w, hwk, a1, a2⟩
    have b2 := fun a4 a5 a6 a7 => b2 [some (.v (.list ([2, d1, d2, d3, d4, d5, d6, d7].map .int))), some (.v (.tuple (ws.map .int))), some (.v (.int e)), some (.v (.int nh)), a4, a5, a6, a7, none, none] rfl rfl
    have a3 := fun a0 a1 a2 a3' a5 a6 a7 => a3 [a0, a1, a2, a3', some (.v (.list ([t0, t1, t2, t3, t4, t5, t6, t7].map .int))), a5, a6, a7, some (.v (.list (bs.map .bool))), none] rfl rfl rfl
    simp [-List.map_map] at b2 a3
    simp [-List.map_map, F__law_to_row, mkFn, B__law_to_row, c0, r8, r6, rw_, b2, a3, hwl, hB, hwat, hw0, hO, hP, eqD_int, rowI, rowP]
  · obtain ⟨bs, b1, b2⟩ := stops_comp (d0 := 3) (d1 := d1) (d2 := d2) (d3 := d3) (d4 := d4) (d5 := d5) (d6 := d6) (d7 := d7) (.inr rfl)
    obtain ⟨ts, a1, a2, a3⟩ := asks_comp (bs := bs) (tos := [t0, t1, t2, t3, t4, t5, t6, t7]) (e := e) b1 rfl hwb hto
    refine ⟨.ask box ts, hz _ ?_, box.toNat, hbk, w, hwk, a1, a2⟩
    have b2 := fun a4 a5 a6 a7 => b2 [some (.v (.list ([3, d1, d2, d3, d4, d5, d6, d7].map .int))), some (.v (.tuple (ws.map .int))), some (.v (.int e)), some (.v (.int nh)), a4, a5, a6, a7, none, none] rfl rfl
    have a3 := fun a0 a1 a2 a3' a5 a6 a7 => a3 [a0, a1, a2, a3', some (.v (.list ([t0, t1, t2, t3, t4, t5, t6, t7].map .int))), a5, a6, a7, some (.v (.list (bs.map .bool))), none] rfl rfl rfl
    simp [-List.map_map] at b2 a3
    simp [-List.map_map, F__law_to_row, mkFn, B__law_to_row, c0, r8, r6, rw_, b2, a3, hwl, hB, hwat, hw0, hO, hP, eqD_int, rowI, rowP]
  · have c1 : ([t0, t1, t2, t3, t4, t5, t6, t7].take (1 + d2 % 4).toNat).length = (1 + d2 % 4).toNat := by
      rw [List.length_take]
      simp
      omega
    have hc := cut_take ([t0, t1, t2, t3, t4, t5, t6, t7].map PyData.int) (k := 1 + d2 % 4) (by omega)
    rw [← List.map_take] at hc
    refine ⟨.any ([t0, t1, t2, t3, t4, t5, t6, t7].take (1 + d2 % 4).toNat), hz _ ?_, by rw [c1]; omega, by rw [c1]; omega, fun t ht => hto t (List.mem_of_mem_take ht)⟩
    generalize [t0, t1, t2, t3, t4, t5, t6, t7].take (1 + d2 % 4).toNat = tk at hc
    simp [-List.map_map] at hc
    simp [-List.map_map, F__law_to_row, mkFn, B__law_to_row, c0, r8, hwl, hB, hwat, hw0, hO, hP, eqD_int, rowI, rowP, hc]
  · refine ⟨.call d7 t0, hz _ ?_, h7.1, h7.2, k0⟩
    simp [-List.map_map, F__law_to_row, mkFn, B__law_to_row, c0, r8, hwl, hB, hwat, hw0, hO, hP, eqD_int, rowI, rowP]
  all_goals
    by_cases hle : w ≤ nh
    · refine ⟨.put box other t0, hz _ ?_, box.toNat, hbk, w, hwk, hp0, hp1, k0⟩
      simp [-List.map_map, F__law_to_row, mkFn, B__law_to_row, c0, r8, hwl, hB, hwat, hw0, hO, hP, eqD_int, rowI, rowP, hle]
  · refine ⟨.take box t0, hz _ ?_, box.toNat, hbk, w, hwk, by omega, k0⟩
    simp [-List.map_map, F__law_to_row, mkFn, B__law_to_row, c0, r8, hwl, hB, hwat, hw0, hO, hP, eqD_int, rowI, rowP, hle]
  · refine ⟨.give box t0, hz _ ?_, box.toNat, hbk, w, hwk, by omega, k0⟩
    simp [-List.map_map, F__law_to_row, mkFn, B__law_to_row, c0, r8, hwl, hB, hwat, hw0, hO, hP, eqD_int, rowI, rowP, hle]
end Fs
set_option maxHeartbeats 4000000
namespace Fs
open PySem PySem.Spec PyProof.Rows L2 Vl
theorem frz_mix {h : Hs} {n : Nat} {xs : List D} : frz h (n + 1) (.mix xs) = (frzs h n xs).map .tuple := rfl
theorem frz_ref {h : Hs} {n k : Nat} {xs : List D} (e : h[k]? = some (.lst xs)) : frz h (n + 1) (.ref k) = (frzs h n xs).map .list := by
  rw [y_frz1, e]
theorem frzs_cons {h : Hs} {n : Nat} {d : D} {ds : List D} : frzs h (n + 1) (d :: ds) = match frz h n d, frzs h (n + 1) ds with
  | some p, some ps => some (p :: ps)
  | _, _ => none := rfl
theorem frzs_nil {h : Hs} {n : Nat} : frzs h (n + 1) [] = some [] := rfl
theorem compTyp {α β : Type} {s : Sl} {h : Hs} (rep : β → PyData) (P : β → Prop) (i : α → D) (gm : GM) (f : EM) : ∀ (l : List α), (∀ c ∈ l, ∃ s1 b, gm (i c) s h = some s1 ∧ f s1 h = some (.ok (.v (rep b)) h) ∧ P b) →
    ∃ bs : List β, compL none gm tYes' f (l.map i) s h = some ((bs.map rep).map .v, h) ∧ bs.length = l.length ∧ ∀ b ∈ bs, P b
  | [], _ => ⟨[], by simp [compL, gok], rfl, by simp⟩
  | c :: r, H => by
    obtain ⟨bs, e1, e2, e3⟩ := compTyp rep P i gm f r fun z hz => H z (List.mem_cons_of_mem _ hz)
    obtain ⟨s1, b, g1, g2, g3⟩ := H c List.mem_cons_self
    refine ⟨b :: bs, ?_, by rw [List.length_cons, List.length_cons, e2], fun x hx => ?_⟩
    · rw [List.map_cons, compL, if_pos (show gok none h from trivial)]
      simp only [g1, z_yes, g2, e1, if_true]
      rfl
    · rcases List.mem_cons.mp hx with rfl | hx
      · exact g3
      · exact e3 x hx
/-! ## the cells of a script -/
theorem cell_ok (ns : List Int) (k : Int) (hk : 0 ≤ k) (h : Hs) : ∃ c : Int, callR F__law_cell_at [.list (ns.map .int), .int k] false h = some (.ok (.v (.int c)) h) := by
  by_cases hl : k < ns.length
  · obtain ⟨x, e, _⟩ := atI_in (xs := ns) hk hl
    exact ⟨x, callR_v (h' := []) (by simp [F__law_cell_at, mkFn, B__law_cell_at, hl, e])⟩
  · exact ⟨0, callR_v (h' := []) (by simp [F__law_cell_at, mkFn, B__law_cell_at, hl])⟩
/-! ## plans -/
structure Plan where
  ws : List Int
  fs : List Int
  ps : List (List RowI)
  hs : List Int
def planP (p : Plan) : PyData := .tuple [.tuple (p.ws.map .int), .list (p.fs.map .int), .list (p.ps.map fun r => .list (r.map rowI)), .list (p.hs.map .int)]
structure Plan.Ok (p : Plan) (mp mr mh : Nat) : Prop where
  ws : WsOk p.ws
  fl : p.fs.length = p.ws.length
  fs : ∀ (k : Nat) f w, p.fs[k]? = some f → p.ws[k]? = some w → 0 ≤ f ∧ f < w
  pl : 1 ≤ p.ps.length ∧ p.ps.length ≤ mp
  ps : ∀ r ∈ p.ps, 1 ≤ r.length ∧ r.length ≤ mr ∧ ∀ x ∈ r, RowOk p.ws p.ps.length r.length p.hs.length x
  hl : 1 ≤ p.hs.length ∧ p.hs.length ≤ mh
  hs : ∀ x ∈ p.hs, 0 ≤ x ∧ x < p.ps.length
theorem Dig.take : ∀ (n : Nat) {ss ds : List Int}, Dig ss ds → Dig (ss.take n) (ds.take n)
  | 0, _, _, _ => by simp [Dig]
  | n + 1, [], [], _ => trivial
  | n + 1, [], _ :: _, h => h.elim
  | n + 1, _ :: _, [], h => h.elim
  | n + 1, _ :: _, _ :: _, h => ⟨h.1, Dig.take n h.2⟩
theorem cut_mid {α : Type} (xs : List α) {j k : Nat} (h : k ≤ xs.length) : cutP xs (some (j : Int)) (some (k : Int)) = (xs.drop j).take (k - j) := by
  unfold cutP
  rw [HT.sIx_nat, HT.sIx_nat, Nat.min_eq_left h]
  rcases Nat.le_total j xs.length with g | g
  · rw [Nat.min_eq_left g]
  · rw [Nat.min_eq_right g, List.drop_length, List.drop_eq_nil_of_le g]
    simp
theorem rep_drop {l : List Int} {n j : Nat} (hj : j < n) : (((List.replicate n l).flatten.drop (l.length * j)).take l.length) = l := by
  induction j generalizing n with
  | zero =>
    obtain ⟨m, rfl⟩ : ∃ m, n = m + 1 := ⟨n - 1, by omega⟩
    simp [List.replicate_succ]
  | succ j ih =>
    obtain ⟨m, rfl⟩ : ∃ m, n = m + 1 := ⟨n - 1, by omega⟩
    rw [List.replicate_succ, List.flatten_cons, Nat.mul_succ, Nat.add_comm, ← List.drop_drop, List.drop_left]
    exact ih (by omega)
theorem plan_turn {ns ws fs hs : List Int} {mr np nh : Nat} {D0 : List D} {k : Int} (hk : 0 ≤ k ∧ k ≤ 100) (hmr : 1 ≤ mr ∧ mr ≤ 100) (hnp : 1 ≤ np ∧ np ≤ 100) (hw : WsOk ws) (hh : hs.length ≤ 100) (hD : D0.length ≤ 1000) :
    ∃ r : List RowI, 1 ≤ r.length ∧ r.length ≤ mr ∧ (∀ x ∈ r, RowOk ws np r.length hs.length x) ∧
      W__law_plan_1 [some (.v (.list (ns.map .int))), none, some (.v (.int mr)), none, none, none, some (.v (.tuple (ws.map .int))), some (.v (.list (fs.map .int))), some (.v (.int np)), some (.v (.list (hs.map .int))), some (.ref 0), some (.v (.int k)), none, none, none] [.lst D0] =
      some (.nx (S__law_plan_1 (.v (.list (ns.map .int))) (.v (.int mr)) (.v (.tuple (ws.map .int))) (.v (.list (fs.map .int))) (.v (.int np)) (.v (.list (hs.map .int))) (.ref 0)) [.lst (D0 ++ [.v (.list (r.map rowI))])]) := by
  obtain ⟨c, hc⟩ := cell_ok ns (1 + k) (by omega) [.lst D0]
  have hsz : ([(mr : Int)] ++ (List.replicate mr [8, 3, 6, 6, 9, 8, 64, (np : Int)]).flatten).length = 1 + 8 * mr := by
    simp [List.length_flatten]
    omega
  obtain ⟨es, he, hd⟩ := dig_call (cell := c) (turn := 1 + k) (sizes := [(mr : Int)] ++ (List.replicate mr [8, 3, 6, 6, 9, 8, 64, (np : Int)]).flatten) (h := [.lst D0]) (fun s hs => by
    rcases List.mem_append.mp hs with h | h
    · rw [List.mem_singleton.mp h]
      omega
    · obtain ⟨l, hl, h⟩ := List.mem_flatten.mp h
      rw [(List.mem_replicate.mp hl).2] at h
      simp only [List.mem_cons, List.not_mem_nil, or_false] at h
      omega) (by rw [hsz]; omega) (by omega) (by omega)
  have hel : es.length = 1 + 8 * mr := by rw [hd.len, hsz]
  cases es with
  | nil =>
    rw [List.length_nil] at hel
    omega
  | cons e0 er =>
    have h0 : 0 ≤ e0 ∧ e0 < mr := hd.1
    have hdr : Dig (List.replicate mr [8, 3, 6, 6, 9, 8, 64, (np : Int)]).flatten er := hd.2
    have hmul : mulP (.list [.int 8, .int 3, .int 6, .int 6, .int 9, .int 8, .int 64, .int np]) (.int mr) = some (.list ((List.replicate mr [8, 3, 6, 6, 9, 8, 64, (np : Int)]).flatten.map .int)) := by
      have hg : yes (-(2 ^ 63) ≤ (mr : Int) ∧ (mr : Int) < 2 ^ 63 ∧ [PyData.int 8, .int 3, .int 6, .int 6, .int 9, .int 8, .int 64, .int np].length * (mr : Int).toNat ≤ sizeLine) = true :=
        yes_of ⟨by omega, by omega, ten_line' (by simp; omega)⟩
      rw [y_mul1, if_pos hg, List.map_flatten, List.map_replicate]
      simp
    have hend : ∃ n : Nat, 1 + e0 = n ∧ 1 ≤ n ∧ n ≤ mr := ⟨(1 + e0).toNat, by omega, by omega, by omega⟩
    obtain ⟨n, hn, hn1, hn2⟩ := hend
    have hrng : kRng1 [.v (.int (n : Int))] [.lst D0] = _ := rng1 (n := n) (by omega) (by omega)
    rw [Int.toNat_natCast] at hrng
    obtain ⟨rs, r1, r2, r3⟩ := compTyp (s := [some (.v (.list (ns.map .int))), none, some (.v (.int mr)), none, none, none, some (.v (.tuple (ws.map .int))), some (.v (.list (fs.map .int))), some (.v (.int np)), some (.v (.list (hs.map .int))), some (.ref 0), some (.v (.int k)), some (.v (.list ((e0 :: er).map .int))), some (.v (.int n)), none]) (h := [.lst D0]) rowI (RowOk ws np n hs.length) (fun j : Nat => .v (.int (j : Int))) (gNm 14)
      (eCall F__law_to_row (eCons (eSl (eVar 12) (some (eAdd (eC (.int 1)) (eMul (eC (.int 8)) (eVar 14)))) (some (eAdd (eC (.int 9)) (eMul (eC (.int 8)) (eVar 14))))) (eCons (eVar 6) (eCons (eVar 13) (eCons (eB lenD (eCons (eVar 9) eNil)) eNil))))) (List.range n) fun j hj => by
        have hj' : j < n := List.mem_range.mp hj
        have hdig : Dig [8, 3, 6, 6, 9, 8, 64, (np : Int)] ((er.drop (8 * j)).take 8) := by
          have := Dig.take 8 (Dig.drop (8 * j) hdr)
          have q : ((List.replicate mr [8, 3, 6, 6, 9, 8, 64, (np : Int)]).flatten.drop (8 * j)).take 8 = [8, 3, 6, 6, 9, 8, 64, (np : Int)] := rep_drop (l := [8, 3, 6, 6, 9, 8, 64, (np : Int)]) (n := mr) (j := j) (by omega)
          rw [q] at this
          exact this
        obtain ⟨r, hr, hrok⟩ := to_row_ok (e := (n : Int)) (nh := (hs.length : Int)) hdig hw (by omega) (by omega) [.lst D0]
        have hcut : cutP (PyData.int e0 :: er.map PyData.int) (some (1 + 8 * (j : Int))) (some (9 + 8 * (j : Int))) = (((er.drop (8 * j)).take 8).map .int) := by
          have e1 : (1 + 8 * (j : Int)) = ((1 + 8 * j : Nat) : Int) := by omega
          have e2 : (9 + 8 * (j : Int)) = ((9 + 8 * j : Nat) : Int) := by omega
          rw [e1, e2, cut_mid _ (by simp only [List.length_cons, List.length_map] at hel ⊢; omega), show 9 + 8 * j - (1 + 8 * j) = 8 by omega, Nat.add_comm 1, List.drop_succ_cons, ← List.map_drop, ← List.map_take]
        have hm : cmul 8 (j : Int) = true := cmulL (by decide) (by decide)
        exact ⟨_, r, rfl, by simp [-List.map_take, -List.map_drop, hm, hcut, hr], hrok⟩
    rw [List.length_range] at r2
    refine ⟨rs, by omega, by omega, by rw [r2]; exact r3, ?_⟩
    have hx : ∀ (xs : List PyData), xs.length ≤ 1000 → (xs.length ≤ sizeLine) = True := fun xs h => sz (by omega)
    have hdl : D0.length < sizeLine := lt_line (by omega)
    have hl1 : (List.replicate mr [8, 3, 6, 6, 9, 8, 64, (np : Int)]).flatten.length + 1 ≤ sizeLine := ten_line' (by
      rw [List.length_append, List.length_singleton] at hsz
      omega)
    have he' : callR F__law_digits [.int c, .int (1 + k), .list (.int mr :: (List.replicate mr [8, 3, 6, 6, 9, 8, 64, (np : Int)]).flatten.map .int)] false [.lst D0] = some (.ok (.v (.list (.int e0 :: er.map .int))) [.lst D0]) := he
    clear hd hdr hsz he
    generalize (List.replicate mr [8, 3, 6, 6, 9, 8, 64, (np : Int)]).flatten = FL at hmul hl1 he'
    have hl2 : 1 + FL.length ≤ sizeLine := by omega
    simp [-List.map_map] at r1 hrng
    simp [-List.map_map, W__law_plan_1, L__law_plan_1, hc, hmul, hl2, he', hn, hrng, r1, hdl]
end Fs
set_option maxHeartbeats 4000000
namespace Fs
open PySem PySem.Spec PyProof.Rows L2 Vl
theorem plan_loop {ns ws fs hs : List Int} {mr np nh : Nat} (hmr : 1 ≤ mr ∧ mr ≤ 100) (hnp : 1 ≤ np ∧ np ≤ 100) (hw : WsOk ws) (hh : hs.length ≤ 100) : ∀ (n k : Nat) (acc : List (List RowI)), k + n ≤ 100 → acc.length = k →
    ∃ rs : List (List RowI), rs.length = n ∧ (∀ r ∈ rs, 1 ≤ r.length ∧ r.length ≤ mr ∧ ∀ x ∈ r, RowOk ws np r.length hs.length x) ∧
      forL none G__law_plan_1 W__law_plan_1 ((List.range' k n).map fun k : Nat => D.v (.int (k : Int))) (S__law_plan_1 (.v (.list (ns.map .int))) (.v (.int mr)) (.v (.tuple (ws.map .int))) (.v (.list (fs.map .int))) (.v (.int np)) (.v (.list (hs.map .int))) (.ref 0)) [.lst ((acc.map fun r => PyData.list (r.map rowI)).map .v)] =
      some (.nx (S__law_plan_1 (.v (.list (ns.map .int))) (.v (.int mr)) (.v (.tuple (ws.map .int))) (.v (.list (fs.map .int))) (.v (.int np)) (.v (.list (hs.map .int))) (.ref 0)) [.lst (((acc ++ rs).map fun r => PyData.list (r.map rowI)).map .v)])
  | 0, k, acc, _, _ => ⟨[], rfl, by simp, by simp [forL, gok]⟩
  | n + 1, k, acc, h1, h2 => by
    obtain ⟨r, r1, r2, r3, r4⟩ := plan_turn (ns := ns) (fs := fs) (nh := nh) (D0 := (acc.map fun r => PyData.list (r.map rowI)).map .v) (k := (k : Int)) (by omega) hmr hnp hw hh (by rw [List.length_map, List.length_map]; omega)
    obtain ⟨rs, q1, q2, q3⟩ := plan_loop (ns := ns) (fs := fs) (nh := nh) hmr hnp hw hh n (k + 1) (acc ++ [r]) (by omega) (by rw [List.length_append, h2]; rfl)
    refine ⟨r :: rs, by rw [List.length_cons, q1], fun x hx => ?_, ?_⟩
    · rcases List.mem_cons.mp hx with rfl | hx
      · exact ⟨r1, r2, r3⟩
      · exact q2 x hx
    · rw [List.range'_succ, List.map_cons, forL, if_pos (show gok none _ from trivial)]
      simp only [z_gnm, S__law_plan_1, List.set_cons_succ, List.set_cons_zero]
      rw [r4]
      simp only
      have e : ((acc.map fun r => PyData.list (r.map rowI)).map D.v ++ [D.v (.list (r.map rowI))]) = (((acc ++ [r]).map fun r => PyData.list (r.map rowI)).map D.v) := by
        rw [List.map_append, List.map_append]
        rfl
      rw [e, q3, List.append_assoc]
      rfl
theorem dig9' {s0 s1 s2 s3 s4 s5 s6 s7 s8 : Int} {es : List Int} (h : Dig [s0, s1, s2, s3, s4, s5, s6, s7, s8] es) : ∃ d0 d1 d2 d3 d4 d5 d6 d7 d8, es = [d0, d1, d2, d3, d4, d5, d6, d7, d8] ∧ (0 ≤ d0 ∧ d0 < s0) ∧ (0 ≤ d1 ∧ d1 < s1) ∧ (0 ≤ d2 ∧ d2 < s2) ∧ (0 ≤ d3 ∧ d3 < s3) ∧ (0 ≤ d4 ∧ d4 < s4) ∧ (0 ≤ d5 ∧ d5 < s5) ∧ (0 ≤ d6 ∧ d6 < s6) ∧ (0 ≤ d7 ∧ d7 < s7) ∧ (0 ≤ d8 ∧ d8 < s8) := by
  match es, h with
  | [d0, d1, d2, d3, d4, d5, d6, d7, d8], h => exact ⟨d0, d1, d2, d3, d4, d5, d6, d7, d8, rfl, h.1, h.2.1, h.2.2.1, h.2.2.2.1, h.2.2.2.2.1, h.2.2.2.2.2.1, h.2.2.2.2.2.2.1, h.2.2.2.2.2.2.2.1, h.2.2.2.2.2.2.2.2.1⟩
theorem plan_ok {ns : List Int} {menu : List (List Int)} {mp mr mh : Nat} (hm : ∀ ws ∈ menu, WsOk ws) (hml : 1 ≤ menu.length ∧ menu.length ≤ 100) (hp : 1 ≤ mp ∧ mp ≤ 50) (hr : 1 ≤ mr ∧ mr ≤ 100) (hh : 1 ≤ mh ∧ mh ≤ 3) (h : Hs) :
    ∃ p : Plan, p.Ok mp mr mh ∧ p.ws ∈ menu ∧ callR F__law_plan [.list (ns.map .int), .int mp, .int mr, .int mh, .list (menu.map fun ws => .tuple (ws.map .int))] false h = some (.ok (.v (planP p)) h) := by
  obtain ⟨c, hc⟩ := cell_ok ns 0 (by decide) []
  obtain ⟨es, he, hd⟩ := dig_call (cell := c) (turn := 0) (sizes := [(menu.length : Int), mp, mh, 6, 6, 6, 6, 6, 6]) (h := []) (fun s hs => by
    simp only [List.mem_cons, List.not_mem_nil, or_false] at hs
    omega) (by simp) (by decide) (by decide)
  obtain ⟨d0, d1, d2, d3, d4, d5, d6, d7, d8, rfl, h0, h1, h2, h3, h4, h5, h6, h7, h8⟩ := dig9' hd
  obtain ⟨ws, hws, hwm, _⟩ := atI_in (xs := menu) h0.1 h0.2
  have hw := hm ws hwm
  obtain ⟨w1, w2, w3⟩ := hw
  -- the firsts
  have hr1 : kRng1 [.v (.int (ws.length : Int))] [] = _ := rng1 (by omega) (by omega)
  rw [Int.toNat_natCast] at hr1
  have hfs : ∃ fs : List Int, fs.length = ws.length ∧ (∀ (k : Nat) f w, fs[k]? = some f → ws[k]? = some w → 0 ≤ f ∧ f < w) ∧ ∀ sl : Sl, sl.length = 15 → sl[5]? = some (some (.v (.list ([d0, d1, d2, d3, d4, d5, d6, d7, d8].map .int)))) → sl[6]? = some (some (.v (.tuple (ws.map .int)))) →
      compL none (gNm 11) tYes' (eMod (eIx (eVar 5) (eAdd (eC (.int 3)) (eVar 11))) (eIx (eVar 6) (eVar 11))) ((List.range ws.length).map fun k : Nat => D.v (.int (k : Int))) sl [] = some ((fs.map .int).map .v, []) := by
    refine ⟨(List.range ws.length).map fun k : Nat => ([d3, d4, d5].getD k 0) % (ws.getD k 1), by simp, fun k f w e1 e2 => ?_, fun sl hl e5 e6 => ?_⟩
    · obtain ⟨hk, _⟩ := List.getElem?_eq_some_iff.mp e2
      rw [List.getElem?_map, List.getElem?_range hk] at e1
      simp only [Option.map_some, Option.some.injEq] at e1
      rw [List.getD_eq_getElem?_getD, List.getD_eq_getElem?_getD, e2] at e1
      have hwp := w3 w (List.mem_of_getElem? e2)
      simp only [Option.getD_some] at e1
      subst e1
      exact ⟨Int.emod_nonneg _ (by omega), Int.emod_lt_of_pos _ (by omega)⟩
    · rw [compMap (List.range ws.length) _ (gNm 11) _ (fun k : Nat => .int (([d3, d4, d5].getD k 0) % (ws.getD k 1))) fun k hk => ⟨_, rfl, ?_⟩]
      · rw [List.map_map, List.map_map]
        rfl
      · have hk' : k < ws.length := List.mem_range.mp hk
        have g5 : ∀ x, (sl.set 11 x)[5]? = some (some (.v (.list ([d0, d1, d2, d3, d4, d5, d6, d7, d8].map .int)))) := fun x => by
          rw [List.getElem?_set_ne (by decide)]
          exact e5
        have g6 : ∀ x, (sl.set 11 x)[6]? = some (some (.v (.tuple (ws.map .int)))) := fun x => by
          rw [List.getElem?_set_ne (by decide)]
          exact e6
        have g11 : ∀ x, (sl.set 11 x)[11]? = some x := fun x => by
          rw [List.getElem?_set_self (by omega)]
        have i1 : atI ws (k : Int) = some ws[k] := atI_nat (List.getElem?_eq_getElem hk')
        have i2 : atI [d0, d1, d2, d3, d4, d5, d6, d7, d8] (3 + (k : Int)) = some ([d3, d4, d5].getD k 0) := by
          have ek : k = 0 ∨ k = 1 ∨ k = 2 := by omega
          have : (3 + (k : Int)) = ((3 + k : Nat) : Int) := by omega
          rw [this]
          refine atI_nat ?_
          rcases ek with rfl | rfl | rfl <;> rfl
        have j1 : ws.getD k 1 = ws[k] := by rw [List.getD_eq_getElem?_getD, List.getElem?_eq_getElem hk']; rfl
        have hp : 0 < ws[k] := by
          have := w3 ws[k] (List.getElem_mem hk')
          omega
        have i2' : atI ([d0, d1, d2, d3, d4, d5, d6, d7, d8].map PyData.int) (3 + (k : Int)) = some (.int ([d3, d4, d5].getD k 0)) := by
          rw [atI_map, i2]
          rfl
        simp only [List.map_cons, List.map_nil] at i2' g5
        rw [j1]
        simp [g5, g6, g11, e5, e6, i1, i2', hp]
  obtain ⟨fs, f1, f2, f3⟩ := hfs
  -- the hands
  obtain ⟨np, hnp, np1, np2⟩ : ∃ n : Nat, 1 + d1 = n ∧ 1 ≤ n ∧ n ≤ mp := ⟨(1 + d1).toNat, by omega, by omega, by omega⟩
  obtain ⟨nh, hnh, nh1, nh2⟩ : ∃ n : Nat, 1 + d2 = n ∧ 1 ≤ n ∧ n ≤ mh := ⟨(1 + d2).toNat, by omega, by omega, by omega⟩
  have hr2 : kRng1 [.v (.int (nh : Int))] [] = _ := rng1 (by omega) (by omega)
  rw [Int.toNat_natCast] at hr2
  have hhs : ∃ hs : List Int, hs.length = nh ∧ (∀ x ∈ hs, 0 ≤ x ∧ x < np) ∧ ∀ sl : Sl, sl.length = 15 → sl[5]? = some (some (.v (.list ([d0, d1, d2, d3, d4, d5, d6, d7, d8].map .int)))) → sl[8]? = some (some (.v (.int np))) →
      compL none (gNm 11) tYes' (eMod (eIx (eVar 5) (eAdd (eC (.int 6)) (eVar 11))) (eVar 8)) ((List.range nh).map fun k : Nat => D.v (.int (k : Int))) sl [] = some ((hs.map .int).map .v, []) := by
    refine ⟨(List.range nh).map fun k : Nat => ([d6, d7, d8].getD k 0) % np, by simp, fun x hx => ?_, fun sl hl e5 e8 => ?_⟩
    · obtain ⟨k, _, rfl⟩ := List.mem_map.mp hx
      exact ⟨Int.emod_nonneg _ (by omega), Int.emod_lt_of_pos _ (by omega)⟩
    · rw [compMap (List.range nh) _ (gNm 11) _ (fun k : Nat => .int (([d6, d7, d8].getD k 0) % np)) fun k hk => ⟨_, rfl, ?_⟩]
      · rw [List.map_map, List.map_map]
        rfl
      · have hk' : k < nh := List.mem_range.mp hk
        have g5 : ∀ x, (sl.set 11 x)[5]? = some (some (.v (.list ([d0, d1, d2, d3, d4, d5, d6, d7, d8].map .int)))) := fun x => by
          rw [List.getElem?_set_ne (by decide)]
          exact e5
        have g8 : ∀ x, (sl.set 11 x)[8]? = some (some (.v (.int np))) := fun x => by
          rw [List.getElem?_set_ne (by decide)]
          exact e8
        have g11 : ∀ x, (sl.set 11 x)[11]? = some x := fun x => by
          rw [List.getElem?_set_self (by omega)]
        have i2 : atI [d0, d1, d2, d3, d4, d5, d6, d7, d8] (6 + (k : Int)) = some ([d6, d7, d8].getD k 0) := by
          have ek : k = 0 ∨ k = 1 ∨ k = 2 := by omega
          have : (6 + (k : Int)) = ((6 + k : Nat) : Int) := by omega
          rw [this]
          refine atI_nat ?_
          rcases ek with rfl | rfl | rfl <;> rfl
        have i2' : atI ([d0, d1, d2, d3, d4, d5, d6, d7, d8].map PyData.int) (6 + (k : Int)) = some (.int ([d6, d7, d8].getD k 0)) := by
          rw [atI_map, i2]
          rfl
        simp only [List.map_cons, List.map_nil] at i2' g5
        have hp : 0 < np := by omega
        simp [g5, g8, g11, e5, e8, i2', hp]
  obtain ⟨hs, s1, s2, s3⟩ := hhs
  have hr3 : kRng1 [.v (.int (np : Int))] [.lst []] = _ := rng1 (by omega) (by omega)
  rw [Int.toNat_natCast, List.range_eq_range'] at hr3
  obtain ⟨rs, r1, r2, r3⟩ := plan_loop (ns := ns) (fs := fs) (nh := nh) (np := np) hr (by omega) ⟨w1, w2, w3⟩ (hs := hs) (by omega) np 0 [] (by omega) rfl
  refine ⟨⟨ws, fs, rs, hs⟩, ⟨⟨w1, w2, w3⟩, f1, f2, by simp only [r1]; omega, by simp only [r1]; exact r2, by simp only [s1]; omega, by simp only [r1]; exact s2⟩, hwm, ?_⟩
  refine callR_rt (h' := [.lst ((rs.map fun r => PyData.list (r.map rowI)).map .v)]) (d := .mix [.v (.tuple (ws.map .int)), .v (.list (fs.map .int)), .ref 0, .v (.list (hs.map .int))]) ?_ ?_
  · have f3 := fun a0 a1 a2 a3 a4 a7 a8 a9 a10 a12 a13 a14 => f3 [a0, a1, a2, a3, a4, some (.v (.list ([d0, d1, d2, d3, d4, d5, d6, d7, d8].map .int))), some (.v (.tuple (ws.map .int))), a7, a8, a9, a10, none, a12, a13, a14] rfl rfl rfl
    have s3 := fun a0 a1 a2 a3 a4 a6 a7 a9 a10 a12 a13 a14 => s3 [a0, a1, a2, a3, a4, some (.v (.list ([d0, d1, d2, d3, d4, d5, d6, d7, d8].map .int))), a6, a7, some (.v (.int np)), a9, a10, none, a12, a13, a14] rfl rfl rfl
    simp only [List.map_nil, List.nil_append, S__law_plan_1] at r3
    have he' : callR F__law_digits [.int c, .int 0, .list [.int menu.length, .int mp, .int mh, .int 6, .int 6, .int 6, .int 6, .int 6, .int 6]] false [] = some (.ok (.v (.list ([d0, d1, d2, d3, d4, d5, d6, d7, d8].map .int))) []) := he
    have hwa : atI (menu.map fun ws => PyData.tuple (ws.map .int)) d0 = some (.tuple (ws.map .int)) := by
      rw [atI_map, hws]
      rfl
    simp [-List.map_map] at f3 s3 he'
    simp [-List.map_map, F__law_plan, mkFn, B__law_plan, hc, he', hwa, hr1, f3, hnp, hnh, hr2, s3, hr3, r3]
  · rw [planP]
    show frz _ (11 + 1) _ = _
    rw [frz_mix, frzs_cons, frzs_cons, frzs_cons, frzs_cons, frzs_nil, frz_v, frz_v, frz_v, frz_ref (xs := (rs.map fun r => PyData.list (r.map rowI)).map .v) rfl, y_frzs]
    rfl
end Fs
set_option maxHeartbeats 4000000
namespace Fs
open PySem PySem.Spec PyProof.Rows L2 Vl
/-! ## names -/
def stemC (n : Int) (k : Nat) : Nat := (abc.cps.toList[((n + 7 * (k : Int)) % 26).toNat]?).getD 0
def moreS (n : Int) : Str := if n / 26 % 4 = 0 then "" else if n / 26 % 4 = 1 then "x" else if n / 26 % 4 = 2 then "zz" else "qqqqqqq"
def nameF (n : Int) (k : Nat) : Str := if n / 104 % 2 = 0 then moreS n ++ ⟨#[stemC n k]⟩ else ⟨#[stemC n k]⟩ ++ moreS n
theorem abc_tl : abc.cps.toList = (List.range 26).map (97 + ·) := by decide +kernel
theorem stem_eq (n : Int) (k : Nat) : stemC n k = 97 + ((n + 7 * (k : Int)) % 26).toNat := by
  have h0 : 0 ≤ (n + 7 * (k : Int)) % 26 := Int.emod_nonneg _ (by decide)
  have h1 : (n + 7 * (k : Int)) % 26 < 26 := Int.emod_lt_of_pos _ (by decide)
  unfold stemC
  rw [abc_tl, List.getElem?_map, List.getElem?_range (by omega)]
  rfl
theorem more_tl (n : Int) : (moreS n).cps.toList = [] ∨ (moreS n).cps.toList = [120] ∨ (moreS n).cps.toList = [122, 122] ∨ (moreS n).cps.toList = [113, 113, 113, 113, 113, 113, 113] := by
  unfold moreS
  split
  · exact .inl (by decide +kernel)
  · split
    · exact .inr (.inl (by decide +kernel))
    · split
      · exact .inr (.inr (.inl (by decide +kernel)))
      · exact .inr (.inr (.inr (by decide +kernel)))
theorem name_tl (n : Int) (k : Nat) : (nameF n k).cps.toList = (moreS n).cps.toList ++ [stemC n k] ∨ (nameF n k).cps.toList = [stemC n k] ++ (moreS n).cps.toList := by
  unfold nameF
  split
  · exact .inl (tl_app _ _)
  · exact .inr (tl_app _ _)
theorem name_is (n : Int) (k : Nat) : isName (nameF n k) = true := by
  have hs : stemC n k ∈ abc.cps.toList := by
    rw [stem_eq, abc_tl]
    have h0 : 0 ≤ (n + 7 * (k : Int)) % 26 := Int.emod_nonneg _ (by decide)
    have h1 : (n + 7 * (k : Int)) % 26 < 26 := Int.emod_lt_of_pos _ (by decide)
    exact List.mem_map.mpr ⟨_, List.mem_range.mpr (by omega), rfl⟩
  have hm : ∀ c ∈ (moreS n).cps.toList, c ∈ abc.cps.toList := by
    rcases more_tl n with e | e | e | e <;> rw [e] <;> decide +kernel
  have hl : (moreS n).cps.toList.length ≤ 7 := by
    rcases more_tl n with e | e | e | e <;> rw [e] <;> decide
  have key : ∀ z : Str, (∀ c ∈ z.cps.toList, c ∈ abc.cps.toList) → 1 ≤ z.cps.toList.length → z.cps.toList.length ≤ 8 → isName z = true := fun z h1 h2 h3 => by
    unfold isName
    rw [← len_tl]
    simp only [Bool.and_eq_true, decide_eq_true_eq, List.all_eq_true]
    exact ⟨⟨h2, h3⟩, h1⟩
  rcases name_tl n k with e | e
  · refine key _ (fun c hc => ?_) ?_ ?_ <;> rw [e] at *
    · rcases List.mem_append.mp hc with h | h
      · exact hm c h
      · rw [List.mem_singleton.mp h]
        exact hs
    · simp
    · simp
      omega
  · refine key _ (fun c hc => ?_) ?_ ?_ <;> rw [e] at *
    · rcases List.mem_append.mp hc with h | h
      · rw [List.mem_singleton.mp h]
        exact hs
      · exact hm c h
    · simp
    · simp
      omega
theorem name_inj {n : Int} {j k : Nat} (hj : j < 26) (hk : k < 26) (e : nameF n j = nameF n k) : j = k := by
  have es : stemC n j = stemC n k := by
    unfold nameF at e
    have e := congrArg (fun z : Str => z.cps.toList) e
    split at e
    · simp only [tl_app] at e
      have := List.append_cancel_left e
      simpa using this
    · simp only [tl_app] at e
      have := List.append_cancel_right e
      simpa using this
  rw [stem_eq, stem_eq] at es
  have h0 : 0 ≤ (n + 7 * (k : Int)) % 26 := Int.emod_nonneg _ (by decide)
  have h1 : 0 ≤ (n + 7 * (j : Int)) % 26 := Int.emod_nonneg _ (by decide)
  omega
theorem name_ok {n : Int} {k : Nat} (h0 : 0 ≤ n) (h1 : n < 208) (hk : k < 26) (h : Hs) : callR F__law_name [.int n, .int (k : Int)] false h = some (.ok (.v (.str (nameF n k))) h) := by
  refine callR_v (h' := []) ?_
  have a0 : 0 ≤ (n + 7 * (k : Int)) % 26 := Int.emod_nonneg _ (by decide)
  have a1 : (n + 7 * (k : Int)) % 26 < 26 := Int.emod_lt_of_pos _ (by decide)
  have hl : abc.cps.toList.length = 26 := by decide +kernel
  have hs : atI abc.cps.toList ((n + 7 * (k : Int)) % 26) = some (stemC n k) := by
    obtain ⟨x, e1, e2, e3⟩ := atI_in (xs := abc.cps.toList) a0 (by rw [hl]; exact a1)
    rw [e1]
    unfold stemC
    rw [e3]
    rfl
  have hal : abc.length ≤ sizeLine := ten_line' (by decide +kernel)
  have c1 : cmul 7 (k : Int) = true := cmulL (by decide) (by decide)
  have c2 : cdiv 26 = true := cdivI (by decide) (by decide)
  have c3 : cdiv 104 = true := cdivI (by decide) (by decide)
  have hm : atI [PyData.str "", .str "x", .str "zz", .str "qqqqqqq"] (n / 26 % 4) = some (.str (moreS n)) := by
    have e : n / 26 % 4 = 0 ∨ n / 26 % 4 = 1 ∨ n / 26 % 4 = 2 ∨ n / 26 % 4 = 3 := by omega
    unfold moreS
    rcases e with e | e | e | e <;> rw [e] <;> simp
  have hlm : (moreS n).length ≤ 7 := by
    rw [← len_tl]
    rcases more_tl n with e | e | e | e <;> rw [e] <;> decide
  have hls : (⟨#[stemC n k]⟩ : Str).length = 1 := rfl
  have g1 : (moreS n).length + (⟨#[stemC n k]⟩ : Str).length ≤ sizeLine := ten_line' (by rw [hls]; omega)
  have g2 : (⟨#[stemC n k]⟩ : Str).length + (moreS n).length ≤ sizeLine := ten_line' (by rw [hls]; omega)
  have hq : atI [PyData.str (moreS n ++ ⟨#[stemC n k]⟩), .str (⟨#[stemC n k]⟩ ++ moreS n)] (n / 104 % 2) = some (.str (nameF n k)) := by
    have e : n / 104 % 2 = 0 ∨ n / 104 % 2 = 1 := by omega
    unfold nameF
    rcases e with e | e <;> rw [e] <;> simp
  simp [F__law_name, mkFn, B__law_name, c1, c2, c3, hs, hal, hm, g1, g2, hq]
end Fs
set_option maxHeartbeats 4000000
namespace Fs
open PySem PySem.Spec PyProof.Rows L2 Vl
/-! ## programs of a plan, by names -/
abbrev RowS := Row Str Str
abbrev rowS : RowS → PyData := rowP .str .str
structure Names where
  b : Nat → Str
  t : Nat → Str
  h : Nat → Str
def Names.of (number : Int) : Names := ⟨nameF (number % 208), nameF (number / 208 % 208), nameF (number / 43264 % 208)⟩
/-- the names of boxes, of procedures, of hands are names, and unlike -/
structure Names.Ok (m : Names) : Prop where
  b : ∀ k, isName (m.b k) = true
  t : ∀ k, isName (m.t k) = true
  h : ∀ k, isName (m.h k) = true
  bi : ∀ j k, j < 26 → k < 26 → m.b j = m.b k → j = k
  ti : ∀ j k, j < 26 → k < 26 → m.t j = m.t k → j = k
  hi : ∀ j k, j < 26 → k < 26 → m.h j = m.h k → j = k
theorem Names.of_ok (n : Int) : (Names.of n).Ok := ⟨fun k => name_is _ k, fun k => name_is _ k, fun k => name_is _ k, fun _ _ h1 h2 e => name_inj h1 h2 e, fun _ _ h1 h2 e => name_inj h1 h2 e, fun _ _ h1 h2 e => name_inj h1 h2 e⟩
/-- a row by names -/
def Names.row (m : Names) : RowI → RowS := Row.map (fun b => m.b b.toNat) (fun q => m.t q.toNat)
def boxP (m : Names) (p : Plan) (k : Nat) : PyData := .tuple [.str (m.b k), .int (p.ws.getD k 1), .int (p.fs.getD k 0)]
def boxesP (m : Names) (p : Plan) : List PyData := (List.range p.ws.length).map (boxP m p)
def procP (m : Names) (k : Nat) (r : List RowI) : PyData := .tuple [.str (m.t k), .list (r.map fun x => rowS (m.row x))]
def procsP (m : Names) : Nat → List (List RowI) → List PyData
  | _, [] => []
  | k, r :: rs => procP m k r :: procsP m (k + 1) rs
def handsP (m : Names) : Nat → List Int → List PyData
  | _, [] => []
  | k, x :: r => .tuple [.str (m.h k), .str (m.t x.toNat)] :: handsP m (k + 1) r
def progP (m : Names) (p : Plan) : PyData := .tuple [.list (boxesP m p), .list (procsP m 0 p.ps), .list (handsP m 0 p.hs)]
theorem procs_len (m : Names) : ∀ (k : Nat) (rs : List (List RowI)), (procsP m k rs).length = rs.length
  | _, [] => rfl
  | k, r :: rs => by rw [procsP, List.length_cons, List.length_cons, procs_len m]
theorem hands_len (m : Names) : ∀ (k : Nat) (rs : List Int), (handsP m k rs).length = rs.length
  | _, [] => rfl
  | k, r :: rs => by rw [handsP, List.length_cons, List.length_cons, hands_len m]
theorem boxes_len (m : Names) (p : Plan) : (boxesP m p).length = p.ws.length := by simp [boxesP]
theorem boxes_at (m : Names) (p : Plan) {k : Nat} (h : k < p.ws.length) : (boxesP m p)[k]? = some (boxP m p k) := by
  unfold boxesP
  rw [List.getElem?_map, List.getElem?_range h]
  rfl
def titlesP (m : Names) (n : Nat) : List PyData := (List.range n).map fun k => .str (m.t k)
theorem titles_at (m : Names) {n k : Nat} (h : k < n) : (titlesP m n)[k]? = some (.str (m.t k)) := by
  unfold titlesP
  rw [List.getElem?_map, List.getElem?_range h]
  rfl
/-- one row, written by names -/
theorem prow_turn {m : Names} {p : Plan} {mp mr mh : Nat} (ok : p.Ok mp mr mh) {e : Int} {x : RowI} (hx : RowOk p.ws p.ps.length e p.hs.length x) {a1 a5 a9 : D} {hp : Hs} {n0 n : Nat} {ys : List D} (hn : hp[n]? = some (.lst ys)) (hy : ys.length ≤ 1000) :
    W__law_program_1 [none, some a1, none, none, none, some a5, some (.v (.list (boxesP m p))), some (.v (.list (titlesP m p.ps.length))), some (.ref n0), some a9, none, some (.ref n), some (.v (rowI x))] hp =
      some (.nx (S__law_program_1 a1 a5 (.v (.list (boxesP m p))) (.v (.list (titlesP m p.ps.length))) (.ref n0) a9 (.ref n)) (hp.set n (.lst (ys ++ [.v (rowS (m.row x))])))) := by
  have hy' : ys.length < sizeLine := lt_line (by omega)
  have key : ∀ (s : Str) (b t : Int) (r : List PyData), s ≠ "call" → s ≠ "any" → (∃ k : Nat, b = k ∧ ∃ w, p.ws[k]? = some w) → r.length ≤ 100 → 
      W__law_program_1 [none, some a1, none, none, none, some a5, some (.v (.list (boxesP m p))), some (.v (.list (titlesP m p.ps.length))), some (.ref n0), some a9, none, some (.ref n), some (.v (.tuple (.str s :: .int b :: r)))] hp =
      some (.nx (S__law_program_1 a1 a5 (.v (.list (boxesP m p))) (.v (.list (titlesP m p.ps.length))) (.ref n0) a9 (.ref n)) (hp.set n (.lst (ys ++ [.v (.tuple (.str s :: .str (m.b b.toNat) :: r))])))) := by
    intro s b t r h1 h2 ⟨k, hk, w, hw⟩ hr
    subst hk
    obtain ⟨hkl, _⟩ := List.getElem?_eq_some_iff.mp hw
    have hb : atI (boxesP m p) (k : Int) = some (boxP m p k) := atI_nat (boxes_at m p hkl)
    have hc : cutP (PyData.str s :: .int (k : Int) :: r) (some 2) none = r := by
      have := cut_mid (PyData.str s :: .int (k : Int) :: r) (j := 2) (k := r.length + 2) (by simp)
      unfold cutP at this ⊢
      rw [HT.sIx_nat] at this
      rw [HT.sIx_none]
      simp at this ⊢
      exact this
    have hz : r.length + 1 + 1 ≤ sizeLine := ten_line' (by omega)
    have hz2 : 1 + 1 + r.length ≤ sizeLine := ten_line' (by omega)
    simp [W__law_program_1, L__law_program_1, eqD_s, h1, h2, hb, boxP, hc, hz, hz2, hn, hy']
  cases x with
  | put b w t =>
    obtain ⟨k, hk, m', hm, _⟩ := hx
    exact key "put" b t [.int w, .int t] (by decide) (by decide) ⟨k, hk, m', hm⟩ (by simp)
  | swap b w y t =>
    obtain ⟨k, hk, m', hm, _⟩ := hx
    exact key "swap" b t [.int w, .int y, .int t] (by decide) (by decide) ⟨k, hk, m', hm⟩ (by simp)
  | ask b ts =>
    obtain ⟨k, hk, m', hm, _⟩ := hx
    exact key "ask" b 0 [.tuple (ts.map oint)] (by decide) (by decide) ⟨k, hk, m', hm⟩ (by simp)
  | take b t =>
    obtain ⟨k, hk, m', hm, _⟩ := hx
    exact key "take" b t [.int t] (by decide) (by decide) ⟨k, hk, m', hm⟩ (by simp)
  | give b t =>
    obtain ⟨k, hk, m', hm, _⟩ := hx
    exact key "give" b t [.int t] (by decide) (by decide) ⟨k, hk, m', hm⟩ (by simp)
  | any ts =>
    have h1 : ¬ (Str.ofString "any" = Str.ofString "call") := by decide
    simp [W__law_program_1, L__law_program_1, eqD_s, rowP, h1, hn, hy', Names.row, Row.map]
  | call q t =>
    obtain ⟨q0, q1, _⟩ := hx
    have hb : atI (titlesP m p.ps.length) q = some (.str (m.t q.toNat)) := by
      have : q = (q.toNat : Int) := by omega
      rw [this]
      exact atI_nat (titles_at m (by omega))
    simp [W__law_program_1, L__law_program_1, eqD_s, rowP, hb, hn, hy', Names.row, Row.map]
theorem prow_loop {m : Names} {p : Plan} {mp mr mh : Nat} (ok : p.Ok mp mr mh) {e : Int} {a1 a5 a9 : D} {n0 n : Nat} : ∀ (xs : List RowI) (acc : List RowS) (hp : Hs), (∀ x ∈ xs, RowOk p.ws p.ps.length e p.hs.length x) → n < hp.length → hp[n]? = some (.lst ((acc.map rowS).map .v)) → acc.length + xs.length ≤ 1000 →
    forL none G__law_program_1 W__law_program_1 ((xs.map rowI).map .v) (S__law_program_1 a1 a5 (.v (.list (boxesP m p))) (.v (.list (titlesP m p.ps.length))) (.ref n0) a9 (.ref n)) hp =
      some (.nx (S__law_program_1 a1 a5 (.v (.list (boxesP m p))) (.v (.list (titlesP m p.ps.length))) (.ref n0) a9 (.ref n)) (hp.set n (.lst (((acc ++ xs.map m.row).map rowS).map .v))))
  | [], acc, hp, _, hl, hn, _ => by
    have e : hp.set n (.lst ((acc.map rowS).map .v)) = hp := by
      apply List.ext_getElem?
      intro j
      by_cases hj : n = j
      · subst hj
        rw [List.getElem?_set_self hl, hn]
      · rw [List.getElem?_set_ne hj]
    simp only [List.map_nil, List.append_nil, e]
    simp [forL, gok]
  | x :: xs, acc, hp, hx, hl, hn, hb => by
    rw [List.length_cons] at hb
    have st := prow_turn (m := m) ok (hx x List.mem_cons_self) (a1 := a1) (a5 := a5) (a9 := a9) (n0 := n0) hn (by rw [List.length_map, List.length_map]; omega)
    have ih := prow_loop (m := m) ok (e := e) (a1 := a1) (a5 := a5) (a9 := a9) (n0 := n0) xs (acc ++ [m.row x]) (hp.set n (.lst (((acc ++ [m.row x]).map rowS).map .v))) (fun y hy => hx y (List.mem_cons_of_mem _ hy)) (by rw [List.length_set]; exact hl) (by rw [List.getElem?_set_self hl]) (by rw [List.length_append, List.length_singleton]; omega)
    rw [List.map_cons, List.map_cons, forL, if_pos (show gok none _ from trivial)]
    simp only [z_gnm, S__law_program_1, List.set_cons_succ, List.set_cons_zero]
    rw [st]
    simp only
    rw [List.map_append, List.map_append] at ih
    rw [List.set_set, List.append_assoc] at ih
    simpa [-List.map_map, List.map_append] using ih
theorem set_last {α : Type} (l : List α) (a b : α) : (l ++ [a]).set l.length b = l ++ [b] := by
  rw [List.set_append_right _ _ (Nat.le_refl _), Nat.sub_self]
  rfl
/-- what the cells hold behind k procedures -/
def progH (m : Names) : List (List RowI) → List Cell
  | [] => []
  | r :: rs => .lst (((r.map m.row).map rowS).map .v) :: progH m rs
def progR (m : Names) : List (List RowI) → Nat → List D
  | [], _ => []
  | r :: rs, k => .mix [.v (.str (m.t k)), .ref (k + 1)] :: progR m rs (k + 1)
theorem prog_loop {m : Names} {p : Plan} {mp mr mh : Nat} (ok : p.Ok mp mr mh) (hmr : mr ≤ 100) (hmp : mp ≤ 100) {a1 a5 : D} : ∀ (rs : List (List RowI)) (k : Nat) (R : List D) (C : List Cell), (∀ r ∈ rs, 1 ≤ r.length ∧ r.length ≤ mr ∧ ∀ x ∈ r, RowOk p.ws p.ps.length r.length p.hs.length x) → k + rs.length = p.ps.length → C.length = k → R.length = k →
    forL none G__law_program_2 W__law_program_2 (enumI k ((rs.map fun r => PyData.list (r.map rowI)).map .v)) (S__law_program_2 a1 a5 (.v (.list (boxesP m p))) (.v (.list (titlesP m p.ps.length))) (.ref 0)) (.lst R :: C) =
      some (.nx (S__law_program_2 a1 a5 (.v (.list (boxesP m p))) (.v (.list (titlesP m p.ps.length))) (.ref 0)) (.lst (R ++ progR m rs k) :: (C ++ progH m rs)))
  | [], k, R, C, _, _, _, _ => by simp [forL, gok, enumI, progR, progH]
  | r :: rs, k, R, C, hr, hk, hC, hR => by
    rw [List.length_cons] at hk
    have hpl := ok.pl.2
    obtain ⟨r1, r2, r3⟩ := hr r List.mem_cons_self
    have lp := prow_loop (m := m) ok (e := r.length) (a1 := a1) (a5 := a5) (a9 := .v (.int k)) (n0 := 0) (n := k + 1) r [] (.lst R :: (C ++ [.lst []])) r3 (by simp [hC]) (by
      rw [List.getElem?_cons_succ, List.getElem?_append_right (by omega), hC, Nat.sub_self]
      rfl) (by simp; omega)
    rw [List.set_cons_succ, ← hC, set_last] at lp
    simp only [hC, List.nil_append] at lp
    have ht : atI (titlesP m p.ps.length) (k : Int) = some (.str (m.t k)) := atI_nat (titles_at m (by omega))
    have ih := prog_loop (m := m) ok hmr hmp (a1 := a1) (a5 := a5) rs (k + 1) (R ++ [.mix [.v (.str (m.t k)), .ref (k + 1)]]) (C ++ [.lst (((r.map m.row).map rowS).map .v)]) (fun x hx => hr x (List.mem_cons_of_mem _ hx)) (by omega) (by simp [hC]) (by simp [hR])
    have hR' : R.length < sizeLine := lt_line (by omega)
    have st : W__law_program_2 [none, some a1, none, none, none, some a5, some (.v (.list (boxesP m p))), some (.v (.list (titlesP m p.ps.length))), some (.ref 0), some (.v (.int k)), some (.v (.list (r.map rowI))), none, none] (.lst R :: C) =
        some (.nx (S__law_program_2 a1 a5 (.v (.list (boxesP m p))) (.v (.list (titlesP m p.ps.length))) (.ref 0)) (.lst (R ++ [.mix [.v (.str (m.t k)), .ref (k + 1)]]) :: (C ++ [.lst (((r.map m.row).map rowS).map .v)]))) := by
      simp [-List.map_map, W__law_program_2, L__law_program_2, hC, lp, ht, hR']
    rw [List.append_assoc, List.append_assoc] at ih
    simpa [-List.map_map, forL, gok, enumI, st, progR, progH] using ih
theorem progH_at (m : Names) : ∀ (rs : List (List RowI)) (j : Nat) (r : List RowI), rs[j]? = some r → (progH m rs)[j]? = some (.lst (((r.map m.row).map rowS).map .v))
  | [], j, r, h => by simp at h
  | x :: rs, 0, r, h => by
    cases h
    rfl
  | x :: rs, j + 1, r, h => progH_at m rs j r (by simpa using h)
theorem prog_frz (m : Names) {hp : Hs} {n : Nat} : ∀ (rs : List (List RowI)) (k : Nat), (∀ j r, rs[j]? = some r → hp[k + 1 + j]? = some (.lst (((r.map m.row).map rowS).map .v))) → frzs hp (n + 5) (progR m rs k) = some (procsP m k rs)
  | [], _, _ => rfl
  | r :: rs, k, H => by
    have ih := prog_frz m (hp := hp) (n := n) rs (k + 1) fun j x hx => by
      have := H (j + 1) x (by simpa using hx)
      rw [show k + 1 + (j + 1) = k + 1 + 1 + j by omega] at this
      exact this
    have h0 := H 0 r rfl
    rw [Nat.add_zero] at h0
    rw [progR, frzs_cons, ih, frz_mix, frzs_cons, frzs_cons, frzs_nil, frz_v, frz_ref h0, y_frzs]
    simp [procsP, procP]
theorem hands_comp {m : Names} {number : Int} (hn : 0 ≤ number) (hm : m = Names.of number) {np : Nat} {hp : Hs} {sl : Sl} (hl : sl.length = 13) (h1 : sl[1]? = some (some (.v (.int number)))) (h7 : sl[7]? = some (some (.v (.list (titlesP m np))))) :
    ∀ (hs : List Int) (k : Nat), (∀ x ∈ hs, 0 ≤ x ∧ x < np) → k + hs.length ≤ 26 →
    compL none (gTp 2 (gsCons (gNm 9) (gsCons (gNm 10) gsNil))) tYes' (eTup (eCons (eCall F__law_name (eCons (eMod (eFdiv (eVar 1) (eC (.int 43264))) (eC (.int 208))) (eCons (eVar 9) eNil))) (eCons (eIx (eVar 7) (eVar 10)) eNil))) (enumI k ((hs.map .int).map .v)) sl hp = some ((handsP m k hs).map .v, hp)
  | [], k, _, _ => by simp [compL, gok, enumI, handsP]
  | x :: hs, k, hx, hk => by
    rw [List.length_cons] at hk
    have ih := hands_comp hn hm (np := np) (hp := hp) hl h1 h7 hs (k + 1) (fun y hy => hx y (List.mem_cons_of_mem _ hy)) (by omega)
    obtain ⟨x0, x1⟩ := hx x List.mem_cons_self
    have g1 : ∀ a b, ((sl.set 9 a).set 10 b)[1]? = some (some (.v (.int number))) := fun a b => by
      rw [List.getElem?_set_ne (by decide), List.getElem?_set_ne (by decide)]
      exact h1
    have g7 : ∀ a b, ((sl.set 9 a).set 10 b)[7]? = some (some (.v (.list (titlesP m np)))) := fun a b => by
      rw [List.getElem?_set_ne (by decide), List.getElem?_set_ne (by decide)]
      exact h7
    have g9 : ∀ a b, ((sl.set 9 a).set 10 b)[9]? = some a := fun a b => by
      rw [List.getElem?_set_ne (by decide), List.getElem?_set_self (by omega)]
    have g10 : ∀ a b, ((sl.set 9 a).set 10 b)[10]? = some b := fun a b => by
      rw [List.getElem?_set_self (by rw [List.length_set]; omega)]
    have c1 : cdiv 43264 = true := cdivI (by decide) (by decide)
    have q0 : 0 ≤ number / 43264 % 208 := Int.emod_nonneg _ (by decide)
    have q1 : number / 43264 % 208 < 208 := Int.emod_lt_of_pos _ (by decide)
    have nm := name_ok (n := number / 43264 % 208) (k := k) q0 q1 (by omega) hp
    have ht : atI (titlesP m np) x = some (.str (m.t x.toNat)) := by
      have : x = (x.toNat : Int) := by omega
      rw [this]
      exact atI_nat (titles_at m (by omega))
    have em : m.h k = nameF (number / 43264 % 208) k := by rw [hm]; rfl
    rw [List.map_cons, List.map_cons, enumI, compL, if_pos (show gok none _ from trivial)]
    simp [-List.map_map, g1, g7, g9, g10, h1, h7, c1, nm, ht, ih, handsP, em]
theorem program_ok {p : Plan} {mp mr mh : Nat} (ok : p.Ok mp mr mh) (hmr : mr ≤ 100) (hmp : mp ≤ 20) (hmh : mh ≤ 20) {number : Int} (hn : 0 ≤ number) (h : Hs) :
    callR F__law_program [planP p, .int number] false h = some (.ok (.v (progP (Names.of number) p)) h) := by
  obtain ⟨w1, w2, w3⟩ := ok.ws
  have hpl := ok.pl
  have hhl := ok.hl
  generalize hm : Names.of number = m
  have q0 : 0 ≤ number % 208 := Int.emod_nonneg _ (by decide)
  have q1 : number % 208 < 208 := Int.emod_lt_of_pos _ (by decide)
  have r0 : 0 ≤ number / 208 % 208 := Int.emod_nonneg _ (by decide)
  have r1 : number / 208 % 208 < 208 := Int.emod_lt_of_pos _ (by decide)
  have k1 : kRng1 [.v (.int (p.ws.length : Int))] [] = _ := rng1 (by omega) (by omega)
  have k2 : kRng1 [.v (.int (p.ps.length : Int))] [] = _ := rng1 (by omega) (by omega)
  rw [Int.toNat_natCast] at k1 k2
  have cb : compL none (gNm 9) tYes' (eTup (eCons (eCall F__law_name (eCons (eMod (eVar 1) (eC (.int 208))) (eCons (eVar 9) eNil))) (eCons (eIx (eVar 2) (eVar 9)) (eCons (eIx (eVar 3) (eVar 9)) eNil)))) ((List.range p.ws.length).map fun k : Nat => D.v (.int (k : Int)))
      [some (.v (planP p)), some (.v (.int number)), some (.v (.tuple (p.ws.map .int))), some (.v (.list (p.fs.map .int))), some (.v (.list (p.ps.map fun r => .list (r.map rowI)))), some (.v (.list (p.hs.map .int))), none, none, none, none, none, none, none] [] = some ((boxesP m p).map .v, []) := by
    rw [compMap (List.range p.ws.length) _ (gNm 9) _ (boxP m p) fun k hk => ⟨_, rfl, ?_⟩]
    · unfold boxesP
      rw [List.map_map]
      rfl
    · have hk' : k < p.ws.length := List.mem_range.mp hk
      have hk2 : k < p.fs.length := by rw [ok.fl]; exact hk'
      have i1 : atI p.ws (k : Int) = some (p.ws.getD k 1) := atI_nat (by rw [List.getD_eq_getElem?_getD, List.getElem?_eq_getElem hk']; rfl)
      have i2 : atI p.fs (k : Int) = some (p.fs.getD k 0) := atI_nat (by rw [List.getD_eq_getElem?_getD, List.getElem?_eq_getElem hk2]; rfl)
      have nm := name_ok (n := number % 208) (k := k) q0 q1 (by omega) []
      have em : m.b k = nameF (number % 208) k := by rw [← hm]; rfl
      simp [nm, i1, i2, boxP, em]
  have ct : compL none (gNm 9) tYes' (eCall F__law_name (eCons (eMod (eFdiv (eVar 1) (eC (.int 208))) (eC (.int 208))) (eCons (eVar 9) eNil))) ((List.range p.ps.length).map fun k : Nat => D.v (.int (k : Int)))
      [some (.v (planP p)), some (.v (.int number)), some (.v (.tuple (p.ws.map .int))), some (.v (.list (p.fs.map .int))), some (.v (.list (p.ps.map fun r => .list (r.map rowI)))), some (.v (.list (p.hs.map .int))), some (.v (.list (boxesP m p))), none, none, none, none, none, none] [] = some ((titlesP m p.ps.length).map .v, []) := by
    rw [compMap (List.range p.ps.length) _ (gNm 9) _ (fun k => .str (m.t k)) fun k hk => ⟨_, rfl, ?_⟩]
    · unfold titlesP
      rw [List.map_map]
      rfl
    · have hk' : k < p.ps.length := List.mem_range.mp hk
      have c1 : cdiv 208 = true := cdivI (by decide) (by decide)
      have nm := name_ok (n := number / 208 % 208) (k := k) r0 r1 (by omega) []
      have em : m.t k = nameF (number / 208 % 208) k := by rw [← hm]; rfl
      simp [nm, em, c1]
  have lp := prog_loop (m := m) ok hmr (by omega) (a1 := .v (.int number)) (a5 := .v (.list (p.hs.map .int))) p.ps 0 [] [] ok.ps (by omega) rfl rfl
  have ch := hands_comp (m := m) hn hm.symm (np := p.ps.length) (hp := .lst (progR m p.ps 0) :: progH m p.ps) (sl := [none, some (.v (.int number)), none, none, none, some (.v (.list (p.hs.map .int))), some (.v (.list (boxesP m p))), some (.v (.list (titlesP m p.ps.length))), some (.ref 0), none, none, none, none]) rfl rfl rfl p.hs 0 ok.hs (by omega)
  refine callR_rt (h' := .lst (progR m p.ps 0) :: progH m p.ps) (d := .mix [.v (.list (boxesP m p)), .ref 0, .v (.list (handsP m 0 p.hs))]) ?_ ?_
  · simp only [List.nil_append, S__law_program_2] at lp
    have ep : planP p = .tuple [.tuple (p.ws.map .int), .list (p.fs.map .int), .list (p.ps.map fun r => .list (r.map rowI)), .list (p.hs.map .int)] := rfl
    rw [ep] at cb ct ⊢
    simp [-List.map_map, F__law_program, mkFn, B__law_program, k1, cb, k2, ct, lp, ch]
  · show frz _ (11 + 1) _ = _
    rw [frz_mix, frzs_cons, frzs_cons, frzs_cons, frzs_nil, frz_v, frz_v, frz_ref (xs := progR m p.ps 0) rfl, prog_frz (n := 4) m p.ps 0 (fun j r e => by
      rw [Nat.zero_add, Nat.add_comm 1, List.getElem?_cons_succ]
      exact progH_at m p.ps j r e)]
    rfl
end Fs
set_option maxHeartbeats 4000000
namespace Fs
open PySem PySem.Spec PyProof.Rows L2 Vl
/-! ## what repr takes -/
def Rp (k b : Nat) (d : PyData) : Prop := d.canLay0 = true ∧ d.showable = true ∧ d.depth ≤ k ∧ d.shown.length ≤ b
theorem Rp.mono {k k' b b' : Nat} {d : PyData} (h : Rp k b d) (hk : k ≤ k') (hb : b ≤ b') : Rp k' b' d := ⟨h.1, h.2.1, Nat.le_trans h.2.2.1 hk, Nat.le_trans h.2.2.2 hb⟩
theorem rp_none {k : Nat} : Rp k 4 .none := ⟨rfl, rfl, Nat.zero_le _, by show (Str.ofString "None").length ≤ 4; decide⟩
theorem rp_int {k : Nat} {i : Int} (h : i.natAbs < 10 ^ 9) : Rp k 10 (.int i) := by
  have hl : i.natAbs.log2 < 1920 := by
    by_cases h0 : i.natAbs = 0
    · rw [h0]
      decide
    · exact (Nat.log2_lt h0).mpr (Nat.lt_of_lt_of_le h (by decide +kernel))
  refine ⟨rfl, decide_eq_true hl, Nat.zero_le _, ?_⟩
  have := int_text_length_le10 (a := i) (k := 9) (by decide) h
  show (Str.ofString (toString i)).length ≤ 10
  rw [PySem.ofString_length]
  omega
theorem rp_str {k n : Nat} {z : Str} (h : Tx n z) : Rp k (10 * n + 2) (.str z) := by
  refine ⟨(sh_str (n := 0) h.1).1, rfl, Nat.zero_le _, ?_⟩
  have := StrLaws.reprText_len z fun c hc => Nat.lt_of_lt_of_le (h.1 c hc) (by decide)
  show (reprText z).length ≤ _
  have := h.2
  omega
theorem text_from : ∀ (ts : List Str) (k : Nat) (acc : Str), (textFrom k acc ts).length ≤ acc.length + piled ts
  | [], _, acc => by
    show acc.length ≤ _
    omega
  | t :: ts, k, acc => by
    have := text_from ts (k + 1) (acc ++ (if k > 0 then ", " else "" : String) ++ t)
    have e : (acc ++ (if k > 0 then ", " else "" : String) ++ t).length ≤ acc.length + 2 + t.length := by
      rw [strLen_append, strLen_append]
      split
      · exact Nat.le_refl _
      · have : (Str.ofString "").length = 0 := rfl
        omega
    rw [piled_cons]
    show (textFrom (k + 1) _ ts).length ≤ _
    omega
theorem shownAll_eq : ∀ xs : List PyData, PyData.shownAll xs = xs.map PyData.shown
  | [] => rfl
  | x :: xs => by rw [PyData.shownAll, shownAll_eq xs]; rfl
theorem rp_all {k b : Nat} : ∀ {xs : List PyData}, (∀ x ∈ xs, Rp k b x) → PyData.canLayAll0 xs = true ∧ PyData.showableAll xs = true ∧ PyData.depthAll xs ≤ k ∧ piled (PyData.shownAll xs) ≤ xs.length * (b + 2)
  | [], _ => ⟨rfl, rfl, Nat.zero_le _, Nat.zero_le _⟩
  | x :: xs, h => by
    obtain ⟨h1, h2, h3, h4⟩ := h x List.mem_cons_self
    obtain ⟨a1, a2, a3, a4⟩ := rp_all (xs := xs) fun y hy => h y (List.mem_cons_of_mem _ hy)
    refine ⟨by rw [PyData.canLayAll0, h1, a1]; rfl, by rw [PyData.showableAll, h2, a2]; rfl, by rw [PyData.depthAll]; exact Nat.max_le.mpr ⟨h3, a3⟩, ?_⟩
    rw [PyData.shownAll, piled_cons, List.length_cons, Nat.succ_mul]
    omega
theorem rp_list {k b : Nat} {xs : List PyData} (h : ∀ x ∈ xs, Rp k b x) : Rp (k + 1) (xs.length * (b + 2) + 3) (.list xs) := by
  obtain ⟨a1, a2, a3, a4⟩ := rp_all h
  refine ⟨a1, a2, Nat.succ_le_succ a3, ?_⟩
  show (listText (PyData.shownAll xs)).length ≤ _
  unfold listText
  rw [strLen_append]
  have := text_from (PyData.shownAll xs) 0 "["
  have e1 : (Str.ofString "[").length = 1 := rfl
  have e2 : (Str.ofString "]").length = 1 := rfl
  omega
theorem rp_tup {k b : Nat} {xs : List PyData} (h : ∀ x ∈ xs, Rp k b x) : Rp (k + 1) (xs.length * (b + 2) + 3) (.tuple xs) := by
  obtain ⟨a1, a2, a3, a4⟩ := rp_all h
  refine ⟨a1, a2, Nat.succ_le_succ a3, ?_⟩
  show (tupleText (PyData.shownAll xs)).length ≤ _
  unfold tupleText
  rw [strLen_append, strLen_append]
  have e1 : (Str.ofString "(").length = 1 := rfl
  have e2 : (Str.ofString (if (PyData.shownAll xs).length == 1 then ",)" else ")")).length ≤ 2 := by
    split <;> decide
  by_cases he : PyData.shownAll xs = []
  · rw [he]
    have e3 : (Str.join ", " ([] : List Str)).length = 0 := rfl
    have e4 : (Str.ofString (if ([] : List Str).length == 1 then ",)" else ")")).length = 1 := rfl
    omega
  · have := join_length_add _ he
    omega
/-! ## a plan's program: its size, and that it is one -/
theorem ints_small {k : Nat} {i : Int} (h0 : -1000000 ≤ i) (h1 : i ≤ 1000000) : Rp k 10 (.int i) := rp_int (by omega)
theorem WsOk.small {ws : List Int} (h : WsOk ws) : ∀ w ∈ ws, 2 ≤ w ∧ w ≤ 6 := h.2.2
theorem rp_row {ws : List Int} {np e nh : Int} {m : Names} (hm : m.Ok) (hw : WsOk ws) (he : e ≤ 1000) {x : RowI} (hx : RowOk ws np e nh x) : Rp 2 1000 (rowS (m.row x)) := by
  have lit : ∀ {k : Nat} (s : Str), Tx 4 s → Rp k 100 (.str s) := fun s h => (rp_str h).mono (Nat.le_refl _) (by decide)
  have nm : ∀ {k : Nat} {z : Str}, isName z = true → Rp k 100 (.str z) := fun h => (rp_str (isName_ok h)).mono (Nat.le_refl _) (by decide)
  have it : ∀ {k : Nat} {i : Int}, -1000000 ≤ i → i ≤ 1000000 → Rp k 100 (.int i) := fun h0 h1 => (ints_small h0 h1).mono (Nat.le_refl _) (by decide)
  have tup : ∀ {xs : List PyData}, xs.length ≤ 6 → (∀ x ∈ xs, Rp 1 100 x) → Rp 2 1000 (.tuple xs) := fun hl h => (rp_tup h).mono (Nat.le_refl _) (by omega)
  have wat : ∀ {k : Nat} {w : Int}, ws[k]? = some w → w ≤ 6 := fun h => (hw.2.2 _ (List.mem_of_getElem? h)).2
  have tx : ∀ s : Str, (s = "put" ∨ s = "swap" ∨ s = "ask" ∨ s = "any" ∨ s = "call" ∨ s = "take" ∨ s = "give") → Tx 4 s := fun s h => by
    unfold Tx okS
    rcases h with rfl | rfl | rfl | rfl | rfl | rfl | rfl <;> decide +kernel
  cases x with
  | put b w t =>
    obtain ⟨k, rfl, y, hy, h1, h2, h3⟩ := hx
    have := wat hy
    obtain ⟨t0, t1⟩ := h3
    refine tup (by simp) fun x hx => ?_
    simp only [List.mem_cons, List.not_mem_nil, or_false] at hx
    rcases hx with rfl | rfl | rfl | rfl
    · exact lit _ (tx _ (by simp))
    · exact nm (hm.b _)
    · exact it (by omega) (by omega)
    · exact it (by omega) (by omega)
  | swap b x0 y0 t =>
    obtain ⟨k, rfl, y, hy, h1, h2, h4, h5, h3⟩ := hx
    have := wat hy
    obtain ⟨t0, t1⟩ := h3
    refine tup (by simp) fun x hx => ?_
    simp only [List.mem_cons, List.not_mem_nil, or_false] at hx
    rcases hx with rfl | rfl | rfl | rfl | rfl
    · exact lit _ (tx _ (by simp))
    · exact nm (hm.b _)
    · exact it (by omega) (by omega)
    · exact it (by omega) (by omega)
    · exact it (by omega) (by omega)
  | ask b ts =>
    obtain ⟨k, rfl, y, hy, h1, h2⟩ := hx
    have := wat hy
    refine tup (by simp) fun x hx => ?_
    simp only [List.mem_cons, List.not_mem_nil, or_false] at hx
    rcases hx with rfl | rfl | rfl
    · exact lit _ (tx _ (by simp))
    · exact nm (hm.b _)
    · have : Rp 1 ((ts.map oint).length * (10 + 2) + 3) (.tuple (ts.map oint)) := rp_tup (k := 0) fun x hx => by
        obtain ⟨t, ht, rfl⟩ := List.mem_map.mp hx
        cases t with
        | none => exact rp_none.mono (Nat.le_refl _) (by decide)
        | some i =>
          obtain ⟨t0, t1⟩ := h2 _ ht i rfl
          exact ints_small (by omega) (by omega)
      refine this.mono (Nat.le_refl _) ?_
      rw [List.length_map]
      omega
  | any ts =>
    obtain ⟨h1, h2, h3⟩ := hx
    refine tup (by simp) fun x hx => ?_
    simp only [List.mem_cons, List.not_mem_nil, or_false] at hx
    rcases hx with rfl | rfl
    · exact lit _ (tx _ (by simp))
    · have : Rp 1 ((ts.map PyData.int).length * (10 + 2) + 3) (.tuple (ts.map .int)) := rp_tup (k := 0) fun x hx => by
        obtain ⟨t, ht, rfl⟩ := List.mem_map.mp hx
        obtain ⟨t0, t1⟩ := h3 _ ht
        exact ints_small (by omega) (by omega)
      refine this.mono (Nat.le_refl _) ?_
      rw [List.length_map]
      omega
  | call q t =>
    obtain ⟨h1, h2, t0, t1⟩ := hx
    refine tup (by simp) fun x hx => ?_
    simp only [List.mem_cons, List.not_mem_nil, or_false] at hx
    rcases hx with rfl | rfl | rfl
    · exact lit _ (tx _ (by simp))
    · exact nm (hm.t _)
    · exact it (by omega) (by omega)
  | take b t =>
    obtain ⟨k, rfl, y, hy, h1, t0, t1⟩ := hx
    refine tup (by simp) fun x hx => ?_
    simp only [List.mem_cons, List.not_mem_nil, or_false] at hx
    rcases hx with rfl | rfl | rfl
    · exact lit _ (tx _ (by simp))
    · exact nm (hm.b _)
    · exact it (by omega) (by omega)
  | give b t =>
    obtain ⟨k, rfl, y, hy, h1, t0, t1⟩ := hx
    refine tup (by simp) fun x hx => ?_
    simp only [List.mem_cons, List.not_mem_nil, or_false] at hx
    rcases hx with rfl | rfl | rfl
    · exact lit _ (tx _ (by simp))
    · exact nm (hm.b _)
    · exact it (by omega) (by omega)
end Fs
set_option maxHeartbeats 4000000
namespace Fs
open PySem PySem.Spec PyProof.Rows L2 Vl
theorem reprChar_pos (q c : Nat) : 1 ≤ (PySem.Builtin.Str.reprChar q c).length := by
  unfold PySem.Builtin.Str.reprChar
  repeat' split
  all_goals simp
theorem reprText_ge (x : Str) : x.length ≤ (reprText x).length := by
  rw [← reprLen_eq]
  have key : ∀ (l : List Nat) (n : Nat), n + l.length ≤ l.foldl (fun n c => n + (PySem.Builtin.Str.reprChar (PySem.reprQuote x) c).length) n := fun l => by
    induction l with
    | nil => exact fun n => Nat.le_refl _
    | cons c r ih =>
      intro n
      have := ih (n + (PySem.Builtin.Str.reprChar (PySem.reprQuote x) c).length)
      have := reprChar_pos (PySem.reprQuote x) c
      rw [List.foldl_cons, List.length_cons]
      omega
  have := key x.cps.toList 2
  rw [← Array.foldl_toList]
  rw [len_tl] at this
  omega
theorem okS_of {z : Str} (h : (PyData.str z).canLay0 = true) : okS z := by
  intro c hc
  have h : z.cps.all (· < 0x110000) = true := h
  rw [← Array.all_toList, List.all_eq_true] at h
  exact of_decide_eq_true (h c hc)
theorem piled_len : ∀ ts : List Str, 2 * ts.length ≤ piled ts ∧ ∀ t ∈ ts, t.length + 2 ≤ piled ts
  | [] => ⟨Nat.zero_le _, fun t h => by cases h⟩
  | t :: ts => by
    obtain ⟨h1, h2⟩ := piled_len ts
    rw [piled_cons, List.length_cons]
    refine ⟨by omega, fun x hx => ?_⟩
    rcases List.mem_cons.mp hx with rfl | hx
    · omega
    · have := h2 x hx
      omega
theorem list_text_ge (ts : List Str) : ts.length ≤ (listText ts).length ∧ ∀ t ∈ ts, t.length ≤ (listText ts).length := by
  refine ⟨?_, fun t h => listText_mem_le h⟩
  obtain ⟨h1, _, _⟩ := textFrom_len ts 0 "["
  unfold listText
  rw [strLen_append]
  have e1 : (Str.ofString "[").length = 1 := rfl
  have e2 : (Str.ofString "]").length = 1 := rfl
  rw [if_neg (by decide)] at h1
  omega
theorem tuple_text_ge (ts : List Str) : ts.length ≤ (tupleText ts).length + 2 ∧ ∀ t ∈ ts, t.length ≤ (tupleText ts).length := by
  unfold tupleText
  rw [strLen_append, strLen_append]
  by_cases he : ts = []
  · subst he
    exact ⟨Nat.zero_le _, fun t h => by cases h⟩
  · have := join_length_add ts he
    obtain ⟨h1, h2⟩ := piled_len ts
    refine ⟨by omega, fun t ht => ?_⟩
    have := h2 t ht
    omega
mutual
theorem rp_dt : ∀ {k b : Nat} {d : PyData}, Rp k b d → b ≤ 90000 → Dt k d
  | k, b, .none, _, _ => by cases k <;> trivial
  | k, b, .bool _, _, _ => by cases k <;> trivial
  | k, b, .int _, _, _ => by cases k <;> trivial
  | k, b, .dict _, _, _ => by cases k <;> trivial
  | k, b, .str z, h, hb => by
    have h1 : Tx 100000 z := ⟨okS_of h.1, by
      have := h.2.2.2
      have h3 : (reprText z).length ≤ b := this
      have := reprText_ge z
      omega⟩
    cases k <;> exact h1
  | 0, b, .list xs, h, _ => absurd h.2.2.1 (by simp [PyData.depth])
  | 0, b, .tuple xs, h, _ => absurd h.2.2.1 (by simp [PyData.depth])
  | k + 1, b, .list xs, h, hb => by
    obtain ⟨h1, h2⟩ := list_text_ge (PyData.shownAll xs)
    have h3 : (listText (PyData.shownAll xs)).length ≤ b := h.2.2.2
    rw [shownAll_eq] at h1 h2 h3
    refine ⟨by rw [List.length_map] at h1; omega, fun x hx => ?_⟩
    exact rp_dts (b := b) h.1 h.2.1 (Nat.le_of_succ_le_succ h.2.2.1) (fun y hy => Nat.le_trans (h2 _ (List.mem_map_of_mem hy)) h3) hb x hx
  | k + 1, b, .tuple xs, h, hb => by
    obtain ⟨h1, h2⟩ := tuple_text_ge (PyData.shownAll xs)
    have h3 : (tupleText (PyData.shownAll xs)).length ≤ b := h.2.2.2
    rw [shownAll_eq] at h1 h2 h3
    refine ⟨by rw [List.length_map] at h1; omega, fun x hx => ?_⟩
    exact rp_dts (b := b) h.1 h.2.1 (Nat.le_of_succ_le_succ h.2.2.1) (fun y hy => Nat.le_trans (h2 _ (List.mem_map_of_mem hy)) h3) hb x hx
theorem rp_dts : ∀ {k b : Nat} {xs : List PyData}, PyData.canLayAll0 xs = true → PyData.showableAll xs = true → PyData.depthAll xs ≤ k → (∀ x ∈ xs, x.shown.length ≤ b) → b ≤ 90000 → ∀ x ∈ xs, Dt k x
  | k, b, [], _, _, _, _, _, x, hx => by cases hx
  | k, b, y :: ys, h1, h2, h3, h4, hb, x, hx => by
    rw [PyData.canLayAll0, Bool.and_eq_true] at h1
    rw [PyData.showableAll, Bool.and_eq_true] at h2
    rw [PyData.depthAll] at h3
    have h3' := Nat.max_le.mp h3
    rcases List.mem_cons.mp hx with e | hx
    · rw [e]
      exact rp_dt ⟨h1.1, h2.1, h3'.1, h4 y List.mem_cons_self⟩ hb
    · exact rp_dts h1.2 h2.2 h3'.2 (fun z hz => h4 z (List.mem_cons_of_mem _ hz)) hb x hx
end
end Fs
set_option maxHeartbeats 4000000
namespace Fs
open PySem PySem.Spec PyProof.Rows L2 Vl
theorem procs_at (m : Names) : ∀ (rs : List (List RowI)) (k j : Nat) (r : List RowI), rs[j]? = some r → (procsP m k rs)[j]? = some (procP m (k + j) r)
  | [], _, _, _, h => by simp at h
  | x :: rs, k, 0, r, h => by
    cases h
    rfl
  | x :: rs, k, j + 1, r, h => by
    have := procs_at m rs (k + 1) j r (by simpa using h)
    rw [procsP, List.getElem?_cons_succ, this, show k + 1 + j = k + (j + 1) by omega]
theorem procs_mem (m : Names) {rs : List (List RowI)} {k : Nat} {x : PyData} (h : x ∈ procsP m k rs) : ∃ j r, rs[j]? = some r ∧ x = procP m (k + j) r := by
  obtain ⟨j, hj, e⟩ := List.getElem_of_mem h
  rw [procs_len] at hj
  have h1 := List.getElem?_eq_getElem hj
  have h2 := procs_at m rs k j _ h1
  rw [List.getElem?_eq_getElem (by rw [procs_len]; exact hj), e] at h2
  exact ⟨j, _, h1, Option.some.inj h2⟩
theorem hands_at (m : Names) : ∀ (rs : List Int) (k j : Nat) (x : Int), rs[j]? = some x → (handsP m k rs)[j]? = some (.tuple [.str (m.h (k + j)), .str (m.t x.toNat)])
  | [], _, _, _, h => by simp at h
  | x :: rs, k, 0, r, h => by
    cases h
    rfl
  | x :: rs, k, j + 1, r, h => by
    have := hands_at m rs (k + 1) j r (by simpa using h)
    rw [handsP, List.getElem?_cons_succ, this, show k + 1 + j = k + (j + 1) by omega]
theorem hands_mem (m : Names) {rs : List Int} {k : Nat} {x : PyData} (h : x ∈ handsP m k rs) : ∃ j r, rs[j]? = some r ∧ x = .tuple [.str (m.h (k + j)), .str (m.t r.toNat)] := by
  obtain ⟨j, hj, e⟩ := List.getElem_of_mem h
  rw [hands_len] at hj
  have h1 := List.getElem?_eq_getElem hj
  have h2 := hands_at m rs k j _ h1
  rw [List.getElem?_eq_getElem (by rw [hands_len]; exact hj), e] at h2
  exact ⟨j, _, h1, Option.some.inj h2⟩
theorem rp_prog {m : Names} {p : Plan} {mp mr mh : Nat} (hm : m.Ok) (ok : p.Ok mp mr mh) (h1 : mp ≤ 6) (h2 : mr ≤ 8) (h3 : mh ≤ 3) : Rp 6 90000 (progP m p) := by
  have it : ∀ {k : Nat} {i : Int}, -1000000 ≤ i → i ≤ 1000000 → Rp k 82 (.int i) := fun h0 h1 => (ints_small h0 h1).mono (Nat.le_refl _) (by decide)
  have nm : ∀ {k : Nat} {z : Str}, isName z = true → Rp k 82 (.str z) := fun h => rp_str (isName_ok h)
  have hb : Rp 5 1000 (.list (boxesP m p)) := by
    have : Rp (1 + 1) ((boxesP m p).length * (255 + 2) + 3) (.list (boxesP m p)) := rp_list fun x hx => by
      obtain ⟨k, hk, rfl⟩ := List.mem_map.mp hx
      have hk' : k < p.ws.length := List.mem_range.mp hk
      have hw := ok.ws.2.2 (p.ws[k]) (List.getElem_mem hk')
      have hf := ok.fs k (p.fs[k]'(by rw [ok.fl]; exact hk')) p.ws[k] (List.getElem?_eq_getElem _) (List.getElem?_eq_getElem _)
      have e1 : p.ws.getD k 1 = p.ws[k] := by rw [List.getD_eq_getElem?_getD, List.getElem?_eq_getElem hk']; rfl
      have e2 : p.fs.getD k 0 = p.fs[k]'(by rw [ok.fl]; exact hk') := by rw [List.getD_eq_getElem?_getD, List.getElem?_eq_getElem (by rw [ok.fl]; exact hk')]; rfl
      refine (rp_tup (k := 0) (b := 82) (xs := [_, _, _]) fun y hy => ?_).mono (Nat.le_refl _) (by simp)
      simp only [List.mem_cons, List.not_mem_nil, or_false] at hy
      rcases hy with rfl | rfl | rfl
      · exact nm (hm.b _)
      · rw [e1]
        exact it (by omega) (by omega)
      · rw [e2]
        exact it (by omega) (by omega)
    refine this.mono (by decide) ?_
    rw [boxes_len]
    have := ok.ws.2.1
    omega
  have hp : Rp 5 60000 (.list (procsP m 0 p.ps)) := by
    have : Rp (4 + 1) ((procsP m 0 p.ps).length * (8100 + 2 * (8 * 4) + 2) + 3) (.list (procsP m 0 p.ps)) := rp_list fun x hx => by
      obtain ⟨j, r, hr, rfl⟩ := procs_mem m hx
      obtain ⟨r1, r2, r3⟩ := ok.ps r (List.mem_of_getElem? hr)
      have hl : Rp (2 + 1) ((r.map fun x => rowS (m.row x)).length * (1000 + 2) + 3) (.list (r.map fun x => rowS (m.row x))) := rp_list fun x hx => by
        obtain ⟨y, hy, rfl⟩ := List.mem_map.mp hx
        exact rp_row hm ok.ws (by omega) (r3 y hy)
      have hl' : Rp 3 8050 (.list (r.map fun x => rowS (m.row x))) := hl.mono (Nat.le_refl _) (by rw [List.length_map]; omega)
      have h1 : PyData.canLayAll0 [.str (m.t (0 + j)), .list (r.map fun x => rowS (m.row x))] = true := by
        simp only [PyData.canLayAll0, Bool.and_true, Bool.and_eq_true]
        exact ⟨(nm (k := 0) (hm.t _)).1, hl'.1⟩
      refine ⟨h1, ?_, ?_, ?_⟩
      · show PyData.showableAll [.str (m.t (0 + j)), .list (r.map fun x => rowS (m.row x))] = true
        simp only [PyData.showableAll, Bool.and_true, Bool.and_eq_true]
        exact ⟨rfl, hl'.2.1⟩
      · show PyData.depthAll [.str (m.t (0 + j)), .list (r.map fun x => rowS (m.row x))] + 1 ≤ 4
        have d1 : PyData.depth (.list (r.map fun x => rowS (m.row x))) ≤ 3 := hl'.2.2.1
        have d2 : PyData.depth (.str (m.t (0 + j))) = 0 := rfl
        simp only [PyData.depthAll, d2]
        omega
      · show (tupleText (PyData.shownAll [.str (m.t (0 + j)), .list (r.map fun x => rowS (m.row x))])).length ≤ _
        have s1 : (PyData.shown (.list (r.map fun x => rowS (m.row x)))).length ≤ 8050 := hl'.2.2.2
        have s2 : (PyData.shown (.str (m.t (0 + j)))).length ≤ 82 := (nm (k := 0) (hm.t _)).2.2.2
        have := join_length_add (PyData.shownAll [.str (m.t (0 + j)), .list (r.map fun x => rowS (m.row x))]) (by simp [PyData.shownAll])
        have e3 : piled (PyData.shownAll [.str (m.t (0 + j)), .list (r.map fun x => rowS (m.row x))]) = (PyData.shown (.str (m.t (0 + j)))).length + 2 + ((PyData.shown (.list (r.map fun x => rowS (m.row x)))).length + 2) := by
          simp only [PyData.shownAll, piled_cons, piled_nil, Nat.add_zero]
        unfold tupleText
        rw [strLen_append, strLen_append]
        have e1 : (Str.ofString "(").length = 1 := rfl
        have e2 : (Str.ofString (if (PyData.shownAll [.str (m.t (0 + j)), .list (r.map fun x => rowS (m.row x))]).length == 1 then ",)" else ")")).length ≤ 2 := by
          split <;> decide
        omega
    refine this.mono (by decide) ?_
    rw [procs_len]
    have := ok.pl.2
    omega
  have hh : Rp 5 1000 (.list (handsP m 0 p.hs)) := by
    have : Rp (1 + 1) ((handsP m 0 p.hs).length * (171 + 2) + 3) (.list (handsP m 0 p.hs)) := rp_list fun x hx => by
      obtain ⟨j, r, hr, rfl⟩ := hands_mem m hx
      refine (rp_tup (k := 0) (b := 82) (xs := [_, _]) fun y hy => ?_).mono (Nat.le_refl _) (by simp)
      simp only [List.mem_cons, List.not_mem_nil, or_false] at hy
      rcases hy with rfl | rfl
      · exact nm (hm.h _)
      · exact nm (hm.t _)
    refine this.mono (by decide) ?_
    rw [hands_len]
    have := ok.hl.2
    omega
  have h1 : PyData.canLayAll0 [.list (boxesP m p), .list (procsP m 0 p.ps), .list (handsP m 0 p.hs)] = true := by
    simp only [PyData.canLayAll0, Bool.and_true, Bool.and_eq_true]
    exact ⟨hb.1, hp.1, hh.1⟩
  refine ⟨h1, ?_, ?_, ?_⟩
  · show PyData.showableAll [.list (boxesP m p), .list (procsP m 0 p.ps), .list (handsP m 0 p.hs)] = true
    simp only [PyData.showableAll, Bool.and_true, Bool.and_eq_true]
    exact ⟨hb.2.1, hp.2.1, hh.2.1⟩
  · show PyData.depthAll [.list (boxesP m p), .list (procsP m 0 p.ps), .list (handsP m 0 p.hs)] + 1 ≤ 6
    have d1 := hb.2.2.1
    have d2 := hp.2.2.1
    have d3 := hh.2.2.1
    simp only [PyData.depthAll]
    omega
  · show (tupleText (PyData.shownAll [.list (boxesP m p), .list (procsP m 0 p.ps), .list (handsP m 0 p.hs)])).length ≤ _
    have s1 := hb.2.2.2
    have s2 := hp.2.2.2
    have s3 := hh.2.2.2
    have := join_length_add (PyData.shownAll [.list (boxesP m p), .list (procsP m 0 p.ps), .list (handsP m 0 p.hs)]) (by simp [PyData.shownAll])
    have e3 : piled (PyData.shownAll [.list (boxesP m p), .list (procsP m 0 p.ps), .list (handsP m 0 p.hs)]) = (PyData.shown (.list (boxesP m p))).length + 2 + ((PyData.shown (.list (procsP m 0 p.ps))).length + 2 + ((PyData.shown (.list (handsP m 0 p.hs))).length + 2)) := by
      simp only [PyData.shownAll, piled_cons, piled_nil, Nat.add_zero]
    unfold tupleText
    rw [strLen_append, strLen_append]
    have e1 : (Str.ofString "(").length = 1 := rfl
    have e2 : (Str.ofString (if (PyData.shownAll [.list (boxesP m p), .list (procsP m 0 p.ps), .list (handsP m 0 p.hs)]).length == 1 then ",)" else ")")).length ≤ 2 := by
      split <;> decide
    omega
end Fs
set_option maxHeartbeats 4000000
namespace Fs
open PySem PySem.Spec PyProof.Rows L2 Vl
/-! ## a program of a plan is whole -/
theorem prodW_pos : ∀ {bs : List PyData}, (∀ b ∈ bs, isBx b = true) → 1 ≤ prodW bs
  | [], _ => by simp [prodW]
  | b :: r, h => by
    obtain ⟨z, w, f, rfl, _, h2, _⟩ := isBx_shape (h b List.mem_cons_self)
    have ih := prodW_pos (bs := r) fun c hc => h c (List.mem_cons_of_mem _ hc)
    have := Int.mul_le_mul h2 ih (by decide) (by omega)
    simp only [prodW, woOf]
    omega
theorem bxDue_none : ∀ (r pre : List PyData), (∀ b ∈ pre ++ r, isBx b = true) → ((pre ++ r).map nmOf).Nodup → prodW (pre ++ r) ≤ 8 → bxDue pre r = none
  | [], _, _, _, _ => rfl
  | b :: r, pre, h, hn, hp => by
    have e : pre ++ b :: r = (pre ++ [b]) ++ r := by simp
    have h1 : isBx b = true := h b (by simp)
    have h2 : nmOf b ∉ pre.map nmOf := by
      rw [List.map_append, List.nodup_append] at hn
      intro hc
      exact hn.2.2 _ hc _ (by simp) rfl
    have h3 : ¬ 8 < prodW (pre ++ [b]) := by
      rw [e, prodW_app] at hp
      have q1 := prodW_pos (bs := pre ++ [b]) fun c hc => h c (by rw [e]; exact List.mem_append_left _ hc)
      have q2 := prodW_pos (bs := r) fun c hc => h c (by rw [e]; exact List.mem_append_right _ hc)
      have := Int.mul_le_mul (Int.le_refl (prodW (pre ++ [b]))) q2 (by decide) (by omega)
      omega
    have ih := bxDue_none r (pre ++ [b]) (by rw [← e]; exact h) (by rw [← e]; exact hn) (by rw [← e]; exact hp)
    rw [bxDue, if_neg (by simp only [h1, h2, h3]; simp)]
    exact ih
theorem prDue_none : ∀ (r pre : List PyData), (∀ b ∈ pre ++ r, isPr b = true ∧ 1 ≤ (rwOf b).length ∧ (rwOf b).length ≤ 8) → ((pre ++ r).map nmOf).Nodup → prDue pre r = none
  | [], _, _, _ => rfl
  | b :: r, pre, h, hn => by
    have e : pre ++ b :: r = (pre ++ [b]) ++ r := by simp
    obtain ⟨h1, h4, h5⟩ := h b (by simp)
    have h2 : nmOf b ∉ pre.map nmOf := by
      rw [List.map_append, List.nodup_append] at hn
      intro hc
      exact hn.2.2 _ hc _ (by simp) rfl
    have ih := prDue_none r (pre ++ [b]) (by rw [← e]; exact h) (by rw [← e]; exact hn)
    have h6 : ¬ (rwOf b).length < 1 := by omega
    have h7 : ¬ 8 < (rwOf b).length := by omega
    rw [prDue, if_neg (by simp only [h1, h2, h6, h7]; simp)]
    exact ih
theorem rwDue_none {bs ps : List PyData} {nh e : Int} : ∀ (r : List PyData) (k : Nat), (∀ x ∈ r, rowOk bs ps nh e x = true) → rwDue bs ps nh e k r = none
  | [], _, _ => rfl
  | x :: r, k, h => by
    rw [rwDue, if_pos (h x List.mem_cons_self)]
    exact rwDue_none r _ fun y hy => h y (List.mem_cons_of_mem _ hy)
theorem rowsDue_none {bs ps : List PyData} {nh : Int} : ∀ (r : List PyData) (k : Nat), (∀ p ∈ r, ∀ x ∈ rwOf p, rowOk bs ps nh (rwOf p).length x = true) → rowsDue bs ps nh k r = none
  | [], _, _ => rfl
  | p :: r, k, h => by
    rw [rowsDue, rwDue_none _ _ (h p List.mem_cons_self)]
    exact rowsDue_none r _ fun y hy => h y (List.mem_cons_of_mem _ hy)
theorem hnDue_none {ps : List PyData} : ∀ (r pre : List PyData), (∀ x ∈ pre ++ r, ∃ a b, x = .tuple [.str a, .str b] ∧ isName a = true ∧ isName b = true ∧ b ∈ ps.map nmOf) → ((pre ++ r).map nmOf).Nodup → hnDue ps pre r = none
  | [], _, _, _ => rfl
  | x :: r, pre, h, hn => by
    have e : pre ++ x :: r = (pre ++ [x]) ++ r := by simp
    obtain ⟨a, b, rfl, h1, h2, h3⟩ := h x (by simp)
    have h4 : a ∉ pre.map nmOf := by
      rw [List.map_append, List.nodup_append] at hn
      intro hc
      exact hn.2.2 _ hc a (by simp [nmOf]) rfl
    have ih := hnDue_none (ps := ps) r (pre ++ [.tuple [.str a, .str b]]) (by rw [← e]; exact h) (by rw [← e]; exact hn)
    simp only [hnDue]
    rw [if_pos ⟨h1, h2, h3, h4⟩]
    exact ih
theorem nodup_range {f : Nat → Str} {n : Nat} (hn : n ≤ 26) (hf : ∀ j k, j < 26 → k < 26 → f j = f k → j = k) : ((List.range n).map f).Nodup := by
  unfold List.Nodup
  rw [List.pairwise_map]
  refine List.Pairwise.imp_of_mem ?_ List.pairwise_lt_range
  intro a b ha hb h e
  have := hf a b (by have := List.mem_range.mp ha; omega) (by have := List.mem_range.mp hb; omega) e
  omega
theorem woAt_mem : ∀ {bs : List PyData} {b : PyData}, (bs.map nmOf).Nodup → b ∈ bs → woAt bs (nmOf b) = woOf b
  | x :: r, b, hn, hb => by
    rw [List.map_cons, List.nodup_cons] at hn
    unfold woAt
    rcases List.mem_cons.mp hb with rfl | hb
    · rw [if_pos rfl]
    · rw [if_neg (fun e => hn.1 (by rw [e]; exact List.mem_map_of_mem hb))]
      exact woAt_mem hn.2 hb
theorem procs_names (m : Names) : ∀ (rs : List (List RowI)) (k : Nat), (procsP m k rs).map nmOf = (List.range rs.length).map fun j => m.t (k + j)
  | [], _ => rfl
  | r :: rs, k => by
    rw [procsP, List.map_cons, procs_names m rs (k + 1), List.length_cons, List.range_succ_eq_map, List.map_cons, List.map_map]
    refine congrArg (List.cons (m.t k)) (List.map_congr_left fun j _ => ?_)
    show m.t (k + 1 + j) = m.t (k + (j + 1))
    exact congrArg m.t (by omega)
theorem hands_names (m : Names) : ∀ (rs : List Int) (k : Nat), (handsP m k rs).map nmOf = (List.range rs.length).map fun j => m.h (k + j)
  | [], _ => rfl
  | r :: rs, k => by
    rw [handsP, List.map_cons, hands_names m rs (k + 1), List.length_cons, List.range_succ_eq_map, List.map_cons, List.map_map]
    refine congrArg (List.cons (m.h k)) (List.map_congr_left fun j _ => ?_)
    show m.h (k + 1 + j) = m.h (k + (j + 1))
    exact congrArg m.h (by omega)
theorem boxes_names (m : Names) (p : Plan) : (boxesP m p).map nmOf = (List.range p.ws.length).map m.b := by
  unfold boxesP
  rw [List.map_map]
  rfl
def prodI : List Int → Int
  | [] => 1
  | w :: r => w * prodI r
theorem prodW_eq : ∀ (bs : List PyData), prodW bs = prodI (bs.map woOf)
  | [] => rfl
  | b :: r => by rw [prodW, prodW_eq r]; rfl
theorem boxes_worths (m : Names) (p : Plan) : (boxesP m p).map woOf = p.ws := by
  unfold boxesP
  rw [List.map_map]
  refine List.ext_getElem? fun j => ?_
  rw [List.getElem?_map]
  by_cases h : j < p.ws.length
  · rw [List.getElem?_range h, List.getElem?_eq_getElem h]
    show some (p.ws.getD j 1) = _
    rw [List.getD_eq_getElem?_getD, List.getElem?_eq_getElem h]
    rfl
  · rw [List.getElem?_eq_none (by rw [List.length_range]; omega), List.getElem?_eq_none (by omega)]
    rfl
@[simp] theorem n_put_swap : (Str.ofString "put" = Str.ofString "swap") = False := eq_false (by decide)
@[simp] theorem n_put_ask : (Str.ofString "put" = Str.ofString "ask") = False := eq_false (by decide)
@[simp] theorem n_put_any : (Str.ofString "put" = Str.ofString "any") = False := eq_false (by decide)
@[simp] theorem n_put_call : (Str.ofString "put" = Str.ofString "call") = False := eq_false (by decide)
@[simp] theorem n_put_take : (Str.ofString "put" = Str.ofString "take") = False := eq_false (by decide)
@[simp] theorem n_put_give : (Str.ofString "put" = Str.ofString "give") = False := eq_false (by decide)
@[simp] theorem n_swap_put : (Str.ofString "swap" = Str.ofString "put") = False := eq_false (by decide)
@[simp] theorem n_swap_ask : (Str.ofString "swap" = Str.ofString "ask") = False := eq_false (by decide)
@[simp] theorem n_swap_any : (Str.ofString "swap" = Str.ofString "any") = False := eq_false (by decide)
@[simp] theorem n_swap_call : (Str.ofString "swap" = Str.ofString "call") = False := eq_false (by decide)
@[simp] theorem n_swap_take : (Str.ofString "swap" = Str.ofString "take") = False := eq_false (by decide)
@[simp] theorem n_swap_give : (Str.ofString "swap" = Str.ofString "give") = False := eq_false (by decide)
@[simp] theorem n_ask_put : (Str.ofString "ask" = Str.ofString "put") = False := eq_false (by decide)
@[simp] theorem n_ask_swap : (Str.ofString "ask" = Str.ofString "swap") = False := eq_false (by decide)
@[simp] theorem n_ask_any : (Str.ofString "ask" = Str.ofString "any") = False := eq_false (by decide)
@[simp] theorem n_ask_call : (Str.ofString "ask" = Str.ofString "call") = False := eq_false (by decide)
@[simp] theorem n_ask_take : (Str.ofString "ask" = Str.ofString "take") = False := eq_false (by decide)
@[simp] theorem n_ask_give : (Str.ofString "ask" = Str.ofString "give") = False := eq_false (by decide)
@[simp] theorem n_any_put : (Str.ofString "any" = Str.ofString "put") = False := eq_false (by decide)
@[simp] theorem n_any_swap : (Str.ofString "any" = Str.ofString "swap") = False := eq_false (by decide)
@[simp] theorem n_any_ask : (Str.ofString "any" = Str.ofString "ask") = False := eq_false (by decide)
@[simp] theorem n_any_call : (Str.ofString "any" = Str.ofString "call") = False := eq_false (by decide)
@[simp] theorem n_any_take : (Str.ofString "any" = Str.ofString "take") = False := eq_false (by decide)
@[simp] theorem n_any_give : (Str.ofString "any" = Str.ofString "give") = False := eq_false (by decide)
@[simp] theorem n_call_put : (Str.ofString "call" = Str.ofString "put") = False := eq_false (by decide)
@[simp] theorem n_call_swap : (Str.ofString "call" = Str.ofString "swap") = False := eq_false (by decide)
@[simp] theorem n_call_ask : (Str.ofString "call" = Str.ofString "ask") = False := eq_false (by decide)
@[simp] theorem n_call_any : (Str.ofString "call" = Str.ofString "any") = False := eq_false (by decide)
@[simp] theorem n_call_take : (Str.ofString "call" = Str.ofString "take") = False := eq_false (by decide)
@[simp] theorem n_call_give : (Str.ofString "call" = Str.ofString "give") = False := eq_false (by decide)
@[simp] theorem n_take_put : (Str.ofString "take" = Str.ofString "put") = False := eq_false (by decide)
@[simp] theorem n_take_swap : (Str.ofString "take" = Str.ofString "swap") = False := eq_false (by decide)
@[simp] theorem n_take_ask : (Str.ofString "take" = Str.ofString "ask") = False := eq_false (by decide)
@[simp] theorem n_take_any : (Str.ofString "take" = Str.ofString "any") = False := eq_false (by decide)
@[simp] theorem n_take_call : (Str.ofString "take" = Str.ofString "call") = False := eq_false (by decide)
@[simp] theorem n_take_give : (Str.ofString "take" = Str.ofString "give") = False := eq_false (by decide)
@[simp] theorem n_give_put : (Str.ofString "give" = Str.ofString "put") = False := eq_false (by decide)
@[simp] theorem n_give_swap : (Str.ofString "give" = Str.ofString "swap") = False := eq_false (by decide)
@[simp] theorem n_give_ask : (Str.ofString "give" = Str.ofString "ask") = False := eq_false (by decide)
@[simp] theorem n_give_any : (Str.ofString "give" = Str.ofString "any") = False := eq_false (by decide)
@[simp] theorem n_give_call : (Str.ofString "give" = Str.ofString "call") = False := eq_false (by decide)
@[simp] theorem n_give_take : (Str.ofString "give" = Str.ofString "take") = False := eq_false (by decide)
section
variable {m : Names} {p : Plan} {mp mr mh : Nat} (hm : m.Ok) (ok : p.Ok mp mr mh)
include hm ok
theorem boxes_bx : ∀ b ∈ boxesP m p, isBx b = true := fun b hb => by
  obtain ⟨k, hk, rfl⟩ := List.mem_map.mp hb
  have hk' : k < p.ws.length := List.mem_range.mp hk
  have hw := ok.ws.2.2 (p.ws[k]) (List.getElem_mem hk')
  have hf := ok.fs k (p.fs[k]'(by rw [ok.fl]; exact hk')) p.ws[k] (List.getElem?_eq_getElem _) (List.getElem?_eq_getElem _)
  have e1 : p.ws.getD k 1 = p.ws[k] := by rw [List.getD_eq_getElem?_getD, List.getElem?_eq_getElem hk']; rfl
  have e2 : p.fs.getD k 0 = p.fs[k]'(by rw [ok.fl]; exact hk') := by rw [List.getD_eq_getElem?_getD, List.getElem?_eq_getElem (by rw [ok.fl]; exact hk')]; rfl
  unfold boxP
  rw [e1, e2]
  have h7 : p.ws[k] < 7 := by omega
  simp [isBx, isNm, isIn, hm.b k, hw.1, h7, hf.1, hf.2]
theorem boxes_nodup : ((boxesP m p).map nmOf).Nodup := by
  rw [boxes_names]
  exact nodup_range (by have := ok.ws.2.1; omega) hm.bi
theorem procs_nodup (h : mp ≤ 20) : ((procsP m 0 p.ps).map nmOf).Nodup := by
  rw [procs_names]
  refine nodup_range (by have := ok.pl.2; omega) fun j k hj hk e => hm.ti j k hj hk ?_
  simpa using e
theorem hands_nodup (h : mh ≤ 20) : ((handsP m 0 p.hs).map nmOf).Nodup := by
  rw [hands_names]
  refine nodup_range (by have := ok.hl.2; omega) fun j k hj hk e => hm.hi j k hj hk ?_
  simpa using e
theorem procs_pr : ∀ b ∈ procsP m 0 p.ps, isPr b = true ∧ 1 ≤ (rwOf b).length ∧ (rwOf b).length ≤ mr := fun b hb => by
  obtain ⟨j, r, hr, rfl⟩ := procs_mem m hb
  have hp := ok.ps r (List.mem_of_getElem? hr)
  refine ⟨?_, ?_, ?_⟩
  · simp [isPr, procP, isNm, hm.t]
  · simpa [rwOf, procP] using hp.1
  · simpa [rwOf, procP] using hp.2.1
theorem woAt_box {k : Nat} {w : Int} (h : p.ws[k]? = some w) : woAt (boxesP m p) (m.b k) = w := by
  have hk : k < p.ws.length := by
    rcases Nat.lt_or_ge k p.ws.length with h1 | h1
    · exact h1
    · rw [List.getElem?_eq_none h1] at h; cases h
  have hb : boxP m p k ∈ boxesP m p := List.mem_map.mpr ⟨k, List.mem_range.mpr hk, rfl⟩
  have := woAt_mem (boxes_nodup hm ok) hb
  refine Eq.trans this ?_
  show p.ws.getD k 1 = w
  rw [List.getD_eq_getElem?_getD, h]
  rfl
theorem tos_isTos {e : Int} {ts : List Int} (h : ∀ t ∈ ts, ToOk e t) : isTos e (.tuple (ts.map .int)) = true := by
  simp only [isTos, List.all_eq_true]
  intro x hx
  obtain ⟨t, ht, rfl⟩ := List.mem_map.mp hx
  have := h t ht
  unfold ToOk at this
  have h1 : t < e + 1 := by omega
  simp [isIn, this.1, h1]
theorem asks_filt {e : Int} : ∀ {ts : List (Option Int)}, (∀ t ∈ ts, ∀ i, t = some i → ToOk e i) → (((ts.map oint).filter fun t => !(isNoneD (.v t))).all (isIn 0 (e + 1))) = true
  | [], _ => rfl
  | none :: r, h => by
    rw [List.map_cons, List.filter_cons_of_neg (by simp [oint, isNoneD])]
    exact asks_filt fun t ht => h t (List.mem_cons_of_mem _ ht)
  | some i :: r, h => by
    have h0 := h (some i) List.mem_cons_self i rfl
    unfold ToOk at h0
    have h1 : i < e + 1 := by omega
    rw [List.map_cons, List.filter_cons_of_pos (by simp [oint, isNoneD]), List.all_cons, asks_filt fun t ht => h t (List.mem_cons_of_mem _ ht)]
    simp [isIn, oint, h0.1, h1]
theorem row_fits {e : Int} {x : RowI} (hx : RowOk p.ws p.ps.length e p.hs.length x) : rowOk (boxesP m p) (procsP m 0 p.ps) p.hs.length e (rowS (m.row x)) = true := by
  have to : ∀ {t : Int}, ToOk e t → (decide (0 ≤ t) && decide (t < e + 1)) = true := fun h => by
    unfold ToOk at h
    have h1 := h.1
    have h2 : _ < e + 1 := Int.lt_add_one_of_le h.2
    simp [h1, h2]
  have w2 : ∀ {k : Nat} {w : Int}, p.ws[k]? = some w → 2 ≤ w := fun h => (ok.ws.2.2 _ (List.mem_of_getElem? h)).1
  cases x with
  | put b w t =>
    obtain ⟨k, rfl, M, hM, h1, h2, h3⟩ := hx
    have := w2 hM
    have h0 : ¬ M = 0 := by omega
    have := to h3
    simp only [Bool.and_eq_true, decide_eq_true_eq] at this
    simp [Names.row, Row.map, rowP, rowOk, rowB, woAt_box hm ok hM, h0, isIn, h1, h2, this.1, this.2]
  | swap b x y t =>
    obtain ⟨k, rfl, M, hM, h1, h2, h4, h5, h3⟩ := hx
    have := w2 hM
    have h0 : ¬ M = 0 := by omega
    have := to h3
    simp only [Bool.and_eq_true, decide_eq_true_eq] at this
    simp [Names.row, Row.map, rowP, rowOk, rowB, woAt_box hm ok hM, h0, isIn, h1, h2, h4, h5, this.1, this.2]
  | ask b ts =>
    obtain ⟨k, rfl, M, hM, h1, h2⟩ := hx
    have := w2 hM
    have h0 : ¬ M = 0 := by omega
    have a := asks_filt hm ok h2
    have e1 : rowOk (boxesP m p) (procsP m 0 p.ps) p.hs.length e (rowS (m.row (.ask (k : Int) ts))) = (decide (((ts.map oint).length : Int) = M) && ((ts.map oint).filter fun t => !(isNoneD (.v t))).all (isIn 0 (e + 1))) := by
      simp only [Names.row, Row.map, rowP, Int.toNat_natCast]
      simp [rowOk, rowB, woAt_box hm ok hM, h0]
    rw [e1, a, List.length_map]
    simp [h1]
  | any ts =>
    obtain ⟨h1, h2, h3⟩ := hx
    have a := tos_isTos hm ok h3
    simp [Names.row, Row.map, rowP, rowOk, a, h2]
    simpa [List.length_pos_iff, Nat.pos_iff_ne_zero] using h1
  | call q t =>
    obtain ⟨h1, h2, h3⟩ := hx
    have := to h3
    simp only [Bool.and_eq_true, decide_eq_true_eq] at this
    have hi : m.t q.toNat ∈ (procsP m 0 p.ps).map nmOf := by
      rw [procs_names]
      exact List.mem_map.mpr ⟨q.toNat, List.mem_range.mpr (by omega), by rw [Nat.zero_add]⟩
    simp only [Names.row, Row.map, rowP]
    unfold rowOk
    simp [-List.mem_map, hi, isIn, this.1, this.2]
  | take b t =>
    obtain ⟨k, rfl, M, hM, h1, h3⟩ := hx
    have := w2 hM
    have h0 : ¬ M = 0 := by omega
    have := to h3
    simp only [Bool.and_eq_true, decide_eq_true_eq] at this
    simp [Names.row, Row.map, rowP, rowOk, rowB, woAt_box hm ok hM, h0, isIn, h1, this.1, this.2]
  | give b t =>
    obtain ⟨k, rfl, M, hM, h1, h3⟩ := hx
    have := w2 hM
    have h0 : ¬ M = 0 := by omega
    have := to h3
    simp only [Bool.and_eq_true, decide_eq_true_eq] at this
    simp [Names.row, Row.map, rowP, rowOk, rowB, woAt_box hm ok hM, h0, isIn, h1, this.1, this.2]
theorem prog_due (h1 : mp ≤ 6) (h2 : mr ≤ 8) (h3 : mh ≤ 3) (h4 : prodI p.ws ≤ 8) : due (progP m p) = none := by
  have d1 : bxDue [] (boxesP m p) = none := bxDue_none _ [] (boxes_bx hm ok) (boxes_nodup hm ok) (by rw [List.nil_append, prodW_eq, boxes_worths]; exact h4)
  have d2 : prDue [] (procsP m 0 p.ps) = none := prDue_none _ [] (fun b hb => by
    have := procs_pr hm ok b hb
    exact ⟨this.1, this.2.1, by omega⟩) (procs_nodup hm ok (by omega))
  have d3 : rowsDue (boxesP m p) (procsP m 0 p.ps) p.hs.length 0 (procsP m 0 p.ps) = none := rowsDue_none _ _ fun b hb x hx => by
    obtain ⟨j, r, hr, rfl⟩ := procs_mem m hb
    simp only [rwOf, procP] at hx ⊢
    obtain ⟨y, hy, rfl⟩ := List.mem_map.mp hx
    rw [List.length_map]
    exact row_fits hm ok ((ok.ps r (List.mem_of_getElem? hr)).2.2 y hy)
  have d4 : hnDue (procsP m 0 p.ps) [] (handsP m 0 p.hs) = none := hnDue_none _ [] (fun x hx => by
    obtain ⟨j, r, hr, rfl⟩ := hands_mem m hx
    have := ok.hs r (List.mem_of_getElem? hr)
    refine ⟨_, _, rfl, hm.h _, hm.t _, ?_⟩
    rw [procs_names]
    exact List.mem_map.mpr ⟨r.toNat, List.mem_range.mpr (by omega), by rw [Nat.zero_add]⟩) (hands_nodup hm ok (by omega))
  have l1 : 1 ≤ (boxesP m p).length ∧ (boxesP m p).length ≤ 3 := by
    rw [boxes_len]
    exact ⟨ok.ws.1, ok.ws.2.1⟩
  have l2 : 1 ≤ (procsP m 0 p.ps).length ∧ (procsP m 0 p.ps).length ≤ 6 := by
    rw [procs_len]
    exact ⟨ok.pl.1, by have := ok.pl.2; omega⟩
  have l3 : 1 ≤ (handsP m 0 p.hs).length ∧ (handsP m 0 p.hs).length ≤ 3 := by
    rw [hands_len]
    exact ⟨ok.hl.1, by have := ok.hl.2; omega⟩
  have d3' : rowsDue (boxesP m p) (procsP m 0 p.ps) (handsP m 0 p.hs).length 0 (procsP m 0 p.ps) = none := by rw [hands_len]; exact d3
  unfold progP due
  simp only [l1, l2, l3, d1, d2, d3', d4, and_self, if_true]
end
end Fs
set_option maxHeartbeats 4000000
namespace Fs
open PySem PySem.Spec PyProof.Rows L2 Vl
/-! ## for the laws -/
theorem due_ok {n : Nat} {d : PyData} (hd : Dt n d) (e : due d = none) (h : Hs) : callR F_look_at [d] false h = some (.ok (.v .none) h) := by
  rw [look_at_ok hd, e]
theorem forL_same {g : GM} {body : SM} {s : Sl} {h : Hs} : ∀ {items : List D}, (∀ d ∈ items, ∃ s1, g d s h = some s1 ∧ body s1 h = some (.nx s h)) → forL none g body items s h = some (.nx s h)
  | [], _ => by simp [forL, gok]
  | d :: r, H => by
    obtain ⟨s1, e1, e2⟩ := H d List.mem_cons_self
    have ih := forL_same (items := r) fun x hx => H x (List.mem_cons_of_mem _ hx)
    simp [forL, gok, e1, e2, ih]
theorem forL_rng {g : GM} {body : SM} {s : Sl} {h : Hs} {n : Nat} (H : ∀ k : Nat, k < n → ∃ s1, g (.v (.int (k : Int))) s h = some s1 ∧ body s1 h = some (.nx s h)) : forL none g body ((List.range n).map fun k : Nat => D.v (.int (k : Int))) s h = some (.nx s h) :=
  forL_same fun d hd => by
    obtain ⟨k, hk, rfl⟩ := List.mem_map.mp hd
    exact H k (List.mem_range.mp hk)
@[simp] theorem eqD_str' {neg : Bool} {a b : Str} {h : Hs} : eqD neg (.v (.str a)) (.v (.str b)) h = some (.v (.bool (if neg = true then !decide (a = b) else decide (a = b)))) := eqD_s
@[simp] theorem isNone_v {d : PyData} : isNoneD (.v .none) = true := rfl
end Fs
set_option maxHeartbeats 4000000
namespace Fs
open PySem PySem.Spec PyProof.Rows L2 Vl
/-! ## ends of lists -/
theorem at_last {α : Type} (xs : List α) (x : α) : atI (xs ++ [x]) (-1) = some x := by
  unfold atI ixN
  rw [if_neg (by decide), if_pos (by rw [List.length_append, List.length_singleton]; omega)]
  have e : (-1 + ((xs ++ [x]).length : Int)).toNat = xs.length := by
    rw [List.length_append, List.length_singleton]
    omega
  show (xs ++ [x])[(-1 + ((xs ++ [x]).length : Int)).toNat]? = some x
  rw [e]
  simp
theorem cut_last {α : Type} (xs : List α) (x : α) : cutP (xs ++ [x]) none (some (-1)) = xs := by
  unfold cutP
  have e : HT.sIx (xs ++ [x]).length (xs ++ [x]).length (some (-1)) = xs.length := by
    unfold HT.sIx
    simp only [List.length_append, List.length_singleton]
    split <;> omega
  have e2 : HT.sIx (xs ++ [x]).length 0 none = 0 := rfl
  rw [e, e2]
  simp
theorem cut_to {α : Type} (xs : List α) (k : Nat) : cutP xs none (some (k : Int)) = xs.take k := by
  have := cut_take xs (k := (k : Int)) (by omega)
  rwa [Int.toNat_natCast] at this
/-! ## while, turn by turn -/
/-! ## places by names -/
theorem index_names {l : List Str} {z : Str} {k : Nat} (hl : ∀ y ∈ l, okS y) (hz : l[k]? = some z) (hn : ∀ j, j < k → l[j]? ≠ some z) : indexP (.list (l.map .str)) [.str z] = some (.int k) := by
  have hk : k < l.length := by
    rcases Nat.lt_or_ge k l.length with h | h
    · exact h
    · rw [List.getElem?_eq_none h] at hz; cases hz
  have hs : SeqAt.shaped (.list (l.map PyData.str)) = true := (sh_list (n := 0) fun d hd => by
    obtain ⟨y, hy, rfl⟩ := List.mem_map.mp hd
    exact sh_str (hl y hy)).shaped
  have hs2 : SeqAt.shaped (.str z) = true := (sh_str (n := 0) (hl z (List.mem_of_getElem? hz))).shaped
  unfold indexP
  simp only
  rw [if_pos (by rw [hs, hs2]; rfl)]
  have e : (l.map PyData.str).findIdx? (fun x => PyData.eqv x (.str z)) = some k := by
    rw [List.findIdx?_eq_some_iff_getElem]
    refine ⟨by rw [List.length_map]; exact hk, ?_, fun j hj => ?_⟩
    · rw [List.getElem_map]
      rw [List.getElem?_eq_getElem hk] at hz
      rw [Option.some.inj hz]
      simp [PyData.eqv]
    · rw [List.getElem_map]
      have := hn j hj
      rw [List.getElem?_eq_getElem (by omega)] at this
      have h2 : l[j] ≠ z := fun e => this (by rw [e])
      simp [PyData.eqv, h2]
  rw [e]
  rfl
theorem number_ok {rows : List PyData} {z : Str} {k : Nat} (hr : ∀ d ∈ rows, ∃ y r, d = .tuple (.str y :: r) ∧ okS y) (hz : (rows.map nmOf)[k]? = some z) (hn : ∀ j, j < k → (rows.map nmOf)[j]? ≠ some z) (h : Hs) : callR F_number_by [.list rows, .str z] false h = some (.ok (.v (.int k)) h) := by
  have ix := index_names (l := rows.map nmOf) (fun y hy => by
    obtain ⟨d, hd, rfl⟩ := List.mem_map.mp hy
    obtain ⟨y, r, rfl, ho⟩ := hr d hd
    exact ho) hz hn
  have cm : compL none (gNm 2) tYes' (eIx (eVar 2) (eC (.int 0))) (rows.map .v) [some (.v (.list rows)), some (.v (.str z)), none] [] = some (rows.map (fun d => .v (.str (nmOf d))), []) :=
    compMap rows .v (gNm 2) _ (fun d => .str (nmOf d)) fun d hd => by
      obtain ⟨y, r, rfl, _⟩ := hr d hd
      exact ⟨_, rfl, by simp [nmOf]⟩
  refine callR_v (h' := []) ?_
  rw [List.map_map] at ix
  simp [F_number_by, mkFn, B_number_by, cm]
  rw [show (PyData.str ∘ nmOf) = fun d => PyData.str (nmOf d) from rfl] at ix
  rw [ix]
  rfl
section
variable {m : Names} {p : Plan} {mp mr mh : Nat} (hm : m.Ok) (ok : p.Ok mp mr mh)
include hm ok
theorem nb_box {k : Nat} (hk : k < p.ws.length) (h : Hs) : callR F_number_by [.list (boxesP m p), .str (m.b k)] false h = some (.ok (.v (.int k)) h) := by
  refine number_ok (fun d hd => ?_) ?_ (fun j hj => ?_) h
  · obtain ⟨k, _, rfl⟩ := List.mem_map.mp hd
    exact ⟨_, _, rfl, (isName_ok (hm.b k)).1⟩
  · rw [boxes_names, List.getElem?_map, List.getElem?_range hk]
    rfl
  · rw [boxes_names, List.getElem?_map, List.getElem?_range (by omega)]
    intro e
    have := hm.bi j k (by have := ok.ws.2.1; omega) (by have := ok.ws.2.1; omega) (Option.some.inj e)
    omega
theorem nb_proc (hmp : mp ≤ 20) {k : Nat} (hk : k < p.ps.length) (h : Hs) : callR F_number_by [.list (procsP m 0 p.ps), .str (m.t k)] false h = some (.ok (.v (.int k)) h) := by
  have hp := ok.pl.2
  refine number_ok (fun d hd => ?_) ?_ (fun j hj => ?_) h
  · obtain ⟨j, r, _, rfl⟩ := procs_mem m hd
    exact ⟨_, _, rfl, (isName_ok (hm.t _)).1⟩
  · rw [procs_names, List.getElem?_map, List.getElem?_range hk]
    simp
  · rw [procs_names, List.getElem?_map, List.getElem?_range (by omega)]
    intro e
    have := hm.ti j k (by omega) (by omega) (by simpa using e)
    omega
end
end Fs
set_option maxHeartbeats 4000000
namespace Fs
open PySem PySem.Spec PyProof.Rows L2 Vl
/-! ## states: what the boxes hold, the piles of the hands (the last frame ahead) -/
abbrev Fr := Int × Int
abbrev Pile := List Fr
structure StM where
  store : List Int
  piles : List Pile
def frP (f : Fr) : PyData := .tuple [.int f.1, .int f.2]
def pileP (p : Pile) : PyData := .tuple (p.map frP).reverse
def storeP (s : List Int) : PyData := .tuple (s.map .int)
def stP (s : StM) : PyData := .tuple [storeP s.store, .tuple (s.piles.map pileP)]
def endOf (p : Plan) (q : Int) : Int := (((p.ps[q.toNat]?).getD []).length : Int)
def settle (p : Plan) : Pile → Pile
  | [] => []
  | f :: r => if f.2 = endOf p f.1 then settle p r else f :: r
def rowAt (p : Plan) (f : Fr) : Option RowI := (p.ps[f.1.toNat]?).bind fun r => r[f.2.toNat]?
def holdsI (store : List Int) (b : Int) : Int := (store[b.toNat]?).getD 0
/-- by which choices a row can be stepped -/
def chRow (store : List Int) (hand : Int) : RowI → List Int
  | .put _ _ _ => [0]
  | .swap b x _ _ => if holdsI store b = x then [0] else []
  | .ask b ts => match (ts[(holdsI store b).toNat]?).getD none with
    | none => []
    | some _ => [0]
  | .any ts => (List.range ts.length).map fun k : Nat => (k : Int)
  | .call _ _ => [0]
  | .take b _ => if holdsI store b = 0 then [0] else []
  | .give b _ => if holdsI store b = hand + 1 then [0] else []
/-- where a row that is no call goes on, and what the boxes hold then -/
def onRow (store : List Int) (hand choice : Int) : RowI → List Int × Int
  | .put b w t => (store.set b.toNat w, t)
  | .swap b _ y t => (store.set b.toNat y, t)
  | .ask b ts => (store, ((ts[(holdsI store b).toNat]?).getD none).getD 0)
  | .any ts => (store, (ts[choice.toNat]?).getD 0)
  | .call _ t => (store, t)
  | .take b t => (store.set b.toNat (hand + 1), t)
  | .give b t => (store.set b.toNat 0, t)
def pileAt (s : StM) (hand : Nat) : Pile := (s.piles[hand]?).getD []
def chsM (p : Plan) (s : StM) (hand : Nat) : List Int := match pileAt s hand with
  | [] => []
  | f :: _ => match rowAt p f with
    | none => []
    | some row => chRow s.store hand row
def isCall : RowI → Option Int
  | .call q _ => some q
  | _ => none
def pileOn (p : Plan) (f : Fr) (r : Pile) (row : RowI) (to : Int) : Pile := match isCall row with
  | some q => (q, 0) :: (f.1, to) :: r
  | none => settle p ((f.1, to) :: r)
def stepM (p : Plan) (s : StM) (hand : Nat) (choice : Int) : StM := match pileAt s hand with
  | [] => s
  | f :: r => match rowAt p f with
    | none => s
    | some row => ⟨(onRow s.store hand choice row).1, s.piles.set hand (pileOn p f r row (onRow s.store hand choice row).2)⟩
def begM (p : Plan) : StM := ⟨p.fs, p.hs.map fun q => [(q, 0)]⟩
/-! ## states that may be -/
def FrOk (p : Plan) (f : Fr) : Prop := 0 ≤ f.1 ∧ f.1 < p.ps.length ∧ 0 ≤ f.2 ∧ f.2 ≤ endOf p f.1
def PileOk (p : Plan) (B : Nat) (x : Pile) : Prop := x.length ≤ B ∧ (∀ f ∈ x, FrOk p f) ∧ ∀ f r, x = f :: r → f.2 < endOf p f.1
structure StM.Ok (p : Plan) (B : Nat) (s : StM) : Prop where
  sl : s.store.length = p.ws.length
  sv : ∀ (k : Nat) v w, s.store[k]? = some v → p.ws[k]? = some w → 0 ≤ v ∧ v < w
  pl : s.piles.length = p.hs.length
  pk : ∀ x ∈ s.piles, PileOk p B x
theorem StM.Ok.mono {p : Plan} {B C : Nat} {s : StM} (h : s.Ok p B) (l : B ≤ C) : s.Ok p C := ⟨h.sl, h.sv, h.pl, fun x hx => ⟨Nat.le_trans (h.pk x hx).1 l, (h.pk x hx).2⟩⟩
theorem row_some {p : Plan} {mp mr mh : Nat} (ok : p.Ok mp mr mh) {f : Fr} (h : FrOk p f) (hl : f.2 < endOf p f.1) : ∃ r row, p.ps[f.1.toNat]? = some r ∧ r[f.2.toNat]? = some row ∧ rowAt p f = some row ∧ RowOk p.ws p.ps.length r.length p.hs.length row ∧ endOf p f.1 = r.length := by
  obtain ⟨h0, h1, h2, h3⟩ := h
  have hq : f.1.toNat < p.ps.length := by omega
  have e1 := List.getElem?_eq_getElem hq
  have hr : f.2.toNat < p.ps[f.1.toNat].length := by
    unfold endOf at hl
    rw [e1] at hl
    simp only [Option.getD_some] at hl
    omega
  have e2 := List.getElem?_eq_getElem hr
  refine ⟨_, _, e1, e2, ?_, ((ok.ps _ (List.getElem_mem hq)).2.2 _ (List.getElem_mem hr)), ?_⟩
  · unfold rowAt
    rw [e1]
    exact e2
  · unfold endOf
    rw [e1]
    rfl
theorem holds_ok {p : Plan} {B : Nat} {s : StM} (hs : s.Ok p B) {k : Nat} {w : Int} (hw : p.ws[k]? = some w) : ∃ v, s.store[k]? = some v ∧ holdsI s.store (k : Int) = v ∧ 0 ≤ v ∧ v < w := by
  have hk : k < p.ws.length := (List.getElem?_eq_some_iff.mp hw).1
  have e := List.getElem?_eq_getElem (l := s.store) (i := k) (by rw [hs.sl]; exact hk)
  refine ⟨_, e, ?_, hs.sv k _ w e hw⟩
  unfold holdsI
  rw [Int.toNat_natCast, e]
  rfl
theorem end_pos {p : Plan} {mp mr mh : Nat} (ok : p.Ok mp mr mh) {q : Int} (h0 : 0 ≤ q) (h1 : q < p.ps.length) : 1 ≤ endOf p q := by
  have hq : q.toNat < p.ps.length := by omega
  have := (ok.ps _ (List.getElem_mem hq)).1
  unfold endOf
  rw [List.getElem?_eq_getElem hq]
  simp only [Option.getD_some]
  omega
theorem beg_ok {p : Plan} {mp mr mh : Nat} (ok : p.Ok mp mr mh) : (begM p).Ok p 1 where
  sl := ok.fl
  sv := ok.fs
  pl := by simp [begM]
  pk := fun x hx => by
    obtain ⟨q, hq, rfl⟩ := List.mem_map.mp hx
    obtain ⟨q0, q1⟩ := ok.hs q hq
    have e := end_pos ok q0 q1
    refine ⟨Nat.le_refl _, fun f hf => ?_, fun f r ef => ?_⟩
    · rw [List.mem_singleton.mp hf]
      exact ⟨q0, q1, Int.le_refl _, by show 0 ≤ endOf p q; omega⟩
    · cases ef
      show 0 < endOf p q
      omega
end Fs
set_option maxHeartbeats 4000000
namespace Fs
open PySem PySem.Spec PyProof.Rows L2 Vl
theorem pile_cons (f : Fr) (r : Pile) : pileP (f :: r) = .tuple ((r.map frP).reverse ++ [.tuple [.int f.1, .int f.2]]) := by simp [pileP, frP]
theorem frP_sh (f : Fr) : Sh 1 (frP f) := sh_tup (n := 0) fun x hx => by
  simp only [List.mem_cons, List.not_mem_nil, or_false] at hx
  rcases hx with rfl | rfl <;> exact sh_int _
theorem pile_sh (x : Pile) : Sh 2 (pileP x) := sh_tup fun d hd => by
  obtain ⟨f, _, rfl⟩ := List.mem_map.mp (List.mem_reverse.mp hd)
  exact frP_sh f
theorem pile_eq (neg : Bool) (x : Pile) (h : Hs) : eqD neg (.v (pileP x)) (.v (.tuple [])) h = some (.v (.bool (ngt neg x.isEmpty))) := by
  rw [eqD_v (pile_sh x).shaped rfl]
  cases x with
  | nil => cases neg <;> rfl
  | cons f r =>
    rw [pile_cons]
    cases (r.map frP).reverse with
    | nil => cases neg <;> simp [PyData.eqv, PyData.eqvAll, ngt]
    | cons a b => cases neg <;> simp [PyData.eqv, PyData.eqvAll, ngt]
theorem procs_at0 (m : Names) (rs : List (List RowI)) {j : Nat} {r : List RowI} (h : rs[j]? = some r) : (procsP m 0 rs)[j]? = some (procP m j r) := by
  have := procs_at m rs 0 j r h
  rwa [Nat.zero_add] at this
theorem at_row {p : Plan} {f : Fr} (hf : FrOk p f) {r : List RowI} {row : RowI} (e1 : p.ps[f.1.toNat]? = some r) (e2 : r[f.2.toNat]? = some row) {α : Type} (g : RowI → α) : atI (r.map g) f.2 = some (g row) := by
  have e : f.2 = (f.2.toNat : Int) := by have := hf.2.2.1; omega
  rw [e]
  exact atI_nat (by rw [List.getElem?_map, e2]; rfl)
section
variable {m : Names} {p : Plan} {mp mr mh B : Nat} (hm : m.Ok) (ok : p.Ok mp mr mh)
include hm ok
theorem row_at_ok {f : Fr} {r : Pile} (hf : FrOk p f) {rs : List RowI} {row : RowI} (e1 : p.ps[f.1.toNat]? = some rs) (e2 : rs[f.2.toNat]? = some row) (h : Hs) :
    callR F_row_at [progP m p, pileP (f :: r)] false h = some (.ok (.v (rowS (m.row row))) h) := by
  refine callR_v (h' := []) ?_
  have q : f.1 = (f.1.toNat : Int) := by have := hf.1; omega
  have a1 : atI (procsP m 0 p.ps) f.1 = some (procP m f.1.toNat rs) := by
    rw [q]
    exact atI_nat (procs_at0 m p.ps e1)
  have a2 := at_row hf e1 e2 (fun x => rowS (m.row x))
  rw [pile_cons]
  simp [F_row_at, mkFn, B_row_at, at_last, frP, progP, a1]
  simp [procP, a2]
theorem law_row_ok {f : Fr} {r : Pile} (hf : FrOk p f) {rs : List RowI} {row : RowI} (e1 : p.ps[f.1.toNat]? = some rs) (e2 : rs[f.2.toNat]? = some row) (h : Hs) :
    callR F__law_row [planP p, pileP (f :: r)] false h = some (.ok (.v (rowI row)) h) := by
  refine callR_v (h' := []) ?_
  have q : f.1 = (f.1.toNat : Int) := by have := hf.1; omega
  have a1 : atI (p.ps.map fun r => PyData.list (r.map rowI)) f.1 = some (.list (rs.map rowI)) := by
    rw [q]
    exact atI_nat (by rw [List.getElem?_map, e1]; rfl)
  have a2 := at_row hf e1 e2 rowI
  rw [pile_cons]
  simp [-List.map_map, -atI_map, F__law_row, mkFn, B__law_row, at_last, frP, planP, a1, a2]
end
/-! ## settled -/
end Fs
set_option maxHeartbeats 4000000
namespace Fs
open PySem PySem.Spec PyProof.Rows L2 Vl
@[simp] theorem prog_0 (m : Names) (p : Plan) (h : Hs) : ixD (.v (progP m p)) (.v (.int 0)) h = some (.v (.list (boxesP m p))) := rfl
@[simp] theorem prog_1 (m : Names) (p : Plan) (h : Hs) : ixD (.v (progP m p)) (.v (.int 1)) h = some (.v (.list (procsP m 0 p.ps))) := rfl
@[simp] theorem prog_2 (m : Names) (p : Plan) (h : Hs) : ixD (.v (progP m p)) (.v (.int 2)) h = some (.v (.list (handsP m 0 p.hs))) := rfl
@[simp] theorem plan_0 (p : Plan) (h : Hs) : ixD (.v (planP p)) (.v (.int 0)) h = some (.v (.tuple (p.ws.map .int))) := rfl
@[simp] theorem plan_1 (p : Plan) (h : Hs) : ixD (.v (planP p)) (.v (.int 1)) h = some (.v (.list (p.fs.map .int))) := rfl
@[simp] theorem plan_2 (p : Plan) (h : Hs) : ixD (.v (planP p)) (.v (.int 2)) h = some (.v (.list (p.ps.map fun r => .list (r.map rowI)))) := rfl
@[simp] theorem plan_3 (p : Plan) (h : Hs) : ixD (.v (planP p)) (.v (.int 3)) h = some (.v (.list (p.hs.map .int))) := rfl
theorem at_store {p : Plan} {B : Nat} {s : StM} (hs : s.Ok p B) {k : Nat} {w : Int} (hw : p.ws[k]? = some w) : atI (s.store.map PyData.int) (k : Int) = some (.int (holdsI s.store (k : Int))) := by
  obtain ⟨v, e1, e2, _⟩ := holds_ok hs hw
  exact atI_nat (by rw [List.getElem?_map, e1, e2]; rfl)
theorem at_ask {ts : List (Option Int)} {v w : Int} (h0 : 0 ≤ v) (h1 : v < w) (hl : (ts.length : Int) = w) : atI (ts.map oint) v = some (oint ((ts[v.toNat]?).getD none)) := by
  have e : v = (v.toNat : Int) := by omega
  have hv : v.toNat < ts.length := by omega
  rw [e]
  refine atI_nat ?_
  rw [List.getElem?_map, ← e, List.getElem?_eq_getElem hv]
  rfl
theorem oint_none (o : Option Int) : isNoneD (.v (oint o)) = o.isNone := by cases o <;> rfl
theorem range_ok {α : Type} (ts : List α) (hl : ts.length ≤ 1000000) (h : Hs) : rgL (.v (.int (ts.length : Int))) h = some (.v (.list (((List.range ts.length).map fun k : Nat => (k : Int)).map PyData.int))) := by
  rw [rgL_ok (by omega) (by omega), Int.toNat_natCast, List.map_map]
  rfl
section
variable {m : Names} {p : Plan} {mp mr mh B : Nat} (hm : m.Ok) (ok : p.Ok mp mr mh) {s : StM} (hs : s.Ok p B)
include hm ok hs
def boxOf : RowI → Option Int
  | .put b _ _ => some b
  | .swap b _ _ _ => some b
  | .ask b _ => some b
  | .any _ => none
  | .call _ _ => none
  | .take b _ => some b
  | .give b _ => some b
theorem box_at {e : Int} {row : RowI} (hr : RowOk p.ws p.ps.length e p.hs.length row) {b : Int} (hb : boxOf row = some b) : ∃ k : Nat, b = k ∧ ∃ w, p.ws[k]? = some w := by
  cases row with
  | any ts => cases hb
  | call q t => cases hb
  | put b' w t =>
    cases hb
    obtain ⟨k, rfl, M, hM, _⟩ := hr
    exact ⟨k, rfl, M, hM⟩
  | swap b' x y t =>
    cases hb
    obtain ⟨k, rfl, M, hM, _⟩ := hr
    exact ⟨k, rfl, M, hM⟩
  | ask b' ts =>
    cases hb
    obtain ⟨k, rfl, M, hM, _⟩ := hr
    exact ⟨k, rfl, M, hM⟩
  | take b' t =>
    cases hb
    obtain ⟨k, rfl, M, hM, _⟩ := hr
    exact ⟨k, rfl, M, hM⟩
  | give b' t =>
    cases hb
    obtain ⟨k, rfl, M, hM, _⟩ := hr
    exact ⟨k, rfl, M, hM⟩
theorem waits_ok {e : Int} {row : RowI} (hr : RowOk p.ws p.ps.length e p.hs.length row) {b : Int} (hb : boxOf row = some b) (hand : Int) (pd : PyData) (h : Hs) :
    callR F_waits [pd, rowS (m.row row), .int (holdsI s.store b), .int hand] false h = some (.ok (.v (.bool (decide (chRow s.store hand row = [])))) h) := by
  refine callR_b (h' := []) ?_
  cases row with
  | any ts => cases hb
  | call q t => cases hb
  | put b' w t =>
    cases hb
    simp [F_waits, mkFn, B_waits, Names.row, Row.map, rowP, chRow]
  | swap b' x y t =>
    cases hb
    simp [F_waits, mkFn, B_waits, Names.row, Row.map, rowP, chRow, eqD_int]
  | ask b' ts =>
    cases hb
    obtain ⟨k, rfl, M, hM, h1, h2⟩ := hr
    obtain ⟨v, _, hv, v0, v1⟩ := holds_ok hs hM
    rw [hv]
    have a := at_ask v0 v1 h1
    simp [-atI_map, F_waits, mkFn, B_waits, Names.row, Row.map, rowP, chRow, a, oint_none, hv, ngt]
    cases (ts[v.toNat]?).getD none <;> simp
  | take b' t =>
    cases hb
    simp [F_waits, mkFn, B_waits, Names.row, Row.map, rowP, chRow, eqD_int]
  | give b' t =>
    cases hb
    simp [F_waits, mkFn, B_waits, Names.row, Row.map, rowP, chRow, eqD_int]
omit hm ok hs in
theorem at_pile {hand : Nat} (hh : hand < s.piles.length) : atI (s.piles.map pileP) (hand : Int) = some (pileP (pileAt s hand)) := by
  refine atI_nat ?_
  rw [List.getElem?_map, List.getElem?_eq_getElem hh]
  unfold pileAt
  rw [List.getElem?_eq_getElem hh]
  rfl
omit hm in
theorem pile_row {hand : Nat} {f : Fr} {r : Pile} (ep : pileAt s hand = f :: r) : FrOk p f ∧ r.length < B ∧ (∀ g ∈ r, FrOk p g) ∧ ∃ rs row, p.ps[f.1.toNat]? = some rs ∧ rs[f.2.toNat]? = some row ∧ rowAt p f = some row ∧ RowOk p.ws p.ps.length rs.length p.hs.length row ∧ endOf p f.1 = rs.length := by
  have hx : (f :: r) ∈ s.piles := by
    unfold pileAt at ep
    cases e : s.piles[hand]? with
    | none =>
      rw [e] at ep
      cases ep
    | some x =>
      rw [e] at ep
      cases (show x = f :: r from ep)
      exact List.mem_of_getElem? e
  obtain ⟨k1, k2, k3⟩ := hs.pk _ hx
  exact ⟨k2 f List.mem_cons_self, k1, fun g hg => k2 g (List.mem_cons_of_mem _ hg), row_some ok (k2 f List.mem_cons_self) (k3 f r rfl)⟩
theorem choices_ok {hand : Nat} (hh : hand < p.hs.length) (h : Hs) : callR F_choices [progP m p, stP s, .int hand] false h = some (.ok (.v (.list ((chsM p s hand).map .int))) h) := by
  refine callR_v (h' := []) ?_
  have a1 := at_pile (s := s) (hand := hand) (by rw [hs.pl]; exact hh)
  have q0 := pile_eq false (pileAt s hand) []
  cases ep : pileAt s hand with
  | nil =>
    rw [ep] at a1 q0
    have e : chsM p s hand = [] := by unfold chsM; rw [ep]
    simp [-atI_map, F_choices, mkFn, B_choices, stP, a1, q0, ngt, e]
  | cons f r =>
    rw [ep] at a1 q0
    obtain ⟨hf, hl, hr, rs, row, e1, e2, e3, e4, e5⟩ := pile_row ok hs ep
    have r1 := row_at_ok hm ok (r := r) hf e1 e2 []
    have e : chsM p s hand = chRow s.store hand row := by unfold chsM; rw [ep]; simp only [e3]
    have bx : ∀ b, boxOf row = some b → callR F_number_by [.list (boxesP m p), .str (m.b b.toNat)] false [] = some (.ok (.v (.int b)) []) ∧ atI (s.store.map PyData.int) b = some (.int (holdsI s.store b)) := fun b hb => by
      obtain ⟨k, rfl, w, hw⟩ := box_at hm ok hs e4 hb
      exact ⟨nb_box hm ok (List.getElem?_eq_some_iff.mp hw).1 [], at_store hs hw⟩
    have wt : ∀ b, boxOf row = some b → callR F_waits [progP m p, rowS (m.row row), .int (holdsI s.store b), .int hand] false [] = _ := fun b hb => waits_ok hm ok hs e4 hb hand (progP m p) []
    rw [e]
    cases row with
    | any ts =>
      have r2 := range_ok ts (by have := e4.2.1; omega) []
      simp only [Names.row, Row.map, rowP] at r1
      simp [-atI_map, -List.map_map, F_choices, mkFn, B_choices, stP, a1, q0, ngt, r1, r2, chRow]
    | call q t =>
      simp only [Names.row, Row.map, rowP] at r1
      simp [-atI_map, F_choices, mkFn, B_choices, stP, a1, q0, ngt, r1, chRow]
    | put b w t =>
      obtain ⟨b1, b2⟩ := bx b rfl
      have w1 := wt b rfl
      simp only [Names.row, Row.map, rowP] at r1 w1
      simp [-atI_map, F_choices, mkFn, B_choices, stP, a1, q0, ngt, r1, b1, b2, storeP] at w1 ⊢
      simp [w1, chRow]
    | swap b x y t =>
      obtain ⟨b1, b2⟩ := bx b rfl
      have w1 := wt b rfl
      simp only [Names.row, Row.map, rowP] at r1 w1
      simp only [chRow] at w1
      by_cases q : holdsI s.store b = x <;> simp [-atI_map, F_choices, mkFn, B_choices, stP, a1, q0, ngt, r1, b1, b2, storeP, chRow, q] at w1 ⊢ <;> simp [w1]
    | ask b ts =>
      obtain ⟨b1, b2⟩ := bx b rfl
      have w1 := wt b rfl
      simp only [Names.row, Row.map, rowP] at r1 w1
      simp only [chRow] at w1
      cases q : (ts[(holdsI s.store b).toNat]?).getD none <;> simp [-atI_map, F_choices, mkFn, B_choices, stP, a1, q0, ngt, r1, b1, b2, storeP, chRow, q] at w1 ⊢ <;> simp [w1]
    | take b t =>
      obtain ⟨b1, b2⟩ := bx b rfl
      have w1 := wt b rfl
      simp only [Names.row, Row.map, rowP] at r1 w1
      simp only [chRow] at w1
      by_cases q : holdsI s.store b = 0 <;> simp [-atI_map, F_choices, mkFn, B_choices, stP, a1, q0, ngt, r1, b1, b2, storeP, chRow, q] at w1 ⊢ <;> simp [w1]
    | give b t =>
      obtain ⟨b1, b2⟩ := bx b rfl
      have w1 := wt b rfl
      simp only [Names.row, Row.map, rowP] at r1 w1
      simp only [chRow] at w1
      by_cases q : holdsI s.store b = (hand : Int) + 1 <;> simp [-atI_map, F_choices, mkFn, B_choices, stP, a1, q0, ngt, r1, b1, b2, storeP, chRow, q] at w1 ⊢ <;> simp [w1]
end
end Fs
set_option maxHeartbeats 4000000
namespace Fs
open PySem PySem.Spec PyProof.Rows L2 Vl
section
variable {m : Names} {p : Plan} {mp mr mh B : Nat} (hm : m.Ok) (ok : p.Ok mp mr mh) {s : StM} (hs : s.Ok p B)
include hm ok hs
theorem law_choices_ok {hand : Nat} (hh : hand < p.hs.length) (h : Hs) : callR F__law_choices [planP p, stP s, .int hand] false h = some (.ok (.v (.list ((chsM p s hand).map .int))) h) := by
  refine callR_v (h' := []) ?_
  have a1 := at_pile (s := s) (hand := hand) (by rw [hs.pl]; exact hh)
  have q0 := pile_eq false (pileAt s hand) []
  cases ep : pileAt s hand with
  | nil =>
    rw [ep] at a1 q0
    have e : chsM p s hand = [] := by unfold chsM; rw [ep]
    simp [-atI_map, F__law_choices, mkFn, B__law_choices, stP, a1, q0, ngt, e]
  | cons f r =>
    rw [ep] at a1 q0
    obtain ⟨hf, hl, hr, rs, row, e1, e2, e3, e4, e5⟩ := pile_row ok hs ep
    have r1 := law_row_ok hm ok (r := r) hf e1 e2 []
    have e : chsM p s hand = chRow s.store hand row := by unfold chsM; rw [ep]; simp only [e3]
    have bx : ∀ b, boxOf row = some b → atI (s.store.map PyData.int) b = some (.int (holdsI s.store b)) := fun b hb => by
      obtain ⟨k, rfl, w, hw⟩ := box_at hm ok hs e4 hb
      exact at_store hs hw
    rw [e]
    cases row with
    | any ts =>
      have r2 := range_ok ts (by have := e4.2.1; omega) []
      simp only [rowP] at r1
      simp [-atI_map, -List.map_map, F__law_choices, mkFn, B__law_choices, stP, a1, q0, ngt, r1, r2, chRow]
    | call q t =>
      simp only [rowP] at r1
      simp [-atI_map, F__law_choices, mkFn, B__law_choices, stP, a1, q0, ngt, r1, chRow]
    | put b w t =>
      have b2 := bx b rfl
      simp only [rowP] at r1
      simp [-atI_map, F__law_choices, mkFn, B__law_choices, stP, a1, q0, ngt, r1, b2, storeP, chRow]
    | swap b x y t =>
      have b2 := bx b rfl
      simp only [rowP] at r1
      by_cases q : holdsI s.store b = x <;> simp [-atI_map, F__law_choices, mkFn, B__law_choices, stP, a1, q0, ngt, r1, b2, storeP, chRow, eqD_int, q]
    | ask b ts =>
      have b2 := bx b rfl
      obtain ⟨k, rfl, M, hM, h1, h2⟩ := e4
      obtain ⟨v, _, hv, v0, v1⟩ := holds_ok hs hM
      have a := at_ask v0 v1 h1
      rw [← hv] at a
      simp only [rowP] at r1
      cases q : (ts[(holdsI s.store (k : Int)).toNat]?).getD none <;> rw [q] at a <;> simp [-atI_map, F__law_choices, mkFn, B__law_choices, stP, a1, q0, ngt, r1, b2, storeP, chRow, a, q, oint_none, oint, isNoneD]
    | take b t =>
      have b2 := bx b rfl
      simp only [rowP] at r1
      by_cases q : holdsI s.store b = 0 <;> simp [-atI_map, F__law_choices, mkFn, B__law_choices, stP, a1, q0, ngt, r1, b2, storeP, chRow, eqD_int, q]
    | give b t =>
      have b2 := bx b rfl
      simp only [rowP] at r1
      by_cases q : holdsI s.store b = (hand : Int) + 1 <;> simp [-atI_map, F__law_choices, mkFn, B__law_choices, stP, a1, q0, ngt, r1, b2, storeP, chRow, eqD_int, q]
end
end Fs
set_option maxHeartbeats 4000000
namespace Fs
open PySem PySem.Spec PyProof.Rows L2 Vl
@[simp] theorem st_items (s : StM) : itemsT (.v (stP s)) = some [.v (storeP s.store), .v (.tuple (s.piles.map pileP))] := rfl
section
variable {m : Names} {p : Plan} {mp mr mh B : Nat} (hm : m.Ok) (ok : p.Ok mp mr mh) {s : StM} (hs : s.Ok p B)
include hm ok hs
end
end Fs
set_option maxHeartbeats 4000000
namespace Fs
open PySem PySem.Spec PyProof.Rows L2 Vl
/-! ## lists that are cells -/
theorem unvs_map (ds : List PyData) : unvs (ds.map .v) = some ds := z_unvsM ds
theorem shal_cell {h : Hs} {n : Nat} {ds : List PyData} (e : h[n]? = some (.lst (ds.map .v))) : shal h (.ref n) = some (.list ds) := by
  rw [z_sh1, e]
  simp
@[simp] theorem c23_2 (a b : PyData) : cutP [a, b] (some 2) (some 3) = [] := rfl
@[simp] theorem c34_2 (a b : PyData) : cutP [a, b] (some 3) (some 4) = [] := rfl
@[simp] theorem c23_3 (a b c : PyData) : cutP [a, b, c] (some 2) (some 3) = [c] := rfl
@[simp] theorem c34_3 (a b c : PyData) : cutP [a, b, c] (some 3) (some 4) = [] := rfl
@[simp] theorem c23_4 (a b c d : PyData) : cutP [a, b, c, d] (some 2) (some 3) = [c] := rfl
@[simp] theorem c34_4 (a b c d : PyData) : cutP [a, b, c, d] (some 3) (some 4) = [d] := rfl
@[simp] theorem c23_5 (a b c d e : PyData) : cutP [a, b, c, d, e] (some 2) (some 3) = [c] := rfl
@[simp] theorem c34_5 (a b c d e : PyData) : cutP [a, b, c, d, e] (some 3) (some 4) = [d] := rfl
@[simp] theorem am_2 (a b : PyData) : atI [a, b] (-1) = some b := rfl
@[simp] theorem am_3 (a b c : PyData) : atI [a, b, c] (-1) = some c := rfl
@[simp] theorem am_4 (a b c d : PyData) : atI [a, b, c, d] (-1) = some d := rfl
@[simp] theorem am_5 (a b c d e : PyData) : atI [a, b, c, d, e] (-1) = some e := rfl
def frsP (x : Pile) : List PyData := (x.map frP).reverse
end Fs
set_option maxHeartbeats 4000000
namespace Fs
open PySem PySem.Spec PyProof.Rows L2 Vl
@[simp] theorem store_ix (st : List Int) (i : Int) (h : Hs) : ixD (.v (storeP st)) (.v (.int i)) h = (atI (st.map PyData.int) i).map .v := rfl
@[simp] theorem store_cut (st : List Int) (lo hi : Option Int) : sliceP lo hi (storeP st) = some (.tuple (cutP (st.map PyData.int) lo hi)) := rfl
@[simp] theorem si_pile (x : Pile) (h : Hs) : seqItems (.v (pileP x)) h = some ((frsP x).map .v) := rfl
@[simp] theorem ixN_m1 (n : Nat) : ixN (n + 1) (-1) = some n := by
  unfold ixN
  rw [if_neg (by decide), if_pos (by omega)]
  congr 1
  omega
@[simp] theorem shal_ref0 (ds : List PyData) : shal [.lst (ds.map .v)] (.ref 0) = some (.list ds) := shal_cell rfl
section
variable {p : Plan} {mp mr mh B : Nat} (ok : p.Ok mp mr mh) {s : StM} (hs : s.Ok p B)
include ok hs
end
section
variable {m : Names} {p : Plan} {mp mr mh B : Nat} (hm : m.Ok) (ok : p.Ok mp mr mh) {s : StM} (hs : s.Ok p B)
include hm ok hs
end
end Fs
set_option maxHeartbeats 4000000
namespace Fs
open PySem PySem.Spec PyProof.Rows L2 Vl
/-! ## the state at first -/
theorem boxes_firsts (m : Names) {p : Plan} {mp mr mh : Nat} (ok : p.Ok mp mr mh) (g : D → PyData) : (List.range p.ws.length).map (fun k => PyData.int (p.fs.getD k 0)) = p.fs.map PyData.int := by
  refine List.ext_getElem? fun j => ?_
  rw [List.getElem?_map, List.getElem?_map]
  by_cases h : j < p.ws.length
  · have h2 : j < p.fs.length := by rw [ok.fl]; exact h
    rw [List.getElem?_range h, List.getElem?_eq_getElem h2]
    show some (PyData.int (p.fs.getD j 0)) = some (PyData.int p.fs[j])
    rw [List.getD_eq_getElem?_getD, List.getElem?_eq_getElem h2]
    rfl
  · rw [List.getElem?_eq_none (by rw [List.length_range]; omega), List.getElem?_eq_none (by rw [ok.fl]; omega)]
    rfl
section
variable {m : Names} {p : Plan} {mp mr mh B : Nat} (hm : m.Ok) (ok : p.Ok mp mr mh)
include hm ok
theorem first_ok (h : Hs) : callR F_first_store [.list (boxesP m p)] false h = some (.ok (.v (storeP p.fs)) h) := by
  refine callR_v (h' := []) ?_
  have cm : compL none (gTp 3 (gsCons (gNm 1) (gsCons (gNm 2) (gsCons (gNm 3) gsNil)))) tYes' (eVar 3) ((List.range p.ws.length).map fun k => D.v (boxP m p k)) [some (.v (.list (boxesP m p))), none, none, none] [] = some ((List.range p.ws.length).map (fun k => .v (.int (p.fs.getD k 0))), []) :=
    compMap (List.range p.ws.length) (fun k => .v (boxP m p k)) _ _ (fun k => .int (p.fs.getD k 0)) fun k _ => ⟨_, rfl, rfl⟩
  have e : (boxesP m p).map D.v = (List.range p.ws.length).map fun k => D.v (boxP m p k) := by
    unfold boxesP
    rw [List.map_map]
    rfl
  have e2 := boxes_firsts m ok fun _ => .none
  simp [-List.map_map, F_first_store, mkFn, B_first_store, e, cm]
  exact congrArg PyData.tuple e2
theorem begun_ok (hmp : mp ≤ 20) (h : Hs) : callR F_begun [progP m p] false h = some (.ok (.v (stP (begM p))) h) := by
  refine callR_v (h' := []) ?_
  have go : ∀ (hs : List Int) (k : Nat), (∀ x ∈ hs, 0 ≤ x ∧ x < p.ps.length) → compL none (gTp 2 (gsCons (gNm 2) (gsCons (gNm 3) gsNil))) tYes' (eTup (eCons (eTup (eCons (eCall F_number_by (eCons (eIx (eVar 0) (eC (.int 1))) (eCons (eVar 3) eNil))) (eCons (eC (.int 0)) eNil))) eNil)) ((handsP m k hs).map .v) [some (.v (progP m p)), none, none, none] [] =
      some ((hs.map fun q => pileP [(q, 0)]).map .v, []) := fun hs => by
    induction hs with
    | nil => intro k _; simp [handsP, compL, gok]
    | cons x r ih =>
      intro k hx
      obtain ⟨x0, x1⟩ := hx x List.mem_cons_self
      have ih := ih (k + 1) fun y hy => hx y (List.mem_cons_of_mem _ hy)
      have nb := nb_proc hm ok hmp (k := x.toNat) (by omega) []
      rw [show ((x.toNat : Nat) : Int) = x by omega] at nb
      rw [handsP, List.map_cons, compL, if_pos (show gok none _ from trivial)]
      simp [-List.map_map, nb, ih]
      rfl
  have g := go p.hs 0 ok.hs
  have f1 := first_ok hm ok []
  simp [-List.map_map, F_begun, mkFn, B_begun, g, f1]
  simp [stP, begM, Function.comp_def]
theorem law_begun_ok (h : Hs) : callR F__law_begun [planP p] false h = some (.ok (.v (stP (begM p))) h) := by
  refine callR_v (h' := []) ?_
  have g : compL none (gNm 1) tYes' (eTup (eCons (eTup (eCons (eVar 1) (eCons (eC (.int 0)) eNil))) eNil)) (p.hs.map fun q => D.v (.int q)) [some (.v (planP p)), none] [] = some (p.hs.map (fun q => .v (pileP [(q, 0)])), []) :=
    compMap p.hs (fun q => .v (.int q)) _ _ (fun q => pileP [(q, 0)]) fun q _ => ⟨_, rfl, by simp; rfl⟩
  simp [F__law_begun, mkFn, B__law_begun, Function.comp_def, g]
  simp [stP, begM, Function.comp_def, storeP]
/-! ## all steps that can be done -/
end
def scP (x : Nat × Int) : PyData := .tuple [.int (x.1 : Int), .int x.2]
section
variable {m : Names} {p : Plan} {mp mr mh B : Nat} (hm : m.Ok) (ok : p.Ok mp mr mh) {s : StM} (hs : s.Ok p B) (hmh : mh ≤ 100)
include hm ok hs hmh
end
end Fs
set_option maxHeartbeats 4000000
namespace Fs
open PySem PySem.Spec PyProof.Rows L2 Vl
section
variable {m : Names} {p : Plan} {mp mr mh B : Nat} (ok : p.Ok mp mr mh) {s : StM} (hs : s.Ok p B)
include ok hs
theorem st_sh : Sh 4 (stP s) := sh_tup fun x hx => by
  simp only [List.mem_cons, List.not_mem_nil, or_false] at hx
  rcases hx with rfl | rfl
  · exact sh_tup (n := 2) fun y hy => by
      obtain ⟨v, _, rfl⟩ := List.mem_map.mp hy
      exact sh_int v
  · exact sh_tup (n := 2) fun y hy => by
      obtain ⟨v, _, rfl⟩ := List.mem_map.mp hy
      exact pile_sh v
end
theorem eqD_refl {neg : Bool} {n : Nat} {d : PyData} (hd : Sh n d) (hn : n ≤ 64) (h : Hs) : eqD neg (.v d) (.v d) h = some (.v (.bool (!neg))) := by
  rw [eqD_v (hd.shaped' hn) (hd.shaped' hn), eqv_refl hd.1]
  cases neg <;> rfl
section
variable {m : Names} {p : Plan} {mp mr mh B : Nat} (hm : m.Ok) (ok : p.Ok mp mr mh) {s : StM} (hs : s.Ok p B)
include hm ok hs
end
end Fs
set_option maxHeartbeats 4000000
namespace Fs
open PySem PySem.Spec PyProof.Rows L2 Vl
/-! ## the programs of the laws of steps -/
@[simp] theorem sc_items (x : Nat × Int) : itemsT (.v (scP x)) = some [.v (.int (x.1 : Int)), .v (.int x.2)] := rfl
end Fs
set_option maxHeartbeats 4000000
namespace Fs
open PySem PySem.Spec PyProof.Rows L2 Vl
/-! ## weavings -/
/-- the choice that a thing is -/
def chOf (p : Plan) (s : StM) (hand : Nat) : PyData → Option Int
  | .int c => if c ∈ chsM p s hand then some c else none
  | _ => none
/-- a turn: the state behind it, or the number of the choice that can't be done -/
def turnM (p : Plan) (hand : Nat) : List PyData → Nat → StM → StM ⊕ Nat
  | [], _, s => .inl s
  | d :: r, k, s => match chOf p s hand d with
    | some c => turnM p hand r (k + 1) (stepM p s hand c)
    | none => .inr k
def roundM (p : Plan) : List (List PyData) → Nat → StM → StM ⊕ (Nat × Nat)
  | [], _, s => .inl s
  | t :: r, hand, s => match turnM p hand t 0 s with
    | .inl s1 => roundM p r (hand + 1) s1
    | .inr k => .inr (hand, k)
/-- the states behind the rounds -/
def weaveM (p : Plan) : List (List (List PyData)) → Nat → StM → List StM ⊕ (Nat × Nat × Nat)
  | [], _, _ => .inl []
  | t :: r, a, s => match roundM p t 0 s with
    | .inr (hand, k) => .inr (a, hand, k)
    | .inl s1 => match weaveM p r (a + 1) s1 with
      | .inr x => .inr x
      | .inl ss => .inl (s1 :: ss)
def manyM : List (List PyData) → Nat
  | [] => 0
  | t :: r => t.length + manyM r
def manyW : List (List (List PyData)) → Nat
  | [] => 0
  | t :: r => manyM t + manyW r
def roundP (t : List (List PyData)) : PyData := .list (t.map .list)
def weaveP (w : List (List (List PyData))) : PyData := .list (w.map roundP)
section
variable {m : Names} {p : Plan} {mp mr mh : Nat} (hm : m.Ok) (ok : p.Ok mp mr mh) (hmp : mp ≤ 20) (hmh : mh ≤ 100)
include hm ok hmp hmh
end
end Fs
set_option maxHeartbeats 4000000
namespace Fs
open PySem PySem.Spec PyProof.Rows L2 Vl
section
variable {m : Names} {p : Plan} {mp mr mh : Nat} (hm : m.Ok) (ok : p.Ok mp mr mh) (hmp : mp ≤ 20) (hmh : mh ≤ 100)
include hm ok hmp hmh
end
end Fs
set_option maxHeartbeats 4000000
namespace Fs
open PySem PySem.Spec PyProof.Rows L2 Vl
/-! ## marks -/
section
variable {m : Names} {p : Plan} {mp mr mh : Nat} (hm : m.Ok) (ok : p.Ok mp mr mh)
include hm ok
end
end Fs
set_option maxHeartbeats 4000000
namespace Fs
open PySem PySem.Spec PyProof.Rows L2 Vl
section
variable {m : Names} {p : Plan} {mp mr mh B : Nat} (hm : m.Ok) (ok : p.Ok mp mr mh)
include hm ok
end
@[simp] theorem st_ix1 (s : StM) (h : Hs) : ixD (.v (stP s)) (.v (.int 1)) h = some (.v (.tuple (s.piles.map pileP))) := rfl
@[simp] theorem st_ix0 (s : StM) (h : Hs) : ixD (.v (stP s)) (.v (.int 0)) h = some (.v (storeP s.store)) := rfl
section
variable {m : Names} {p : Plan} {mp mr mh : Nat} (hm : m.Ok) (ok : p.Ok mp mr mh) (hmp : mp ≤ 20) (hmh : mh ≤ 100)
include hm ok hmp hmh
end
end Fs
set_option maxHeartbeats 4000000
namespace Fs
open PySem PySem.Spec PyProof.Rows L2 Vl
/-! ## ranges with a step -/
/-! ## the heap of a weaving that is being made -/
def wI (w : List (List (List Int))) : List (List (List PyData)) := w.map fun t => t.map fun x => x.map PyData.int
end Fs
set_option maxHeartbeats 4000000
namespace Fs
open PySem PySem.Spec PyProof.Rows L2 Vl
theorem wI_len (w : List (List (List Int))) : (wI w).length = w.length := by simp [wI]
section
variable {m : Names} {p : Plan} {mp mr mh : Nat} (hm : m.Ok) (ok : p.Ok mp mr mh) (hmh : mh ≤ 100)
include hm ok hmh
end
end Fs
set_option maxHeartbeats 4000000
namespace Fs
open PySem PySem.Spec PyProof.Rows L2 Vl
section
variable {m : Names} {p : Plan} {mp mr mh : Nat} (hm : m.Ok) (ok : p.Ok mp mr mh) (hmh : mh ≤ 100)
include hm ok hmh
end
end Fs
set_option maxHeartbeats 4000000
namespace Fs
open PySem PySem.Spec PyProof.Rows L2 Vl
section
variable {m : Names} {p : Plan} {mp mr mh : Nat} (hm : m.Ok) (ok : p.Ok mp mr mh) (hmh : mh ≤ 100)
include hm ok hmh
end
end Fs
set_option maxHeartbeats 4000000
namespace Fs
open PySem PySem.Spec PyProof.Rows L2 Vl
/-- a weaving that can be done, of turns of at most mo choices -/
structure WOk (p : Plan) (mo : Nat) (w : List (List (List Int))) (ss : List StM) : Prop where
  can : weaveM p (wI w) 0 (begM p) = .inl ss
  len : ∀ t ∈ w, t.length = p.hs.length
  most : ∀ t ∈ w, ∀ x ∈ t, x.length ≤ mo
section
variable {m : Names} {p : Plan} {mp mr mh : Nat} (hm : m.Ok) (ok : p.Ok mp mr mh) (hmh : mh ≤ 10)
include hm ok hmh
end
end Fs
set_option maxHeartbeats 4000000
namespace Fs
open PySem PySem.Spec PyProof.Rows L2 Vl
/-! ## refusals that are caught -/
theorem try_ex {anc : Anc} {t c : Str} {as : List Str} {i : Nat} {b su : SM} {s s1 s2 : Sl} {h h1 h2 : Hs} {fs : List (Str × PyData)} (e : b s h = some (.ex s1 ⟨c, fs.map fun f => (f.1, .v f.2)⟩ h1)) (ha : anc.lookup c = some as) (ht : t ∈ as)
    (hs : su (s1.set i (some (.exc c fs))) h1 = some (.nx s2 h2)) : sTry anc t i b su s h = some (.nx (s2.set i none) h2) := by
  unfold sTry
  rw [e]
  have e1 : (fs.map fun f => ((f.1, D.v f.2) : Str × D)).map (·.2) = (fs.map (·.2)).map D.v := by simp [Function.comp_def]
  have e2 : (fs.map fun f => ((f.1, D.v f.2) : Str × D)).map (·.1) = fs.map (·.1) := by simp [Function.comp_def]
  have e3 : (fs.map (·.1)).zip (fs.map (·.2)) = fs := by
    clear e hs e1 e2
    induction fs with
    | nil => rfl
    | cons f r ih =>
      simp only [List.map_cons, List.zip_cons_cons]
      rw [ih]
  simp only [ha, ht, if_true, e1, e2, unvs_map, e3, hs]
theorem anc_has (c : Str) (h : c ∈ (["NoProgram", "NoText", "NoStep", "NoMark", "NoRun", "NoNames", "TooMany", "TooLong", "Bare", "NoRow", "NoName"] : List Str)) : ∃ as, ANC.lookup c = some as ∧ ("HandError" : Str) ∈ as := by
  simp only [List.mem_cons, List.not_mem_nil, or_false] at h
  rcases h with rfl | rfl | rfl | rfl | rfl | rfl | rfl | rfl | rfl | rfl | rfl <;> exact ⟨_, rfl, by decide⟩
@[simp] theorem z_isx (ts : List Str) (f : EM) (s : Sl) (h : Hs) : eIsX ANC ts f s h = match f s h with
  | some (.ok d h1) => (match isXs ANC ts d with
    | some b => some (.ok (.v (.bool b)) h1)
    | none => none)
  | some (.ex x h1) => some (.ex x h1)
  | none => none := by
  unfold eIsX EM.bind EM.lift
  cases f s h with
  | none => rfl
  | some r =>
    cases r with
    | ex x h1 => rfl
    | ok d h1 =>
      simp only
      cases isXs ANC ts d <;> rfl
@[simp] theorem z_isv (f : EM) (s : Sl) (h : Hs) : eIsV ANC f s h = match f s h with
  | some (.ok d h1) => (match isXv ANC d with
    | some b => some (.ok (.v (.bool b)) h1)
    | none => none)
  | some (.ex x h1) => some (.ex x h1)
  | none => none := by
  unfold eIsV EM.bind EM.lift
  cases f s h with
  | none => rfl
  | some r =>
    cases r with
    | ex x h1 => rfl
    | ok d h1 =>
      simp only
      cases isXv ANC d <;> rfl
@[simp] theorem z_fldx (n : Str) (f : EM) (s : Sl) (h : Hs) : eFldX ANC n f s h = match f s h with
  | some (.ok d h1) => (match fldX ANC n d with
    | some z => some (.ok z h1)
    | none => none)
  | some (.ex x h1) => some (.ex x h1)
  | none => none := rfl
section
variable {m : Names} {p : Plan} {mp mr mh : Nat} (hm : m.Ok) (ok : p.Ok mp mr mh) (hmp : mp ≤ 20) (hmh : mh ≤ 100)
include hm ok hmp hmh
end
end Fs
set_option maxHeartbeats 4000000
namespace Fs
open PySem PySem.Spec PyProof.Rows L2 Vl
section
variable {m : Names} {p : Plan} {mp mr mh : Nat} (hm : m.Ok) (ok : p.Ok mp mr mh)
include hm ok
end
end Fs
set_option maxHeartbeats 4000000
namespace Fs
open PySem PySem.Spec PyProof.Rows L2 Vl
section
variable {p : Plan} {mp mr mh B : Nat} (ok : p.Ok mp mr mh) {s : StM} (hs : s.Ok p B)
include ok hs
end
end Fs
set_option maxHeartbeats 4000000
namespace Fs
open PySem PySem.Spec PyProof.Rows L2 Vl
/-! ## calls that are handed cells -/
/-! ## a weaving cut off -/
/-- the weaving up to a round, of which a hand's turn is cut off -/
def cutW (w : List (List (List PyData))) (a hand n nh : Nat) : List (List (List PyData)) := w.take a ++ [((w[a]?).getD []).take hand ++ [((((w[a]?).getD [])[hand]?).getD []).take n] ++ List.replicate (nh - (hand + 1)) []]
end Fs
set_option maxHeartbeats 4000000
namespace Fs
open PySem PySem.Spec PyProof.Rows L2 Vl
/-! ## the law's own look -/
@[simp] theorem law_whole_ok (d : PyData) (lo hi : Int) (h : Hs) : callR F__law_whole [d, .int lo, .int hi] false h = some (.ok (.v (.bool (isIn lo hi d))) h) := by
  refine callR_b (h' := []) ?_
  cases d with
  | int i =>
    by_cases q : lo ≤ i <;> by_cases q2 : i < hi <;> simp [F__law_whole, mkFn, B__law_whole, isIn, q, q2]
  | _ => simp [F__law_whole, mkFn, B__law_whole, isIn]
@[simp] theorem law_is_name_ok {n : Nat} {d : PyData} (hd : Dt n d) (h : Hs) : callR F__law_is_name [d] false h = some (.ok (.v (.bool (isNm d))) h) := by
  refine callR_b (h' := []) ?_
  cases d with
  | str z =>
    by_cases q : 1 ≤ z.length ∧ z.length < 9
    · have hl : (z.length ≤ sizeLine) = True := sz (by omega)
      have q1 : ((1 : Int) ≤ (z.length : Int) ∧ (z.length : Int) < 9) := by omega
      have cc : compL none (gNm 1) (tBl (eNin (eVar 1) (eC (.str "abcdefghijklmnopqrstuvwxyz")))) (eVar 1) (signsD z) [some (.v (.str z)), none] [] = some (((z.cps.toList.filter fun c => !decide (c ∈ abc.cps.toList)).map fun c => PyData.str ⟨#[c]⟩).map .v, []) :=
        compSigns z (gNm 1) _ _ (fun c => !decide (c ∈ abc.cps.toList)) (fun c => .str ⟨#[c]⟩) fun c => ⟨_, rfl, by simp [ngt], fun _ => by simp⟩
      have e2 : ((z.cps.toList.filter fun c => !decide (c ∈ abc.cps.toList)).map fun c => PyData.str ⟨#[c]⟩).isEmpty = z.cps.toList.all (fun c => decide (c ∈ abc.cps.toList)) := by
        rw [Bool.eq_iff_iff, List.isEmpty_iff, List.map_eq_nil_iff, List.filter_eq_nil_iff, List.all_eq_true]
        constructor
        · intro h x hx
          have := h x hx
          cases q : decide (x ∈ abc.cps.toList) with
          | true => rfl
          | false => rw [q] at this; exact absurd rfl this
        · intro h x hx
          rw [h x hx]
          exact Bool.false_ne_true
      have hsh : ∀ y ∈ ((z.cps.toList.filter fun c => !decide (c ∈ abc.cps.toList)).map fun c => PyData.str ⟨#[c]⟩), Sh 0 y := fun y hy => by
        obtain ⟨c, hc, rfl⟩ := List.mem_map.mp hy
        have hz := hd.str.1
        exact sh_str fun x hx => by
          have hx : x = c := by simpa using hx
          rw [hx]
          exact hz c (List.mem_filter.mp hc).1
      generalize ((z.cps.toList.filter fun c => !decide (c ∈ abc.cps.toList)).map fun c => PyData.str ⟨#[c]⟩) = L at cc e2 hsh
      have e : eqD false (.v (.list L)) (.v (.list [])) [] = some (.v (.bool (ngt false L.isEmpty))) := eq_nil (n := 0) (by decide) hsh []
      rw [e2] at e
      have e3 : isName z = z.cps.toList.all (fun c => decide (c ∈ abc.cps.toList)) := by
        unfold isName
        rw [decide_eq_true q.1, decide_eq_true (show z.length ≤ 8 by omega)]
        rfl
      rw [← e3] at e
      simp [-List.map_map, F__law_is_name, mkFn, B__law_is_name, inRg, q1, hl, cc, e, ngt, isNm]
    · have e3 : isName z = false := by
        unfold isName
        by_cases q1 : 1 ≤ z.length
        · rw [decide_eq_false (show ¬ z.length ≤ 8 by omega), Bool.and_false]
          rfl
        · rw [decide_eq_false q1]
          rfl
      have q1 : ¬ ((1 : Int) ≤ (z.length : Int) ∧ (z.length : Int) < 9) := by omega
      have hl : (z.length ≤ sizeLine) = True := sz (by have := hd.str.2; omega)
      simp [F__law_is_name, mkFn, B__law_is_name, inRg, q1, isNm, e3, hl]
  | _ => simp [F__law_is_name, mkFn, B__law_is_name, isNm]
end Fs
set_option maxHeartbeats 4000000
namespace Fs
open PySem PySem.Spec PyProof.Rows L2 Vl
end Fs
set_option maxHeartbeats 4000000
namespace Fs
open PySem PySem.Spec PyProof.Rows L2 Vl
/-! ## procedures -/
end Fs
set_option maxHeartbeats 4000000
namespace Fs
open PySem PySem.Spec PyProof.Rows L2 Vl
/-! ## hands -/
end Fs
set_option maxHeartbeats 4000000
namespace Fs
open PySem PySem.Spec PyProof.Rows L2 Vl
/-! ## rows -/
def named (bs : List PyData) (z : Str) : List PyData := bs.filter fun b => decide (nmOf b = z)
section
variable {bs ps hs : List PyData} (hb : ∀ b ∈ bs, isBx b = true)
include hb
end
end Fs
set_option maxHeartbeats 4000000
namespace Fs
open PySem PySem.Spec PyProof.Rows L2 Vl
theorem depth_mem : ∀ (xs : List PyData) (x : PyData), x ∈ xs → x.depth ≤ PyData.depthAll xs
  | [], x, h => by cases h
  | y :: r, x, h => by
    rw [PyData.depthAll]
    rcases List.mem_cons.mp h with rfl | h
    · exact Nat.le_max_left _ _
    · exact Nat.le_trans (depth_mem r x h) (Nat.le_max_right _ _)
end Fs
set_option maxHeartbeats 1000000
namespace Fs
open PySem PySem.Spec PyProof.Rows L2 Vl
section
variable {bs ps hs : List PyData} (hb : ∀ b ∈ bs, isBx b = true) (hp : ∀ b ∈ ps, isPr b = true) (hhl : hs.length ≤ 100000)
include hb hp hhl
end
end Fs
set_option maxHeartbeats 1000000
namespace Fs
open PySem PySem.Spec PyProof.Rows L2 Vl
section
variable {bs ps hs : List PyData} (hb : ∀ b ∈ bs, isBx b = true) (hp : ∀ b ∈ ps, isPr b = true) (hhl : hs.length ≤ 100000)
include hb hp hhl
end
end Fs
set_option maxHeartbeats 1000000
namespace Fs
open PySem PySem.Spec PyProof.Rows L2 Vl
@[simp] theorem cp_3 (a b c : PyData) : cutP [a, b, c] (some 2) (some (-1)) = [] := rfl
@[simp] theorem cp_4 (a b c d : PyData) : cutP [a, b, c, d] (some 2) (some (-1)) = [c] := rfl
@[simp] theorem cp_5 (a b c d e : PyData) : cutP [a, b, c, d, e] (some 2) (some (-1)) = [c, d] := rfl
section
variable {bs ps hs : List PyData} (hb : ∀ b ∈ bs, isBx b = true) (hp : ∀ b ∈ ps, isPr b = true) (hhl : hs.length ≤ 100000)
include hb hp hhl
end
end Fs
set_option maxHeartbeats 1000000
namespace Fs
open PySem PySem.Spec PyProof.Rows L2 Vl
section
variable {bs ps hs : List PyData} (hb : ∀ b ∈ bs, isBx b = true) (hp : ∀ b ∈ ps, isPr b = true) (hhl : hs.length ≤ 100000)
include hb hp hhl
end
/-! ### the program's look at such rows -/
end Fs
set_option maxHeartbeats 1000000
namespace Fs
open PySem PySem.Spec PyProof.Rows L2 Vl
section
variable {bs ps hs : List PyData} (hb : ∀ b ∈ bs, isBx b = true) (hp : ∀ b ∈ ps, isPr b = true) (hhl : hs.length ≤ 100000)
include hb hp hhl
end
end Fs
set_option maxHeartbeats 1000000
namespace Fs
open PySem PySem.Spec PyProof.Rows L2 Vl
/-- what the law's look tells -/
def dueT (d : PyData) : PyData := match due d with
  | none => .none
  | some (s, n, r) => .tuple [.str s, n, r]
section
variable {bs ps hs : List PyData} (hb : ∀ b ∈ bs, isBx b = true) (hp : ∀ b ∈ ps, isPr b = true) (hhl : hs.length ≤ 100000) {k n : Nat} (hk : k ≤ 60)
include hb hp hhl hk
end
theorem Sh.elL {k : Nat} {xs : List PyData} (h : Sh k (.list xs)) : ∀ x ∈ xs, Sh k x := by
  intro x hx
  obtain ⟨h1, h2⟩ := h
  refine ⟨PyData.canLay0_of_mem xs x (by simpa [PyData.canLay0] using h1) hx, ?_⟩
  have := depth_mem xs x hx
  rw [PyData.depth] at h2
  omega
end Fs
set_option maxHeartbeats 1000000
namespace Fs
open PySem PySem.Spec PyProof.Rows L2 Vl
def numb : PyData → Prop
  | .none => True
  | .int _ => True
  | _ => False
def partOk (s : Str) : Prop := s = Str.ofString "program" ∨ s = Str.ofString "boxes" ∨ s = Str.ofString "procs" ∨ s = Str.ofString "rows" ∨ s = Str.ofString "hands"
theorem due_vals {d : PyData} {s : Str} {k r : PyData} (h : due d = some (s, k, r)) : numb k ∧ numb r ∧ partOk s := by
  unfold due at h
  split at h
  · split at h
    · split at h
      · cases h; exact ⟨trivial, trivial, .inr (.inl rfl)⟩
      · split at h
        · split at h
          · cases h; exact ⟨trivial, trivial, .inr (.inr (.inl rfl))⟩
          · split at h
            · cases h; exact ⟨trivial, trivial, .inr (.inr (.inr (.inl rfl)))⟩
            · split at h
              · split at h
                · cases h; exact ⟨trivial, trivial, .inr (.inr (.inr (.inr rfl)))⟩
                · cases h
              · cases h; exact ⟨trivial, trivial, .inr (.inr (.inr (.inr rfl)))⟩
        · cases h; exact ⟨trivial, trivial, .inr (.inr (.inl rfl))⟩
    · cases h; exact ⟨trivial, trivial, .inr (.inl rfl)⟩
  · cases h; exact ⟨trivial, trivial, .inl rfl⟩
theorem numb_sh {d : PyData} (h : numb d) {n : Nat} : Sh n d := by
  cases d with
  | none => exact sh_none
  | int i => exact sh_int i
  | _ => exact h.elim
theorem part_sh {s : Str} (h : partOk s) {n : Nat} : Sh n (.str s) := by
  have : okS s := by
    rcases h with rfl | rfl | rfl | rfl | rfl <;> (unfold okS; decide +kernel)
  exact sh_str this
theorem due_sh (d : PyData) : Sh 2 (.list [dueT d, .bool true]) := by
  have : Sh 1 (dueT d) := by
    unfold dueT
    cases e : due d with
    | none => exact sh_none
    | some x =>
      obtain ⟨s, k, r⟩ := x
      obtain ⟨h1, h2, h3⟩ := due_vals e
      exact sh_tup (n := 0) fun y hy => by
        simp only [List.mem_cons, List.not_mem_nil, or_false] at hy
        rcases hy with rfl | rfl | rfl
        · exact part_sh h3
        · exact numb_sh h1
        · exact numb_sh h2
  exact sh_list (n := 1) fun y hy => by
    simp only [List.mem_cons, List.not_mem_nil, or_false] at hy
    rcases hy with rfl | rfl
    · exact this
    · exact sh_bool _
theorem rp_sh {k b : Nat} {d : PyData} (h : Rp k b d) : Sh k d := ⟨h.1, h.2.2.1⟩
end Fs
set_option maxHeartbeats 4000000
namespace Fs
open PySem PySem.Spec PyProof.Rows L2 Vl
theorem rp_bool {k : Nat} {b : Bool} : Rp k 10 (.bool b) := ⟨rfl, rfl, Nat.zero_le _, by cases b <;> decide⟩
/-- a row's things -/
structure RowL (ys : List PyData) : Prop where
  two : ∃ a b r, ys = a :: b :: r
  len : ys.length ≤ 5
  rp : ∀ y ∈ ys, Rp 1 100 y
  last : ∃ i l, ys = i ++ [l] ∧ ((∃ j : Int, l = .int j) ∨ ∃ ts, l = .tuple ts ∧ ts ≠ [] ∧ ts.length ≤ 6 ∧ ∀ t ∈ ts, Rp 0 10 t)
end Fs
set_option maxHeartbeats 4000000
namespace Fs
open PySem PySem.Spec PyProof.Rows L2 Vl
theorem atI_sat {α : Type} {P : α → Prop} {xs : List α} {i : Int} (h0 : 0 ≤ i) (h1 : i < xs.length) (h : ∀ x ∈ xs, P x) : ∃ x, atI xs i = some x ∧ P x := by
  obtain ⟨x, e, m, _⟩ := atI_in h0 h1
  exact ⟨x, e, h x m⟩
end Fs
set_option maxHeartbeats 1000000
namespace Fs
open PySem PySem.Spec PyProof.Rows L2 Vl
end Fs
set_option maxHeartbeats 2000000
namespace Fs
open PySem PySem.Spec PyProof.Rows L2 Vl
theorem rp_of_all {k b : Nat} : ∀ {xs : List PyData}, PyData.canLayAll0 xs = true → PyData.showableAll xs = true → PyData.depthAll xs ≤ k → (∀ x ∈ xs, x.shown.length ≤ b) → ∀ x ∈ xs, Rp k b x
  | [], _, _, _, _, x, hx => by cases hx
  | y :: ys, h1, h2, h3, h4, x, hx => by
    rw [PyData.canLayAll0, Bool.and_eq_true] at h1
    rw [PyData.showableAll, Bool.and_eq_true] at h2
    rw [PyData.depthAll] at h3
    have h3' := Nat.max_le.mp h3
    rcases List.mem_cons.mp hx with e | hx
    · rw [e]
      exact ⟨h1.1, h2.1, h3'.1, h4 y List.mem_cons_self⟩
    · exact rp_of_all h1.2 h2.2 h3'.2 (fun z hz => h4 z (List.mem_cons_of_mem _ hz)) x hx
theorem Rp.inT {k b : Nat} {xs : List PyData} (h : Rp (k + 1) b (.tuple xs)) : ∀ x ∈ xs, Rp k b x := by
  obtain ⟨h1, h2⟩ := tuple_text_ge (PyData.shownAll xs)
  have h3 : (tupleText (PyData.shownAll xs)).length ≤ b := h.2.2.2
  rw [shownAll_eq] at h1 h2 h3
  exact rp_of_all h.1 h.2.1 (Nat.le_of_succ_le_succ h.2.2.1) (fun y hy => Nat.le_trans (h2 _ (List.mem_map_of_mem hy)) h3)
/-- a thing told and looked at within bounds -/
def Bd (k b : Nat) (d : PyData) : Prop := Rp k b d ∧ Dt k d
theorem dt_mono : ∀ {k j : Nat} {d : PyData}, Dt k d → k ≤ j → Dt j d
  | k, j, .none, _, _ => by cases j <;> trivial
  | k, j, .bool _, _, _ => by cases j <;> trivial
  | k, j, .int _, _, _ => by cases j <;> trivial
  | k, j, .dict _, _, _ => by cases j <;> trivial
  | k, j, .str z, h, _ => by
    have : Tx 100000 z := h.str
    cases j <;> exact this
  | 0, j, .list xs, h, _ => h.elim
  | 0, j, .tuple xs, h, _ => h.elim
  | k + 1, 0, .list xs, h, hj => by omega
  | k + 1, 0, .tuple xs, h, hj => by omega
  | k + 1, j + 1, .list xs, h, hj => ⟨h.1, fun x hx => dt_mono (h.2 x hx) (by omega)⟩
  | k + 1, j + 1, .tuple xs, h, hj => ⟨h.1, fun x hx => dt_mono (h.2 x hx) (by omega)⟩
theorem Bd.mono {k k' b b' : Nat} {d : PyData} (h : Bd k b d) (hk : k ≤ k') (hb : b ≤ b') : Bd k' b' d := ⟨h.1.mono hk hb, dt_mono h.2 hk⟩
theorem modN {n : Nat} (h : 0 < n) (d : Int) : ∃ k : Nat, d % (n : Int) = k ∧ k < n := ⟨(d % (n : Int)).toNat, by
    have := Int.emod_nonneg d (show (n : Int) ≠ 0 by omega)
    omega, by
    have := Int.emod_lt_of_pos d (show 0 < (n : Int) by omega)
    omega⟩
end Fs
set_option maxHeartbeats 4000000
namespace Fs
open PySem PySem.Spec PyProof.Rows L2 Vl
/-! ## law 04: the law's own look at anything -/
end Fs
set_option maxHeartbeats 4000000
namespace Fs
open PySem PySem.Spec PyProof.Rows L2 Vl
mutual
theorem dct_lay : ∀ d : PyData, d.canLay0 = true → dctE d = true
  | .none, _ => rfl
  | .bool _, _ => rfl
  | .int _, _ => rfl
  | .str _, _ => rfl
  | .list ds, h => dcts_lay ds h
  | .tuple ds, h => dcts_lay ds h
  | .dict _, h => by simp [PyData.canLay0] at h
theorem dcts_lay : ∀ ds : List PyData, PyData.canLayAll0 ds = true → dctEs ds = true
  | [], _ => rfl
  | d :: ds, h => by
    rw [PyData.canLayAll0, Bool.and_eq_true] at h
    rw [dctEs, dct_lay d h.1, dcts_lay ds h.2]
    rfl
end
/-- to be told and looked at, empty dicts and all -/
def BQ (k b : Nat) (d : PyData) : Prop := (dctE d = true ∧ d.showable = true ∧ d.depth ≤ k ∧ d.shown.length ≤ b) ∧ Dt k d
theorem BQ.mono {k k' b b' : Nat} {d : PyData} (h : BQ k b d) (hk : k ≤ k') (hb : b ≤ b') : BQ k' b' d := ⟨⟨h.1.1, h.1.2.1, Nat.le_trans h.1.2.2.1 hk, Nat.le_trans h.1.2.2.2 hb⟩, dt_mono h.2 hk⟩
theorem bq_rp {k b : Nat} {d : PyData} (h : Rp k b d) (hb : b ≤ 90000 := by decide) : BQ k b d := ⟨⟨dct_lay d h.1, h.2⟩, rp_dt h hb⟩
theorem bq_dict {k : Nat} : BQ (k + 1) 2 (.dict []) := ⟨⟨rfl, rfl, Nat.succ_le_succ (Nat.zero_le _), by decide +kernel⟩, trivial⟩
theorem bq_all {k b : Nat} : ∀ {xs : List PyData}, (∀ x ∈ xs, BQ k b x) → dctEs xs = true ∧ PyData.showableAll xs = true ∧ PyData.depthAll xs ≤ k ∧ piled (PyData.shownAll xs) ≤ xs.length * (b + 2)
  | [], _ => ⟨rfl, rfl, Nat.zero_le _, Nat.zero_le _⟩
  | x :: xs, h => by
    obtain ⟨⟨h1, h2, h3, h4⟩, _⟩ := h x List.mem_cons_self
    obtain ⟨a1, a2, a3, a4⟩ := bq_all (xs := xs) fun y hy => h y (List.mem_cons_of_mem _ hy)
    refine ⟨by rw [dctEs, h1, a1]; rfl, by rw [PyData.showableAll, h2, a2]; rfl, by rw [PyData.depthAll]; exact Nat.max_le.mpr ⟨h3, a3⟩, ?_⟩
    rw [PyData.shownAll, piled_cons, List.length_cons, Nat.succ_mul]
    omega
theorem bq_list {k b n c : Nat} {xs : List PyData} (hl : xs.length ≤ n) (hn : n ≤ 1000) (h : ∀ x ∈ xs, BQ k b x) (hc : n * (b + 2) + 3 ≤ c) : BQ (k + 1) c (.list xs) := by
  obtain ⟨a1, a2, a3, a4⟩ := bq_all h
  refine ⟨⟨a1, a2, Nat.succ_le_succ a3, ?_⟩, ⟨by omega, fun x hx => (h x hx).2⟩⟩
  show (listText (PyData.shownAll xs)).length ≤ _
  unfold listText
  rw [strLen_append]
  have := text_from (PyData.shownAll xs) 0 "["
  have e1 : (Str.ofString "[").length = 1 := rfl
  have e2 : (Str.ofString "]").length = 1 := rfl
  have := Nat.mul_le_mul_right (b + 2) hl
  omega
theorem bq_tup {k b n c : Nat} {xs : List PyData} (hl : xs.length ≤ n) (hn : n ≤ 1000) (h : ∀ x ∈ xs, BQ k b x) (hc : n * (b + 2) + 3 ≤ c) : BQ (k + 1) c (.tuple xs) := by
  obtain ⟨a1, a2, a3, a4⟩ := bq_all h
  refine ⟨⟨a1, a2, Nat.succ_le_succ a3, ?_⟩, ⟨by omega, fun x hx => (h x hx).2⟩⟩
  show (tupleText (PyData.shownAll xs)).length ≤ _
  unfold tupleText
  rw [strLen_append, strLen_append]
  have e1 : (Str.ofString "(").length = 1 := rfl
  have e2 : (Str.ofString (if (PyData.shownAll xs).length == 1 then ",)" else ")")).length ≤ 2 := by
    split <;> decide
  have := Nat.mul_le_mul_right (b + 2) hl
  by_cases he : PyData.shownAll xs = []
  · rw [he]
    have e3 : (Str.join ", " ([] : List Str)).length = 0 := rfl
    have e4 : (Str.ofString (if ([] : List Str).length == 1 then ",)" else ")")).length = 1 := rfl
    omega
  · have := join_length_add _ he
    omega
theorem repr04 {k b : Nat} {d : PyData} {h : Hs} (hd : BQ k b d) (hk : k ≤ 60) (hb : b < 10000000) (hi : isDis2 d = true) : repr2D [.v d] h = some (.v (.str d.shown)) := by
  obtain ⟨⟨q1, q2, q3, q4⟩, _⟩ := hd
  have h1 : d.depth ≤ 64 := by omega
  have h2 : d.shown.length ≤ sizeLine := Nat.le_of_lt (lt_line (by omega))
  simp only [repr2D, frz_v, q1, hi, q2, h1, h2, decide_true, Bool.and_self, if_true]
/-- what the law's right looks at -/
structure R04 (d : PyData) : Prop where
  bq : BQ 8 900000 d
  di : isDis2 d = true
  sh : ∀ bs ps hs, d = .tuple [.list bs, .list ps, .list hs] → ∀ p ∈ ps, isPr p = true → ∀ x ∈ rwOf p, Sh 60 x
end Fs
set_option maxHeartbeats 4000000
namespace Fs
open PySem PySem.Spec PyProof.Rows L2 Vl
/-- what may stand in a part -/
def PQ (d : PyData) : Prop := BQ 5 29000 d ∧ ∀ z r, d = .tuple [.str z, .list r] → ∀ y ∈ r, Sh 60 y
theorem pq_of {k b : Nat} {d : PyData} (h : BQ k b d) (hk : k ≤ 5) (hb : b ≤ 29000) (hs : ∀ z r, d = .tuple [.str z, .list r] → ∀ y ∈ r, Sh 60 y) : PQ d := ⟨h.mono hk hb, hs⟩
theorem pq_no {k b : Nat} {d : PyData} (h : BQ k b d) (hk : k ≤ 5) (hb : b ≤ 29000) (hs : ∀ z r, d ≠ .tuple [.str z, .list r]) : PQ d := ⟨h.mono hk hb, fun z r e => absurd e (hs z r)⟩
theorem bq_str {n : Nat} {z : Str} (h : Tx n z) (hn : n ≤ 30) : BQ 0 302 (.str z) := bq_rp ((rp_str h).mono (Nat.le_refl _) (by omega))
theorem bq_int {i : Int} (h0 : -1000 ≤ i) (h1 : i ≤ 1000) : BQ 0 302 (.int i) := bq_rp ((ints_small (by omega) (by omega)).mono (Nat.le_refl _) (by decide))
theorem bq_none : BQ 0 302 .none := bq_rp (rp_none.mono (Nat.le_refl _) (by decide))
theorem bq_bool (b : Bool) : BQ 0 302 (.bool b) := bq_rp (rp_bool.mono (Nat.le_refl _) (by decide))
theorem bq_t4 {xs : List PyData} (hl : xs.length ≤ 4) (h : ∀ x ∈ xs, BQ 1 612 x) : BQ 2 3000 (.tuple xs) := bq_tup hl (by decide) h (by decide)
theorem bq_l4 {xs : List PyData} (hl : xs.length ≤ 4) (h : ∀ x ∈ xs, BQ 1 612 x) : BQ 2 3000 (.list xs) := bq_list hl (by decide) h (by decide)
theorem bq1 {d : PyData} (h : BQ 0 302 d) : BQ 1 612 d := h.mono (by decide) (by decide)
theorem bq_l1 {d : PyData} (h : BQ 0 302 d) : BQ 1 612 (.list [d]) := bq_list (n := 1) (by simp) (by decide) (by simpa using h) (by decide)
theorem bq_u1 {d : PyData} (h : BQ 0 302 d) : BQ 1 612 (.tuple [d]) := bq_tup (n := 1) (by simp) (by decide) (by simpa using h) (by decide)
theorem bq_d1 : BQ 1 612 (.dict []) := (bq_dict (k := 0)).mono (Nat.le_refl _) (by decide)
theorem txLit (s : String) (n : Nat) (h : okS (Str.ofString s) ∧ (Str.ofString s).length ≤ n) : Tx n (Str.ofString s) := h
/-- boxes put otherwise -/
theorem odd_box_ok {z : Str} {w f : Int} (hz : Tx 8 z) (hw : 0 ≤ w ∧ w ≤ 1000) (hf : 0 ≤ f ∧ f ≤ 1000) {j : Int} (h0 : 0 ≤ j) (h1 : j < 22) : ∃ x, (∀ h, callR F__law_odd_box [.tuple [.str z, .int w, .int f], .int j] false h = some (.ok (.v x) h)) ∧ PQ x := by
  have tl : Tx 16 (z ++ ("toolongs" : Str)) := tx_app hz (txLit "toolongs" 8 (by unfold okS; decide +kernel))
  have tA : Tx 9 (("A" : Str) ++ cutS z (some 1) none) := tx_app (txLit "A" 1 (by unfold okS; decide +kernel)) (tx_cut _ _ hz)
  have t0 : Tx 0 ("" : Str) := txLit "" 0 (by unfold okS; decide +kernel)
  have t2 : Tx 1 ("2" : Str) := txLit "2" 1 (by unfold okS; decide +kernel)
  have bz := bq_str hz (by decide)
  have bl := bq_str tl (by decide)
  have bA := bq_str tA (by decide)
  have b0 := bq_str t0 (by decide)
  have b2 := bq_str t2 (by decide)
  have bw := bq_int (i := w) (by omega) (by omega)
  have bf := bq_int (i := f) (by omega) (by omega)
  have it : ∀ i : Int, -1 ≤ i ∧ i ≤ 7 → BQ 1 612 (.int i) := fun i h => bq1 (bq_int (by omega) (by omega))
  obtain ⟨x, ex, hx⟩ := atI_sat (P := PQ) (xs := [.tuple [.str "", .int w, .int f], .tuple [.str (z ++ "toolongs"), .int w, .int f], .tuple [.str ("A" ++ cutS z (some 1) none), .int w, .int f], .tuple [.str z, .int 1, .int 0],
    .tuple [.str z, .int 7, .int f], .tuple [.str z, .int w, .int w], .tuple [.str z, .int w, .int (-1)], .tuple [.str z, .bool true, .int 0], .tuple [.str z, .int w, .none],
    .list [.str z, .int w, .int f], .tuple [.str z, .int w], .tuple [.str z, .int w, .int f, .int 0], .none, .str z, .tuple [.none, .int w, .int f],
    .tuple [.str z, .int 6, .int 5], .tuple [.str z, .int 2, .bool true], .tuple [.str z, .int w, .int 0], .tuple [.str z, .str "2", .int f], .tuple [.str z, .list [.int 2], .int f],
    .tuple [.list [.str z], .int w, .int f], .tuple [.dict [], .int w, .int f]]) h0 h1 fun x hx => by
    have tp : ∀ {xs : List PyData}, xs.length ≤ 4 → (∀ y ∈ xs, BQ 1 612 y) → (∀ a b, xs ≠ [.str a, .list b]) → PQ (.tuple xs) := fun hl h hn => pq_no (bq_t4 hl h) (by decide) (by decide) fun a b e => hn a b (by cases e; rfl)
    simp only [List.mem_cons, List.not_mem_nil, or_false] at hx
    rcases hx with rfl | rfl | rfl | rfl | rfl | rfl | rfl | rfl | rfl | rfl | rfl | rfl | rfl | rfl | rfl | rfl | rfl | rfl | rfl | rfl | rfl | rfl
    all_goals first
      | exact tp (by simp) (by simp [bq1 bz, bq1 bw, bq1 bf, bq1 bl, bq1 bA, bq1 b0, bq1 b2, bq1 bq_none, bq1 (bq_bool _), bq_d1, bq_l1 bz, bq_l1 (bq_int (i := 2) (by decide) (by decide)), it]) (by simp)
      | exact pq_no (bq_l4 (by simp) (by simp [bq1 bz, bq1 bw, bq1 bf])) (by decide) (by decide) (fun _ _ e => by cases e)
      | exact pq_no bq_none (by decide) (by decide) (fun _ _ e => by cases e)
      | exact pq_no bz (by decide) (by decide) (fun _ _ e => by cases e)
  refine ⟨x, fun h => callR_v (h' := []) ?_, hx⟩
  have s : ∀ {k : Nat}, k ≤ 10000 → (k ≤ sizeLine) = True := fun h => sz (by omega)
  have lz := hz.2
  have lc := (tx_cut (some 1) none hz).2
  have l8 : (Str.ofString "toolongs").length = 8 := by decide +kernel
  have l1 : (Str.ofString "A").length = 1 := by decide +kernel
  have s1 : (z.length + (Str.ofString "toolongs").length ≤ sizeLine) = True := s (by omega)
  have s2 : ((Str.ofString "A").length + (cutS z (some 1) none).length ≤ sizeLine) = True := s (by omega)
  have s3 : (z.length ≤ sizeLine) = True := s (by omega)
  simp [F__law_odd_box, mkFn, B__law_odd_box, s1, s2, s3, s (k := 9) (by decide), s (k := 15) (by decide), s (k := 20) (by decide), s (k := 22) (by decide), ex]
end Fs
set_option maxHeartbeats 2000000
namespace Fs
open PySem PySem.Spec PyProof.Rows L2 Vl
/-! ## law 06: two things put otherwise -/
/-- a procedure, or what stands in its place -/
def PrE (x : PyData) : Prop := Rp 5 17000 x ∧ ∀ a rows, x = .tuple [a, .list rows] → Rp 4 100 a ∧ rows.length ≤ 8 ∧ ∀ r ∈ rows, Rp 3 1000 r
structure PP (n : Nat) (bs ps hs : List PyData) : Prop where
  lb : bs.length ≤ n
  lp : ps.length ≤ n
  lh : hs.length ≤ n
  eb : ∀ x ∈ bs, Rp 5 300 x
  ep : ∀ x ∈ ps, PrE x
  eh : ∀ x ∈ hs, Rp 5 300 x
theorem mul_list (xs : List PyData) (j : Nat) (h : xs.length * j ≤ 1000000) (hj : j ≤ 100) : ∃ L, mulP (.list xs) (.int (j : Int)) = some (.list L) ∧ L.length ≤ xs.length * j ∧ ∀ x ∈ L, x ∈ xs := by
  refine ⟨(List.replicate j xs).flatten, ?_, ?_, fun x hx => ?_⟩
  · rw [y_mul1, if_pos (yes_of ⟨by omega, by omega, by rw [Int.toNat_natCast]; exact Nat.le_of_lt (lt_line (by omega))⟩), Int.toNat_natCast]
  · rw [List.length_flatten]
    simp [Nat.mul_comm]
  · obtain ⟨l, hl, hx⟩ := List.mem_flatten.mp hx
    rw [(List.mem_replicate.mp hl).2] at hx
    exact hx
end Fs
set_option maxHeartbeats 4000000
namespace Fs
open PySem PySem.Spec PyProof.Rows L2 Vl
/-- procedures put otherwise -/
theorem odd_proc_ok {z : Str} {rs : List PyData} (hz : Tx 8 z) (hl : rs.length ≤ 8) (hr : ∀ r ∈ rs, Rp 3 1000 r) {j : Int} (h0 : 0 ≤ j) (h1 : j < 22) : ∃ x, (∀ h, callR F__law_odd_proc [.tuple [.str z, .list rs], .int j] false h = some (.ok (.v x) h)) ∧ PQ x := by
  obtain ⟨m9, e9, l9, k9⟩ := mul_list rs 9 (by omega) (by decide)
  obtain ⟨m8, e8, l8, k8⟩ := mul_list rs 8 (by omega) (by decide)
  have e9 : mulP (.list rs) (.int 9) = some (.list m9) := e9
  have e8 : mulP (.list rs) (.int 8) = some (.list m8) := e8
  have c9 : cutP m9 none (some 9) = m9.take 9 := cut_to _ 9
  have c8 : cutP m8 none (some 8) = m8.take 8 := cut_to _ 8
  have c1 : cutP rs none (some 1) = rs.take 1 := cut_to _ 1
  obtain ⟨A, hA⟩ : ∃ A, A = m9.take 9 := ⟨_, rfl⟩
  obtain ⟨B, hB⟩ : ∃ B, B = m8.take 8 := ⟨_, rfl⟩
  obtain ⟨C, hC⟩ : ∃ C, C = rs.take 1 := ⟨_, rfl⟩
  have iA : A.length ≤ 9 ∧ ∀ y ∈ A, Rp 3 1000 y := by rw [hA]; exact ⟨by rw [List.length_take]; omega, fun y hy => hr y (k9 y (List.mem_of_mem_take hy))⟩
  have iB : B.length ≤ 9 ∧ ∀ y ∈ B, Rp 3 1000 y := by rw [hB]; exact ⟨by rw [List.length_take]; omega, fun y hy => hr y (k8 y (List.mem_of_mem_take hy))⟩
  have iC : C.length ≤ 9 ∧ ∀ y ∈ C, Rp 3 1000 y := by rw [hC]; exact ⟨by rw [List.length_take]; omega, fun y hy => hr y (List.mem_of_mem_take hy)⟩
  have iR : rs.length ≤ 9 ∧ ∀ y ∈ rs, Rp 3 1000 y := ⟨by omega, hr⟩
  rw [← hA] at c9
  rw [← hB] at c8
  rw [← hC] at c1
  have tl : Tx 16 (z ++ ("toolongs" : Str)) := tx_app hz (txLit "toolongs" 8 (by unfold okS; decide +kernel))
  have t1 : Tx 9 (cutS z none (some (-1)) ++ ("1" : Str)) := tx_app (tx_cut _ _ hz) (txLit "1" 1 (by unfold okS; decide +kernel))
  have tb : Tx 9 (z ++ (" " : Str)) := tx_app hz (txLit " " 1 (by unfold okS; decide +kernel))
  have t0 : Tx 0 ("" : Str) := txLit "" 0 (by unfold okS; decide +kernel)
  have up : ∀ {d : PyData}, BQ 0 302 d → BQ 4 9200 d := fun h => h.mono (by decide) (by decide)
  have bz := up (bq_str hz (by decide))
  have bl := up (bq_str tl (by decide))
  have b1 := up (bq_str t1 (by decide))
  have bb := up (bq_str tb (by decide))
  have b0 := up (bq_str t0 (by decide))
  have bn := up bq_none
  have bt := up (bq_bool true)
  have b7 : BQ 4 9200 (.int 7) := up (bq_int (by decide) (by decide))
  have bd : BQ 4 9200 (.dict []) := (bq_dict (k := 3)).mono (Nat.le_refl _) (by decide)
  have bu : BQ 4 9200 (.tuple [.str z]) := (bq_u1 (bq_str hz (by decide))).mono (by decide) (by decide)
  have bk : BQ 4 9200 (.list [.str z]) := (bq_l1 (bq_str hz (by decide))).mono (by decide) (by decide)
  have ls : ∀ {xs : List PyData}, (xs.length ≤ 9 ∧ ∀ y ∈ xs, Rp 3 1000 y) → BQ 4 9200 (.list xs) := fun h => bq_list (n := 9) h.1 (by decide) (fun y hy => bq_rp (h.2 y hy)) (by decide)
  have bT : BQ 4 9200 (.tuple rs) := bq_tup (n := 9) iR.1 (by decide) (fun y hy => bq_rp (iR.2 y hy)) (by decide)
  have bA := ls iA
  have bB := ls iB
  have bC := ls iC
  have bR := ls iR
  have bN : BQ 4 9200 (.list []) := ls (xs := []) ⟨by decide, by simp⟩
  have shs : ∀ {xs : List PyData}, (xs.length ≤ 9 ∧ ∀ y ∈ xs, Rp 3 1000 y) → ∀ y ∈ xs, Sh 60 y := fun h y hy => (rp_sh (h.2 y hy)).mono (by decide)
  have t1' : ∀ {a : PyData}, BQ 4 9200 a → PQ (.tuple [a]) := fun ha => pq_no (bq_tup (k := 4) (b := 9200) (n := 3) (by simp) (by decide) (by simpa using ha) (Nat.le_refl _)) (by decide) (by decide) fun _ _ e => by cases e
  have t2 : ∀ {a b : PyData}, BQ 4 9200 a → BQ 4 9200 b → (∀ r, b = .list r → ∀ y ∈ r, Sh 60 y) → PQ (.tuple [a, b]) := fun ha hb hs => pq_of (bq_tup (k := 4) (b := 9200) (n := 3) (by simp) (by decide) (by simp [ha, hb]) (Nat.le_refl _)) (by decide) (by decide) fun z r e => by
    cases e
    exact hs r rfl
  have t3 : ∀ {a b c : PyData}, BQ 4 9200 a → BQ 4 9200 b → BQ 4 9200 c → PQ (.tuple [a, b, c]) := fun ha hb hc => pq_no (bq_tup (k := 4) (b := 9200) (n := 3) (by simp) (by decide) (by simp [ha, hb, hc]) (Nat.le_refl _)) (by decide) (by decide) fun _ _ e => by cases e
  have sR : ∀ r, PyData.list rs = .list r → ∀ y ∈ r, Sh 60 y := fun r e => by cases e; exact shs iR
  have sA : ∀ r, PyData.list A = .list r → ∀ y ∈ r, Sh 60 y := fun r e => by cases e; exact shs iA
  have sB : ∀ r, PyData.list B = .list r → ∀ y ∈ r, Sh 60 y := fun r e => by cases e; exact shs iB
  have sC : ∀ r, PyData.list C = .list r → ∀ y ∈ r, Sh 60 y := fun r e => by cases e; exact shs iC
  have sN : ∀ r, PyData.list [] = .list r → ∀ y ∈ r, Sh 60 y := fun r e => by cases e; simp
  obtain ⟨x, ex, hx⟩ := atI_sat (P := PQ) (xs := [.tuple [.str "", .list rs], .tuple [.str (z ++ "toolongs"), .list rs], .tuple [.str (cutS z none (some (-1)) ++ "1"), .list rs], .tuple [.str z, .list []], .tuple [.str z, .list A],
    .tuple [.str z, .tuple rs], .list [.str z, .list rs], .tuple [.str z], .tuple [.str z, .list rs, .list rs], .none, .list rs, .tuple [.int 7, .list rs], .tuple [.str z, .none],
    .tuple [.str z, .list B], .tuple [.str z, .list C], .tuple [.bool true, .list rs], .tuple [.str (z ++ " "), .list rs], .tuple [.str z, .str z],
    .tuple [.list [.str z], .list rs], .tuple [.dict [], .list rs], .tuple [.str z, .dict []], .tuple [.tuple [.str z], .list rs]]) h0 h1 fun x hx => by
    simp only [List.mem_cons, List.not_mem_nil, or_false] at hx
    rcases hx with rfl | rfl | rfl | rfl | rfl | rfl | rfl | rfl | rfl | rfl | rfl | rfl | rfl | rfl | rfl | rfl | rfl | rfl | rfl | rfl | rfl | rfl
    · exact t2 b0 bR sR
    · exact t2 bl bR sR
    · exact t2 b1 bR sR
    · exact t2 bz bN sN
    · exact t2 bz bA sA
    · exact t2 bz bT fun r e => by cases e
    · exact pq_no (bq_list (k := 4) (b := 9200) (n := 3) (by simp) (by decide) (by simp [bz, bR]) (Nat.le_refl _)) (by decide) (by decide) fun _ _ e => by cases e
    · exact t1' bz
    · exact t3 bz bR bR
    · exact pq_no bn (by decide) (by decide) fun _ _ e => by cases e
    · exact pq_no bR (by decide) (by decide) fun _ _ e => by cases e
    · exact t2 b7 bR sR
    · exact t2 bz bn fun r e => by cases e
    · exact t2 bz bB sB
    · exact t2 bz bC sC
    · exact t2 bt bR sR
    · exact t2 bb bR sR
    · exact t2 bz bz fun r e => by cases e
    · exact t2 bk bR sR
    · exact t2 bd bR sR
    · exact t2 bz bd fun r e => by cases e
    · exact t2 bu bR sR
  refine ⟨x, fun h => callR_v (h' := []) ?_, hx⟩
  have s : ∀ {k : Nat}, k ≤ 10000 → (k ≤ sizeLine) = True := fun h => sz (by omega)
  have lz := hz.2
  have lc := (tx_cut none (some (-1)) hz).2
  have l8' : (Str.ofString "toolongs").length = 8 := by decide +kernel
  have l1 : (Str.ofString "1").length = 1 := by decide +kernel
  have lb : (Str.ofString " ").length = 1 := by decide +kernel
  have s1 : (z.length + (Str.ofString "toolongs").length ≤ sizeLine) = True := s (by omega)
  have s2 : ((cutS z none (some (-1))).length + (Str.ofString "1").length ≤ sizeLine) = True := s (by omega)
  have s3 : (z.length ≤ sizeLine) = True := s (by omega)
  have s4 : (z.length + (Str.ofString " ").length ≤ sizeLine) = True := s (by omega)
  simp [-y_mul1, F__law_odd_proc, mkFn, B__law_odd_proc, e9, e8, c9, c8, c1, s1, s2, s3, s4, s (k := 13) (by decide), s (k := 18) (by decide), s (k := 22) (by decide), ex]
end Fs
set_option maxHeartbeats 4000000
namespace Fs
open PySem PySem.Spec PyProof.Rows L2 Vl
theorem up_ascii {z : Str} (h : isName z = true) : Tx 8 (PySem.Txt.upper z) := by
  have ha : ∀ c ∈ z.cps.toList, 97 ≤ c ∧ c < 123 := fun c hc => by
    have h : (decide (1 ≤ z.length) && decide (z.length ≤ 8) && z.cps.toList.all fun c => decide (c ∈ abc.cps.toList)) = true := by
      have := h
      unfold isName at this
      simpa using this
    simp only [Bool.and_eq_true, List.all_eq_true, decide_eq_true_eq] at h
    have := h.2 c hc
    rw [abc_tl] at this
    obtain ⟨k, hk, rfl⟩ := List.mem_map.mp this
    have := List.mem_range.mp hk
    omega
  have e := PyProof.Rows.upper_ascii (x := z) fun c hc => by
    have := ha c hc
    omega
  have hz := isName_ok h
  rw [e]
  refine ⟨fun c hc => ?_, ?_⟩
  · have hc : c ∈ (z.cps.map PyProof.Rows.up1).toList := hc
    rw [Array.toList_map] at hc
    obtain ⟨d, hd, rfl⟩ := List.mem_map.mp hc
    have := ha d hd
    unfold PyProof.Rows.up1
    split <;> omega
  · show (z.cps.map PyProof.Rows.up1).size ≤ 8
    rw [Array.size_map]
    exact hz.2
/-- hands put otherwise -/
theorem odd_hand_ok {z t : Str} (hn : isName z = true) (ht : Tx 8 t) {j : Int} (h0 : 0 ≤ j) (h1 : j < 22) : ∃ x, (∀ h, callR F__law_odd_hand [.tuple [.str z, .str t], .int j] false h = some (.ok (.v x) h)) ∧ PQ x := by
  have hz := isName_ok hn
  have tu := up_ascii hn
  obtain ⟨u, hu⟩ : ∃ u, u = PySem.Txt.upper z := ⟨_, rfl⟩
  rw [← hu] at tu
  have tl : Tx 16 (z ++ ("toolongs" : Str)) := tx_app hz (txLit "toolongs" 8 (by unfold okS; decide +kernel))
  have tx : Tx 9 (t ++ ("x" : Str)) := tx_app ht (txLit "x" 1 (by unfold okS; decide +kernel))
  have tn : Tx 9 (z ++ ("\n" : Str)) := tx_app hz (txLit "\n" 1 (by unfold okS; decide +kernel))
  have tc : Tx 8 (cutS t none (some (-1))) := tx_cut _ _ ht
  have t0 : Tx 0 ("" : Str) := txLit "" 0 (by unfold okS; decide +kernel)
  have tz : Tx 1 ("z" : Str) := txLit "z" 1 (by unfold okS; decide +kernel)
  have up : ∀ {d : PyData}, BQ 0 302 d → BQ 1 612 d := fun h => bq1 h
  have bz := up (bq_str hz (by decide))
  have bt := up (bq_str ht (by decide))
  have bu := up (bq_str tu (by decide))
  have bl := up (bq_str tl (by decide))
  have bx := up (bq_str tx (by decide))
  have bn := up (bq_str tn (by decide))
  have bc := up (bq_str tc (by decide))
  have b0 := up (bq_str t0 (by decide))
  have bZ := up (bq_str tz (by decide))
  have bN := up bq_none
  have bT := up (bq_bool true)
  have bI := up (bq_int (i := 0) (by decide) (by decide))
  have lz := bq_l1 (bq_str hz (by decide))
  have lt := bq_l1 (bq_str ht (by decide))
  have ut := bq_u1 (bq_str ht (by decide))
  have st : Sh 60 (.str t) := sh_str ht.1
  have t1' : ∀ {a : PyData}, BQ 1 612 a → PQ (.tuple [a]) := fun ha => pq_no (bq_t4 (by simp) (by simpa using ha)) (by decide) (by decide) fun _ _ e => by cases e
  have t2 : ∀ {a b : PyData}, BQ 1 612 a → BQ 1 612 b → (∀ r, b = .list r → ∀ y ∈ r, Sh 60 y) → PQ (.tuple [a, b]) := fun ha hb hs => pq_of (bq_t4 (by simp) (by simp [ha, hb])) (by decide) (by decide) fun z r e => by
    cases e
    exact hs r rfl
  have t3 : ∀ {a b c : PyData}, BQ 1 612 a → BQ 1 612 b → BQ 1 612 c → PQ (.tuple [a, b, c]) := fun ha hb hc => pq_no (bq_t4 (by simp) (by simp [ha, hb, hc])) (by decide) (by decide) fun _ _ e => by cases e
  obtain ⟨x, ex, hx⟩ := atI_sat (P := PQ) (xs := [.tuple [.str "", .str t], .tuple [.str (z ++ "toolongs"), .str t], .tuple [.str u, .str t], .tuple [.str z, .str (t ++ "x")], .tuple [.str z, .none], .tuple [.str z, .int 0],
    .list [.str z, .str t], .tuple [.str z], .tuple [.str z, .str t, .str t], .none, .str t, .tuple [.int 0, .str t], .tuple [.str z, .list [.str t]], .tuple [.str z, .str ""],
    .tuple [.str z, .str (cutS t none (some (-1)))], .tuple [.str (z ++ "\n"), .str t], .tuple [.bool true, .str t], .tuple [.str "z", .str t],
    .tuple [.list [.str z], .str t], .tuple [.dict [], .str t], .tuple [.str z, .dict []], .tuple [.str z, .tuple [.str t]]]) h0 h1 fun x hx => by
    simp only [List.mem_cons, List.not_mem_nil, or_false] at hx
    rcases hx with rfl | rfl | rfl | rfl | rfl | rfl | rfl | rfl | rfl | rfl | rfl | rfl | rfl | rfl | rfl | rfl | rfl | rfl | rfl | rfl | rfl | rfl
    · exact t2 b0 bt fun r e => by cases e
    · exact t2 bl bt fun r e => by cases e
    · exact t2 bu bt fun r e => by cases e
    · exact t2 bz bx fun r e => by cases e
    · exact t2 bz bN fun r e => by cases e
    · exact t2 bz bI fun r e => by cases e
    · exact pq_no (bq_l4 (by simp) (by simp [bz, bt])) (by decide) (by decide) fun _ _ e => by cases e
    · exact t1' bz
    · exact t3 bz bt bt
    · exact pq_no bN (by decide) (by decide) fun _ _ e => by cases e
    · exact pq_no bt (by decide) (by decide) fun _ _ e => by cases e
    · exact t2 bI bt fun r e => by cases e
    · exact t2 bz lt fun r e => by cases e; simpa using st
    · exact t2 bz b0 fun r e => by cases e
    · exact t2 bz bc fun r e => by cases e
    · exact t2 bn bt fun r e => by cases e
    · exact t2 bT bt fun r e => by cases e
    · exact t2 bZ bt fun r e => by cases e
    · exact t2 lz bt fun r e => by cases e
    · exact t2 bq_d1 bt fun r e => by cases e
    · exact t2 bz bq_d1 fun r e => by cases e
    · exact t2 bz ut fun r e => by cases e
  refine ⟨x, fun h => callR_v (h' := []) ?_, hx⟩
  have s : ∀ {k : Nat}, k ≤ 10000 → (k ≤ sizeLine) = True := fun h => sz (by omega)
  have lz' := hz.2
  have lt' := ht.2
  have lc := tc.2
  have l8' : (Str.ofString "toolongs").length = 8 := by decide +kernel
  have l1 : (Str.ofString "x").length = 1 := by decide +kernel
  have lb : (Str.ofString "\n").length = 1 := by decide +kernel
  have s1 : (z.length + (Str.ofString "toolongs").length ≤ sizeLine) = True := s (by omega)
  have s2 : (t.length + (Str.ofString "x").length ≤ sizeLine) = True := s (by omega)
  have s3 : (t.length ≤ sizeLine) = True := s (by omega)
  have s4 : (z.length + (Str.ofString "\n").length ≤ sizeLine) = True := s (by omega)
  have y5 : yes (z.length ≤ 5592405) = true := yes_of (by omega)
  simp [F__law_odd_hand, mkFn, B__law_odd_hand, ← hu, y5, s1, s2, s3, s4, s (k := 14) (by decide), s (k := 18) (by decide), s (k := 22) (by decide), ex]
end Fs
set_option maxHeartbeats 4000000
namespace Fs
open PySem PySem.Spec PyProof.Rows L2 Vl
/-- a part of a program, by its law's odd things -/
structure P3 (F : Fn) (L : List PyData) : Prop where
  len : 1 ≤ L.length ∧ L.length ≤ 6
  pq : ∀ x ∈ L, PQ x
  odd : ∀ x ∈ L, ∀ j : Int, 0 ≤ j → j < 22 → ∃ o, (∀ h, callR F [x, .int j] false h = some (.ok (.v o) h)) ∧ PQ o
/-- what stands in a part's place -/
def PartOk (P : PyData) : Prop := BQ 6 210000 P ∧ ∀ xs, P = .list xs → ∀ x ∈ xs, PQ x
theorem part_list {xs : List PyData} (hl : xs.length ≤ 7) (h : ∀ x ∈ xs, PQ x) : PartOk (.list xs) := ⟨bq_list hl (by decide) (fun x hx => (h x hx).1) (by decide), fun ys e => by cases e; exact h⟩
/-- three things are right to be looked at -/
theorem r04_three {a b c : PyData} (ha : PartOk a) (hb : PartOk b) (hc : PartOk c) : R04 (.tuple [a, b, c]) where
  bq := (bq_tup (k := 6) (n := 3) (by simp) (by decide) (fun x hx => by
    simp only [List.mem_cons, List.not_mem_nil, or_false] at hx
    rcases hx with rfl | rfl | rfl
    · exact ha.1
    · exact hb.1
    · exact hc.1) (Nat.le_refl _)).mono (by decide) (by decide)
  di := rfl
  sh := fun bs ps hs e p hp ip x hx => by
    simp only [PyData.tuple.injEq, List.cons.injEq, and_true] at e
    obtain ⟨_, rfl, _⟩ := e
    have q := hb.2 ps rfl p hp
    obtain ⟨z, r, rfl, _⟩ := isPr_shape ip
    exact q.2 z r rfl x hx
end Fs
set_option maxHeartbeats 1000000
namespace Fs
open PySem PySem.Spec PyProof.Rows L2 Vl
end Fs
set_option maxHeartbeats 4000000
namespace Fs
open PySem PySem.Spec PyProof.Rows L2 Vl
theorem manyM_le {mo : Nat} : ∀ {t : List (List PyData)}, (∀ x ∈ t, x.length ≤ mo) → manyM t ≤ mo * t.length
  | [], _ => Nat.zero_le _
  | x :: r, h => by
    have h1 := h x List.mem_cons_self
    have h2 := manyM_le (t := r) fun y hy => h y (List.mem_cons_of_mem _ hy)
    rw [manyM, List.length_cons, Nat.mul_succ]
    omega
theorem manyW_le {b : Nat} : ∀ {w : List (List (List PyData))}, (∀ t ∈ w, manyM t ≤ b) → manyW w ≤ b * w.length
  | [], _ => Nat.zero_le _
  | x :: r, h => by
    have h1 := h x List.mem_cons_self
    have h2 := manyW_le (w := r) fun y hy => h y (List.mem_cons_of_mem _ hy)
    rw [manyW, List.length_cons, Nat.mul_succ]
    omega
/-- bounds of a weaving -/
structure WB (p : Plan) (w : List (List (List PyData))) : Prop where
  len : ∀ t ∈ w, t.length = p.hs.length
  many : manyW w ≤ 90000
  most : w.length ≤ 900
theorem WOk.wb {p : Plan} {mp mr mh mo : Nat} (ok : p.Ok mp mr mh) (hmh : mh ≤ 10) {w : List (List (List Int))} {ss : List StM} (h : WOk p mo w ss) (hmo : mo ≤ 10) (hl : w.length ≤ 60) : WB p (wI w) where
  len := fun t ht => by
    obtain ⟨u, hu, rfl⟩ := List.mem_map.mp ht
    rw [List.length_map]
    exact h.len u hu
  many := by
    have : manyW (wI w) ≤ 100 * (wI w).length := manyW_le fun t ht => by
      obtain ⟨u, hu, rfl⟩ := List.mem_map.mp ht
      have := manyM_le (mo := mo) (t := u.map fun x => x.map PyData.int) fun x hx => by
        obtain ⟨y, hy, rfl⟩ := List.mem_map.mp hx
        rw [List.length_map]
        exact h.most u hu y hy
      rw [List.length_map, h.len u hu] at this
      have h2 : p.hs.length ≤ 10 := Nat.le_trans ok.hl.2 hmh
      have := Nat.mul_le_mul hmo h2
      omega
    rw [wI_len] at this
    omega
  most := by rw [wI_len]; omega
theorem manyM_app : ∀ (t u : List (List PyData)), manyM (t ++ u) = manyM t + manyM u
  | [], u => by simp [manyM]
  | x :: r, u => by rw [List.cons_append, manyM, manyM, manyM_app r u]; omega
theorem manyW_app : ∀ (t u : List (List (List PyData))), manyW (t ++ u) = manyW t + manyW u
  | [], u => by simp [manyW]
  | x :: r, u => by rw [List.cons_append, manyW, manyW, manyW_app r u]; omega
theorem WB.take {p : Plan} {w : List (List (List PyData))} (h : WB p w) (k : Nat) : WB p (w.take k) where
  len := fun t ht => h.len t (List.mem_of_mem_take ht)
  many := by
    have := manyW_app (w.take k) (w.drop k)
    rw [List.take_append_drop] at this
    have := h.many
    omega
  most := by rw [List.length_take]; have := h.most; omega
end Fs
set_option maxHeartbeats 4000000
namespace Fs
open PySem PySem.Spec PyProof.Rows L2 Vl
@[simp] theorem wv_len (W : List (List (List PyData))) (h : Hs) : lenD [.v (weaveP W)] h = some (.v (.int W.length)) := by
  unfold weaveP
  rw [y_len1, List.length_map]
@[simp] theorem wv_ix (W : List (List (List PyData))) (i : Int) (h : Hs) : ixD (.v (weaveP W)) (.v (.int i)) h = (atI (W.map roundP) i).map .v := rfl
@[simp] theorem wv_cut (W : List (List (List PyData))) (lo hi : Option Int) : sliceP lo hi (weaveP W) = some (.list (cutP (W.map roundP) lo hi)) := rfl
@[simp] theorem rd_cut (t : List (List PyData)) (lo hi : Option Int) : sliceP lo hi (roundP t) = some (.list (cutP (t.map PyData.list) lo hi)) := rfl
@[simp] theorem pl_cut (x : Pile) (lo hi : Option Int) : sliceP lo hi (pileP x) = some (.tuple (cutP (x.map frP).reverse lo hi)) := rfl
theorem WB.cut {p : Plan} {w : List (List (List PyData))} (h : WB p w) {a hand n : Nat} (ha : a < w.length) (hh : hand < p.hs.length) : WB p (cutW w a hand n p.hs.length) := by
  have ew := List.getElem?_eq_getElem ha
  have hl := h.len _ (List.getElem_mem ha)
  have hlt : hand < w[a].length := by omega
  have et := List.getElem?_eq_getElem hlt
  have m1 := manyW_app (w.take a) (w.drop a)
  rw [List.take_append_drop, List.drop_eq_getElem_cons ha, manyW] at m1
  have m2 := manyM_app (w[a].take hand) (w[a].drop hand)
  rw [List.take_append_drop, List.drop_eq_getElem_cons hlt, manyM] at m2
  have m3 : ∀ k, manyM (List.replicate k []) = 0 := fun k => by
    induction k with
    | zero => rfl
    | succ k ih => rw [List.replicate_succ, manyM, ih]; rfl
  unfold cutW
  rw [ew, Option.getD_some, et, Option.getD_some]
  refine ⟨fun t ht => ?_, ?_, ?_⟩
  · rcases List.mem_append.mp ht with ht | ht
    · exact h.len t (List.mem_of_mem_take ht)
    · rw [List.mem_singleton.mp ht]
      simp only [List.length_append, List.length_take, List.length_replicate, List.length_cons, List.length_nil]
      omega
  · rw [manyW_app, manyW, manyW, manyM_app, manyM_app, m3, manyM, manyM, List.length_take]
    have := h.many
    omega
  · rw [List.length_append, List.length_take, List.length_singleton]
    have := h.most
    omega
section
variable {m : Names} {p : Plan} {mp mr mh : Nat} (hm : m.Ok) (ok : p.Ok mp mr mh) (hmp : mp ≤ 20) (hmh : mh ≤ 10)
include hm ok hmp hmh
end
end Fs
set_option maxHeartbeats 4000000
namespace Fs
open PySem PySem.Spec PyProof.Rows L2 Vl
/-! ## the law's own look at a weaving -/
section
variable {m : Names} {p : Plan} {mp mr mh : Nat} (hm : m.Ok) (ok : p.Ok mp mr mh) (hmh : mh ≤ 100)
include hm ok hmh
end
end Fs
set_option maxHeartbeats 4000000
namespace Fs
open PySem PySem.Spec PyProof.Rows L2 Vl
section
variable {m : Names} {p : Plan} {mp mr mh : Nat} (hm : m.Ok) (ok : p.Ok mp mr mh) (hmp : mp ≤ 20) (hmh : mh ≤ 100)
include hm ok hmp hmh
end
end Fs
set_option maxHeartbeats 4000000
namespace Fs
open PySem PySem.Spec PyProof.Rows L2 Vl
/-! ## a weaving laid anew, list by list -/
abbrev WP := List (List (List PyData))
end Fs
set_option maxHeartbeats 4000000
namespace Fs
open PySem PySem.Spec PyProof.Rows L2 Vl
@[simp] theorem wv_seq (W : WP) (h : Hs) : seqI (.v (weaveP W)) h = some (.ok ((W.map roundP).map .v) none h) := rfl
@[simp] theorem z_ins (n : Nat) (i : Int) (y : D) (h : Hs) : insertD (.ref n) [.v (.int i), y] h = match h[n]? with
  | some (.lst xs) => if yes (xs.length < sizeLine ∧ 0 ≤ i ∧ i < 2 ^ 63) = true then some (.v .none, h.set n (.lst (xs.take i.toNat ++ [y] ++ xs.drop i.toNat))) else none
  | _ => none := rfl
@[simp] theorem z_popAt (n : Nat) (i : Int) (h : Hs) : popAtD (.ref n) [.v (.int i)] h = match h[n]? with
  | some (.lst xs) => (match (if yes (-(2 ^ 63) ≤ i ∧ i < 2 ^ 63) = true then ixN xs.length i else none) with
    | some k => (match xs[k]? with
      | some y => some (y, h.set n (.lst (xs.eraseIdx k)))
      | none => none)
    | none => none)
  | _ => none := rfl
end Fs
set_option maxHeartbeats 4000000
namespace Fs
open PySem PySem.Spec PyProof.Rows L2 Vl
/-! ## a procedure that calls itself, very deep -/
end Fs
set_option maxHeartbeats 4000000
namespace Fs
open PySem PySem.Spec PyProof.Rows L2 Vl
end Fs
set_option maxHeartbeats 4000000
namespace Fs
open PySem PySem.Spec PyProof.Rows L2 Vl
end Fs
set_option maxHeartbeats 4000000
namespace Fs
open PySem PySem.Spec PyProof.Rows L2 Vl
/-! ## the law's plan of calls -/
section
variable {ws fs hs : List Int} {np : Nat} {procs : List PyData}
end
end Fs
set_option maxHeartbeats 4000000
namespace Fs
open PySem PySem.Spec PyProof.Rows L2 Vl
section
variable {ws : List Int} {np : Nat} {procs : List PyData} (hw : WsOk ws) (hnp : procs.length = np) (hp : 0 < np ∧ np ≤ 100)
include hw hnp hp
end
end Fs
set_option maxHeartbeats 4000000
namespace Fs
open PySem PySem.Spec PyProof.Rows L2 Vl
section
variable {m : Names} {p : Plan} {mp mr mh B : Nat} (hm : m.Ok) (ok : p.Ok mp mr mh) {s : StM} (hs : s.Ok p B)
include hm ok hs
end
end Fs
set_option maxHeartbeats 4000000
namespace Fs
open PySem PySem.Spec PyProof.Rows L2 Vl
/-! ## a plan whose lists are cells -/
def planD (n : Nat) (p : Plan) : D := .mix [.v (.tuple (p.ws.map .int)), .v (.list (p.fs.map .int)), .ref n, .v (.list (p.hs.map .int))]
end Fs
set_option maxHeartbeats 4000000
namespace Fs
open PySem PySem.Spec PyProof.Rows L2 Vl
/-! ## a program whose lists are cells -/
def progTD (n : Nat) (p : Plan) : D := .mix [.ref n, .ref (n + 1), .ref (n + 2 + p.ps.length)]
end Fs
set_option maxHeartbeats 4000000
namespace Fs
open PySem PySem.Spec PyProof.Rows L2 Vl
@[simp] theorem z_lstRgN {f : EM} {s : Sl} {h : Hs} : eLstRgN f s h = match f s h with
  | some (.ok x h1) => (match rgL x h1 with
    | some (.v (.list ps)) => some (.ok (.ref h1.length) (h1 ++ [.lst (ps.map .v)]))
    | _ => none)
  | some (.ex x h1) => some (.ex x h1)
  | none => none := rfl
section
variable {m : Names} {p : Plan} {mp mr mh B : Nat} (hm : m.Ok) (ok : p.Ok mp mr mh) {s : StM} (hs : s.Ok p B)
include hm ok hs
end
end Fs
set_option maxHeartbeats 4000000
namespace Fs
open PySem PySem.Spec PyProof.Rows L2 Vl
/-! ## heaps with things in them -/
/-- the cells C stand in h from n on -/
def At (h : Hs) (n : Nat) (C : List Cell) : Prop := ∀ j c, C[j]? = some c → h[n + j]? = some c
theorem At.app {h : Hs} {n : Nat} {C : List Cell} (a : At h n C) (g : Hs) : At (h ++ g) n C := fun j c e => by
  have := a j c e
  rw [List.getElem?_append_left (List.getElem?_eq_some_iff.mp this).1]
  exact this
theorem At.set {h : Hs} {n i : Nat} {C : List Cell} {x : Cell} (a : At h n C) (hi : i < C.length) : At (h.set (n + i) x) n (C.set i x) := fun j c e => by
  have hl : n + i < h.length := by
    have := a i _ (List.getElem?_eq_getElem hi)
    exact (List.getElem?_eq_some_iff.mp this).1
  by_cases q : i = j
  · subst q
    rw [List.getElem?_set_self hi] at e
    rw [List.getElem?_set_self hl]
    exact e
  · rw [List.getElem?_set_ne q] at e
    rw [List.getElem?_set_ne (by omega)]
    exact a j c e
theorem At.le {h : Hs} {n : Nat} {C : List Cell} (a : At h n C) (hC : 0 < C.length) : n + C.length ≤ h.length := by
  have := a (C.length - 1) _ (List.getElem?_eq_getElem (by omega))
  have := (List.getElem?_eq_some_iff.mp this).1
  omega
/-! ### plans -/
/-! ### programs -/
end Fs
set_option maxHeartbeats 4000000
namespace Fs
open PySem PySem.Spec PyProof.Rows L2 Vl
@[simp] theorem z_callT {F : Fn} {a : AM} {s : Sl} {h : Hs} : eCallT F a s h = match a s h with
  | some (.ok ds h1) => (match unvs ds with
    | some ps => callT F ps false h1
    | none => (match frzs h1 (dep + 1) ds with
      | some ps => callT F ps true h1
      | none => none))
  | some (.ex x h1) => some (.ex x h1)
  | none => none := rfl
@[simp] theorem z_callF {F : Fn} {a : AM} {s : Sl} {h : Hs} : eCallF F a s h = match a s h with
  | some (.ok ds h1) => (match frzs h1 (dep + 1) ds with
      | some ps => callF F ps h1
      | none => none)
  | some (.ex x h1) => some (.ex x h1)
  | none => none := rfl
section
variable {m : Names} {p : Plan} {mp mr mh B : Nat} (hm : m.Ok) (ok : p.Ok mp mr mh) {s : StM} (hs : s.Ok p B)
include hm ok hs
end
end Fs
set_option maxHeartbeats 4000000
namespace Fs
open PySem PySem.Spec PyProof.Rows L2 Vl
@[simp] theorem unv_planD (n : Nat) (p : Plan) : unv (planD n p) = none := rfl
@[simp] theorem unv_progTD (n : Nat) (p : Plan) : unv (progTD n p) = none := rfl
@[simp] theorem planD_2 (n : Nat) (p : Plan) (h : Hs) : ixD (planD n p) (.v (.int 2)) h = some (.ref n) := rfl
@[simp] theorem planD_3 (n : Nat) (p : Plan) (h : Hs) : ixD (planD n p) (.v (.int 3)) h = some (.v (.list (p.hs.map .int))) := rfl
@[simp] theorem progTD_1 (n : Nat) (p : Plan) (h : Hs) : ixD (progTD n p) (.v (.int 1)) h = some (.ref (n + 1)) := rfl
section
variable {m : Names} {p : Plan} (hm : m.Ok) (ok : p.Ok 4 5 3)
include hm ok
end
end Fs
set_option maxHeartbeats 4000000
namespace Fs
open PySem PySem.Spec PyProof.Rows L2 Vl
/-! ## the first row put otherwise, in place -/
section
variable {m : Names} {p : Plan} {mp mr mh : Nat} (ok : p.Ok mp mr mh) (hmr : mr ≤ 100)
include ok hmr
end
end Fs
set_option maxHeartbeats 1000000
namespace Fs
open PySem PySem.Spec PyProof.Rows L2 Vl
section
variable {m : Names} {p : Plan} (hm : m.Ok) (ok : p.Ok 6 8 3)
include hm ok
theorem rows_rp {r : List RowI} {np : Int} {e : Int} (he : e ≤ 1000) (h : ∀ x ∈ r, RowOk p.ws np e p.hs.length x) : ∀ y ∈ r.map fun x => rowS (m.row x), Rp 3 1000 y := fun y hy => by
  obtain ⟨x, hx, rfl⟩ := List.mem_map.mp hy
  exact (rp_row hm ok.ws he (h x hx)).mono (by decide) (Nat.le_refl _)
end
end Fs
set_option maxHeartbeats 4000000
namespace Fs
open PySem PySem.Spec PyProof.Rows L2 Vl
section
variable {m : Names} {p : Plan} (hm : m.Ok) (ok : p.Ok 6 8 3)
include hm ok
theorem p3_boxes : P3 F__law_odd_box (boxesP m p) := by
  have one : ∀ x ∈ boxesP m p, ∃ z w f, x = .tuple [.str z, .int w, .int f] ∧ Tx 8 z ∧ (0 ≤ w ∧ w ≤ 1000) ∧ (0 ≤ f ∧ f ≤ 1000) := fun x hx => by
    obtain ⟨k, hk, rfl⟩ := List.mem_map.mp hx
    have hk' : k < p.ws.length := List.mem_range.mp hk
    have hw := ok.ws.2.2 (p.ws[k]) (List.getElem_mem hk')
    have hf := ok.fs k (p.fs[k]'(by rw [ok.fl]; exact hk')) p.ws[k] (List.getElem?_eq_getElem _) (List.getElem?_eq_getElem _)
    have e1 : p.ws.getD k 1 = p.ws[k] := by rw [List.getD_eq_getElem?_getD, List.getElem?_eq_getElem hk']; rfl
    have e2 : p.fs.getD k 0 = p.fs[k]'(by rw [ok.fl]; exact hk') := by rw [List.getD_eq_getElem?_getD, List.getElem?_eq_getElem (by rw [ok.fl]; exact hk')]; rfl
    refine ⟨m.b k, p.ws.getD k 1, p.fs.getD k 0, rfl, isName_ok (hm.b _), ?_, ?_⟩
    · rw [e1]; omega
    · rw [e2]; omega
  refine ⟨by rw [boxes_len]; have := ok.ws.1; have := ok.ws.2.1; omega, fun x hx => ?_, fun x hx j h0 h1 => ?_⟩
  · obtain ⟨z, w, f, rfl, hz, hw, hf⟩ := one x hx
    refine pq_no (bq_t4 (by simp) ?_) (by decide) (by decide) (fun a b e => by cases e)
    simp [bq1 (bq_str hz (by decide)), bq1 (bq_int (i := w) (by omega) (by omega)), bq1 (bq_int (i := f) (by omega) (by omega))]
  · obtain ⟨z, w, f, rfl, hz, hw, hf⟩ := one x hx
    exact odd_box_ok hz hw hf h0 h1
theorem p3_procs : P3 F__law_odd_proc (procsP m 0 p.ps) := by
  have one : ∀ x ∈ procsP m 0 p.ps, ∃ z rs, x = .tuple [.str z, .list rs] ∧ Tx 8 z ∧ rs.length ≤ 8 ∧ ∀ r ∈ rs, Rp 3 1000 r := fun x hx => by
    obtain ⟨j, r, hr, rfl⟩ := procs_mem m hx
    obtain ⟨_, r2, r3⟩ := ok.ps r (List.mem_of_getElem? hr)
    exact ⟨_, _, rfl, isName_ok (hm.t _), by rw [List.length_map]; exact r2, rows_rp hm ok (by omega) r3⟩
  refine ⟨by rw [procs_len]; exact ok.pl, fun x hx => ?_, fun x hx j h0 h1 => ?_⟩
  · obtain ⟨z, rs, rfl, hz, hl, hr⟩ := one x hx
    refine pq_of (bq_tup (k := 4) (b := 9200) (n := 2) (by simp) (by decide) (fun y hy => ?_) (Nat.le_refl _)) (by decide) (by decide) fun a b e y hy => ?_
    · simp only [List.mem_cons, List.not_mem_nil, or_false] at hy
      rcases hy with rfl | rfl
      · exact (bq_str hz (by decide)).mono (by decide) (by decide)
      · exact bq_list (n := 9) (by omega) (by decide) (fun y hy => bq_rp (hr y hy)) (by decide)
    · simp only [PyData.tuple.injEq, List.cons.injEq, PyData.list.injEq, and_true] at e
      obtain ⟨_, rfl⟩ := e
      exact (rp_sh (hr y hy)).mono (by decide)
  · obtain ⟨z, rs, rfl, hz, hl, hr⟩ := one x hx
    exact odd_proc_ok hz hl hr h0 h1
theorem p3_hands : P3 F__law_odd_hand (handsP m 0 p.hs) := by
  have one : ∀ x ∈ handsP m 0 p.hs, ∃ z t, x = .tuple [.str z, .str t] ∧ isName z = true ∧ Tx 8 t := fun x hx => by
    obtain ⟨j, r, hr, rfl⟩ := hands_mem m hx
    exact ⟨_, _, rfl, hm.h _, isName_ok (hm.t _)⟩
  refine ⟨by rw [hands_len]; have := ok.hl; omega, fun x hx => ?_, fun x hx j h0 h1 => ?_⟩
  · obtain ⟨z, t, rfl, hz, ht⟩ := one x hx
    refine pq_no (bq_t4 (by simp) ?_) (by decide) (by decide) (fun a b e => by cases e)
    simp [bq1 (bq_str (isName_ok hz) (by decide)), bq1 (bq_str ht (by decide))]
  · obtain ⟨z, t, rfl, hz, ht⟩ := one x hx
    exact odd_hand_ok hz ht h0 h1
end
end Fs
set_option maxHeartbeats 4000000
namespace Fs
open PySem PySem.Spec PyProof.Rows L2 Vl
/-! ## law 22: programs that are none -/
theorem due_three {bs ps hs : List PyData} (h : due (.tuple [.list bs, .list ps, .list hs]) = none) : (1 ≤ bs.length ∧ bs.length ≤ 3 ∧ bxDue [] bs = none) ∧ (1 ≤ ps.length ∧ ps.length ≤ 6 ∧ prDue [] ps = none) ∧ rowsDue bs ps hs.length 0 ps = none ∧ (1 ≤ hs.length ∧ hs.length ≤ 3 ∧ hnDue ps [] hs = none) := by
  simp only [due] at h
  split at h
  · rename_i g1
    split at h
    · cases h
    · rename_i e1
      split at h
      · rename_i g2
        split at h
        · cases h
        · rename_i e2
          split at h
          · cases h
          · rename_i e3
            split at h
            · rename_i g3
              split at h
              · cases h
              · rename_i e4
                exact ⟨⟨g1.1, g1.2, e1⟩, ⟨g2.1, g2.2, e2⟩, e3, g3.1, g3.2, e4⟩
            · cases h
      · cases h
  · cases h
theorem bx_app : ∀ (xs pre : List PyData) {b : PyData}, bxDue pre (xs ++ [b]) = none → bxDue (pre ++ xs) [b] = none
  | [], pre, b, h => by rw [List.append_nil]; exact h
  | x :: xs, pre, b, h => by
    rw [List.cons_append, bxDue] at h
    split at h
    · cases h
    · have := bx_app xs (pre ++ [x]) h
      rw [List.append_assoc] at this
      exact this
theorem pr_app : ∀ (xs pre : List PyData) {b : PyData}, prDue pre (xs ++ [b]) = none → prDue (pre ++ xs) [b] = none
  | [], pre, b, h => by rw [List.append_nil]; exact h
  | x :: xs, pre, b, h => by
    rw [List.cons_append, prDue] at h
    split at h
    · cases h
    · have := pr_app xs (pre ++ [x]) h
      rw [List.append_assoc] at this
      exact this
theorem hn_app {ps : List PyData} : ∀ (xs pre : List PyData) {b : PyData}, hnDue ps pre (xs ++ [b]) = none → hnDue ps (pre ++ xs) [b] = none
  | [], pre, b, h => by rw [List.append_nil]; exact h
  | x :: xs, pre, b, h => by
    rw [List.cons_append] at h
    unfold hnDue at h
    split at h
    · split at h
      · have := hn_app xs _ h
        rw [List.append_assoc] at this
        exact this
      · cases h
    · cases h
theorem rows_app {bs ps : List PyData} {nh : Int} : ∀ (xs : List PyData) (k : Nat) {p : PyData}, rowsDue bs ps nh k (xs ++ [p]) = none → rwDue bs ps nh (rwOf p).length 0 (rwOf p) = none
  | [], k, p, h => by
    rw [List.nil_append, rowsDue] at h
    split at h
    · cases h
    · assumption
  | x :: xs, k, p, h => by
    rw [List.cons_append, rowsDue] at h
    split at h
    · cases h
    · exact rows_app xs _ h
section
variable {bs ps hs : List PyData}
theorem bad_b0 : due (.tuple [.list [], .list ps, .list hs]) ≠ none := fun h => by
  have := (due_three h).1.1
  simp at this
theorem bad_p0 : due (.tuple [.list bs, .list [], .list hs]) ≠ none := fun h => by
  have := (due_three h).2.1.1
  simp at this
theorem bad_h0 : due (.tuple [.list bs, .list ps, .list []]) ≠ none := fun h => by
  have := (due_three h).2.2.2.1
  simp at this
theorem bad_two : due (.tuple [.list bs, .list ps]) ≠ none := fun h => by cases h
theorem bad_non : due .none ≠ none := fun h => by cases h
theorem bad_lst {xs : List PyData} : due (.list xs) ≠ none := fun h => by cases h
theorem bad_b1 {b : PyData} {r : List PyData} (hb : isBx b = false) : due (.tuple [.list (b :: r), .list ps, .list hs]) ≠ none := fun h => by
  have := (due_three h).1.2.2
  rw [bxDue, if_pos (.inl hb)] at this
  cases this
theorem bad_b2 {b : PyData} (hb : b ∈ bs) : due (.tuple [.list (bs ++ [b]), .list ps, .list hs]) ≠ none := fun h => by
  have := bx_app bs [] (due_three h).1.2.2
  rw [bxDue, if_pos (.inr (.inl (by rw [List.nil_append]; exact List.mem_map_of_mem hb)))] at this
  cases this
theorem bad_p1 {p : PyData} (hp : p ∈ ps) : due (.tuple [.list bs, .list (ps ++ [p]), .list hs]) ≠ none := fun h => by
  have := pr_app ps [] (due_three h).2.1.2.2
  rw [prDue, if_pos (.inr (.inr (.inr (by rw [List.nil_append]; exact List.mem_map_of_mem hp))))] at this
  cases this
theorem any9_bad {bs qs : List PyData} {nh : Int} : rowOk bs qs nh 1 (.tuple [.str "any", .tuple [.int 9]]) = false := by
  simp [rowOk, isTos, isIn]
theorem bad_p2 {z : PyData} : due (.tuple [.list bs, .list (ps ++ [.tuple [z, .list [.tuple [.str "any", .tuple [.int 9]]]]]), .list hs]) ≠ none := fun h => by
  have := rows_app ps 0 (due_three h).2.2.1
  have e : rwOf (.tuple [z, .list [.tuple [.str "any", .tuple [.int 9]]]]) = [.tuple [.str "any", .tuple [.int 9]]] := rfl
  rw [e, rwDue] at this
  have q := any9_bad (bs := bs) (qs := ps ++ [.tuple [z, .list [.tuple [.str "any", .tuple [.int 9]]]]]) (nh := hs.length)
  have e1 : ((([PyData.tuple [.str "any", .tuple [.int 9]]] : List PyData).length : Nat) : Int) = 1 := rfl
  rw [e1, q, if_neg Bool.false_ne_true] at this
  cases this
theorem bad_h1 {a : PyData} {b : Str} (hb : b ∉ ps.map nmOf) : due (.tuple [.list bs, .list ps, .list (hs ++ [.tuple [a, .str b]])]) ≠ none := fun h => by
  have := hn_app hs [] (due_three h).2.2.2.2.2
  unfold hnDue at this
  split at this
  · rename_i a' b' e
    simp only [PyData.tuple.injEq, List.cons.injEq, PyData.str.injEq, and_true] at e
    obtain ⟨_, rfl⟩ := e
    rw [if_neg fun z => hb z.2.2.1] at this
    cases this
  · cases this
end
theorem init_last {α : Type} {xs : List α} (h : 0 < xs.length) : ∃ i l, xs = i ++ [l] := by
  have hne : xs ≠ [] := fun z => by rw [z] at h; simp at h
  exact ⟨xs.dropLast, xs.getLast hne, (List.dropLast_concat_getLast hne).symm⟩
end Fs
set_option maxHeartbeats 4000000
namespace Fs
open PySem PySem.Spec PyProof.Rows L2 Vl
/-- a program that is none, told within bounds -/
structure Bad22 (d : PyData) : Prop where
  bq : BQ 8 900000 d
  di : isDis2 d = true
  no : due d ≠ none
theorem bq_three {a b c : PyData} (ha : PartOk a) (hb : PartOk b) (hc : PartOk c) : BQ 8 900000 (.tuple [a, b, c]) := (r04_three ha hb hc).bq
theorem law_bad22_ok {bs ps hs : List PyData} (p0 : P3 F__law_odd_box bs) (p1 : P3 F__law_odd_proc ps) (p2 : P3 F__law_odd_hand hs)
    (fb : ∀ x ∈ bs, ∃ z w f, x = .tuple [.str z, .int w, .int f] ∧ Tx 8 z) (fp : ∀ x ∈ ps, ∃ z r, x = .tuple [.str z, .list r] ∧ Tx 8 z) (fh : ∀ x ∈ hs, ∃ z t, x = .tuple [.str z, .str t] ∧ Tx 8 z) (nw : ("nowhere" : Str) ∉ ps.map nmOf)
    {d0 d1 : Int} (h0 : 0 ≤ d0 ∧ d0 < 12) (h : Hs) : ∃ r, callR F__law_bad_v1 [.tuple [.list bs, .list ps, .list hs], .list [.int d0, .int d1]] false h = some (.ok (.v r) h) ∧ Bad22 r := by
  have q0 : PartOk (.list bs) := part_list (by have := p0.len; omega) p0.pq
  have q1 : PartOk (.list ps) := part_list (by have := p1.len; omega) p1.pq
  have q2 : PartOk (.list hs) := part_list (by have := p2.len; omega) p2.pq
  have qN : PartOk (.list []) := part_list (by decide) (by simp)
  have lb := p0.len
  have lp := p1.len
  have lh := p2.len
  obtain ⟨kb, ekb, hkb⟩ := modN (show 0 < bs.length from lb.1) d1
  obtain ⟨kp, ekp, hkp⟩ := modN (show 0 < ps.length from lp.1) d1
  have eb := atI_nat (List.getElem?_eq_getElem hkb)
  have ep := atI_nat (List.getElem?_eq_getElem hkp)
  have mb := List.getElem_mem hkb
  have mp := List.getElem_mem hkp
  obtain ⟨zb, wb, f0, exb, tb⟩ := fb _ mb
  obtain ⟨zp, rp, exp, tp⟩ := fp _ mp
  rw [exb] at eb mb
  rw [exp] at ep mp
  obtain ⟨pi, pl, epi⟩ := init_last (xs := ps) lp.1
  obtain ⟨hi, hl, ehi⟩ := init_last (xs := hs) lh.1
  obtain ⟨zl, rl, exl, tl⟩ := fp pl (by rw [epi]; simp)
  obtain ⟨zh, th, exh, tlh⟩ := fh hl (by rw [ehi]; simp)
  have al : atI ps (-1) = some pl := by rw [epi]; exact at_last pi pl
  have cl : cutP ps none (some (-1)) = pi := by rw [epi]; exact cut_last pi pl
  have ah : atI hs (-1) = some hl := by rw [ehi]; exact at_last hi hl
  have ch : cutP hs none (some (-1)) = hi := by rw [ehi]; exact cut_last hi hl
  rw [exl] at al
  rw [exh] at ah
  have tA : Tx 2 ("Aa" : Str) := txLit "Aa" 2 (by unfold okS; decide +kernel)
  have tN : Tx 7 ("nowhere" : Str) := txLit "nowhere" 7 (by unfold okS; decide +kernel)
  have i1 : ∀ i : Int, 0 ≤ i ∧ i ≤ 9 → BQ 1 612 (.int i) := fun i h => bq1 (bq_int (by omega) (by omega))
  have pA : PQ (.tuple [.str "Aa", .int 2, .int 0]) := pq_no (bq_t4 (by simp) (by simp [bq1 (bq_str tA (by decide)), i1])) (by decide) (by decide) (fun a b e => by cases e)
  have p9 : PQ (.tuple [.str zb, .int 9, .int 0]) := pq_no (bq_t4 (by simp) (by simp [bq1 (bq_str tb (by decide)), i1])) (by decide) (by decide) (fun a b e => by cases e)
  have pW : PQ (.tuple [.str zh, .str "nowhere"]) := pq_no (bq_t4 (by simp) (by simp [bq1 (bq_str tlh (by decide)), bq1 (bq_str tN (by decide))])) (by decide) (by decide) (fun a b e => by cases e)
  have rA : Rp 4 1000 (.list [.tuple [.str "any", .tuple [.int 9]]]) := ⟨by decide +kernel, by decide +kernel, by decide +kernel, by decide +kernel⟩
  have pY : PQ (.tuple [.str zl, .list [.tuple [.str "any", .tuple [.int 9]]]]) := by
    refine pq_of (bq_tup (k := 4) (n := 2) (b := 1000) (by simp) (by decide) (fun y hy => ?_) (Nat.le_refl _)) (by decide) (by decide) fun a b e y hy => ?_
    · simp only [List.mem_cons, List.not_mem_nil, or_false] at hy
      rcases hy with rfl | rfl
      · exact (bq_str tl (by decide)).mono (by decide) (by decide)
      · exact bq_rp rA
    · simp only [PyData.tuple.injEq, List.cons.injEq, PyData.list.injEq, and_true] at e
      obtain ⟨_, rfl⟩ := e
      exact (Sh.elL (k := 60) ((rp_sh rA).mono (by decide)) y hy)
  have lpi : pi.length + 1 = ps.length := by rw [epi, List.length_append]; rfl
  have lhi : hi.length + 1 = hs.length := by rw [ehi, List.length_append]; rfl
  have mpi : ∀ x ∈ pi, PQ x := fun x hx => p1.pq x (by rw [epi]; simp [hx])
  have mhi : ∀ x ∈ hi, PQ x := fun x hx => p2.pq x (by rw [ehi]; simp [hx])
  have app : ∀ {xs : List PyData} {x : PyData}, xs.length ≤ 6 → (∀ y ∈ xs, PQ y) → PQ x → PartOk (.list (xs ++ [x])) := fun hl h hx => part_list (by rw [List.length_append]; exact Nat.succ_le_succ hl) fun y hy => (List.mem_append.mp hy).elim (h y) fun hy => by rw [List.mem_singleton.mp hy]; exact hx
  obtain ⟨x, ex, hx⟩ := atI_sat (P := Bad22) (xs := [.tuple [.list [], .list ps, .list hs], .tuple [.list bs, .list [], .list hs], .tuple [.list bs, .list ps, .list []], .tuple [.list bs, .list ps], .none, .list [.list bs, .list ps, .list hs],
    .tuple [.list (.tuple [.str "Aa", .int 2, .int 0] :: bs), .list ps, .list hs], .tuple [.list (bs ++ [.tuple [.str zb, .int wb, .int f0]]), .list ps, .list hs], .tuple [.list bs, .list (ps ++ [.tuple [.str zp, .list rp]]), .list hs],
    .tuple [.list bs, .list (pi ++ [.tuple [.str zl, .list [.tuple [.str "any", .tuple [.int 9]]]]]), .list hs], .tuple [.list [.tuple [.str zb, .int 9, .int 0]], .list ps, .list hs], .tuple [.list bs, .list ps, .list (hi ++ [.tuple [.str zh, .str "nowhere"]])]]) h0.1 h0.2 fun x hx => by
    simp only [List.mem_cons, List.not_mem_nil, or_false] at hx
    rcases hx with rfl | rfl | rfl | rfl | rfl | rfl | rfl | rfl | rfl | rfl | rfl | rfl
    · exact ⟨bq_three qN q1 q2, rfl, bad_b0⟩
    · exact ⟨bq_three q0 qN q2, rfl, bad_p0⟩
    · exact ⟨bq_three q0 q1 qN, rfl, bad_h0⟩
    · exact ⟨(bq_tup (k := 6) (b := 210000) (n := 2) (by simp) (by decide) (by simp [q0.1, q1.1]) (Nat.le_refl _)).mono (by decide) (by decide), rfl, bad_two⟩
    · exact ⟨bq_none.mono (by decide) (by decide), rfl, bad_non⟩
    · exact ⟨(bq_list (k := 6) (b := 210000) (n := 3) (by simp) (by decide) (by simp [q0.1, q1.1, q2.1]) (Nat.le_refl _)).mono (by decide) (by decide), rfl, bad_lst⟩
    · exact ⟨bq_three (part_list (by rw [List.length_cons]; omega) fun y hy => (List.mem_cons.mp hy).elim (fun e => by rw [e]; exact pA) (p0.pq y)) q1 q2, rfl, bad_b1 (by decide +kernel)⟩
    · exact ⟨bq_three (app lb.2 p0.pq (p0.pq _ mb)) q1 q2, rfl, bad_b2 mb⟩
    · exact ⟨bq_three q0 (app lp.2 p1.pq (p1.pq _ mp)) q2, rfl, bad_p1 mp⟩
    · exact ⟨bq_three q0 (app (by omega) mpi pY) q2, rfl, bad_p2⟩
    · refine ⟨bq_three (part_list (by simp) (by simpa using p9)) q1 q2, rfl, bad_b1 ?_⟩
      show (isNm _ && decide (2 ≤ (9 : Int)) && decide ((9 : Int) < 7) && isIn 0 9 _) = false
      simp
    · exact ⟨bq_three q0 q1 (app (by omega) mhi pW), rfl, bad_h1 nw⟩
  refine ⟨x, callR_v (h' := [.lst ([.tuple [.list [], .list ps, .list hs], .tuple [.list bs, .list [], .list hs], .tuple [.list bs, .list ps, .list []], .tuple [.list bs, .list ps], .none, .list [.list bs, .list ps, .list hs],
    .tuple [.list (.tuple [.str "Aa", .int 2, .int 0] :: bs), .list ps, .list hs], .tuple [.list (bs ++ [.tuple [.str zb, .int wb, .int f0]]), .list ps, .list hs], .tuple [.list bs, .list (ps ++ [.tuple [.str zp, .list rp]]), .list hs],
    .tuple [.list bs, .list (pi ++ [.tuple [.str zl, .list [.tuple [.str "any", .tuple [.int 9]]]]]), .list hs], .tuple [.list [.tuple [.str zb, .int 9, .int 0]], .list ps, .list hs], .tuple [.list bs, .list ps, .list (hi ++ [.tuple [.str zh, .str "nowhere"]])]].map .v)]) ?_, hx⟩
  have s : ∀ {k : Nat}, k ≤ 10000 → (k ≤ sizeLine) = True := fun h => sz (by omega)
  have s' : ∀ {k : Nat}, k ≤ 10000 → (k < sizeLine) = True := fun h => by have := lt_line (n := 10001) (by decide); simp; omega
  have n1 : (1 + bs.length ≤ sizeLine) = True := s (by omega)
  have n2 : (bs.length + 1 ≤ sizeLine) = True := s (by omega)
  have n3 : (ps.length + 1 ≤ sizeLine) = True := s (by omega)
  have n4 : (pi.length + 1 ≤ sizeLine) = True := s (by omega)
  have n5 : (hi.length + 1 ≤ sizeLine) = True := s (by omega)
  have lb0 : 0 < bs.length := lb.1
  have lp0 : 0 < ps.length := lp.1
  have ex' : ∀ {L : List PyData} {i : Int}, ixD (.ref 0) (.v (.int i)) [.lst (L.map .v)] = (atI L i).map D.v := fun {L i} => by
    show (atI (L.map D.v) i) = _
    rw [atI_map]
  have ex2 := ex' (L := [.tuple [.list [], .list ps, .list hs], .tuple [.list bs, .list [], .list hs], .tuple [.list bs, .list ps, .list []], .tuple [.list bs, .list ps], .none, .list [.list bs, .list ps, .list hs],
    .tuple [.list (.tuple [.str "Aa", .int 2, .int 0] :: bs), .list ps, .list hs], .tuple [.list (bs ++ [.tuple [.str zb, .int wb, .int f0]]), .list ps, .list hs], .tuple [.list bs, .list (ps ++ [.tuple [.str zp, .list rp]]), .list hs],
    .tuple [.list bs, .list (pi ++ [.tuple [.str zl, .list [.tuple [.str "any", .tuple [.int 9]]]]]), .list hs], .tuple [.list [.tuple [.str zb, .int 9, .int 0]], .list ps, .list hs], .tuple [.list bs, .list ps, .list (hi ++ [.tuple [.str zh, .str "nowhere"]])]]) (i := d0)
  rw [ex] at ex2
  simp only [List.map_cons, List.map_nil, Option.map_some] at ex2
  simp [F__law_bad_v1, mkFn, B__law_bad_v1, ekb, ekp, eb, ep, lb0, lp0, al, cl, ah, ch, n1, n2, n3, n4, n5, appendD, s' (k := 6) (by decide), s' (k := 7) (by decide), s' (k := 8) (by decide), s' (k := 9) (by decide), s' (k := 10) (by decide), s' (k := 11) (by decide), ex2]
end Fs
set_option maxHeartbeats 4000000
namespace Fs
open PySem PySem.Spec PyProof.Rows L2 Vl
/-! ## looms -/
def nowP (s : StM) (num hand : Int) (done : List PyData) : PyData := .tuple [stP s, .int num, .int hand, .tuple done]
abbrev loomC (m : Names) (p : Plan) (k : Nat) (now : PyData) : Cell := .ins "Loom" [("program", .v (progP m p)), ("marks", .ref k), ("now", .v now)]
theorem get_end {α : Type} (h : List α) (a : α) (r : List α) : (h ++ a :: r)[h.length]? = some a := by
  rw [List.getElem?_append_right (Nat.le_refl _), Nat.sub_self]
  rfl
theorem set_endC {α : Type} (h : List α) (a b : α) (r : List α) : (h ++ a :: r).set h.length b = h ++ b :: r := by
  rw [List.set_append_right _ _ (Nat.le_refl _), Nat.sub_self]
  rfl
@[simp] theorem lk_pr (a b c : D) : List.lookup (Str.ofString "program") [(Str.ofString "program", a), (Str.ofString "marks", b), (Str.ofString "now", c)] = some a := rfl
@[simp] theorem lk_mk (a b c : D) : List.lookup (Str.ofString "marks") [(Str.ofString "program", a), (Str.ofString "marks", b), (Str.ofString "now", c)] = some b := rfl
@[simp] theorem lk_nw (a b c : D) : List.lookup (Str.ofString "now") [(Str.ofString "program", a), (Str.ofString "marks", b), (Str.ofString "now", c)] = some c := rfl
@[simp] theorem lk_p2 (a b : D) : List.lookup (Str.ofString "program") [(Str.ofString "program", a), (Str.ofString "marks", b)] = some a := rfl
@[simp] theorem lk_state (a b c : D) : List.lookup (Str.ofString "state") [(Str.ofString "program", a), (Str.ofString "marks", b), (Str.ofString "now", c)] = none := rfl
@[simp] theorem lk_turn (a b c : D) : List.lookup (Str.ofString "turn") [(Str.ofString "program", a), (Str.ofString "marks", b), (Str.ofString "now", c)] = none := rfl
@[simp] theorem lk_choices (a b c : D) : List.lookup (Str.ofString "choices") [(Str.ofString "program", a), (Str.ofString "marks", b), (Str.ofString "now", c)] = none := rfl
@[simp] theorem lk_steps (a b c : D) : List.lookup (Str.ofString "steps") [(Str.ofString "program", a), (Str.ofString "marks", b), (Str.ofString "now", c)] = none := rfl
@[simp] theorem lk_weaving (a b c : D) : List.lookup (Str.ofString "weaving") [(Str.ofString "program", a), (Str.ofString "marks", b), (Str.ofString "now", c)] = none := rfl
@[simp] theorem lk_step (a b c : D) : List.lookup (Str.ofString "step") [(Str.ofString "program", a), (Str.ofString "marks", b), (Str.ofString "now", c)] = none := rfl
@[simp] theorem lk_on (a b c : D) : List.lookup (Str.ofString "on") [(Str.ofString "program", a), (Str.ofString "marks", b), (Str.ofString "now", c)] = none := rfl
@[simp] theorem lk_undo (a b c : D) : List.lookup (Str.ofString "undo") [(Str.ofString "program", a), (Str.ofString "marks", b), (Str.ofString "now", c)] = none := rfl
@[simp] theorem lk_keep (a b c : D) : List.lookup (Str.ofString "keep") [(Str.ofString "program", a), (Str.ofString "marks", b), (Str.ofString "now", c)] = none := rfl
@[simp] theorem pd_1 (a d : D) : putD (Str.ofString "marks") d [(Str.ofString "program", a)] = [(Str.ofString "program", a), (Str.ofString "marks", d)] := rfl
@[simp] theorem pd_2 (a b d : D) : putD (Str.ofString "now") d [(Str.ofString "program", a), (Str.ofString "marks", b)] = [(Str.ofString "program", a), (Str.ofString "marks", b), (Str.ofString "now", d)] := rfl
@[simp] theorem pd_3 (a b c d : D) : putD (Str.ofString "now") d [(Str.ofString "program", a), (Str.ofString "marks", b), (Str.ofString "now", c)] = [(Str.ofString "program", a), (Str.ofString "marks", b), (Str.ofString "now", d)] := rfl
theorem loom_no {n : Nat} {d : PyData} (hd : Dt n d) {s : Str} {k r : PyData} (e : due d = some (s, k, r)) (j : Nat) (h : Hs) : F_Loom__init [.ref j, .v d] h = some (.ex (noProg s k r) h) := by
  have e1 := look_at_ok hd h
  rw [e] at e1
  simp [F_Loom__init, mkFn, B_Loom__init, e1]
section
variable {m : Names} {p : Plan} {mp mr mh : Nat} (hm : m.Ok) (ok : p.Ok mp mr mh)
include hm ok
theorem loom_init (h1 : mp ≤ 6) (h2 : mr ≤ 8) (h3 : mh ≤ 3) (h4 : prodI p.ws ≤ 8) (h : Hs) : F_Loom__init [.ref h.length, .v (progP m p)] (h ++ [.ins "Loom" []]) = some (.rt (.v .none) (h ++ [loomC m p (h.length + 1) (nowP (begM p) 0 0 []), .lst []])) := by
  have rp := rp_prog hm ok h1 h2 h3
  have e1 := fun h => due_ok (rp_dt rp (by decide)) (prog_due hm ok h1 h2 h3 h4) h
  have e2 := fun h => begun_ok hm ok (by omega) h
  have epr : progP m p = .tuple [.list (boxesP m p), .list (procsP m 0 p.ps), .list (handsP m 0 p.hs)] := rfl
  have cc : ∀ h : Hs, compL none (gTp 2 (gsCons (gNm 5) (gsCons (gNm 6) gsNil))) tYes' (eTup (eCons (eVar 5) (eCons (eB (b1 lstP) (eCons (eVar 6) eNil)) eNil))) ((procsP m 0 p.ps).map .v) [some (.ref h.length), some (.v (progP m p)), some (.v (.list (boxesP m p))), some (.v (.list (procsP m 0 p.ps))), some (.v (.list (handsP m 0 p.hs))), none, none] (h ++ [.ins "Loom" []]) =
      some ((procsP m 0 p.ps).map fun x => D.v x, h ++ [.ins "Loom" []]) := fun h =>
    compMap (procsP m 0 p.ps) D.v (gTp 2 (gsCons (gNm 5) (gsCons (gNm 6) gsNil))) (eTup (eCons (eVar 5) (eCons (eB (b1 lstP) (eCons (eVar 6) eNil)) eNil))) (fun x => x) fun x hx => by
      obtain ⟨j, r, hr, rfl⟩ := procs_mem m hx
      exact ⟨_, rfl, by simp [procP]⟩
  have cc := cc h
  have gA : ∀ (a : Cell) (r : Hs), (h ++ a :: r)[h.length]? = some a := fun a r => get_end h a r
  have sA : ∀ (a b : Cell) (r : Hs), (h ++ a :: r).set h.length b = h ++ b :: r := fun a b r => set_endC h a b r
  rw [epr] at e1 e2 cc ⊢
  generalize boxesP m p = bs at *
  generalize procsP m 0 p.ps = ps at *
  generalize handsP m 0 p.hs = hs at *
  simp [-List.map_map, -y_put1, F_Loom__init, mkFn, B_Loom__init, e1, e2, cc, gA, sA, loomC, nowP, epr]
end
section
variable {m : Names} {p : Plan} {k j : Nat} {s : StM} {num hand : Int} {done : List PyData} {h : Hs} (e : h[j]? = some (loomC m p k (nowP s num hand done)))
include e
theorem loom_state : callI F_Loom__state [.ref j] h = some (.ok (.v (stP s)) h) := by
  generalize progP m p = P at *
  simp [callI, F_Loom__state, mkFn, B_Loom__state, e, nowP]
theorem loom_turn : callI F_Loom__turn [.ref j] h = some (.ok (.v (.tuple [.int num, .int hand])) h) := by
  generalize progP m p = P at *
  simp [callI, F_Loom__turn, mkFn, B_Loom__turn, e, nowP]
theorem loom_choices {mp mr mh : Nat} (hm : m.Ok) (ok : p.Ok mp mr mh) {B : Nat} (hs : s.Ok p B) {hd : Nat} (hh : hd < p.hs.length) (eh : hand = (hd : Int)) : callI F_Loom__choices [.ref j] h = some (.ok (.v (.list ((chsM p s hd).map .int))) h) := by
  subst eh
  have e1 := choices_ok hm ok hs hh h
  simp [callI, F_Loom__choices, mkFn, B_Loom__choices, e, nowP, e1]
end
theorem fields22 {n : Nat} {d : PyData} (hd : Dt n d) (no : due d ≠ none) {w : Int} (hw : w = 0 ∨ w = 1) (h : Hs) : callR F__law_fields_v1 [.int w, d] false h = some (.ok (.v (dueT d)) h) ∧ ∃ s k r, dueT d = .tuple [.str s, k, r] := by
  cases q : due d with
  | none => exact absurd q no
  | some x =>
    obtain ⟨s, k, r⟩ := x
    have eT : dueT d = .tuple [.str s, k, r] := by unfold dueT; rw [q]
    refine ⟨?_, s, k, r, eT⟩
    rw [eT]
    have e1 := fun h => look_at_ok hd h
    rw [q] at e1
    have e2 := loom_no hd q 0 [.ins "Loom" []]
    obtain ⟨as, a1, a2⟩ := anc_has "NoProgram" (by simp)
    have x1 : isXs ANC ["NoProgram"] (.exc "NoProgram" [("row", r), ("number", k), ("part", .str s)]) = some true := rfl
    have x3 : isXs ANC ["NoText", "NoStep", "NoMark", "NoRun", "NoNames", "TooMany", "TooLong", "Bare", "NoRow", "NoName"] (.exc "NoProgram" [("row", r), ("number", k), ("part", .str s)]) = some false := by
      show some _ = some false
      rfl
    have f1 : fldX ANC "part" (.exc "NoProgram" [("row", r), ("number", k), ("part", .str s)]) = some (.v (.str s)) := rfl
    have f2 : fldX ANC "number" (.exc "NoProgram" [("row", r), ("number", k), ("part", .str s)]) = some (.v k) := rfl
    have f3 : fldX ANC "row" (.exc "NoProgram" [("row", r), ("number", k), ("part", .str s)]) = some (.v r) := rfl
    rcases hw with rfl | rfl
    · refine callR_v (h' := []) ?_
      have tr := try_ex (anc := ANC) (t := "HandError") (c := "NoProgram") (as := as) (i := 3) (fs := [("row", r), ("number", k), ("part", .str s)]) (b := sSeq (sIf (tBl (eEq (eVar 0) (eC (.int 0)))) (sSeq (sExpr (eCall F_look_at (eCons (eVar 1) eNil))) sNext) (sSeq (sExpr (eNewC "Loom" F_Loom__init (eCons (eVar 1) eNil))) sNext)) sNext) (su := sSeq (sAsg (eVar 3) (gNm 2)) sNext)
        (s := [some (.v (.int 0)), some (.v d), some (.v .none), none]) (h := []) (h1 := []) (h2 := []) (s1 := [some (.v (.int 0)), some (.v d), some (.v .none), none])
        (s2 := [some (.v (.int 0)), some (.v d), some (.exc "NoProgram" [("row", r), ("number", k), ("part", .str s)]), some (.exc "NoProgram" [("row", r), ("number", k), ("part", .str s)])]) (by simp [e1, eqD_int]) a1 a2 (by simp)
      simp only [List.set_cons_succ, List.set_cons_zero] at tr
      simp [F__law_fields_v1, mkFn, B__law_fields_v1, tr, x1, x3, f1, f2, f3, ngt]
    · refine callR_v (h' := [.ins "Loom" []]) ?_
      have tr := try_ex (anc := ANC) (t := "HandError") (c := "NoProgram") (as := as) (i := 3) (fs := [("row", r), ("number", k), ("part", .str s)]) (b := sSeq (sIf (tBl (eEq (eVar 0) (eC (.int 0)))) (sSeq (sExpr (eCall F_look_at (eCons (eVar 1) eNil))) sNext) (sSeq (sExpr (eNewC "Loom" F_Loom__init (eCons (eVar 1) eNil))) sNext)) sNext) (su := sSeq (sAsg (eVar 3) (gNm 2)) sNext)
        (s := [some (.v (.int 1)), some (.v d), some (.v .none), none]) (h := []) (h1 := [.ins "Loom" []]) (h2 := [.ins "Loom" []]) (s1 := [some (.v (.int 1)), some (.v d), some (.v .none), none])
        (s2 := [some (.v (.int 1)), some (.v d), some (.exc "NoProgram" [("row", r), ("number", k), ("part", .str s)]), some (.exc "NoProgram" [("row", r), ("number", k), ("part", .str s)])]) (by simp [e2, eqD_int, callI]) a1 a2 (by simp)
      simp only [List.set_cons_succ, List.set_cons_zero] at tr
      simp [F__law_fields_v1, mkFn, B__law_fields_v1, tr, x1, x3, f1, f2, f3, ngt]
end Fs
set_option maxHeartbeats 4000000
namespace Fs
open PySem PySem.Spec PyProof.Rows L2 Vl
abbrev menu22 : List (List Int) := [[2], [3], [2, 2], [4], [2, 3], [5], [2, 2, 2], [6]]
theorem menu22_ok : ∀ ws ∈ menu22, WsOk ws := by
  unfold WsOk
  decide
theorem menu22_small : ∀ ws ∈ menu22, prodI ws ≤ 8 := by decide
theorem dig2 {s0 s1 : Int} {es : List Int} (h : Dig [s0, s1] es) : ∃ d0 d1, es = [d0, d1] ∧ (0 ≤ d0 ∧ d0 < s0) := by
  match es, h with
  | [d0, d1], h => exact ⟨d0, d1, rfl, h.1⟩
theorem ok_wide {p : Plan} {mp mr mh : Nat} (ok : p.Ok mp mr mh) (h1 : mp ≤ 6) (h2 : mr ≤ 8) (h3 : mh ≤ 3) : p.Ok 6 8 3 :=
  ⟨ok.ws, ok.fl, ok.fs, ⟨ok.pl.1, Nat.le_trans ok.pl.2 h1⟩, fun r hr => let ⟨a, b, c⟩ := ok.ps r hr; ⟨a, Nat.le_trans b h2, c⟩, ⟨ok.hl.1, Nat.le_trans ok.hl.2 h3⟩, ok.hs⟩
theorem nowhere_no {m : Names} {n : Int} (hm : m = Names.of n) {k : Nat} {rs : List (List RowI)} : ("nowhere" : Str) ∉ (procsP m k rs).map nmOf := fun h => by
  obtain ⟨x, hx, e⟩ := List.mem_map.mp h
  obtain ⟨j, r, _, rfl⟩ := procs_mem m hx
  have e : m.t (k + j) = Str.ofString "nowhere" := e
  rw [hm] at e
  have e : nameF (n / 208 % 208) (k + j) = Str.ofString "nowhere" := e
  have el := congrArg (fun z : Str => z.cps.toList.length) e
  have l7 : (Str.ofString "nowhere").cps.toList.length = 7 := by decide +kernel
  simp only [l7] at el
  rcases name_tl (n / 208 % 208) (k + j) with q | q <;> rw [q] at el <;> rcases more_tl (n / 208 % 208) with w | w | w | w <;> rw [w] at el <;> simp at el
theorem law22 (ns : List Int) (hn : ns.length ≤ 63) : ∃ h', Fs.F_law22 [.v (.list (ns.map .int))] [] = some (.rt (.v (.bool true)) h') := by
  obtain ⟨p, ok, hw, e1⟩ := plan_ok (ns := ns) (menu := menu22) (mp := 4) (mr := 5) (mh := 3) menu22_ok (by decide) (by decide) (by decide) (by decide) []
  obtain ⟨c, e2⟩ := cell_ok ns 5 (by omega) []
  have e3 := program_ok ok (by decide) (by decide) (by decide) (number := (if c < 0 then -c else c)) (by split <;> omega) []
  have hm := Names.of_ok (if c < 0 then -c else c)
  have nw := fun k rs => nowhere_no (m := Names.of (if c < 0 then -c else c)) rfl (k := k) (rs := rs)
  generalize hM : Names.of (if c < 0 then -c else c) = m at *
  have okw := ok_wide ok (by decide) (by decide) (by decide)
  have p0 := p3_boxes hm okw
  have p1 := p3_procs hm okw
  have p2 := p3_hands hm okw
  have fb : ∀ x ∈ boxesP m p, ∃ z w f, x = .tuple [.str z, .int w, .int f] ∧ Tx 8 z := fun x hx => by
    obtain ⟨k, hk, rfl⟩ := List.mem_map.mp hx
    exact ⟨_, _, _, rfl, isName_ok (hm.b _)⟩
  have fp : ∀ x ∈ procsP m 0 p.ps, ∃ z r, x = .tuple [.str z, .list r] ∧ Tx 8 z := fun x hx => by
    obtain ⟨j, r, _, rfl⟩ := procs_mem m hx
    exact ⟨_, _, rfl, isName_ok (hm.t _)⟩
  have fh : ∀ x ∈ handsP m 0 p.hs, ∃ z t, x = .tuple [.str z, .str t] ∧ Tx 8 z := fun x hx => by
    obtain ⟨j, r, _, rfl⟩ := hands_mem m hx
    exact ⟨_, _, rfl, isName_ok (hm.h _)⟩
  have li := loom_init hm ok (by decide) (by decide) (by decide) (menu22_small _ hw) []
  have so := beg_ok ok
  have h0 : 0 < p.hs.length := ok.hl.1
  obtain ⟨H, hH⟩ : ∃ H : Hs, H = [loomC m p 1 (nowP (begM p) 0 0 []), .lst []] := ⟨_, rfl⟩
  have li : callI F_Loom__init [.ref 0, .v (progP m p)] [.ins "Loom" []] = some (.ok (.v .none) H) := by
    rw [hH]
    have li : F_Loom__init [.ref 0, .v (progP m p)] [.ins "Loom" []] = some (.rt (.v .none) [loomC m p 1 (nowP (begM p) 0 0 []), .lst []]) := li
    unfold callI
    rw [li]
  have g0 : H[0]? = some (loomC m p 1 (nowP (begM p) 0 0 [])) := by rw [hH]; rfl
  have gi : insOf "Loom" (.ref 0) H = some ((0 : Nat), ([("program", .v (progP m p)), ("marks", .ref 1), ("now", .v (nowP (begM p) 0 0 []))] : List (Str × D))) := by
    rw [hH]
    rfl
  have m1 := loom_state g0
  have m2 := loom_turn g0
  have m3 := loom_choices g0 hm ok so h0 rfl
  have l1 := law_begun_ok hm ok H
  have l2 : callR F__law_choices [planP p, stP (begM p), .int 0] false H = some (.ok (.v (.list ((chsM p (begM p) 0).map .int))) H) := law_choices_ok hm ok so h0 H
  have sh1 : Sh 4 (stP (begM p)) := st_sh ok so
  have st : ∀ k : Nat, k < 6 → W_law22_1 [some (.v (.list (ns.map .int))), some (.v (planP p)), some (.v (progP m p)), some (.ref 0), some (.v (.int k)), none, none, none] H = some (.nx (S_law22_1 (.v (.list (ns.map .int))) (.v (planP p)) (.v (progP m p)) (.ref 0)) H) := fun k hk => by
    obtain ⟨c1, f1⟩ := cell_ok ns (6 + k) (by omega) H
    obtain ⟨es, f2, dg⟩ := dig_call (cell := c1) (turn := k) (sizes := [12, 6]) (h := H) (by decide) (by decide) (by omega) (by omega)
    obtain ⟨d0, d1, rfl, q0⟩ := dig2 dg
    obtain ⟨x, f3, bx⟩ := law_bad22_ok (d1 := d1) p0 p1 p2 fb fp fh (nw 0 p.ps) q0 H
    have f3 : callR F__law_bad_v1 [progP m p, .list [.int d0, .int d1]] false H = some (.ok (.v x) H) := f3
    have re : repr2D [.v x] H = some (.v (.str x.shown)) := repr04 bx.bq (by decide) (by decide) bx.di
    obtain ⟨f4, s, k', r, f6⟩ := fields22 bx.bq.2 bx.no (w := 1) (.inr rfl) H
    obtain ⟨f5, _⟩ := fields22 bx.bq.2 bx.no (w := 0) (.inl rfl) H
    have sx : Sh 5 (dueT x) := by
      have := due_sh x
      exact (Sh.elL (this.mono (show 2 ≤ 5 by decide)) (dueT x) (by simp))
    have q1 := eqD_refl (neg := true) sx (by decide) H
    have q2 : eqD true (.v (.str x.shown)) (.v (.str x.shown)) H = some (.v (.bool false)) := by rw [eqD_s]; simp
    have q3 := eqD_refl (neg := true) sh1 (by decide) H
    have q4 : eqD true (.v (.list ((chsM p (begM p) 0).map .int))) (.v (.list ((chsM p (begM p) 0).map .int))) H = some (.v (.bool false)) := eqD_refl (n := 3) (sh_list (n := 2) fun y hy => by
      obtain ⟨i, _, rfl⟩ := List.mem_map.mp hy
      exact sh_int _) (by decide) H
    have nn : isNoneD (.v (dueT x)) = false := by rw [f6]; rfl
    simp only [List.map_cons, List.map_nil] at f2
    simp only [nowP] at gi
    generalize progP m p = P at *
    generalize planP p = Q at *
    simp [-y_insOf, W_law22_1, L_law22_1, f1, f2, f3, f4, f5, re, q1, q2, q3, q4, nn, gi, m1, m3, l1, l2, ngt]
  have lp : forL none G_law22_1 W_law22_1 ((List.range 6).map fun k : Nat => D.v (.int (k : Int))) (S_law22_1 (.v (.list (ns.map .int))) (.v (planP p)) (.v (progP m p)) (.ref 0)) H = some (.nx (S_law22_1 (.v (.list (ns.map .int))) (.v (planP p)) (.v (progP m p)) (.ref 0)) H) :=
    forL_rng fun k hk => ⟨_, rfl, st k hk⟩
  have rg : kRng1 [.v (.int 6)] H = _ := rng1 (n := 6) (by decide) (by decide)
  have q5 : eqD false (.v (.tuple [.int 0, .int 0])) (.v (.tuple [.int 0, .int 0])) H = some (.v (.bool true)) := eqD_refl (n := 3) (sh_tup (n := 2) fun y hy => by
    simp only [List.mem_cons, List.not_mem_nil, or_false] at hy
    rcases hy with rfl | rfl <;> exact sh_int _) (by decide) H
  simp only [Int.cast_ofNat_Int, List.map_cons, List.map_nil] at e1 e3
  simp only [nowP] at gi
  simp [-y_insOf, F_law22, mkFn, B_law22, rg, -List.map_map, lp, e1, e2, e3, li, gi, m2, q5]
end Fs
theorem PySem.Challenge.cw_roundhand_k22_no_looms_holds : PySem.Challenge.rw_roundhand_k22_no_looms.Holds := by
  exact G22.holds_of Fs.law22
