import PyProof.Rows.All
import Wide.All
import OpenK.AllK
import Wide.FinOn
import KE.KStateDown
import Lean
import HandS.ForMost
import HandS.Exc
import HandS.ExcOwn
import HandS.TryOnly
import HandS.TryMany
import HandS.Flow
import HandS.WordsExc
import HandS.Style
import HandS.TupAny
import HandS.TupMul
import HandS.Deep
import HandS.Wide
import HandS.Text
import HandS.IsInst
import HandS.Defaults
import HandS.Walk
import HandS.Zip
import HandS.More
import HandS.Dict
import KE.GoesNew
import KE.GoesMore
import KE.GoesZip
import KE.GoesEnum
import HandS.Ends
import HandS.RaiseMore
import HandS.ExcInit
import HandS.ClsMeth
import HandS.ExcIs
import HandS.ExcField
import HandS.Head0
import HandS.Head1
import HandS.Head2
import HandS.HeadEnd
import HandS.HeadHook1
import HandS.HeadHook2
import HandS.Conv
import PyProof.AutoSeq1
import HandS.Iter
import PyProof.EqKinds
import PyProof.FactsAll.dict_1
import PyProof.FactsAll.subtypes_4
import HandS.Sort
import PyProof.P3In
import HandS.ExcValue
import HandS.NoneIn
import PyProof.StrOps2
import KE.KTab
import HandS.Steps
import HandS.HeadHook3
import PySem.Challenge.RW_roundhand_k08_read_again
set_option Elab.async false
set_option linter.all false
set_option maxRecDepth 100000
set_option maxHeartbeats 4000000
namespace Vl
open PySem PySem.Spec PyProof.Rows L2

/-- a test that nothing unfolds -/
noncomputable def yes (p : Prop) : Bool := @decide p (Classical.propDecidable p)
theorem yes_iff {p : Prop} : (yes p = true) = p := propext ⟨fun h => @of_decide_eq_true p (Classical.propDecidable p) h, fun h => @decide_eq_true p (Classical.propDecidable p) h⟩
theorem yes_of {p : Prop} (h : p) : yes p = true := yes_iff ▸ h
/-! ## values -/
/-- a value: frozen data, a cell of this activation, or a tuple with cells in it -/
inductive D where
  | v (d : PyData)
  | ref (n : Nat)
  | mix (xs : List D)
  | exc (c : Str) (fs : List (Str × PyData))
inductive Cell where
  | lst (xs : List D)
  | dct (kvs : List (Key × D))
  | ins (c : Str) (fs : List (Str × D))
abbrev Hs := List Cell
abbrev Sl := List (Option D)
abbrev KF := PySem.W.Frag

/-- the name of the own class at C -/
def clsN (K : KF) (C : Addr) : Option Str := match K.lookup C with
  | some o => (match o.data with
    | .cls cd => some cd.name
    | _ => none)
  | none => none
/-- an exception that was caught -/
def exw (a C : Addr) (da : Option Addr) : HO := .ext fun h => ∃ vs sl, h.get? a = some (⟨.ref C, da, .fields vs, sl⟩ : Obj)

/-- the world as the interpreter sees it -/
structure Wd where
  ι : List Addr
  Fz : Addr → Prop
  h : Hs
  H : Hp

/-- a list of the module's own text -/
def KL (K : KF) (a : Addr) (xs : List V) : Prop := ∃ (o : Obj) (its : Array Value) (n : Nat), K.lookup a = some o ∧ o.cls = .type "list" ∧ o.dict = none ∧ o.data = .seq its n ∧ its.size ≤ sizeLine ∧ Vals xs its.toList
/-- a list that nobody changes any more -/
def LRd (K : KF) (Fz : Addr → Prop) (H : Hp) (a : Addr) (vs : List V) : Prop := (Fz a ∧ Rd H a (.lst vs)) ∨ KL K a vs
theorem LRd.sql {K : KF} {Fz : Addr → Prop} {H : Hp} {a : Addr} {vs : List V} (h : LRd K Fz H a vs) : SqL K H a vs := h.elim (fun z => .inl z.2) .inr
/-- a key of a dict -/
def keyP : PyData → Option Key
  | .int i => some (.inl i)
  | .str z => some (.inr z)
  | _ => none
mutual
def RepP (K : KF) (Fz : Addr → Prop) (H : Hp) : PyData → V → Prop
  | .none, v => v = .non
  | .bool b, v => v = .bl b
  | .int i, v => v = .int i
  | .str x, v => v = .str x
  | .list ds, v => ∃ a vs, v = .ref a ∧ LRd K Fz H a vs ∧ RepPs K Fz H ds vs
  | .tuple ds, v => ∃ a vs, v = .ref a ∧ SqT K H a vs ∧ RepPs K Fz H ds vs
  | .dict kvs, v => ∃ a ks, v = .ref a ∧ Fz a ∧ H a = some (.dK ks) ∧ RepKs K Fz H kvs ks
def RepPs (K : KF) (Fz : Addr → Prop) (H : Hp) : List PyData → List V → Prop
  | [], vs => vs = []
  | d :: ds, vs => ∃ v r, vs = v :: r ∧ RepP K Fz H d v ∧ RepPs K Fz H ds r
def RepKs (K : KF) (Fz : Addr → Prop) (H : Hp) : List (PyData × PyData) → List (Key × V) → Prop
  | [], ks => ks = []
  | (k, d) :: r, ks => ∃ q v ks', ks = (q, v) :: ks' ∧ keyP k = some q ∧ RepP K Fz H d v ∧ RepKs K Fz H r ks'
end
mutual
def RepD (K : KF) (w : Wd) : D → V → Prop
  | .v d, v => RepP K w.Fz w.H d v
  | .ref n, v => ∃ a, w.ι[n]? = some a ∧ v = .ref a
  | .mix ds, v => ∃ a vs, v = .ref a ∧ SqT K w.H a vs ∧ RepDs K w ds vs
  | .exc c fs, v => ∃ a C da, v = .ref a ∧ clsN K C = some c ∧ w.H a = some (exw a C da) ∧ ((fs = [] ∧ da = none) ∨
      ∃ d fv, da = some d ∧ w.H d = some (.xd fv) ∧ fv.map (·.1) = fs.map (·.1) ∧ RepPs K w.Fz w.H (fs.map (·.2)) (fv.map (·.2)))
def RepDs (K : KF) (w : Wd) : List D → List V → Prop
  | [], vs => vs = []
  | d :: ds, vs => ∃ v r, vs = v :: r ∧ RepD K w d v ∧ RepDs K w ds r
end
def CellOk (K : KF) (w : Wd) (a : Addr) : Cell → Prop
  | .lst ds => ∃ vs, w.H a = some (.lst vs) ∧ RepDs K w ds vs
  | .dct kvs => ∃ ks, w.H a = some (.dK ks) ∧ ks.map (·.1) = kvs.map (·.1) ∧ RepDs K w (kvs.map (·.2)) (ks.map (·.2))
  | .ins c fs => ∃ C dx fv, clsN K C = some c ∧ w.H a = some (.ins C dx fv) ∧ w.H dx = some (.own a) ∧ fv.map (·.1) = fs.map (·.1) ∧ RepDs K w (fs.map (·.2)) (fv.map (·.2))
/-- what a cell may be -/
def Mut : HO → Prop
  | .lst _ => True
  | .dK _ => True
  | .ins _ _ _ => True
  | _ => False

structure Wd.Ok (K : KF) (w : Wd) : Prop where
  nd : w.ι.Nodup
  len : w.ι.length = w.h.length
  cell : ∀ (n : Nat) a c, w.ι[n]? = some a → w.h[n]? = some c → CellOk K w a c
  apart : ∀ a, w.Fz a → a ∉ w.ι
  there : ∀ a, w.Fz a → w.H a ≠ none

structure Wd.Le (w w' : Wd) : Prop where
  more : ∃ m, w'.ι = w.ι ++ m ∧ ∀ a ∈ m, w.H a = none
  up : ∀ a, w.Fz a → w'.Fz a
  new : ∀ a, w'.Fz a → w.Fz a ∨ w.H a = none
  keep : ∀ b o, w.H b = some o → b ∉ w.ι → w'.H b = some o

section
variable {K : KF} {w w' w'' : Wd}
theorem CellOk.mut {a : Addr} : ∀ {c : Cell}, CellOk K w a c → ∃ o, w.H a = some o ∧ Mut o
  | .lst _, ⟨_, e, _⟩ => ⟨_, e, trivial⟩
  | .dct _, ⟨_, e, _⟩ => ⟨_, e, trivial⟩
  | .ins _ _, ⟨_, _, _, _, e, _⟩ => ⟨_, e, trivial⟩
theorem Wd.Ok.tracked (ok : w.Ok K) {a : Addr} (h : a ∈ w.ι) : ∃ o, w.H a = some o ∧ Mut o := by
  obtain ⟨n, hn, e⟩ := List.getElem_of_mem h
  have hl : n < w.h.length := by rw [← ok.len]; exact hn
  have c := ok.cell n a _ (by rw [List.getElem?_eq_getElem hn, e]) (List.getElem?_eq_getElem hl)
  exact c.mut
theorem Wd.Le.refl (w : Wd) : w.Le w := ⟨⟨[], by simp, by simp⟩, fun _ h => h, fun _ h => .inl h, fun _ _ h _ => h⟩
theorem Wd.Le.trans (a : w.Le w') (b : w'.Le w'') (ok : w'.Ok K) : w.Le w'' := by
  obtain ⟨m, em, hm⟩ := a.more
  obtain ⟨m', em', hm'⟩ := b.more
  have back : ∀ x, w'.H x = none → w.H x = none := fun x hx => by
    cases q : w.H x with
    | none => rfl
    | some o =>
      by_cases hi : x ∈ w.ι
      · have : x ∈ w'.ι := by rw [em]; exact List.mem_append_left _ hi
        obtain ⟨_, e, _⟩ := ok.tracked this
        rw [hx] at e; cases e
      · have := a.keep x o q hi
        rw [hx] at this; cases this
  refine ⟨⟨m ++ m', by rw [em', em, List.append_assoc], fun x hx => ?_⟩, fun x h => b.up x (a.up x h), fun x h => ?_, fun x o h hi => ?_⟩
  · rcases List.mem_append.mp hx with h | h
    · exact hm x h
    · exact back x (hm' x h)
  · rcases b.new x h with h | h
    · exact a.new x h
    · exact .inr (back x h)
  · have h1 := a.keep x o h hi
    refine b.keep x o h1 fun hx => ?_
    rw [em] at hx
    rcases List.mem_append.mp hx with h' | h'
    · exact hi h'
    · rw [hm x h'] at h; cases h
theorem Rd.keepW (ok : w.Ok K) (le : w.Le w') {a : Addr} {u : HO} (h : Rd w.H a u) (hi : a ∉ w.ι) : Rd w'.H a u := by
  rcases h with h | ⟨o, h⟩
  · exact .inl (le.keep _ _ h hi)
  · exact .inr ⟨o, le.keep _ _ h hi⟩
theorem SqT.keepW (ok : w.Ok K) (le : w.Le w') {a : Addr} {vs : List V} (h : SqT K w.H a vs) : SqT K w'.H a vs := by
  rcases h with h | h
  · refine .inl (Rd.keepW ok le h fun hi => ?_)
    obtain ⟨u, e, m⟩ := ok.tracked hi
    rcases h with h | ⟨o, h⟩
    · rw [e] at h; cases h; exact m
    · rw [e] at h; cases h; exact m
  · exact .inr h
theorem LRd.keepW (ok : w.Ok K) (le : w.Le w') {a : Addr} {vs : List V} (h : LRd K w.Fz w.H a vs) : LRd K w'.Fz w'.H a vs := by
  rcases h with h | h
  · exact .inl ⟨le.up _ h.1, Rd.keepW ok le h.2 (ok.apart _ h.1)⟩
  · exact .inr h
theorem keep_not (ok : w.Ok K) (le : w.Le w') {a : Addr} {o : HO} (h : w.H a = some o) (n : ¬ Mut o) : w'.H a = some o := le.keep _ _ h fun z => by
  obtain ⟨u, e, m⟩ := ok.tracked z
  rw [h] at e
  cases e
  exact n m
theorem CellOk.mono (ok : w.Ok K) (le : w.Le w') {a : Addr} : ∀ {c : Cell}, CellOk K w a c → (∀ o, w.H a = some o → w'.H a = some o) → (∀ {ds : List D} {vs : List V}, RepDs K w ds vs → RepDs K w' ds vs) → CellOk K w' a c
  | .lst _, ⟨vs, e, r⟩, k, i => ⟨vs, k _ e, i r⟩
  | .dct _, ⟨ks, e, n, r⟩, k, i => ⟨ks, k _ e, n, i r⟩
  | .ins _ _, ⟨C, dx, fv, hc, e, hd, n, r⟩, k, i => ⟨C, dx, fv, hc, k _ e, keep_not ok le hd (fun z => z), n, i r⟩
mutual
theorem RepP.mono (ok : w.Ok K) (le : w.Le w') : ∀ (d : PyData) {v : V}, RepP K w.Fz w.H d v → RepP K w'.Fz w'.H d v
  | .none, _, h => h
  | .bool _, _, h => h
  | .int _, _, h => h
  | .str _, _, h => h
  | .list ds, _, ⟨a, vs, e, hr, hs⟩ => ⟨a, vs, e, LRd.keepW ok le hr, RepPs.mono ok le ds hs⟩
  | .tuple ds, _, ⟨a, vs, e, hr, hs⟩ => ⟨a, vs, e, SqT.keepW ok le hr, RepPs.mono ok le ds hs⟩
  | .dict ks, _, ⟨a, us, e, hf, hr, hs⟩ => ⟨a, us, e, le.up _ hf, le.keep _ _ hr (ok.apart _ hf), RepKs.mono ok le ks hs⟩
theorem RepPs.mono (ok : w.Ok K) (le : w.Le w') : ∀ (ds : List PyData) {vs : List V}, RepPs K w.Fz w.H ds vs → RepPs K w'.Fz w'.H ds vs
  | [], _, h => h
  | d :: ds, _, ⟨v, r, e, h1, h2⟩ => ⟨v, r, e, RepP.mono ok le d h1, RepPs.mono ok le ds h2⟩
theorem RepKs.mono (ok : w.Ok K) (le : w.Le w') : ∀ (ds : List (PyData × PyData)) {vs : List (Key × V)}, RepKs K w.Fz w.H ds vs → RepKs K w'.Fz w'.H ds vs
  | [], _, h => h
  | (k, d) :: ds, _, ⟨q, v, r, e, hk, h1, h2⟩ => ⟨q, v, r, e, hk, RepP.mono ok le d h1, RepKs.mono ok le ds h2⟩
end
mutual
theorem RepD.mono (ok : w.Ok K) (le : w.Le w') : ∀ (d : D) {v : V}, RepD K w d v → RepD K w' d v
  | .v d, _, h => RepP.mono ok le d h
  | .ref n, _, ⟨a, e, r⟩ => by
    obtain ⟨m, em, _⟩ := le.more
    refine ⟨a, ?_, r⟩
    rw [em, List.getElem?_append_left (List.getElem?_eq_some_iff.mp e).1]
    exact e
  | .mix ds, _, ⟨a, vs, e, hr, hs⟩ => ⟨a, vs, e, SqT.keepW ok le hr, RepDs.mono ok le ds hs⟩
  | .exc c fs, _, ⟨a, C, da, e, hc, ha, hf⟩ => ⟨a, C, da, e, hc, keep_not ok le ha (fun z => z), hf.imp id fun ⟨d, fv, e1, h1, h2, h3⟩ => ⟨d, fv, e1, keep_not ok le h1 (fun z => z), h2, RepPs.mono ok le _ h3⟩⟩
theorem RepDs.mono (ok : w.Ok K) (le : w.Le w') : ∀ (ds : List D) {vs : List V}, RepDs K w ds vs → RepDs K w' ds vs
  | [], _, h => h
  | d :: ds, _, ⟨v, r, e, h1, h2⟩ => ⟨v, r, e, RepD.mono ok le d h1, RepDs.mono ok le ds h2⟩
end
theorem RepPs.len : ∀ {ds : List PyData} {vs : List V} {Fz : Addr → Prop} {H : Hp}, RepPs K Fz H ds vs → vs.length = ds.length
  | [], _, _, _, h => by
    rw [show _ = [] from h]
    rfl
  | d :: ds, _, _, _, ⟨v, r, e, _, h2⟩ => by
    rw [e, List.length_cons, List.length_cons, RepPs.len h2]
theorem RepDs.len : ∀ {ds : List D} {vs : List V}, RepDs K w ds vs → vs.length = ds.length
  | [], _, h => by
    rw [show _ = [] from h]
    rfl
  | d :: ds, _, ⟨v, r, e, _, h2⟩ => by
    rw [e, List.length_cons, List.length_cons, RepDs.len h2]
end

/-! ## what the caller of a piece of code wants -/
/-- an exception as it is told: its class by name, its fields -/
structure Ex where
  c : Str
  fs : List (Str × D)
inductive ER where
  | ok (d : D) (h : Hs)
  | ex (x : Ex) (h : Hs)
abbrev EM := Sl → Hs → Option ER

/-- how an exception lies in the heap -/
def ExRep (K : KF) (mg : Str → Option Value) (w : Wd) (x : Ex) (cls : Value) (da : Option Addr) : Prop :=
  ∃ C, mg x.c = some (.ref C) ∧ cls = .ref C ∧ ((x.fs = [] ∧ da = none) ∨
    ∃ d fv, da = some d ∧ w.H d = some (.xd fv) ∧ RepDs K w (x.fs.map (·.2)) (fv.map (·.2)) ∧ fv.map (·.1) = x.fs.map (·.1))

structure SRep (K : KF) (w : Wd) (sl : Sl) (σ : L2.St) : Prop where
  len : sl.length = σ.length
  at' : ∀ (i : Nat) d, sl[i]? = some (some d) → ∃ v, σ[i]? = some (some v) ∧ RepD K w d v
theorem SRep.mono {K : KF} {w w' : Wd} {sl : Sl} {σ : L2.St} (s : SRep K w sl σ) (ok : w.Ok K) (le : w.Le w') : SRep K w' sl σ :=
  ⟨s.len, fun i d h => let ⟨v, e, r⟩ := s.at' i d h; ⟨v, e, RepD.mono ok le d r⟩⟩

section
variable (K : KF) (mg : Str → Option Value) (W : WX)
def WpE (σ : L2.St) (r : Option ER) (w : Wd) (R : D → V → Wd → Prop) : Prop :=
  match r with
  | some (.ok d h') => ∀ w' v, w.Le w' → w'.Ok K → w'.h = h' → RepD K w' d v → R d v w'
  | some (.ex x h') => ∀ w' cls da, w.Le w' → w'.Ok K → w'.h = h' → ExRep K mg w' x cls da → W cls da σ w'.H
  | none => False
def tI (f : EM) : TE := fun σ H Q => ∃ (w : Wd) (sl : Sl), w.H = H ∧ w.Ok K ∧ SRep K w sl σ ∧ WpE K mg W σ (f sl w.h) w fun _ v w' => Q v w'.H
end
/-- an expression does what f says -/
def SE (X : Cx) (W : WX) (e : Expr) (f : EM) : Prop := PE X e (tI X.K X.mg W f)

theorem PE.mono' {X : Cx} {e : Expr} {t t' : TE} (h : PE X e t) (i : ∀ σ H Q, t' σ H Q → t σ H Q) : PE X e t' := ⟨fun pins s σ H Q I q => h.run pins s σ H Q I (i σ H Q q)⟩
theorem PT.mono' {X : Cx} {e : Expr} {t t' : TT} (h : PT X e t) (i : ∀ σ H Q, t' σ H Q → t σ H Q) : PT X e t' := ⟨fun pins s σ H Q I q => h.run pins s σ H Q I (i σ H Q q)⟩
theorem PA.mono' {X : Cx} {e : List Expr} {t t' : TA} (h : PA X e t) (i : ∀ σ H Q, t' σ H Q → t σ H Q) : PA X e t' := ⟨fun pos pins s σ H Q I q => h.run pos pins s σ H Q I (i σ H Q q)⟩
theorem PS.mono' {X : Cx} {e : Stmt} {t t' : TS} (h : PS X e t) (i : ∀ D σ H, t' D σ H → t D σ H) : PS X e t' := ⟨fun pins s σ H D I q => h.run pins s σ H D I (i D σ H q)⟩
theorem PSs.mono' {X : Cx} {e : List Stmt} {t t' : TS} (h : PSs X e t) (i : ∀ D σ H, t' D σ H → t D σ H) : PSs X e t' := ⟨fun pins s σ H D I q => h.run pins s σ H D I (i D σ H q)⟩

section
variable {K : KF} {mg : Str → Option Value} {W : WX} {σ : L2.St} {w w1 : Wd} {sl : Sl}
theorem WpE.le {r : Option ER} {R : D → V → Wd → Prop} (h : WpE K mg W σ r w R) (le : w.Le w1) (ok : w1.Ok K) : WpE K mg W σ r w1 R := by
  unfold WpE at h ⊢
  split
  · exact fun w' v l o e r => h w' v (le.trans l ok) o e r
  · exact fun w' v da l o e r => h w' v da (le.trans l ok) o e r
  · exact h
theorem WpE.imp {r : Option ER} {R R' : D → V → Wd → Prop} (h : WpE K mg W σ r w R) (i : ∀ d v w', w.Le w' → w'.Ok K → RepD K w' d v → R d v w' → R' d v w') : WpE K mg W σ r w R' := by
  unfold WpE at h ⊢
  split
  · exact fun w' v l o e r => i _ v w' l o r (h w' v l o e r)
  · exact h
  · exact h
def EM.bind (f : EM) (k : D → EM) : EM := fun s h => match f s h with
  | some (.ok d h') => k d s h'
  | some (.ex x h') => some (.ex x h')
  | none => none
def EM.lift (g : Hs → Option D) : EM := fun _ h => match g h with
  | some d => some (.ok d h)
  | none => none
/-- what is known behind the first of several pieces -/
theorem tI_bind {f : EM} {k : D → EM} {R : D → V → Wd → Prop} {Q : VK} (ok : w.Ok K) (hs : SRep K w sl σ) (h : WpE K mg W σ ((f.bind k) sl w.h) w R)
    (q : ∀ d v w1, w.Le w1 → w1.Ok K → SRep K w1 sl σ → RepD K w1 d v → WpE K mg W σ (k d sl w1.h) w1 R → Q v w1.H) : tI K mg W f σ w.H Q := by
  refine ⟨w, sl, rfl, ok, hs, ?_⟩
  unfold EM.bind at h
  unfold WpE
  cases e : f sl w.h with
  | none =>
    rw [e] at h
    exact h
  | some r =>
    cases r with
    | ok d h' =>
      rw [e] at h
      exact fun w' v l o eh r => q d v w' l o (hs.mono ok l) r (by rw [eh]; exact WpE.le h l o)
    | ex x h' =>
      rw [e] at h
      exact h
theorem WpE.lift {g : Hs → Option D} {R : D → V → Wd → Prop} (h : WpE K mg W σ (EM.lift g sl w.h) w R) : ∃ d, g w.h = some d ∧ ∀ w' v, w.Le w' → w'.Ok K → w'.h = w.h → RepD K w' d v → R d v w' := by
  unfold EM.lift at h
  cases e : g w.h with
  | none =>
    rw [e] at h
    exact h.elim
  | some d =>
    rw [e] at h
    exact ⟨d, rfl, h⟩
end

/-! ## operators by values -/
/-- behind an operation: the value v, the world w' -/
def After (K : KF) (w : Wd) (d : D) (Q : VK) : Prop := ∀ w' v, w.Le w' → w'.Ok K → w'.h = w.h → RepD K w' d v → Q v w'.H
def OpD (K : KF) (r : R2) (g : D → D → Hs → Option D) : Prop :=
  ∀ (w : Wd) (x y : V) (dx dy dz : D) (Q : VK), w.Ok K → RepD K w dx x → RepD K w dy y → g dx dy w.h = some dz → After K w dz Q → r x y w.H Q
def UnD (K : KF) (r : V → Hp → VK → Prop) (g : D → Hs → Option D) : Prop :=
  ∀ (w : Wd) (x : V) (dx dz : D) (Q : VK), w.Ok K → RepD K w dx x → g dx w.h = some dz → After K w dz Q → r x w.H Q
def CallD (K : KF) (r : List V → Hp → VK → Prop) (g : List D → Hs → Option D) : Prop :=
  ∀ (w : Wd) (xs : List V) (ds : List D) (dz : D) (Q : VK), w.Ok K → RepDs K w ds xs → g ds w.h = some dz → After K w dz Q → r xs w.H Q
def eUn (g : D → Hs → Option D) (a : EM) : EM := a.bind fun x => EM.lift (g x)
def eBin (g : D → D → Hs → Option D) (a b : EM) : EM := a.bind fun x => b.bind fun y => EM.lift (g x y)
theorem After.here {K : KF} {w : Wd} {d : D} {Q : VK} (h : After K w d Q) (ok : w.Ok K) {v : V} (r : RepD K w d v) : Q v w.H := h w v (Wd.Le.refl w) ok rfl r

section
variable {X : Cx} {W : WX} {a b : Expr} {f g : EM} {pos : Pos}
theorem tOp_of {r : R2} {gd : D → D → Hs → Option D} (hd : OpD X.K r gd) (σ : L2.St) (H : Hp) (Q : VK) (h : tI X.K X.mg W (eBin gd f g) σ H Q) : tOp r (tI X.K X.mg W f) (tI X.K X.mg W g) σ H Q := by
  obtain ⟨w, sl, rfl, ok, hs, h⟩ := h
  refine tI_bind ok hs h fun dx x w1 l1 ok1 hs1 rx h1 => ?_
  refine tI_bind ok1 hs1 h1 fun dy y w2 l2 ok2 hs2 ry h2 => ?_
  obtain ⟨dz, e, q⟩ := WpE.lift h2
  exact hd w2 x y dx dy dz Q ok2 (RepD.mono ok1 l2 dx rx) ry e q
theorem se_op {op : Operator} {r : R2} {gd : D → D → Hs → Option D} (ho : OpR X (binaryOp op) r) (hd : OpD X.K r gd) (ha : SE X W a f) (hb : SE X W b g) : SE X W (.BinOp a op b pos) (eBin gd f g) :=
  PE.mono' (pe_op ho ha hb) fun σ H Q h => tOp_of hd σ H Q h
theorem se_cmp {op : CmpOp} {r : R2} {gd : D → D → Hs → Option D} (ho : OpR X (compareOp op) r) (hd : OpD X.K r gd) (ha : SE X W a f) (hb : SE X W b g) (hm : behindInMarks op b = false) : SE X W (.Compare a [op] [b] pos) (eBin gd f g) :=
  PE.mono' (pe_cmpR ho ha hb hm) fun σ H Q h => tOp_of hd σ H Q h
theorem se_ix {r : R2} {gd : D → D → Hs → Option D} (hr : IxR X r) (hd : OpD X.K r gd) (ha : SE X W a f) (hb : SE X W b g) (hs : PlainIx b) : SE X W (.Subscript a b pos) (eBin gd f g) :=
  PE.mono' (pe_ix hr ha hb hs) fun σ H Q h => tOp_of hd σ H Q h
theorem se_un {op : UnaryOp} {r : V → Hp → VK → Prop} {gd : D → Hs → Option D} (ho : UnR X (unaryOp op) r) (hd : UnD X.K r gd) (ha : SE X W a f) : SE X W (.UnaryOp op a pos) (eUn gd f) :=
  PE.mono' (pe_un ho ha) fun σ H Q h => by
    obtain ⟨w, sl, rfl, ok, hs, h⟩ := h
    refine tI_bind ok hs h fun dx x w1 l1 ok1 hs1 rx h1 => ?_
    obtain ⟨dz, e, q⟩ := WpE.lift h1
    exact hd w1 x dx dz Q ok1 rx e q
end
def wipeS (s : Sl) : List Nat → Sl
  | [] => s
  | v :: vs => (wipeS s vs).set v none
theorem wipeS_len (s : Sl) : ∀ vs : List Nat, (wipeS s vs).length = s.length
  | [] => rfl
  | v :: vs => by rw [wipeS, List.length_set, wipeS_len s vs]
theorem wipeS_none {s : Sl} {j : Nat} {d : D} : ∀ {vs : List Nat}, (wipeS s vs)[j]? = some (some d) → s[j]? = some (some d)
  | [], h => h
  | v :: vs, h => by
    rw [wipeS] at h
    by_cases e : v = j
    · subst e
      by_cases hl : v < (wipeS s vs).length
      · rw [List.getElem?_set_self hl] at h
        cases h
      · rw [List.getElem?_eq_none (by rw [List.length_set]; omega)] at h
        cases h
    · rw [List.getElem?_set_ne e] at h
      exact wipeS_none h
/-- names that are not asked any more may be forgotten -/
theorem SRep.wipeL {K : KF} {w : Wd} {sl : Sl} {σ : L2.St} (hs : SRep K w sl σ) (vs : List Nat) : SRep K w (wipeS sl vs) σ where
  len := by rw [wipeS_len]; exact hs.len
  at' := fun i d h => hs.at' i d (wipeS_none h)
end Vl
set_option maxHeartbeats 4000000
namespace Vl
open PySem PySem.Spec PyProof.Rows L2

/-! ## shallow views -/
def unv : D → Option PyData
  | .v d => some d
  | _ => none
def unvs : List D → Option (List PyData)
  | [] => some []
  | d :: r => match unv d, unvs r with
    | some p, some ps => some (p :: ps)
    | _, _ => none
/-- a value as data, its own cell read -/
def shal (h : Hs) : D → Option PyData
  | .v d => some d
  | .ref n => match h[n]? with
    | some (.lst xs) => (unvs xs).map .list
    | _ => none
  | .mix _ => none
  | .exc _ _ => none
/-- a value that is read now: a list may be a cell -/
def RepS (K : KF) (w : Wd) : PyData → V → Prop
  | .list ds, v => ∃ a vs, v = .ref a ∧ SqL K w.H a vs ∧ RepPs K w.Fz w.H ds vs
  | d, v => RepP K w.Fz w.H d v
section
variable {K : KF} {w w' : Wd}
theorem RepP.s : ∀ {d : PyData} {v : V}, RepP K w.Fz w.H d v → RepS K w d v
  | .none, _, h => h
  | .bool _, _, h => h
  | .int _, _, h => h
  | .str _, _, h => h
  | .list _, _, ⟨a, vs, e, r, s⟩ => ⟨a, vs, e, r.sql, s⟩
  | .tuple _, _, h => h
  | .dict _, _, h => h
theorem unvs_rep : ∀ {xs : List D} {ps : List PyData} {vs : List V}, unvs xs = some ps → RepDs K w xs vs → RepPs K w.Fz w.H ps vs
  | [], ps, vs, e, r => by
    have e' : [] = ps := Option.some.inj e
    subst e'
    exact r
  | d :: r, ps, vs, e, ⟨v, vr, ev, h1, h2⟩ => by
    unfold unvs at e
    cases d with
    | v p =>
      cases q : unvs r with
      | none => rw [q] at e; cases e
      | some qs =>
        rw [q] at e
        have e' : p :: qs = ps := Option.some.inj e
        subst e'
        exact ⟨v, vr, ev, h1, unvs_rep q h2⟩
    | ref n => cases e
    | mix xs => cases e
    | exc c fs => cases e
theorem shal_rep (ok : w.Ok K) : ∀ {d : D} {p : PyData} {v : V}, RepD K w d v → shal w.h d = some p → RepS K w p v
  | .v d, p, v, r, e => by
    have e' : d = p := Option.some.inj e
    subst e'
    exact RepP.s r
  | .ref n, p, v, ⟨a, ha, ev⟩, e => by
    simp only [shal] at e
    cases q : w.h[n]? with
    | none => simp [q] at e
    | some c =>
      cases c with
      | lst xs =>
        cases u : unvs xs with
        | none => simp [q, u] at e
        | some ps =>
          simp [q, u] at e
          subst e
          obtain ⟨vs, hH, hr⟩ := ok.cell n a _ ha q
          exact ⟨a, vs, ev, .inl (.inl hH), unvs_rep u hr⟩
      | _ => simp [q] at e
  | .mix _, _, _, _, e => by cases e
  | .exc _ _, _, _, _, e => by cases e
end

/-! ## operators over data -/
def OpP (K : KF) (r : R2) (g : PyData → PyData → Option PyData) : Prop :=
  ∀ (w : Wd) (x y : V) (p q z : PyData) (Q : VK), w.Ok K → RepS K w p x → RepS K w q y → g p q = some z → After K w (.v z) Q → r x y w.H Q
def UnP (K : KF) (r : V → Hp → VK → Prop) (g : PyData → Option PyData) : Prop :=
  ∀ (w : Wd) (x : V) (p z : PyData) (Q : VK), w.Ok K → RepS K w p x → g p = some z → After K w (.v z) Q → r x w.H Q
def lift1 (g : PyData → Option PyData) : D → Hs → Option D := fun x h => match shal h x with
  | some p => (g p).map .v
  | none => none
def lift2 (g : PyData → PyData → Option PyData) : D → D → Hs → Option D := fun x y h => match shal h x, shal h y with
  | some p, some q => (g p q).map .v
  | _, _ => none
theorem OpP.d {K : KF} {r : R2} {g : PyData → PyData → Option PyData} (h : OpP K r g) : OpD K r (lift2 g) := by
  intro w x y dx dy dz Q ok rx ry e a
  unfold lift2 at e
  cases ex : shal w.h dx with
  | none => rw [ex] at e; cases e
  | some p =>
    cases ey : shal w.h dy with
    | none => rw [ex, ey] at e; cases e
    | some q =>
      rw [ex, ey] at e
      cases ez : g p q with
      | none => simp [ez] at e
      | some z =>
        simp [ez] at e
        subst e
        exact h w x y p q z Q ok (shal_rep ok rx ex) (shal_rep ok ry ey) ez a
theorem UnP.d {K : KF} {r : V → Hp → VK → Prop} {g : PyData → Option PyData} (h : UnP K r g) : UnD K r (lift1 g) := by
  intro w x dx dz Q ok rx e a
  unfold lift1 at e
  cases ex : shal w.h dx with
  | none => rw [ex] at e; cases e
  | some p =>
    rw [ex] at e
    cases ez : g p with
    | none => simp [ez] at e
    | some z =>
      simp [ez] at e
      subst e
      exact h w x p z Q ok (shal_rep ok rx ex) ez a
/-- one rule or the other, by what g chooses -/
theorem OpP.or {K : KF} {r r' : R2} {g g' : PyData → PyData → Option PyData} (h : OpP K r g) (h' : OpP K r' g') : OpP K (fun x y H Q => r x y H Q ∨ r' x y H Q) fun p q => match g p q with
    | some z => some z
    | none => g' p q := by
  intro w x y p q z Q ok rx ry e a
  simp only at e
  cases ez : g p q with
  | none =>
    rw [ez] at e
    exact .inr (h' w x y p q z Q ok rx ry e a)
  | some z' =>
    rw [ez] at e
    have e' : z' = z := Option.some.inj e
    subst e'
    exact .inl (h w x y p q z' Q ok rx ry ez a)

/-! ### new objects -/
/-- a list that was just made, as a frozen one -/
def Wd.newL (w : Wd) (p : Addr) (o : HO) : Wd := { w with H := upd w.H p o, Fz := fun a => w.Fz a ∨ a = p }
def Wd.newT (w : Wd) (p : Addr) (o : HO) : Wd := { w with H := upd w.H p o }
section
variable {K : KF} {w : Wd} {p : Addr} {o : HO}
theorem Wd.newT_le (hp : w.H p = none) : w.Le (w.newT p o) :=
  ⟨⟨[], by simp [Wd.newT], by simp⟩, fun _ h => h, fun _ h => .inl h, fun b u h _ => by
    show upd w.H p o b = some u
    rw [upd_ne (ne_of_none h hp)]
    exact h⟩
theorem Wd.newL_le (hp : w.H p = none) : w.Le (w.newL p o) :=
  ⟨⟨[], by simp [Wd.newL], by simp⟩, fun _ h => .inl h, fun a h => by
    rcases h with h | h
    · exact .inl h
    · subst h
      exact .inr hp, fun b u h _ => by
    show upd w.H p o b = some u
    rw [upd_ne (ne_of_none h hp)]
    exact h⟩
mutual
/-- a representation stays where all that is tracked stays -/
theorem RepP.same {Fz Fz' : Addr → Prop} {H H' : Hp} (k : ∀ b u, H b = some u → H' b = some u) (f : ∀ a, Fz a → Fz' a) : ∀ (d : PyData) {v : V}, RepP K Fz H d v → RepP K Fz' H' d v
  | .none, _, h => h
  | .bool _, _, h => h
  | .int _, _, h => h
  | .str _, _, h => h
  | .list ds, _, ⟨a, vs, e, hr, hs⟩ => ⟨a, vs, e, by
      rcases hr with ⟨hf, h | ⟨o, h⟩⟩ | h
      · exact .inl ⟨f _ hf, .inl (k _ _ h)⟩
      · exact .inl ⟨f _ hf, .inr ⟨o, k _ _ h⟩⟩
      · exact .inr h, RepPs.same k f ds hs⟩
  | .tuple ds, _, ⟨a, vs, e, hr, hs⟩ => ⟨a, vs, e, by
      rcases hr with (h | ⟨o, h⟩) | h
      · exact .inl (.inl (k _ _ h))
      · exact .inl (.inr ⟨o, k _ _ h⟩)
      · exact .inr h, RepPs.same k f ds hs⟩
  | .dict ds, _, ⟨a, us, e, hf, hr, hs⟩ => ⟨a, us, e, f _ hf, k _ _ hr, RepKs.same k f ds hs⟩
theorem RepPs.same {Fz Fz' : Addr → Prop} {H H' : Hp} (k : ∀ b u, H b = some u → H' b = some u) (f : ∀ a, Fz a → Fz' a) : ∀ (ds : List PyData) {vs : List V}, RepPs K Fz H ds vs → RepPs K Fz' H' ds vs
  | [], _, h => h
  | d :: ds, _, ⟨v, r, e, h1, h2⟩ => ⟨v, r, e, RepP.same k f d h1, RepPs.same k f ds h2⟩
theorem RepKs.same {Fz Fz' : Addr → Prop} {H H' : Hp} (k : ∀ b u, H b = some u → H' b = some u) (f : ∀ a, Fz a → Fz' a) : ∀ (ds : List (PyData × PyData)) {vs : List (Key × V)}, RepKs K Fz H ds vs → RepKs K Fz' H' ds vs
  | [], _, h => h
  | (_, d) :: ds, _, ⟨q, v, r, e, hk, h1, h2⟩ => ⟨q, v, r, e, hk, RepP.same k f d h1, RepKs.same k f ds h2⟩
end
theorem Wd.newT_ok (ok : w.Ok K) (hp : w.H p = none) : (w.newT p o).Ok K where
  nd := ok.nd
  len := ok.len
  cell := fun n a c ha hc => by
    have le : w.Le (w.newT p o) := Wd.newT_le hp
    have := ok.cell n a c ha hc
    exact this.mono ok le (fun u e => by
      show upd w.H p o a = _
      rw [upd_ne (ne_of_none e hp)]
      exact e) fun r => RepDs.mono ok le _ r
  apart := ok.apart
  there := fun a h => by
    show upd w.H p o a ≠ none
    by_cases e : a = p
    · subst e
      rw [upd_same]
      exact fun z => by cases z
    · rw [upd_ne e]
      exact ok.there a h
theorem Wd.newL_ok (ok : w.Ok K) (hp : w.H p = none) : (w.newL p o).Ok K where
  nd := ok.nd
  len := ok.len
  cell := fun n a c ha hc => by
    have le : w.Le (w.newL p o) := Wd.newL_le hp
    have := ok.cell n a c ha hc
    exact this.mono ok le (fun u e => by
      show upd w.H p o a = _
      rw [upd_ne (ne_of_none e hp)]
      exact e) fun r => RepDs.mono ok le _ r
  apart := fun a h => by
    rcases h with h | h
    · exact ok.apart a h
    · subst h
      intro hi
      obtain ⟨_, e, _⟩ := ok.tracked hi
      rw [hp] at e
      cases e
  there := fun a h => by
    show upd w.H p o a ≠ none
    by_cases e : a = p
    · subst e
      rw [upd_same]
      exact fun z => by cases z
    · rw [upd_ne e]
      rcases h with h | h
      · exact ok.there a h
      · exact absurd h e
/-- a new list of known things -/
theorem After.newL {ds : List PyData} {vs : List V} {Q : VK} (a : After K w (.v (.list ds)) Q) (ok : w.Ok K) (r : RepPs K w.Fz w.H ds vs) : ∀ p, w.H p = none → Q (.ref p) (upd w.H p (.lst vs)) := fun p hp =>
  a (w.newL p (.lst vs)) (.ref p) (Wd.newL_le hp) (Wd.newL_ok ok hp) rfl ⟨p, vs, rfl, .inl ⟨.inr rfl, .inl upd_same⟩, RepPs.mono ok (Wd.newL_le hp) ds r⟩
theorem After.newT {ds : List PyData} {vs : List V} {Q : VK} (a : After K w (.v (.tuple ds)) Q) (ok : w.Ok K) (r : RepPs K w.Fz w.H ds vs) : ∀ p, w.H p = none → Q (.ref p) (upd w.H p (.tup vs)) := fun p hp =>
  a (w.newT p (.tup vs)) (.ref p) (Wd.newT_le hp) (Wd.newT_ok ok hp) rfl ⟨p, vs, rfl, .inl (.inl upd_same), RepPs.mono ok (Wd.newT_le hp) ds r⟩
theorem RepPs.append {Fz : Addr → Prop} {H : Hp} : ∀ {ds es : List PyData} {vs us : List V}, RepPs K Fz H ds vs → RepPs K Fz H es us → RepPs K Fz H (ds ++ es) (vs ++ us)
  | [], _, _, _, h, h' => by
    rw [show _ = [] from h]
    exact h'
  | d :: ds, _, _, _, ⟨v, r, e, h1, h2⟩, h' => ⟨v, r ++ _, by rw [e]; rfl, h1, RepPs.append h2 h'⟩
theorem RepPs.get {Fz : Addr → Prop} {H : Hp} : ∀ {ds : List PyData} {vs : List V} {i : Nat} {d : PyData}, RepPs K Fz H ds vs → ds[i]? = some d → ∃ v, vs[i]? = some v ∧ RepP K Fz H d v
  | [], _, _, _, _, h => by simp at h
  | d :: ds, _, 0, _, ⟨v, r, e, h1, h2⟩, h => by
    simp at h
    subst h
    exact ⟨v, by rw [e]; rfl, h1⟩
  | d :: ds, _, i + 1, _, ⟨v, r, e, h1, h2⟩, h => by
    obtain ⟨u, e', r'⟩ := RepPs.get (i := i) h2 (by simpa using h)
    exact ⟨u, by rw [e]; simpa using e', r'⟩
theorem RepDs.get : ∀ {ds : List D} {vs : List V} {i : Nat} {d : D}, RepDs K w ds vs → ds[i]? = some d → ∃ v, vs[i]? = some v ∧ RepD K w d v
  | [], _, _, _, _, h => by simp at h
  | d :: ds, _, 0, _, ⟨v, r, e, h1, h2⟩, h => by
    simp at h
    subst h
    exact ⟨v, by rw [e]; rfl, h1⟩
  | d :: ds, _, i + 1, _, ⟨v, r, e, h1, h2⟩, h => by
    obtain ⟨u, e', r'⟩ := RepDs.get (i := i) h2 (by simpa using h)
    exact ⟨u, by rw [e]; simpa using e', r'⟩
theorem RepPs.take {Fz : Addr → Prop} {H : Hp} : ∀ {ds : List PyData} {vs : List V} (n : Nat), RepPs K Fz H ds vs → RepPs K Fz H (ds.take n) (vs.take n)
  | _, _, 0, _ => by simp [RepPs]
  | [], _, n + 1, h => by
    rw [show _ = [] from h]
    simp [RepPs]
  | d :: ds, _, n + 1, ⟨v, r, e, h1, h2⟩ => ⟨v, r.take n, by rw [e]; rfl, h1, RepPs.take n h2⟩
theorem RepPs.drop {Fz : Addr → Prop} {H : Hp} : ∀ {ds : List PyData} {vs : List V} (n : Nat), RepPs K Fz H ds vs → RepPs K Fz H (ds.drop n) (vs.drop n)
  | _, _, 0, h => h
  | [], _, n + 1, h => by
    rw [show _ = [] from h]
    simp [RepPs]
  | d :: ds, _, n + 1, ⟨v, r, e, h1, h2⟩ => by
    rw [e]
    exact RepPs.drop n h2
theorem RepPs.reverse {Fz : Addr → Prop} {H : Hp} : ∀ {ds : List PyData} {vs : List V}, RepPs K Fz H ds vs → RepPs K Fz H ds.reverse vs.reverse
  | [], _, h => by
    rw [show _ = [] from h]
    rfl
  | d :: ds, _, ⟨v, r, e, h1, h2⟩ => by
    rw [e, List.reverse_cons, List.reverse_cons]
    exact RepPs.append (RepPs.reverse h2) ⟨v, [], rfl, h1, rfl⟩
theorem RepPs.rep {Fz : Addr → Prop} {H : Hp} {ds : List PyData} {vs : List V} (h : RepPs K Fz H ds vs) : ∀ k : Nat, RepPs K Fz H (List.replicate k ds).flatten (List.replicate k vs).flatten
  | 0 => rfl
  | k + 1 => by
    rw [List.replicate_succ, List.replicate_succ, List.flatten_cons, List.flatten_cons]
    exact RepPs.append h (RepPs.rep h k)
end
end Vl
set_option maxHeartbeats 4000000
namespace Vl
open PySem PySem.Spec PyProof.Rows L2

/-! ## ints -/
noncomputable def cmul (i j : Int) : Bool := yes ((-(2 ^ 64) < i ∧ i < 2 ^ 64) ∨ (-(2 ^ 64) < j ∧ j < 2 ^ 64))
theorem cmul_ok {i j : Int} (h : cmul i j = true) : CMul i j := by
  unfold cmul at h
  rw [yes_iff] at h
  exact h
noncomputable def cdiv (j : Int) : Bool := yes (0 < j ∧ j < 2 ^ 64)
noncomputable def cpow (i j : Int) : Bool := yes ((0 ≤ j ∧ j ≤ 1000000) ∧ i.natAbs < 2 ^ 64)
theorem cmulL {i j : Int} (h1 : -(2 ^ 64) < i) (h2 : i < 2 ^ 64) : cmul i j = true := yes_of (.inl ⟨h1, h2⟩)
theorem cmulR {i j : Int} (h1 : -(2 ^ 64) < j) (h2 : j < 2 ^ 64) : cmul i j = true := yes_of (.inr ⟨h1, h2⟩)
theorem cdivI {j : Int} (h1 : 0 < j) (h2 : j < 1073741824) : cdiv j = true := yes_of ⟨h1, by omega⟩
theorem cdivW {j : Int} (h1 : 0 < j) (h2 : j < 2 ^ 64) : cdiv j = true := yes_of ⟨h1, h2⟩
theorem cpowI {i j : Int} (h1 : 0 ≤ j) (h2 : j ≤ 1000000) (h3 : i.natAbs < 2 ^ 64) : cpow i j = true := yes_of ⟨⟨h1, h2⟩, h3⟩
section
variable {K : KF}
theorem int_of {w : Wd} {i : Int} {v : V} (h : RepS K w (.int i) v) : v = .int i := h
theorem str_of {w : Wd} {i : Str} {v : V} (h : RepS K w (.str i) v) : v = .str i := h
theorem bl_of {w : Wd} {i : Bool} {v : V} (h : RepS K w (.bool i) v) : v = .bl i := h
/-- an int operator as data -/
def intP (C : Int → Int → Bool) (g : Int → Int → Int) : PyData → PyData → Option PyData
  | .int i, .int j => if C i j = true then some (.int (g i j)) else none
  | _, _ => none
def cmpP (g : Int → Int → Bool) : PyData → PyData → Option PyData
  | .int i, .int j => some (.bool (g i j))
  | _, _ => none
theorem op_intP {C : Int → Int → Prop} {Cb : Int → Int → Bool} {g : Int → Int → Int} (hC : ∀ i j, Cb i j = true → C i j) : OpP K (rI C fun i j => .int (g i j)) (intP Cb g) := by
  intro w x y p q z Q ok rx ry e a
  cases p with
  | int i =>
    cases q with
    | int j =>
      simp only [intP] at e
      split at e
      · rename_i hc
        cases e
        cases int_of rx
        cases int_of ry
        exact ⟨i, j, rfl, rfl, hC i j hc, a.here ok rfl⟩
      · cases e
    | _ => cases e
  | _ => cases e
theorem op_intP0 {g : Int → Int → Int} : OpP K (rI0 fun i j => .int (g i j)) (intP (fun _ _ => true) g) := by
  intro w x y p q z Q ok rx ry e a
  cases p with
  | int i =>
    cases q with
    | int j =>
      cases e
      cases int_of rx
      cases int_of ry
      exact ⟨i, j, rfl, rfl, a.here ok rfl⟩
    | _ => cases e
  | _ => cases e
theorem op_cmpP {g : Int → Int → Bool} : OpP K (rI0 fun i j => .bl (g i j)) (cmpP g) := by
  intro w x y p q z Q ok rx ry e a
  cases p with
  | int i =>
    cases q with
    | int j =>
      cases e
      cases int_of rx
      cases int_of ry
      exact ⟨i, j, rfl, rfl, a.here ok rfl⟩
    | _ => cases e
  | _ => cases e

/-! ## + -/
def catStrP : PyData → PyData → Option PyData
  | .str i, .str j => if i.length + j.length ≤ sizeLine then some (.str (i ++ j)) else none
  | _, _ => none
def catTupP : PyData → PyData → Option PyData
  | .tuple i, .tuple j => if i.length + j.length ≤ sizeLine then some (.tuple (i ++ j)) else none
  | _, _ => none
def catLstP : PyData → PyData → Option PyData
  | .list i, .list j => if i.length + j.length ≤ sizeLine then some (.list (i ++ j)) else none
  | _, _ => none
theorem op_catStrP : OpP K (fun x y H Q => ∃ i j, x = .str i ∧ y = .str j ∧ i.length + j.length ≤ sizeLine ∧ Q (.str (i ++ j)) H) catStrP := by
  intro w x y p q z Q ok rx ry e a
  cases p with
  | str i =>
    cases q with
    | str j =>
      simp only [catStrP] at e
      split at e
      · rename_i hc
        cases e
        cases str_of rx
        cases str_of ry
        exact ⟨i, j, rfl, rfl, hc, a.here ok rfl⟩
      · cases e
    | _ => cases e
  | _ => cases e
theorem op_catTupP : OpP K (rCatA K) catTupP := by
  intro w x y p q z Q ok rx ry e a
  cases p with
  | tuple i =>
    cases q with
    | tuple j =>
      simp only [catTupP] at e
      split at e
      · rename_i hc
        cases e
        obtain ⟨b, vs, rfl, ht, hr⟩ := rx
        obtain ⟨c, us, rfl, ht', hr'⟩ := ry
        refine ⟨b, c, vs, us, rfl, rfl, ht, ht', by rw [hr.len, hr'.len]; exact hc, fun e0 => ?_, fun _ e0 => ?_, fun _ _ p hp => ?_⟩
        · have : i = [] := by
            have := hr.len
            rw [e0] at this
            exact List.length_eq_zero_iff.mp this.symm
          subst this
          exact a.here ok ⟨c, us, rfl, ht', hr'⟩
        · have : j = [] := by
            have := hr'.len
            rw [e0] at this
            exact List.length_eq_zero_iff.mp this.symm
          subst this
          rw [List.append_nil] at a
          exact a.here ok ⟨b, vs, rfl, ht, hr⟩
        · exact a.newT ok (RepPs.append hr hr') p hp
      · cases e
    | _ => cases e
  | _ => cases e
/-- list + list, whatever the lists are -/
def rCatL (K : KF) : R2 := fun x y H Q => ∃ l b xs zs, x = .ref l ∧ y = .ref b ∧ SqL K H l xs ∧ SqL K H b zs ∧ xs.length + zs.length ≤ sizeLine ∧ ∀ p, H p = none → Q (.ref p) (upd H p (.lst (xs ++ zs)))
theorem op_catL {X : Cx} : OpR X (binaryOp .Add) (rCatL X.K) := by
  intro pins s σ H x y v u Q I rx ry h
  obtain ⟨l, b, xs, zs, rfl, rfl, hH, hB, hz, q⟩ := h
  cases rx
  cases ry
  obtain ⟨its, r, ⟨⟨cls, dd, data, sl⟩, n, ho, hc, _, hd⟩, z⟩ := I.list hH
  obtain ⟨its2, r2, ⟨⟨cls2, dd2, data2, sl2⟩, n2, ho2, hc2, _, hd2⟩, z2⟩ := I.list hB
  simp only at hc hd hc2 hd2
  subst hc hd hc2 hd2
  have e : its.toArray ++ its2.toArray = (its ++ its2).toArray := by simp
  have hl := r.length
  have hl2 := r2.length
  refine concat_meets ⟨_, ho, rfl⟩ ⟨_, ho2, rfl⟩ noFill_list_add seq_list_add PySem.F.slot_list_add PySem.F.entry_list_add (PySem.F.args_list_add_2 _ _) (list_addW l b its.toArray its2.toArray n n2 dd dd2 sl sl2 (by rw [List.size_toArray, List.size_toArray]; omega)) ⟨ho, ho2, ?_⟩
  rw [e]
  exact ⟨.ref _, _, I.lnew (t' := s.toks) (r.append r2) (by rw [List.length_append]; omega), rfl, q _ I.fresh⟩
theorem op_catLstP : OpP K (rCatL K) catLstP := by
  intro w x y p q z Q ok rx ry e a
  cases p with
  | list i =>
    cases q with
    | list j =>
      simp only [catLstP] at e
      split at e
      · rename_i hc
        cases e
        obtain ⟨b, vs, rfl, ht, hr⟩ := rx
        obtain ⟨c, us, rfl, ht', hr'⟩ := ry
        exact ⟨b, c, vs, us, rfl, rfl, ht, ht', by rw [hr.len, hr'.len]; exact hc, a.newL ok (RepPs.append hr hr')⟩
      · cases e
    | _ => cases e
  | _ => cases e
def addP : PyData → PyData → Option PyData
  | .int i, .int j => some (.int (i + j))
  | .str i, .str j => if i.length + j.length ≤ sizeLine then some (.str (i ++ j)) else none
  | .tuple i, .tuple j => if i.length + j.length ≤ sizeLine then some (.tuple (i ++ j)) else none
  | .list i, .list j => if i.length + j.length ≤ sizeLine then some (.list (i ++ j)) else none
  | _, _ => none
abbrev rAddA (K : KF) : R2 := fun x y H Q => (((rI0 fun i j => .int (i + j)) x y H Q ∨ (∃ i j, x = .str i ∧ y = .str j ∧ i.length + j.length ≤ sizeLine ∧ Q (.str (i ++ j)) H)) ∨ rCatA K x y H Q) ∨ rCatL K x y H Q
theorem op_addR {X : Cx} : OpR X (binaryOp .Add) (rAddA X.K) := ((op_add.or op_add_str).or op_catA).or op_catL
theorem op_addP : OpP K (rAddA K) addP := by
  intro w x y p q z Q ok rx ry e a
  cases p with
  | int i =>
    cases q with
    | int j => exact .inl (.inl (.inl (op_intP0 w x y _ _ z Q ok rx ry e a)))
    | _ => cases e
  | str i =>
    cases q with
    | str j => exact .inl (.inl (.inr (op_catStrP w x y _ _ z Q ok rx ry e a)))
    | _ => cases e
  | tuple i =>
    cases q with
    | tuple j => exact .inl (.inr (op_catTupP w x y _ _ z Q ok rx ry e a))
    | _ => cases e
  | list i =>
    cases q with
    | list j => exact .inr (op_catLstP w x y _ _ z Q ok rx ry e a)
    | _ => cases e
  | _ => cases e

/-! ## * -/
noncomputable def mulP : PyData → PyData → Option PyData
  | .int i, .int j => if cmul i j = true then some (.int (i * j)) else none
  | .list xs, .int k => if yes (-(2 ^ 63) ≤ k ∧ k < 2 ^ 63 ∧ xs.length * k.toNat ≤ sizeLine) = true then some (.list (List.replicate k.toNat xs).flatten) else none
  | .tuple xs, .int k => if yes (xs ≠ [] ∧ 2 ≤ k ∧ (xs.length : Int) * k ≤ 1000000) = true then some (.tuple (List.replicate k.toNat xs).flatten) else none
  | _, _ => none
theorem int_rmul_listW (a : Int) (t : Tok) (l : Addr) (items : Array Value) (n : Nat) (dd : Option Addr) (sl : Array (Option Value)) :
    Meets (Builtin.«int.__rmul__» ⟨[.int a t, .ref l], []⟩) (fun _ R s => s.heap.get? l = some { cls := .type "list", dict := dd, data := .seq items n, slots := sl } ∧ R (.ok (.ret Value.notImplemented)) s) :=
  .of_wp fun prog w A R s h => by obtain ⟨hp, g, d, tk, os⟩ := s; obtain ⟨hl, h⟩ := h; wp_walk using wpAny_loadPart' hl; exact ⟨_, rfl, h⟩
theorem list_mulW (l : Addr) (items : Array Value) (n : Nat) (dd : Option Addr) (sl : Array (Option Value)) (x : Int) (u : Tok) (hc0 : ¬(!Builtin.List.listFitsIndex x) = true) (hc1 : ¬items.size * x.toNat > (2 ^ 63 - 1) / 8) (hc2 : ¬Builtin.List.listTooLong (items.size * x.toNat) = true)
    (hsz : (List.foldl (fun x1 x2 => x1 ++ x2) #[] (List.replicate (if items.isEmpty = true then 0 else x.toNat) items)).size ≤ sizeLine) :
    Meets (Builtin.«list.__mul__» ⟨[.ref l, .int x u], []⟩) (fun _ R s => s.heap.get? l = some { cls := .type "list", dict := dd, data := .seq items n, slots := sl } ∧ R (.ok (.ret (Value.ref s.heap.objs.size))) { s with heap := s.heap.push { cls := Value.type "list", data := Data.seq (List.foldl (fun x1 x2 => x1 ++ x2) #[] (List.replicate (if items.isEmpty = true then 0 else x.toNat) items)) }, toks := s.toks }) :=
  .of_wp fun prog w A R s h => by
    obtain ⟨hp, g, d, tk, os⟩ := s
    obtain ⟨hl, h⟩ := h
    have f1 := AutoSeq1.idx_int
    wp_walk using wpAny_loadPart' hl
    repeat (first
      | (refine wpAny_ite_false (decide_eq_false hc0) ?_; wp_walk using wpAny_loadPart' hl)
      | (refine wpAny_ite_false (decide_eq_false hc1) ?_; wp_walk using wpAny_loadPart' hl)
      | (refine wpAny_ite_false (decide_eq_false hc2) ?_; wp_walk using wpAny_loadPart' hl)
      | (refine wpAny_ite_false (decide_eq_false (Nat.not_lt.mpr hsz)) ?_; wp_walk using wpAny_loadPart' hl))
    exact ⟨_, rfl, h⟩
/-- as op_rep, whatever the list is -/
def rRepL (K : KF) : R2 := fun x y H Q => ∃ l k xs, x = .ref l ∧ y = .int k ∧ SqL K H l xs ∧ -(2 ^ 63) ≤ k ∧ k < 2 ^ 63 ∧ xs.length * k.toNat ≤ sizeLine ∧
  ∀ p, H p = none → Q (.ref p) (upd H p (.lst (List.replicate k.toNat xs).flatten))
theorem op_repL {X : Cx} : OpR X (binaryOp .Mult) (rRepL X.K) := by
  intro pins s σ H x y v u Q I rx ry h
  obtain ⟨l, k, xs, rfl, rfl, hH, h1, h2, hz, q⟩ := h
  cases rx
  obtain ⟨t, rfl⟩ := ry
  obtain ⟨its, r, ⟨⟨cls, dd, data, sl⟩, n, ho, hc, hdn, hd⟩, z⟩ := I.list hH
  simp only at hc hd hdn
  subst hc hd hdn
  have hl := r.length
  have hlen : its.toArray.size * k.toNat ≤ sizeLine := by rw [List.size_toArray, ← hl]; exact hz
  have hcap : ¬ its.toArray.size * k.toNat > (2 ^ 63 - 1) / 8 := by
    have : (sizeLine : Nat) ≤ (2 ^ 63 - 1) / 8 := by decide
    omega
  have hfit : ¬ (!Builtin.List.listFitsIndex k) = true := by
    rw [fitsIndex_both h1 h2]
    exact Bool.false_ne_true
  have hlong : ¬ Builtin.List.listTooLong (its.toArray.size * k.toNat) = true := by
    rw [notLongL hlen]
    exact Bool.false_ne_true
  have hnew : List.foldl (fun x1 x2 => x1 ++ x2) #[] (List.replicate (if its.toArray.isEmpty = true then 0 else k.toNat) its.toArray) = (List.replicate k.toNat its).flatten.toArray := by
    have f0 : ∀ m : Nat, List.foldl (fun x1 x2 => x1 ++ x2) #[] (List.replicate m its.toArray) = (List.replicate m its).flatten.toArray := fun m => by
      have := foldl_rep its m []
      rw [List.nil_append] at this
      exact this
    rw [f0]
    cases its with
    | nil => simp
    | cons a r' => rw [if_neg (by simp)]
  have flen : (List.replicate k.toNat its).flatten.length ≤ sizeLine := by
    rw [PyProof.Rows.lm_len_rep_flat, Nat.mul_comm, ← hl]
    exact hz
  refine wpAny_binaryOp_repeat_ref (T := "list") (U := "int") (by decide) ⟨_, ho, rfl⟩ (fun s' => typeIs_int s' k t) noFill_list_mul F.fills_int_mul F.slot_int_rmul repeat_list F.slot_int_index.lookup
    (call_meets F.slot_int_rmul (typeIs_int s k t) F.entry_int_rmul (F.args_int_rmul_2 _ _) (int_rmul_listW k t l its.toArray n none sl)
      ⟨ho, rfl, ⟨_, ho, rfl⟩, call_meets F.slot_list_mul ⟨_, ho, rfl⟩ F.entry_list_mul (F.args_list_mul_2 _ _) (list_mulW l its.toArray n none sl k t hfit hcap hlong (by rw [hnew, List.size_toArray]; exact flen)) ⟨ho, ?_⟩⟩)
  rw [hnew]
  exact ⟨.ref _, _, I.lnew (t' := s.toks) (r.rep k.toNat) (by rw [PyProof.Rows.lm_len_rep_flat, Nat.mul_comm]; exact hz), rfl, q _ I.fresh⟩
/-- a tuple so many times, up to a million things -/
def rRepTw (K : KF) : R2 := fun x y H Q => ∃ l k xs, x = .ref l ∧ y = .int k ∧ SqT K H l xs ∧ xs ≠ [] ∧ 2 ≤ k ∧ (xs.length : Int) * k ≤ 1000000 ∧ ∀ p, H p = none → Q (.ref p) (upd H p (.tup (List.replicate k.toNat xs).flatten))
theorem op_repTw {X : Cx} : OpR X (binaryOp .Mult) (rRepTw X.K) := by
  intro pins s σ H x y v u Q I rx ry h
  obtain ⟨l, k, xs, rfl, rfl, hT, hne, h1, hm, q⟩ := h
  cases rx
  obtain ⟨t, rfl⟩ := ry
  obtain ⟨its, r, ⟨⟨cl, dd, dt, sl⟩, ho, q1, n, q2⟩, hs⟩ := I.tuple hT
  simp only at q1 q2
  subst q1 q2
  have hle : its.length = xs.length := r.length.symm
  cases its with
  | nil =>
    cases xs with
    | nil => exact absurd rfl hne
    | cons a b => cases hle
  | cons i0 ir =>
    have s0 : (i0 :: ir).toArray.size = xs.length := by rw [List.size_toArray, hle]
    have x1 : 1 ≤ (xs.length : Int) := by rw [← hle, List.length_cons]; omega
    have kb : k ≤ 1000000 := by
      have := Int.mul_le_mul_of_nonneg_right x1 (show 0 ≤ k by omega)
      omega
    have kn : ((k.toNat * xs.length : Nat) : Int) ≤ 1000000 := by
      rw [Int.natCast_mul, Int.mul_comm, Int.toNat_of_nonneg (by omega)]
      exact hm
    have flen : (List.replicate k.toNat (i0 :: ir)).flatten.length ≤ sizeLine := by
      rw [PyProof.Rows.lm_len_rep_flat, hle, sizeLine_eq]
      omega
    have big : Builtin.Tuple.tupleTooMany (((i0 :: ir).toArray.size : Nat) * k) = false := by
      unfold Builtin.Tuple.tupleTooMany
      rw [s0, sizeLine_eq]
      exact decide_eq_false (by omega)
    have b1 : ((i0 :: ir).toArray.isEmpty || k == 1) = false := by
      rw [show (i0 :: ir).toArray.isEmpty = false from rfl, Bool.false_or]
      exact beq_eq_false_iff_ne.mpr (by omega)
    have b2 : (decide (k ≤ 0) || (i0 :: ir).toArray.isEmpty) = false := by
      rw [show (i0 :: ir).toArray.isEmpty = false from rfl, Bool.or_false]
      exact decide_eq_false (by omega)
    have b0 : (decide (k < -(2 ^ 63)) || decide (k ≥ 2 ^ 63)) = false := by
      rw [decide_eq_false (by omega), decide_eq_false (by omega)]
      rfl
    have mw := tuple_mulW l (i0 :: ir).toArray n dd sl k t b0 b1 b2 (by rw [s0]; omega) big (by rw [L2.size_rep, List.size_toArray]; exact flen)
    refine wpAny_binaryOp_repeat_ref (T := "tuple") (U := "int") (by decide) ⟨_, ho, rfl⟩ (fun s' => typeIs_int s' k t) noFill_tuple_mul F.fills_int_mul F.slot_int_rmul repeat_tuple F.slot_int_index.lookup ?_
    refine call_meets F.slot_int_rmul (typeIs_int s k t) F.entry_int_rmul (F.args_int_rmul_2 _ _) (int_rmul_tuple k t l (i0 :: ir).toArray n dd sl) ⟨ho, rfl, ⟨_, ho, rfl⟩, ?_⟩
    refine call_meets F.slot_tuple_mul ⟨_, ho, rfl⟩ F.entry_tuple_mul (F.args_tuple_mul_2 _ _) mw ⟨ho, ?_⟩
    rw [L2.size_rep]
    refine ⟨.ref s.heap.objs.size, _, I.laid (t' := s.toks) (o := .tup (List.replicate k.toNat xs).flatten) (fun b ob q => Heap.get?_push_of_some _ q) (Nat.le_refl _) ?_, rfl, q _ (I.hok.fresh (Nat.le_refl _))⟩
    exact ⟨by rw [PyProof.Rows.lm_len_rep_flat, sizeLine_eq]; omega, _, r.rep k.toNat, IsTup.new _ _⟩
abbrev rMulA (K : KF) : R2 := fun x y H Q => ((rI CMul fun i j => .int (i * j)) x y H Q ∨ rRepL K x y H Q) ∨ rRepTw K x y H Q
theorem op_mulR {X : Cx} : OpR X (binaryOp .Mult) (rMulA X.K) := (op_mul.or op_repL).or op_repTw
theorem op_mulP : OpP K (rMulA K) mulP := by
  intro w x y p q z Q ok rx ry e a
  cases p with
  | int i =>
    cases q with
    | int j => exact .inl (.inl (op_intP (Cb := cmul) (g := fun i j => i * j) (fun _ _ => cmul_ok) w x y _ _ z Q ok rx ry e a))
    | _ => cases e
  | list i =>
    cases q with
    | int j =>
      simp only [mulP] at e
      split at e
      · rename_i hc
        cases e
        rw [yes_iff] at hc
        obtain ⟨b, vs, rfl, ht, hr⟩ := rx
        cases int_of ry
        exact .inl (.inr ⟨b, j, vs, rfl, rfl, ht, hc.1, hc.2.1, by rw [hr.len]; exact hc.2.2, a.newL ok (RepPs.rep hr _)⟩)
      · cases e
    | _ => cases e
  | tuple i =>
    cases q with
    | int j =>
      simp only [mulP] at e
      split at e
      · rename_i hc
        cases e
        rw [yes_iff] at hc
        obtain ⟨b, vs, rfl, ht, hr⟩ := rx
        cases int_of ry
        refine .inr ⟨b, j, vs, rfl, rfl, ht, fun e0 => hc.1 ?_, hc.2.1, by rw [hr.len]; exact hc.2.2, a.newT ok (RepPs.rep hr _)⟩
        have := hr.len
        rw [e0] at this
        exact List.length_eq_zero_iff.mp this.symm
      · cases e
    | _ => cases e
  | _ => cases e

/-! ## others on ints -/
def subP := intP (fun _ _ => true) fun i j => i - j
noncomputable def fdivP := intP (fun _ j => cdiv j) fun i j => i / j
def modP := intP (fun _ j => decide (0 < j)) fun i j => i % j
noncomputable def powP := intP cpow fun i j => i ^ j.toNat
theorem op_subP : OpP K (rI0 fun i j => .int (i - j)) subP := op_intP0
theorem op_fdivP : OpP K (rI CDivW fun i j => .int (i / j)) fdivP := op_intP fun i j h => by
  unfold cdiv at h
  rw [yes_iff] at h
  exact wide_div (b := 64) h.1 (by have := h.1; have := h.2; omega) (by decide) (by decide)
theorem op_modP : OpP K (rI (fun _ j => 0 < j) fun i j => .int (i % j)) modP := op_intP fun i j h => of_decide_eq_true h
theorem op_powP : OpP K (rI CPow fun i j => .int (i ^ j.toNat)) powP := op_intP fun i j h => by
  unfold cpow at h
  rw [yes_iff] at h
  exact ⟨h.1.1, h.1.2, h.2⟩
def ltP := cmpP fun i j => decide (i < j)
def leP := cmpP fun i j => decide (i ≤ j)
def gtP := cmpP fun i j => decide (j < i)
def geP := cmpP fun i j => decide (j ≤ i)
theorem op_ltP : OpP K (rI0 fun i j => .bl (decide (i < j))) ltP := op_cmpP
theorem op_leP : OpP K (rI0 fun i j => .bl (decide (i ≤ j))) leP := op_cmpP
theorem op_gtP : OpP K (rI0 fun i j => .bl (decide (j < i))) gtP := op_cmpP
theorem op_geP : OpP K (rI0 fun i j => .bl (decide (j ≤ i))) geP := op_cmpP
def negP : PyData → Option PyData
  | .int i => some (.int (-i))
  | _ => none
theorem un_negP : UnP K (rU fun i => .int (-i)) negP := by
  intro w x p z Q ok rx e a
  cases p with
  | int i =>
    cases e
    cases int_of rx
    exact ⟨i, rfl, a.here ok rfl⟩
  | _ => cases e

/-! ## deep views: ==, in -/
mutual
def frz (h : Hs) : Nat → D → Option PyData
  | 0, d => unv d
  | n + 1, d => match d with
    | .v p => some p
    | .ref k => match h[k]? with
      | some (.lst xs) => (frzs h n xs).map .list
      | _ => none
    | .mix xs => (frzs h n xs).map .tuple
    | .exc _ _ => none
def frzs (h : Hs) : Nat → List D → Option (List PyData)
  | 0, _ => none
  | n + 1, xs => xs.foldr (fun d r => match frz h n d, r with
    | some p, some ps => some (p :: ps)
    | _, _ => none) (some [])
end
theorem frz_v (h : Hs) (n : Nat) (p : PyData) : frz h n (.v p) = some p := by cases n <;> rfl
mutual
theorem RepP.dp {Fz : Addr → Prop} {H : Hp} : ∀ {d : PyData} {v : V}, d.canLay0 = true → RepP K Fz H d v → Dp K H v d
  | .none, _, _, h => by rw [show _ = V.non from h]; exact .non
  | .bool b, _, _, h => by rw [show _ = V.bl b from h]; exact .bl b
  | .int i, _, _, h => by rw [show _ = V.int i from h]; exact .int i
  | .str x, _, _, h => by rw [show _ = V.str x from h]; exact .str x
  | .list ds, _, c, ⟨a, vs, e, r, s⟩ => by rw [e]; exact .lst r.sql (RepPs.dp (by simpa [PyData.canLay0] using c) s)
  | .tuple ds, _, c, ⟨a, vs, e, r, s⟩ => by rw [e]; exact .tup r (RepPs.dp (by simpa [PyData.canLay0] using c) s)
  | .dict _, _, c, _ => by simp [PyData.canLay0] at c
theorem RepPs.dp {Fz : Addr → Prop} {H : Hp} : ∀ {ds : List PyData} {vs : List V}, PyData.canLayAll0 ds = true → RepPs K Fz H ds vs → DpAll K H vs ds
  | [], _, _, h => by rw [show _ = [] from h]; exact .nil
  | d :: ds, _, c, ⟨v, r, e, h1, h2⟩ => by
    rw [PyData.canLayAll0, Bool.and_eq_true] at c
    rw [e]; exact .cons (RepP.dp c.1 h1) (RepPs.dp c.2 h2)
end
mutual
/-- the deep view stands in the heap; its lists are frozen ones or cells -/
theorem frz_rep {w : Wd} (ok : w.Ok K) {G : Addr → Prop} (f : ∀ a, w.Fz a → G a) (i : ∀ a, a ∈ w.ι → G a) : ∀ (n : Nat) {d : D} {p : PyData} {v : V}, RepD K w d v → frz w.h n d = some p → RepP K G w.H p v
  | 0, .v d, p, v, r, e => by
    have e' : d = p := Option.some.inj e
    subst e'
    exact RepP.same (fun _ _ h => h) f _ r
  | 0, .ref _, _, _, _, e => by cases e
  | 0, .mix _, _, _, _, e => by cases e
  | 0, .exc _ _, _, _, _, e => by cases e
  | n + 1, .exc _ _, _, _, _, e => by simp [frz] at e
  | n + 1, .v d, p, v, r, e => by
    have e' : d = p := Option.some.inj e
    subst e'
    exact RepP.same (fun _ _ h => h) f _ r
  | n + 1, .ref k, p, v, ⟨a, ha, ev⟩, e => by
    simp only [frz] at e
    cases q : w.h[k]? with
    | none => simp [q] at e
    | some c =>
      cases c with
      | lst xs =>
        cases u : frzs w.h n xs with
        | none => simp [q, u] at e
        | some ps =>
          simp [q, u] at e
          subst e
          obtain ⟨vs, hH, hr⟩ := ok.cell k a _ ha q
          exact ⟨a, vs, ev, .inl ⟨i a (List.mem_of_getElem? ha), .inl hH⟩, frzs_rep ok f i n hr u⟩
      | _ => simp [q] at e
  | n + 1, .mix xs, p, v, ⟨a, vs, ev, ht, hr⟩, e => by
    simp only [frz] at e
    cases u : frzs w.h n xs with
    | none => simp [u] at e
    | some ps =>
      simp [u] at e
      subst e
      exact ⟨a, vs, ev, ht, frzs_rep ok f i n hr u⟩
theorem frzs_rep {w : Wd} (ok : w.Ok K) {G : Addr → Prop} (f : ∀ a, w.Fz a → G a) (i : ∀ a, a ∈ w.ι → G a) : ∀ (n : Nat) {xs : List D} {ps : List PyData} {vs : List V}, RepDs K w xs vs → frzs w.h n xs = some ps → RepPs K G w.H ps vs
  | 0, _, _, _, _, e => by cases e
  | n + 1, xs, ps, vs, r, e => by
    induction xs generalizing ps vs with
    | nil =>
      have e' : [] = ps := Option.some.inj e
      subst e'
      exact r
    | cons d xs ih =>
      obtain ⟨v, vr, ev, h1, h2⟩ := r
      simp only [frzs, List.foldr_cons] at e
      cases q : frz w.h n d with
      | none => simp [q] at e
      | some p =>
        cases q2 : frzs w.h (n + 1) xs with
        | none =>
          simp only [frzs] at q2
          simp [q, q2] at e
        | some ps' =>
          have q3 := q2
          simp only [frzs] at q2
          simp [q, q2] at e
          subst e
          exact ⟨v, vr, ev, frz_rep ok f i n h1 q, ih _ _ h2 q3⟩
end
/-- the depth of the views that are taken -/
abbrev dep : Nat := 12
def isStr : PyData → Bool
  | .str _ => true
  | _ => false
def eqD (neg : Bool) : D → D → Hs → Option D := fun x y h => match frz h dep x, frz h dep y with
  | some p, some q => if (SeqAt.shaped p && SeqAt.shaped q || isStr p && isStr q) = true then some (.v (.bool (if neg = true then !PyData.eqv p q else PyData.eqv p q))) else none
  | _, _ => none
abbrev rEqA (K : KF) : R2 := fun x y H Q => rEqD K x y H Q ∨ rEq x y H Q
abbrev rNeA (K : KF) : R2 := fun x y H Q => rNeD K x y H Q ∨ rNe x y H Q
theorem op_eqA {X : Cx} (hu : X.A.units + 64 < cLine) : OpR X (compareOp .Eq) (rEqA X.K) := (op_eqD hu).or op_eq
theorem op_neA {X : Cx} (hu : X.A.units + 64 < cLine) : OpR X (compareOp .NotEq) (rNeA X.K) := (op_neD hu).or op_ne
theorem dec_strs {a b : Str} : decide (V.str a = V.str b) = PyData.eqv (.str a) (.str b) := by
  rw [PyData.eqv, Bool.eq_iff_iff, decide_eq_true_eq, beq_iff_eq]
  exact ⟨fun h => (by cases h; rfl), fun h => (by rw [h])⟩
theorem isStr_of {w : Wd} {G : Addr → Prop} {p : PyData} {v : V} (e : isStr p = true) (r : RepP K G w.H p v) : ∃ z, p = .str z ∧ v = .str z := by
  cases p with
  | str z => exact ⟨z, rfl, r⟩
  | _ => cases e
theorem op_eqDD : OpD K (rEqA K) (eqD false) := by
  intro w x y dx dy dz Q ok rx ry e a
  unfold eqD at e
  cases ex : frz w.h dep dx with
  | none => simp [ex] at e
  | some p =>
    cases ey : frz w.h dep dy with
    | none => simp [ex, ey] at e
    | some q =>
      rw [ex, ey] at e
      simp only at e
      have r1 := frz_rep ok (G := fun _ => True) (fun _ _ => trivial) (fun _ _ => trivial) dep rx ex
      have r2 := frz_rep ok (G := fun _ => True) (fun _ _ => trivial) (fun _ _ => trivial) dep ry ey
      split at e
      · rename_i hs
        cases e
        rw [Bool.or_eq_true, Bool.and_eq_true, Bool.and_eq_true] at hs
        rcases hs with hs | hs
        · exact .inl ⟨p, q, r1.dp (SeqAt.canLay_of_shaped hs.1), r2.dp (SeqAt.canLay_of_shaped hs.2), hs.1, hs.2, a.here ok rfl⟩
        · obtain ⟨s, rfl, rfl⟩ := isStr_of hs.1 r1
          obtain ⟨t, rfl, rfl⟩ := isStr_of hs.2 r2
          refine .inr ⟨rfl, ?_⟩
          rw [dec_strs]
          exact a.here ok rfl
      · cases e
theorem op_neDD : OpD K (rNeA K) (eqD true) := by
  intro w x y dx dy dz Q ok rx ry e a
  unfold eqD at e
  cases ex : frz w.h dep dx with
  | none => simp [ex] at e
  | some p =>
    cases ey : frz w.h dep dy with
    | none => simp [ex, ey] at e
    | some q =>
      rw [ex, ey] at e
      simp only at e
      have r1 := frz_rep ok (G := fun _ => True) (fun _ _ => trivial) (fun _ _ => trivial) dep rx ex
      have r2 := frz_rep ok (G := fun _ => True) (fun _ _ => trivial) (fun _ _ => trivial) dep ry ey
      split at e
      · rename_i hs
        cases e
        rw [Bool.or_eq_true, Bool.and_eq_true, Bool.and_eq_true] at hs
        rcases hs with hs | hs
        · exact .inl ⟨p, q, r1.dp (SeqAt.canLay_of_shaped hs.1), r2.dp (SeqAt.canLay_of_shaped hs.2), hs.1, hs.2, a.here ok rfl⟩
        · obtain ⟨s, rfl, rfl⟩ := isStr_of hs.1 r1
          obtain ⟨t, rfl, rfl⟩ := isStr_of hs.2 r2
          refine .inr ⟨rfl, ?_⟩
          rw [dec_strs]
          exact a.here ok rfl
      · cases e
/-- is None, is not None -/
def isNoneD : D → Bool
  | .v .none => true
  | _ => false
def ngt (neg b : Bool) : Bool := if neg = true then !b else b
def isND (neg : Bool) : D → D → Hs → Option D := fun x y _ => match y with
  | .v .none => some (.v (.bool (ngt neg (isNoneD x))))
  | _ => none
theorem repD_non {w : Wd} {x : V} {dx : D} (r : RepD K w dx x) : decide (x = V.non) = isNoneD dx := by
  cases dx with
  | v d =>
    cases d with
    | none => exact decide_eq_true r
    | bool b => exact decide_eq_false fun e => by rw [show x = _ from r] at e; cases e
    | int b => exact decide_eq_false fun e => by rw [show x = _ from r] at e; cases e
    | str b => exact decide_eq_false fun e => by rw [show x = _ from r] at e; cases e
    | list b => obtain ⟨a, vs, ev, _⟩ := r; exact decide_eq_false fun e => by rw [ev] at e; cases e
    | tuple b => obtain ⟨a, vs, ev, _⟩ := r; exact decide_eq_false fun e => by rw [ev] at e; cases e
    | dict b => obtain ⟨a, ks, rfl, _⟩ := r; simp [isNoneD]
  | ref n => obtain ⟨a, _, ev⟩ := r; exact decide_eq_false fun e => by rw [ev] at e; cases e
  | mix xs => obtain ⟨a, vs, ev, _⟩ := r; exact decide_eq_false fun e => by rw [ev] at e; cases e
  | exc c fs => obtain ⟨a, C, da, ev, _⟩ := r; exact decide_eq_false fun e => by rw [ev] at e; cases e
theorem op_isNDD : OpD K (fun x y H Q => y = .non ∧ Q (.bl (decide (x = .non))) H) (isND false) := by
  intro w x y dx dy dz Q ok rx ry e a
  unfold isND at e
  split at e
  · refine ⟨ry, ?_⟩
    rw [repD_non rx]
    cases e
    exact a.here ok rfl
  · cases e
theorem op_notNDD : OpD K (fun x y H Q => y = .non ∧ Q (.bl (!decide (x = .non))) H) (isND true) := by
  intro w x y dx dy dz Q ok rx ry e a
  unfold isND at e
  split at e
  · refine ⟨ry, ?_⟩
    rw [repD_non rx]
    cases e
    exact a.here ok rfl
  · cases e
/-- is, is not of truths -/
def isBP (neg : Bool) : PyData → PyData → Option PyData
  | .bool a, .bool b => some (.bool (if neg = true then !decide (a = b) else decide (a = b)))
  | _, _ => none
/-! ## in -/
def isFlat : PyData → Bool
  | .none => true
  | .bool _ => true
  | .int _ => true
  | .str _ => true
  | _ => false
theorem flat_of {Fz : Addr → Prop} {H : Hp} {d : PyData} {v : V} (f : isFlat d = true) (r : RepP K Fz H d v) : flatV v = true := by
  cases d with
  | none => rw [show v = _ from r]; rfl
  | bool b => rw [show v = _ from r]; rfl
  | int b => rw [show v = _ from r]; rfl
  | str b => rw [show v = _ from r]; rfl
  | _ => cases f
theorem eqV_of {Fz : Addr → Prop} {H : Hp} {d e : PyData} {v u : V} (f : isFlat d = true) (g : isFlat e = true) (r : RepP K Fz H d v) (s : RepP K Fz H e u) : eqV v u = PyData.eqv d e := by
  cases d with
  | none =>
    cases e with
    | none => rw [show v = _ from r, show u = _ from s]; rfl
    | bool b => rw [show v = _ from r, show u = _ from s]; rfl
    | int b => rw [show v = _ from r, show u = _ from s]; rfl
    | str b => rw [show v = _ from r, show u = _ from s]; rfl
    | _ => cases g
  | bool b =>
    cases e with
    | none => rw [show v = _ from r, show u = _ from s]; rfl
    | bool b => rw [show v = _ from r, show u = _ from s]; rfl
    | int b => rw [show v = _ from r, show u = _ from s]; rfl
    | str b => rw [show v = _ from r, show u = _ from s]; rfl
    | _ => cases g
  | int b =>
    cases e with
    | none => rw [show v = _ from r, show u = _ from s]; rfl
    | bool b => rw [show v = _ from r, show u = _ from s]; rfl
    | int b => rw [show v = _ from r, show u = _ from s]; rfl
    | str b => rw [show v = _ from r, show u = _ from s]; rfl
    | _ => cases g
  | str b =>
    cases e with
    | none => rw [show v = _ from r, show u = _ from s]; rfl
    | bool b => rw [show v = _ from r, show u = _ from s]; rfl
    | int b => rw [show v = _ from r, show u = _ from s]; rfl
    | str b => rw [show v = _ from r, show u = _ from s]; rfl
    | _ => cases g
  | _ => cases f
theorem inV_of {Fz : Addr → Prop} {H : Hp} {d : PyData} {v : V} (f : isFlat d = true) (r : RepP K Fz H d v) : ∀ {ds : List PyData} {vs : List V}, ds.all isFlat = true → RepPs K Fz H ds vs → vs.all flatV = true ∧ inV v vs = ds.any fun z => PyData.eqv z d
  | [], _, _, h => by
    rw [show _ = [] from h]
    exact ⟨rfl, rfl⟩
  | e :: ds, _, g, ⟨u, us, ev, h1, h2⟩ => by
    rw [List.all_cons, Bool.and_eq_true] at g
    obtain ⟨i1, i2⟩ := inV_of f r g.2 h2
    rw [ev]
    refine ⟨by rw [List.all_cons, flat_of g.1 h1, i1]; rfl, ?_⟩
    unfold inV at i2 ⊢
    rw [List.any_cons, List.any_cons, i2, eqV_of g.1 f h1 r]
def inP (neg : Bool) : PyData → PyData → Option PyData
  | x, .tuple ys => if (isFlat x && ys.all isFlat) = true then some (.bool (ngt neg (ys.any fun z => PyData.eqv z x))) else none
  | x, .list ys => if (SeqAt.shaped x && SeqAt.shaped (.list ys)) = true then some (.bool (ngt neg (ys.any fun z => PyData.eqv z x))) else none
  | .str x, .str y => match x.cps.toList with
    | [c] => some (.bool (ngt neg (decide (c ∈ y.cps.toList))))
    | _ => none
  | _, _ => none
abbrev rInSign (neg : Bool) : R2 := fun x y H Q => ∃ (c : Nat) (z : Str), x = .str ⟨#[c]⟩ ∧ y = .str z ∧ Q (.bl (ngt neg (decide (c ∈ z.cps.toList)))) H
abbrev rInA (K : KF) (neg : Bool) : R2 := fun x y H Q => (rIn K neg x y H Q ∨ (if neg = true then rNotInD K x y H Q else rInD K x y H Q)) ∨ rInSign neg x y H Q
theorem op_inR {X : Cx} (hu : X.A.units + 65 < cLine) : OpR X (compareOp .In) (rInA X.K false) := (op_in_seq.or (r' := fun x y H Q => if false = true then rNotInD X.K x y H Q else rInD X.K x y H Q) (op_inD hu)).or (r' := rInSign false) op_in_sign
theorem op_notInR {X : Cx} (hu : X.A.units + 65 < cLine) : OpR X (compareOp .NotIn) (rInA X.K true) := (op_notIn_seq.or (r' := fun x y H Q => if true = true then rNotInD X.K x y H Q else rInD X.K x y H Q) (op_notInD hu)).or (r' := rInSign true) op_notIn_sign
theorem RepS.dp {w : Wd} : ∀ {d : PyData} {v : V}, d.canLay0 = true → RepS K w d v → Dp K w.H v d
  | .none, _, c, h => RepP.dp (Fz := w.Fz) (d := .none) c h
  | .bool _, _, c, h => RepP.dp (Fz := w.Fz) (d := .bool _) c h
  | .int _, _, c, h => RepP.dp (Fz := w.Fz) (d := .int _) c h
  | .str _, _, c, h => RepP.dp (Fz := w.Fz) (d := .str _) c h
  | .list ds, _, c, ⟨a, vs, e, r, s⟩ => by rw [e]; exact .lst r (RepPs.dp (by simpa [PyData.canLay0] using c) s)
  | .tuple _, _, c, h => RepP.dp (Fz := w.Fz) (d := .tuple _) c h
  | .dict _, _, c, h => by simp [PyData.canLay0] at c
theorem op_inP (neg : Bool) : OpP K (rInA K neg) (inP neg) := by
  intro w x y p q z Q ok rx ry e a
  cases q with
  | tuple ys =>
    have e' : (if (isFlat p && ys.all isFlat) = true then some (PyData.bool (ngt neg (ys.any fun z => PyData.eqv z p))) else none) = some z := by
      cases p <;> exact e
    split at e'
    · rename_i hc
      cases e'
      rw [Bool.and_eq_true] at hc
      obtain ⟨b, vs, rfl, ht, hr⟩ := ry
      have rx' : RepP K w.Fz w.H p x := by
        cases p <;> first | exact rx | (exact absurd hc.1 (by simp [isFlat]))
      obtain ⟨i1, i2⟩ := inV_of hc.1 rx' hc.2 hr
      refine .inl (.inl ⟨b, vs, rfl, .inr ht, flat_of hc.1 rx', i1, ?_⟩)
      rw [i2]
      exact a.here ok rfl
    · cases e'
  | list ys =>
    have e' : (if (SeqAt.shaped p && SeqAt.shaped (.list ys)) = true then some (PyData.bool (ngt neg (ys.any fun z => PyData.eqv z p))) else none) = some z := by
      cases p <;> exact e
    split at e'
    · rename_i hc
      cases e'
      rw [Bool.and_eq_true] at hc
      refine .inl (.inr ?_)
      cases neg with
      | true => exact ⟨p, ys, rx.dp (SeqAt.canLay_of_shaped hc.1), ry.dp (SeqAt.canLay_of_shaped hc.2), hc.1, hc.2, a.here ok rfl⟩
      | false => exact ⟨p, ys, rx.dp (SeqAt.canLay_of_shaped hc.1), ry.dp (SeqAt.canLay_of_shaped hc.2), hc.1, hc.2, a.here ok rfl⟩
    · cases e'
  | str t =>
    cases p with
    | str s =>
      simp only [inP] at e
      split at e
      · rename_i c hc
        cases e
        cases str_of rx
        cases str_of ry
        refine .inr ⟨c, t, ?_, rfl, a.here ok rfl⟩
        obtain ⟨⟨l⟩⟩ := s
        simp only at hc
        subst hc
        rfl
      · cases e
    | _ => cases e
  | _ => cases p <;> cases e

/-! ## subscripts -/
def ixD : D → D → Hs → Option D := fun x i h => match i with
  | .v (.int k) => match x with
    | .v (.list ds) => (atI ds k).map .v
    | .v (.tuple ds) => (atI ds k).map .v
    | .v (.str z) => if z.length ≤ sizeLine then (atI z.cps.toList k).map fun c => .v (.str ⟨#[c]⟩) else none
    | .ref n => match h[n]? with
      | some (.lst xs) => atI xs k
      | _ => none
    | .mix xs => atI xs k
    | _ => none
  | _ => none
theorem atI_of {α β : Type} {xs : List α} {ys : List β} {k : Int} {x : α} (h : atI xs k = some x) (hl : ys.length = xs.length) : ∃ j : Nat, xs[j]? = some x ∧ ∀ y, ys[j]? = some y → atI ys k = some y := by
  unfold atI at h ⊢
  rw [hl]
  cases e : ixN xs.length k with
  | none => rw [e] at h; cases h
  | some j =>
    rw [e] at h
    exact ⟨j, h, fun y hy => hy⟩
theorem op_ixD : OpD K (rIx K) ixD := by
  intro w x y dx dy dz Q ok rx ry e a
  cases dy with
  | v d =>
    cases d with
    | int k =>
      cases (show y = V.int k from ry)
      simp only [ixD] at e
      cases dx with
      | v d =>
        cases d with
        | list ds =>
          obtain ⟨b, vs, rfl, ht, hr⟩ := rx
          simp only [Option.map_eq_some_iff] at e
          obtain ⟨p, ep, rfl⟩ := e
          obtain ⟨j, hj, hy⟩ := atI_of ep hr.len
          obtain ⟨u, hu, ru⟩ := RepPs.get hr hj
          exact .inl ⟨b, vs, k, u, rfl, rfl, ht.sql, hy u hu, a.here ok ru⟩
        | tuple ds =>
          obtain ⟨b, vs, rfl, ht, hr⟩ := rx
          simp only [Option.map_eq_some_iff] at e
          obtain ⟨p, ep, rfl⟩ := e
          obtain ⟨j, hj, hy⟩ := atI_of ep hr.len
          obtain ⟨u, hu, ru⟩ := RepPs.get hr hj
          exact .inr (.inl ⟨b, vs, k, u, rfl, rfl, ht, hy u hu, a.here ok ru⟩)
        | str z =>
          cases (show x = V.str z from rx)
          simp only at e
          split at e
          · rename_i hz
            simp only [Option.map_eq_some_iff] at e
            obtain ⟨c, ec, rfl⟩ := e
            exact .inr (.inr ⟨z, k, c, rfl, rfl, hz, ec, a.here ok rfl⟩)
          · cases e
        | _ => cases e
      | ref n =>
        obtain ⟨b, hb, rfl⟩ := rx
        simp only at e
        cases q : w.h[n]? with
        | none => simp [q] at e
        | some c =>
          cases c with
          | lst xs =>
            simp only [q] at e
            obtain ⟨vs, hH, hr⟩ := ok.cell n b _ hb q
            obtain ⟨j, hj, hy⟩ := atI_of e hr.len
            obtain ⟨u, hu, ru⟩ := RepDs.get hr hj
            exact .inl ⟨b, vs, k, u, rfl, rfl, .inl (.inl hH), hy u hu, a.here ok ru⟩
          | _ => simp [q] at e
      | mix xs =>
        obtain ⟨b, vs, rfl, ht, hr⟩ := rx
        obtain ⟨j, hj, hy⟩ := atI_of e hr.len
        obtain ⟨u, hu, ru⟩ := RepDs.get hr hj
        exact .inr (.inl ⟨b, vs, k, u, rfl, rfl, ht, hy u hu, a.here ok ru⟩)
      | exc c fs => cases e
    | _ => cases e
  | _ => cases e
end
end Vl
set_option maxHeartbeats 4000000
namespace Vl
open PySem PySem.Spec PyProof.Rows L2

/-! ## names, constants -/
def eVar (i : Nat) : EM := fun s h => match s[i]? with
  | some (some d) => some (.ok d h)
  | _ => none
def eC (d : PyData) : EM := fun _ h => some (.ok (.v d) h)
section
variable {X : Cx} {W : WX} {pos : Pos}
theorem se_var (i : Nat) {x : Str} (hN : X.N[i]? = some x := by rfl) (hv : Vis X.env.scope x := by first | exact Or.inl rfl | exact Or.inr (Or.inl rfl) | exact Or.inr (Or.inr rfl)) (hd : (x == ("__debug__" : Str)) = false := by decide)
    (hcd : (x == ("__classdict__" : Str)) = false := by decide) : SE X W (.Name x pos) (eVar i) :=
  PE.mono' (pe_var hN hv hd hcd) fun σ H Q ⟨w, sl, eH, ok, hs, h⟩ => by
    subst eH
    unfold WpE eVar at h
    cases e : sl[i]? with
    | none => simp [e] at h
    | some o =>
      cases o with
      | none => simp [e] at h
      | some d =>
        simp only [e] at h
        obtain ⟨v, ev, r⟩ := hs.at' i d e
        exact ⟨v, ev, h w v (Wd.Le.refl w) ok rfl r⟩
theorem se_const {e : Expr} {v : V} {d : PyData} (h : PE X e (tC v)) (r : ∀ w : Wd, RepP X.K w.Fz w.H d v) : SE X W e (eC d) :=
  PE.mono' h fun σ H Q ⟨w, sl, eH, ok, hs, h⟩ => by
    subst eH
    exact h w v (Wd.Le.refl w) ok rfl (r w)
theorem se_int {i : Int} {j} : SE X W (.Constant (.int i) j pos) (eC (.int i)) := se_const pe_int fun _ => rfl
theorem se_bl {b j} : SE X W (.Constant (.bool b) j pos) (eC (.bool b)) := se_const pe_bl fun _ => rfl
theorem se_non {j} : SE X W (.Constant .none j pos) (eC .none) := se_const pe_non fun _ => rfl
theorem se_str {x j} : SE X W (.Constant (.str x) j pos) (eC (.str x)) := se_const pe_str fun _ => rfl
theorem se_glob {x : Str} {v : V} {u : Value} {d : PyData} (hg : Gl X x) (hm : X.mg x = some u) (r : RelV v u) (rd : ∀ w : Wd, RepP X.K w.Fz w.H d v) (hd : (x == ("__debug__" : Str)) = false := by decide) : SE X W (.Name x pos) (eC d) :=
  se_const (pe_glob hg hm r hd) rd
end

/-! ## arguments -/
inductive AR where
  | ok (ds : List D) (h : Hs)
  | ex (x : Ex) (h : Hs)
abbrev AM := Sl → Hs → Option AR
section
variable (K : KF) (mg : Str → Option Value) (W : WX)
def WpA (σ : L2.St) (r : Option AR) (w : Wd) (R : List D → List V → Wd → Prop) : Prop :=
  match r with
  | some (.ok ds h') => ∀ w' vs, w.Le w' → w'.Ok K → w'.h = h' → RepDs K w' ds vs → R ds vs w'
  | some (.ex x h') => ∀ w' cls da, w.Le w' → w'.Ok K → w'.h = h' → ExRep K mg w' x cls da → W cls da σ w'.H
  | none => False
def tIA (f : AM) : TA := fun σ H Q => ∃ (w : Wd) (sl : Sl), w.H = H ∧ w.Ok K ∧ SRep K w sl σ ∧ WpA K mg W σ (f sl w.h) w fun _ vs w' => Q vs w'.H
end
def SA (X : Cx) (W : WX) (es : List Expr) (f : AM) : Prop := PA X es (tIA X.K X.mg W f)
def eNil : AM := fun _ h => some (.ok [] h)
def eCons (f : EM) (g : AM) : AM := fun s h => match f s h with
  | some (.ok d h1) => match g s h1 with
    | some (.ok ds h2) => some (.ok (d :: ds) h2)
    | some (.ex x h2) => some (.ex x h2)
    | none => none
  | some (.ex x h1) => some (.ex x h1)
  | none => none
/-- a list of arguments, then k -/
def eA (a : AM) (k : List D → EM) : EM := fun s h => match a s h with
  | some (.ok ds h1) => k ds s h1
  | some (.ex x h1) => some (.ex x h1)
  | none => none
section
variable {K : KF} {mg : Str → Option Value} {W : WX} {σ : L2.St} {w : Wd} {sl : Sl}
theorem tIA_bind {a : AM} {k : List D → EM} {R : D → V → Wd → Prop} {Q : List V → Hp → Prop} (ok : w.Ok K) (hs : SRep K w sl σ) (h : WpE K mg W σ ((eA a k) sl w.h) w R)
    (q : ∀ ds vs w1, w.Le w1 → w1.Ok K → SRep K w1 sl σ → RepDs K w1 ds vs → WpE K mg W σ (k ds sl w1.h) w1 R → Q vs w1.H) : tIA K mg W a σ w.H Q := by
  refine ⟨w, sl, rfl, ok, hs, ?_⟩
  unfold eA at h
  unfold WpA
  cases e : a sl w.h with
  | none =>
    rw [e] at h
    exact h
  | some r =>
    cases r with
    | ok d h' =>
      rw [e] at h
      exact fun w' v l o eh r => q d v w' l o (hs.mono ok l) r (by rw [eh]; exact WpE.le h l o)
    | ex x h' =>
      rw [e] at h
      exact h
end
section
variable {X : Cx} {W : WX} {e : Expr} {es : List Expr} {f : EM} {g : AM} {pos : Pos}
theorem sa_nil : SA X W [] eNil := PA.mono' pa_nil fun σ H Q ⟨w, sl, eH, ok, hs, h⟩ => by
  subst eH
  exact h w [] (Wd.Le.refl w) ok rfl rfl
theorem sa_cons (ha : SE X W e f) (hr : SA X W es g) (hs : starEach (e :: es) X.env = (false, eval e X.env) :: starEach es X.env := by rfl) : SA X W (e :: es) (eCons f g) :=
  PA.mono' (pa_cons ha hr hs) fun σ H Q ⟨w, sl, eH, ok, hs, h⟩ => by
    subst eH
    refine ⟨w, sl, rfl, ok, hs, ?_⟩
    unfold eCons WpA at h
    unfold WpE
    cases e1 : f sl w.h with
    | none => simp [e1] at h
    | some r =>
      cases r with
      | ex x h' => simpa [e1] using h
      | ok d h' =>
        simp only [e1] at h
        intro w1 v l1 ok1 eh1 r1
        subst eh1
        refine ⟨w1, sl, rfl, ok1, hs.mono ok l1, ?_⟩
        unfold WpA
        cases e2 : g sl w1.h with
        | none => simp [e2] at h
        | some r2 =>
          cases r2 with
          | ex x h' =>
            simp only [e2] at h
            exact fun w2 cls da l2 => h w2 cls da (l1.trans l2 ok1)
          | ok ds h'' =>
            simp only [e2] at h
            exact fun w2 vs l2 ok2 eh2 r2 => h w2 (v :: vs) (l1.trans l2 ok1) ok2 eh2 ⟨v, vs, rfl, RepD.mono ok1 l2 d r1, r2⟩
end

/-! ## displays -/
theorem k_line {n : Nat} (h : n ≤ 1000) : n ≤ sizeLine := Nat.le_trans h (by rw [sizeLine_eq]; decide)
def mkTup (ds : List D) : D := match unvs ds with
  | some ps => .v (.tuple ps)
  | none => .mix ds
def kTup (ds : List D) : EM := EM.lift fun _ => if ds.length ≤ 1000 then some (mkTup ds) else none
def kLst (ds : List D) : EM := EM.lift fun _ => if ds.length ≤ 1000 then (unvs ds).map fun ps => .v (.list ps) else none
def eTup (a : AM) : EM := eA a kTup
def eLst (a : AM) : EM := eA a kLst
theorem After.mk {K : KF} {w : Wd} {ds : List D} {vs : List V} {Q : VK} (a : After K w (mkTup ds) Q) (ok : w.Ok K) (r : RepDs K w ds vs) : ∀ p, w.H p = none → Q (.ref p) (upd w.H p (.tup vs)) := by
  unfold mkTup at a
  cases e : unvs ds with
  | some ps =>
    rw [e] at a
    exact a.newT ok (unvs_rep e r)
  | none =>
    rw [e] at a
    exact fun p hp => a (w.newT p (.tup vs)) (.ref p) (Wd.newT_le hp) (Wd.newT_ok ok hp) rfl ⟨p, vs, rfl, .inl (.inl upd_same), RepDs.mono ok (Wd.newT_le hp) ds r⟩
section
variable {X : Cx} {W : WX} {es : List Expr} {g : AM} {pos : Pos}
theorem se_tup {k} (h : SA X W es g) : SE X W (.Tuple es k pos) (eTup g) := PE.mono' (pe_tup h) fun σ H Q ⟨w, sl, eH, ok, hs, h⟩ => by
  subst eH
  refine tIA_bind ok hs h fun ds vs w1 l1 ok1 hs1 r1 h1 => ?_
  obtain ⟨d, e, q⟩ := WpE.lift h1
  split at e
  · rename_i hl
    cases e
    exact ⟨by rw [r1.len]; exact k_line hl, After.mk q ok1 r1⟩
  · cases e
theorem se_lst (h : SA X W es g) : SE X W (.List es pos) (eLst g) := PE.mono' (pe_lst h) fun σ H Q ⟨w, sl, eH, ok, hs, h⟩ => by
  subst eH
  refine tIA_bind ok hs h fun ds vs w1 l1 ok1 hs1 r1 h1 => ?_
  obtain ⟨d, e, q⟩ := WpE.lift h1
  split at e
  · rename_i hl
    rw [Option.map_eq_some_iff] at e
    obtain ⟨ps, ep, rfl⟩ := e
    exact ⟨by rw [r1.len]; exact k_line hl, After.newL q ok1 (unvs_rep ep r1)⟩
  · cases e
end

/-! ## built-in calls -/
def eB (g : List D → Hs → Option D) (a : AM) : EM := eA a fun ds => EM.lift (g ds)
section
variable {X : Cx} {W : WX} {e : Expr} {es : List Expr} {g : List D → Hs → Option D} {a : AM} {pos p : Pos} {id T : String} {x : Str} {r : List V → Hp → VK → Prop}
theorem tCB_of (hd : CallD X.K r g) (σ : L2.St) (H : Hp) (Q : VK) (h : tI X.K X.mg W (eB g a) σ H Q) : tCB r (tIA X.K X.mg W a) σ H Q := by
  obtain ⟨w, sl, rfl, ok, hs, h⟩ := h
  refine tIA_bind ok hs h fun ds vs w1 l1 ok1 hs1 r1 h1 => ?_
  obtain ⟨d, e, q⟩ := WpE.lift h1
  exact hd w1 vs ds d Q ok1 r1 e q
theorem se_callB (hc : CallR X (.builtin id) r) (hd : CallD X.K r g) (hg : Gl X x) (hm : X.mg x = none) (hv : bootBuiltins x = some (.builtin id)) (ha : SA X W (e :: es) a) (hn : x ≠ "__name__" := by decide) (hdb : (x == ("__debug__" : Str)) = false := by decide)
    (he : starEach (e :: es) X.env = (false, eval e X.env) :: starEach es X.env := by rfl) (hpl : (backTo pos (starEach es X.env)).any (·.1) = false := by rfl) : SE X W (.Call (.Name x p) (e :: es) [] pos) (eB g a) :=
  PE.mono' (pe_callB hc hg hm hv ha hn hdb he hpl) fun σ H Q h => tCB_of hd σ H Q h
theorem se_callTy (hc : CallR X (.type T) r) (hd : CallD X.K r g) (hg : Gl X x) (hm : X.mg x = none) (hv : bootBuiltins x = some (.type T)) (ha : SA X W (e :: es) a) (hn : x ≠ "__name__" := by decide) (hdb : (x == ("__debug__" : Str)) = false := by decide)
    (he : starEach (e :: es) X.env = (false, eval e X.env) :: starEach es X.env := by rfl) (hpl : (backTo pos (starEach es X.env)).any (·.1) = false := by rfl) : SE X W (.Call (.Name x p) (e :: es) [] pos) (eB g a) :=
  PE.mono' (pe_callTy hc hg hm hv ha hn hdb he hpl) fun σ H Q h => tCB_of hd σ H Q h
end
/-- one argument, as data -/
def b1 (g : PyData → Option PyData) : List D → Hs → Option D := fun ds h => match ds with
  | [x] => lift1 g x h
  | _ => none
def CallP (K : KF) (r : List V → Hp → VK → Prop) (g : PyData → Option PyData) : Prop :=
  ∀ (w : Wd) (x : V) (p z : PyData) (Q : VK), w.Ok K → RepS K w p x → g p = some z → After K w (.v z) Q → r [x] w.H Q
theorem CallP.d {K : KF} {r : List V → Hp → VK → Prop} {g : PyData → Option PyData} (h : CallP K r g) : CallD K r (b1 g) := by
  intro w xs ds dz Q ok rx e a
  unfold b1 at e
  split at e
  · rename_i d
    obtain ⟨v, vr, rfl, r1, r2⟩ := rx
    cases (show vr = [] from r2)
    unfold lift1 at e
    cases ex : shal w.h d with
    | none => rw [ex] at e; cases e
    | some p =>
      rw [ex] at e
      cases ez : g p with
      | none => simp [ez] at e
      | some z =>
        simp [ez] at e
        subst e
        exact h w v p z Q ok (shal_rep ok r1 ex) ez a
  · cases e
section
variable {K : KF}
/-- len -/
def lenD : List D → Hs → Option D := fun ds h => match ds with
  | [.v (.str z)] => if z.length ≤ sizeLine then some (.v (.int z.length)) else none
  | [.v (.list xs)] => some (.v (.int xs.length))
  | [.v (.tuple xs)] => some (.v (.int xs.length))
  | [.ref n] => match h[n]? with
    | some (.lst xs) => some (.v (.int xs.length))
    | _ => none
  | [.mix xs] => some (.v (.int xs.length))
  | _ => none
theorem call_lenD : CallD K (fun xs H Q => ∃ x n, xs = [x] ∧ LenV K x H n ∧ Q (.int n) H) lenD := by
  intro w xs ds dz Q ok rx e a
  unfold lenD at e
  split at e
  · obtain ⟨v, vr, rfl, r1, r2⟩ := rx
    cases (show vr = [] from r2)
    split at e
    · rename_i hz
      cases e
      cases (show v = _ from r1)
      exact ⟨_, _, rfl, ⟨hz, rfl⟩, a.here ok rfl⟩
    · cases e
  · obtain ⟨v, vr, rfl, r1, r2⟩ := rx
    cases (show vr = [] from r2)
    cases e
    obtain ⟨b, vs, rfl, ht, hr⟩ := r1
    exact ⟨_, _, rfl, .inl ⟨vs, ht.sql, rfl⟩, by rw [hr.len]; exact a.here ok rfl⟩
  · obtain ⟨v, vr, rfl, r1, r2⟩ := rx
    cases (show vr = [] from r2)
    cases e
    obtain ⟨b, vs, rfl, ht, hr⟩ := r1
    exact ⟨_, _, rfl, .inr ⟨vs, ht, rfl⟩, by rw [hr.len]; exact a.here ok rfl⟩
  · rename_i n
    obtain ⟨v, vr, rfl, r1, r2⟩ := rx
    cases (show vr = [] from r2)
    obtain ⟨b, hb, rfl⟩ := r1
    cases q : w.h[n]? with
    | none => simp [q] at e
    | some c =>
      cases c with
      | lst ys =>
        simp only [q] at e
        cases e
        obtain ⟨vs, hH, hr⟩ := ok.cell n b _ hb q
        exact ⟨_, _, rfl, .inl ⟨vs, .inl (.inl hH), rfl⟩, by rw [hr.len]; exact a.here ok rfl⟩
      | _ => simp [q] at e
  · obtain ⟨v, vr, rfl, r1, r2⟩ := rx
    cases (show vr = [] from r2)
    cases e
    obtain ⟨b, vs, rfl, ht, hr⟩ := r1
    exact ⟨_, _, rfl, .inr ⟨vs, ht, rfl⟩, by rw [hr.len]; exact a.here ok rfl⟩
  · cases e
/-- abs -/
def absP : PyData → Option PyData
  | .int i => some (.int (if i < 0 then -i else i))
  | _ => none
theorem call_absP : CallP K (fun xs H Q => ∃ i, xs = [.int i] ∧ Q (.int (if i < 0 then -i else i)) H) absP := by
  intro w x p z Q ok rx e a
  cases p with
  | int i =>
    cases e
    cases int_of rx
    exact ⟨i, rfl, a.here ok rfl⟩
  | _ => cases e
/-- int of an int, of a truth -/
def intOfP : PyData → Option PyData
  | .int i => some (.int i)
  | .bool b => some (.int (if b then 1 else 0))
  | _ => none
theorem call_intP : CallP K (fun xs H Q => (∃ i, xs = [.int i] ∧ Q (.int i) H) ∨ ∃ k, xs = [.bl k] ∧ Q (.int (if k then 1 else 0)) H) intOfP := by
  intro w x p z Q ok rx e a
  cases p with
  | int i =>
    cases e
    cases int_of rx
    exact .inl ⟨i, rfl, a.here ok rfl⟩
  | bool b =>
    cases e
    cases bl_of rx
    exact .inr ⟨b, rfl, a.here ok rfl⟩
  | _ => cases e
/-- truths of a list -/
def bools : List PyData → Option (List Bool)
  | [] => some []
  | .bool b :: r => (bools r).map (b :: ·)
  | _ :: _ => none
theorem bools_rep {Fz : Addr → Prop} {H : Hp} : ∀ {ds : List PyData} {bs : List Bool} {vs : List V}, bools ds = some bs → RepPs K Fz H ds vs → vs = bs.map V.bl
  | [], bs, vs, e, r => by
    have e' : [] = bs := Option.some.inj e
    subst e'
    exact r
  | .bool b :: ds, bs, vs, e, ⟨v, vr, ev, r1, r2⟩ => by
    simp only [bools, Option.map_eq_some_iff] at e
    obtain ⟨bs', e1, rfl⟩ := e
    rw [ev, show v = V.bl b from r1, bools_rep e1 r2]
    rfl
  | .none :: _, _, _, e, _ => by cases e
  | .int _ :: _, _, _, e, _ => by cases e
  | .str _ :: _, _, _, e, _ => by cases e
  | .list _ :: _, _, _, e, _ => by cases e
  | .tuple _ :: _, _, _, e, _ => by cases e
  | .dict _ :: _, _, _, e, _ => by cases e
def allP : PyData → Option PyData
  | .list ds => (bools ds).map fun bs => .bool (bs.all id)
  | _ => none
theorem call_allP : CallP K (rAll K) allP := by
  intro w x p z Q ok rx e a
  cases p with
  | list ds =>
    simp only [allP, Option.map_eq_some_iff] at e
    obtain ⟨bs, e1, rfl⟩ := e
    obtain ⟨b, vs, rfl, ht, hr⟩ := rx
    refine ⟨b, bs, rfl, ?_, a.here ok rfl⟩
    rw [← bools_rep e1 hr]
    exact ht
  | _ => cases e
/-- tuple(xs), list(xs) -/
def tupOfP : PyData → Option PyData
  | .list ds => some (.tuple ds)
  | .tuple ds => some (.tuple ds)
  | _ => none
theorem call_tupP : CallP K (fun xs H Q => ∃ p ys, xs = [.ref p] ∧ ((SqL K H p ys ∧ ∀ l, H l = none → Q (.ref l) (upd H l (.tup ys))) ∨ (SqT K H p ys ∧ Q (.ref p) H))) tupOfP := by
  intro w x p z Q ok rx e a
  cases p with
  | list ds =>
    cases e
    obtain ⟨b, vs, rfl, ht, hr⟩ := rx
    exact ⟨b, vs, rfl, .inl ⟨ht, a.newT ok hr⟩⟩
  | tuple ds =>
    cases e
    obtain ⟨b, vs, rfl, ht, hr⟩ := rx
    exact ⟨b, vs, rfl, .inr ⟨ht, a.here ok ⟨b, vs, rfl, ht, hr⟩⟩⟩
  | _ => cases e
end
end Vl
set_option maxHeartbeats 4000000
namespace Vl
open PySem PySem.Spec PyProof.Rows L2

/-! ## truth -/
def truthD : D → Hs → Option Bool
  | .v .none, _ => some false
  | .v (.bool b), _ => some b
  | .v (.int i), _ => some (i != 0)
  | .v (.str z), _ => if z.length ≤ sizeLine then some ((z.length : Int) != 0) else none
  | .v (.list ds), _ => some (!ds.isEmpty)
  | .v (.tuple ds), _ => some (!ds.isEmpty)
  | .v (.dict _), _ => none
  | .ref n, h => match h[n]? with
    | some (.lst xs) => some (!xs.isEmpty)
    | _ => none
  | .mix xs, _ => some (!xs.isEmpty)
  | .exc _ _, _ => none
theorem emp_len {α β : Type} {xs : List α} {ys : List β} (h : xs.length = ys.length) : xs.isEmpty = ys.isEmpty := by
  cases xs <;> cases ys <;> first | rfl | (simp at h)
theorem truth_of {K : KF} {w : Wd} {d : D} {v : V} {b : Bool} (ok : w.Ok K) (r : RepD K w d v) (h : truthD d w.h = some b) : TruV K v w.H b := by
  cases d with
  | v d =>
    cases d with
    | none => cases h; rw [show v = _ from r]; exact rfl
    | bool b => cases h; rw [show v = _ from r]; exact rfl
    | int b => cases h; rw [show v = _ from r]; exact rfl
    | str z =>
      simp only [truthD] at h
      split at h
      · rename_i hz
        cases h
        rw [show v = _ from r]
        exact ⟨hz, rfl⟩
      · cases h
    | list ds =>
      cases h
      obtain ⟨a, vs, rfl, ht, hr⟩ := r
      exact .inl ⟨vs, ht.sql, by rw [emp_len hr.len]⟩
    | tuple ds =>
      cases h
      obtain ⟨a, vs, rfl, ht, hr⟩ := r
      exact .inr (.inl ⟨vs, ht, by rw [emp_len hr.len]⟩)
    | dict _ => cases h
  | ref n =>
    obtain ⟨a, ha, rfl⟩ := r
    simp only [truthD] at h
    cases q : w.h[n]? with
    | none => simp [q] at h
    | some c =>
      cases c with
      | lst xs =>
        simp only [q] at h
        cases h
        obtain ⟨vs, hH, hr⟩ := ok.cell n a _ ha q
        exact .inl ⟨vs, .inl (.inl hH), by rw [emp_len hr.len]⟩
      | _ => simp [q] at h
  | mix xs =>
    cases h
    obtain ⟨a, vs, rfl, ht, hr⟩ := r
    exact .inr (.inl ⟨vs, ht, by rw [emp_len hr.len]⟩)
  | exc c fs => cases h

/-! ## tests -/
inductive TR where
  | ok (b : Bool) (h : Hs)
  | ex (x : Ex) (h : Hs)
abbrev TM := Sl → Hs → Option TR
section
variable (K : KF) (mg : Str → Option Value) (W : WX)
def WpT (σ : L2.St) (r : Option TR) (w : Wd) (R : Bool → Wd → Prop) : Prop :=
  match r with
  | some (.ok b h') => ∀ w', w.Le w' → w'.Ok K → w'.h = h' → R b w'
  | some (.ex x h') => ∀ w' cls da, w.Le w' → w'.Ok K → w'.h = h' → ExRep K mg w' x cls da → W cls da σ w'.H
  | none => False
def tIT (f : TM) : TT := fun σ H Q => ∃ (w : Wd) (sl : Sl), w.H = H ∧ w.Ok K ∧ SRep K w sl σ ∧ WpT K mg W σ (f sl w.h) w fun b w' => Q b w'.H
end
def ST (X : Cx) (W : WX) (e : Expr) (f : TM) : Prop := PT X e (tIT X.K X.mg W f)
def tTru (f : EM) : TM := fun s h => match f s h with
  | some (.ok d h1) => match truthD d h1 with
    | some b => some (.ok b h1)
    | none => none
  | some (.ex x h1) => some (.ex x h1)
  | none => none
def tBl (f : EM) : TM := fun s h => match f s h with
  | some (.ok (.v (.bool b)) h1) => some (.ok b h1)
  | some (.ex x h1) => some (.ex x h1)
  | _ => none
def tNot (t : TM) : TM := fun s h => match t s h with
  | some (.ok b h1) => some (.ok (!b) h1)
  | some (.ex x h1) => some (.ex x h1)
  | none => none
def tAnd (t u : TM) : TM := fun s h => match t s h with
  | some (.ok b h1) => if b = true then u s h1 else some (.ok false h1)
  | some (.ex x h1) => some (.ex x h1)
  | none => none
def tOr (t u : TM) : TM := fun s h => match t s h with
  | some (.ok b h1) => if b = true then some (.ok true h1) else u s h1
  | some (.ex x h1) => some (.ex x h1)
  | none => none
section
variable {K : KF} {mg : Str → Option Value} {W : WX} {σ : L2.St} {w w1 : Wd} {sl : Sl}
theorem WpT.le {r : Option TR} {R : Bool → Wd → Prop} (h : WpT K mg W σ r w R) (le : w.Le w1) (ok : w1.Ok K) : WpT K mg W σ r w1 R := by
  unfold WpT at h ⊢
  split
  · exact fun w' l o e => h w' (le.trans l ok) o e
  · exact fun w' v da l o e r => h w' v da (le.trans l ok) o e r
  · exact h
theorem tITtru {f : EM} {Q : Bool → Hp → Prop} (ok : w.Ok K) (hs : SRep K w sl σ) (h : WpT K mg W σ (tTru f sl w.h) w fun b w' => Q b w'.H) :
    tI K mg W f σ w.H fun x H1 => ∃ k, TruV K x H1 k ∧ Q k H1 := by
  refine ⟨w, sl, rfl, ok, hs, ?_⟩
  unfold tTru WpT at h
  unfold WpE
  cases e : f sl w.h with
  | none => simp [e] at h
  | some r =>
    cases r with
    | ex x h' => simpa [e] using h
    | ok d h' =>
      simp only [e] at h
      cases e2 : truthD d h' with
      | none => simp [e2] at h
      | some b =>
        simp only [e2] at h
        intro w1 v l1 ok1 eh r1
        subst eh
        exact ⟨b, truth_of ok1 r1 e2, h w1 l1 ok1 rfl⟩
theorem tITbl {f : EM} {Q : Bool → Hp → Prop} (ok : w.Ok K) (hs : SRep K w sl σ) (h : WpT K mg W σ (tBl f sl w.h) w fun b w' => Q b w'.H) :
    tI K mg W f σ w.H fun x H1 => ∃ k, x = .bl k ∧ Q k H1 := by
  refine ⟨w, sl, rfl, ok, hs, ?_⟩
  unfold tBl WpT at h
  unfold WpE
  cases e : f sl w.h with
  | none => simp [e] at h
  | some r =>
    cases r with
    | ex x h' => simpa [e] using h
    | ok d h' =>
      cases d with
      | v d =>
        cases d with
        | bool b =>
          simp only [e] at h
          intro w1 v l1 ok1 eh r1
          subst eh
          exact ⟨b, r1, h w1 l1 ok1 rfl⟩
        | _ => simp [e] at h
      | _ => simp [e] at h
end
section
variable {X : Cx} {W : WX} {a b c : Expr} {rest : List Expr} {f g : EM} {t u : TM} {pos : Pos}
theorem st_tru (h : SE X W a f) (he : ∀ whole, isTrue a X.env whole = (do let v ← whole; standAt a.pos; holding [v] (truthy v)) := by intro _; rfl) : ST X W a (tTru f) :=
  PT.mono' (pt_truth h he) fun σ H Q ⟨w, sl, eH, ok, hs, h⟩ => by
    subst eH
    exact tITtru ok hs h
theorem st_cmp {op : CmpOp} {r : R2} {gd : D → D → Hs → Option D} (ho : OpR X (compareOp op) r) (hd : OpD X.K r gd) (ha : SE X W a f) (hb : SE X W b g) (hm : behindInMarks op b = false) : ST X W (.Compare a [op] [b] pos) (tBl (eBin gd f g)) :=
  PT.mono' (pt_cmpR ho ha hb hm) fun σ H Q ⟨w, sl, eH, ok, hs, h⟩ => by
    subst eH
    exact tOp_of hd σ w.H _ (tITbl ok hs h)
theorem st_not (h : ST X W a t) : ST X W (.UnaryOp .Not a pos) (tNot t) := PT.mono' (pt_not h) fun σ H Q ⟨w, sl, eH, ok, hs, h⟩ => by
  subst eH
  refine ⟨w, sl, rfl, ok, hs, ?_⟩
  unfold tNot WpT at h
  unfold WpT
  cases e : t sl w.h with
  | none => simp [e] at h
  | some r => cases r <;> simpa [e] using h
def SW (X : Cx) (W : WX) (e : Expr) (f : TM) : Prop := PW X e (tIT X.K X.mg W f)
theorem PW.mono' {X : Cx} {e : Expr} {t t' : TT} (h : PW X e t) (i : ∀ σ H Q, t' σ H Q → t σ H Q) : PW X e t' := ⟨fun wh pins s σ H Q I q => h.run wh pins s σ H Q I (i σ H Q q)⟩
theorem st_of (h : SW X W a t) : ST X W a t := L2.PW.pt h
theorem sw_and1 (h : ST X W a t) : SW X W (.BoolOp .And [a] pos) t := pw_and1 h
theorem sw_or1 (h : ST X W a t) : SW X W (.BoolOp .Or [a] pos) t := pw_or1 h
theorem sw_and (ha : ST X W a t) (hb : SW X W (.BoolOp .And (b :: rest) pos) u) : SW X W (.BoolOp .And (a :: b :: rest) pos) (tAnd t u) :=
  PW.mono' (pw_and ha hb) fun σ H Q ⟨w, sl, eH, ok, hs, h⟩ => by
    subst eH
    refine ⟨w, sl, rfl, ok, hs, ?_⟩
    unfold tAnd WpT at h
    unfold WpT
    cases e : t sl w.h with
    | none => simp [e] at h
    | some r =>
      cases r with
      | ex x h' => simpa [e] using h
      | ok b h' =>
        simp only [e] at h
        intro w1 l1 ok1 eh
        subst eh
        cases b with
        | true =>
          rw [if_pos rfl] at h ⊢
          exact ⟨w1, sl, rfl, ok1, hs.mono ok l1, WpT.le h l1 ok1⟩
        | false =>
          rw [if_neg Bool.false_ne_true] at h ⊢
          exact h w1 l1 ok1 rfl
theorem sw_or (ha : ST X W a t) (hb : SW X W (.BoolOp .Or (b :: rest) pos) u) : SW X W (.BoolOp .Or (a :: b :: rest) pos) (tOr t u) :=
  PW.mono' (pw_or ha hb) fun σ H Q ⟨w, sl, eH, ok, hs, h⟩ => by
    subst eH
    refine ⟨w, sl, rfl, ok, hs, ?_⟩
    unfold tOr WpT at h
    unfold WpT
    cases e : t sl w.h with
    | none => simp [e] at h
    | some r =>
      cases r with
      | ex x h' => simpa [e] using h
      | ok b h' =>
        simp only [e] at h
        intro w1 l1 ok1 eh
        subst eh
        cases b with
        | true =>
          rw [if_pos rfl] at h ⊢
          exact h w1 l1 ok1 rfl
        | false =>
          rw [if_neg Bool.false_ne_true] at h ⊢
          exact ⟨w1, sl, rfl, ok1, hs.mono ok l1, WpT.le h l1 ok1⟩
end

/-! ## and, or, not, if as values -/
def eOr (f g : EM) : EM := f.bind fun x s h => match truthD x h with
  | some b => if b = true then some (.ok x h) else g s h
  | none => none
def eAnd (f g : EM) : EM := f.bind fun x s h => match truthD x h with
  | some b => if b = true then g s h else some (.ok x h)
  | none => none
def eNot (f : EM) : EM := f.bind fun x s h => match truthD x h with
  | some b => some (.ok (.v (.bool (!b))) h)
  | none => none
def eIf (t : TM) (f g : EM) : EM := fun s h => match t s h with
  | some (.ok b h1) => if b = true then f s h1 else g s h1
  | some (.ex x h1) => some (.ex x h1)
  | none => none
section
variable {X : Cx} {W : WX} {a b c : Expr} {rest : List Expr} {f g : EM} {t : TM} {pos : Pos}
theorem se_one {op} (h : SE X W a f) : SE X W (.BoolOp op [a] pos) f := pe_one h
theorem se_and (ha : SE X W a f) (hb : SE X W (.BoolOp .And (b :: rest) pos) g) : SE X W (.BoolOp .And (a :: b :: rest) pos) (eAnd f g) :=
  PE.mono' (pe_andT ha hb) fun σ H Q ⟨w, sl, eH, ok, hs, h⟩ => by
    subst eH
    refine tI_bind ok hs h fun dx x w1 l1 ok1 hs1 rx h1 => ?_
    cases e : truthD dx w1.h with
    | none =>
      simp only [e] at h1
      exact h1.elim
    | some k =>
      simp only [e] at h1
      refine ⟨k, truth_of ok1 rx e, ?_⟩
      cases k with
      | true =>
        rw [if_pos rfl] at h1 ⊢
        exact ⟨w1, sl, rfl, ok1, hs1, h1⟩
      | false =>
        rw [if_neg Bool.false_ne_true] at h1 ⊢
        exact h1 w1 x (Wd.Le.refl w1) ok1 rfl rx
theorem se_not (ha : SE X W a f) : SE X W (.UnaryOp .Not a pos) (eNot f) :=
  PE.mono' (pe_notT ha) fun σ H Q ⟨w, sl, eH, ok, hs, h⟩ => by
    subst eH
    refine tI_bind ok hs h fun dx x w1 l1 ok1 hs1 rx h1 => ?_
    cases e : truthD dx w1.h with
    | none =>
      simp only [e] at h1
      exact h1.elim
    | some k =>
      simp only [e] at h1
      exact ⟨k, truth_of ok1 rx e, h1 w1 (.bl (!k)) (Wd.Le.refl w1) ok1 rfl rfl⟩
theorem se_if (hc : ST X W c t) (ha : SE X W a f) (hb : SE X W b g) : SE X W (.IfExp c a b pos) (eIf t f g) :=
  PE.mono' (pe_ifExp hc ha hb) fun σ H Q ⟨w, sl, eH, ok, hs, h⟩ => by
    subst eH
    refine ⟨w, sl, rfl, ok, hs, ?_⟩
    unfold eIf WpE at h
    unfold WpT
    cases e : t sl w.h with
    | none => simp [e] at h
    | some r =>
      cases r with
      | ex x h' => simpa [e] using h
      | ok k h' =>
        simp only [e] at h
        intro w1 l1 ok1 eh
        subst eh
        cases k with
        | true =>
          rw [if_pos rfl] at h ⊢
          exact ⟨w1, sl, rfl, ok1, hs.mono ok l1, WpE.le h l1 ok1⟩
        | false =>
          rw [if_neg Bool.false_ne_true] at h ⊢
          exact ⟨w1, sl, rfl, ok1, hs.mono ok l1, WpE.le h l1 ok1⟩
end

/-! ## a < b < c -/
def eChain (g g' : D → D → Hs → Option D) (f1 f2 f3 : EM) : EM := f1.bind fun x => f2.bind fun y s h => match g x y h with
  | some (.v (.bool k)) => if k = true then (f3.bind fun z => EM.lift (g' y z)) s h else some (.ok (.v (.bool false)) h)
  | _ => none
section
variable {X : Cx} {W : WX} {a b c : Expr} {f1 f2 f3 : EM} {pos : Pos} {op op' : CmpOp} {r r' : R2} {g g' : D → D → Hs → Option D}
theorem tChain_of (hd : OpD X.K r g) (hd' : OpD X.K r' g') (σ : L2.St) (H : Hp) (Q : VK) (h : tI X.K X.mg W (eChain g g' f1 f2 f3) σ H Q) : tChain r r' (tI X.K X.mg W f1) (tI X.K X.mg W f2) (tI X.K X.mg W f3) σ H Q := by
  obtain ⟨w, sl, rfl, ok, hs, h⟩ := h
  refine tI_bind ok hs h fun dx x w1 l1 ok1 hs1 rx h1 => ?_
  refine tI_bind ok1 hs1 h1 fun dy y w2 l2 ok2 hs2 ry h2 => ?_
  cases e : g dx dy w2.h with
  | none =>
    simp only [e] at h2
    exact h2.elim
  | some z =>
    cases z with
    | v p =>
      cases p with
      | bool k =>
        simp only [e] at h2
        refine hd w2 x y dx dy _ _ ok2 (RepD.mono ok1 l2 dx rx) ry e fun w3 v l3 ok3 eh3 r3 => ⟨k, r3, ?_⟩
        cases k with
        | true =>
          rw [if_pos rfl] at h2 ⊢
          rw [← eh3] at h2
          refine tI_bind ok3 (hs2.mono ok2 l3) (WpE.le h2 l3 ok3) fun dz z w4 l4 ok4 hs4 rz h4 => ?_
          obtain ⟨d5, e5, q5⟩ := WpE.lift h4
          exact hd' w4 y z dy dz d5 Q ok4 (RepD.mono ok3 l4 dy (RepD.mono ok2 l3 dy ry)) rz e5 q5
        | false =>
          rw [if_neg Bool.false_ne_true] at h2 ⊢
          exact h2 w3 (.bl false) l3 ok3 eh3 rfl
      | _ =>
        simp only [e] at h2
        exact h2.elim
    | _ =>
      simp only [e] at h2
      exact h2.elim
theorem se_chain (ho : OpR X (compareOp op) r) (hd : OpD X.K r g) (ho' : OpR X (compareOp op') r') (hd' : OpD X.K r' g') (ha : SE X W a f1) (hb : SE X W b f2) (hc : SE X W c f3)
    (hm : lastMarks [op, op'] [b, c] = false := by with_unfolding_all rfl) : SE X W (.Compare a [op, op'] [b, c] pos) (eChain g g' f1 f2 f3) :=
  PE.mono' (pe_chain ho ho' ha hb hc hm) fun σ H Q h => tChain_of hd hd' σ H Q h
theorem st_chain (ho : OpR X (compareOp op) r) (hd : OpD X.K r g) (ho' : OpR X (compareOp op') r') (hd' : OpD X.K r' g') (ha : SE X W a f1) (hb : SE X W b f2) (hc : SE X W c f3)
    (hm : lastMarks [op, op'] [b, c] = false := by with_unfolding_all rfl) : ST X W (.Compare a [op, op'] [b, c] pos) (tBl (eChain g g' f1 f2 f3)) :=
  PT.mono' (pt_chain ho ho' ha hb hc hm) fun σ H Q ⟨w, sl, eH, ok, hs, h⟩ => by
    subst eH
    exact tChain_of hd hd' σ w.H _ (tITbl ok hs h)
end

/-! ## slices -/
def cutP {α : Type} (xs : List α) (lo hi : Option Int) : List α := (xs.drop (HT.sIx xs.length 0 lo)).take (HT.sIx xs.length xs.length hi - HT.sIx xs.length 0 lo)
def sliceP (lo hi : Option Int) : PyData → Option PyData
  | .list ds => some (.list (cutP ds lo hi))
  | .tuple ds => some (.tuple (cutP ds lo hi))
  | .str z => if z.length ≤ sizeLine then some (.str (cutS z lo hi)) else none
  | _ => none
def ePart (o : Option EM) (k : Option Int → EM) : EM := match o with
  | none => k none
  | some f => f.bind fun d => match d with
    | .v (.int i) => k (some i)
    | _ => fun _ _ => none
def eSl (f : EM) (lo hi : Option EM) : EM := f.bind fun x => ePart lo fun l => ePart hi fun u => EM.lift (lift1 (sliceP l u) x)
def SO (X : Cx) (W : WX) (e : Option Expr) (o : Option EM) : Prop := match o with
  | none => e = none
  | some f => ∃ e', e = some e' ∧ SE X W e' f
abbrev rSlice (K : KF) : V → Option Int → Option Int → Hp → VK → Prop := fun x lo hi H Q => (rSlL K x lo hi H Q ∨ rSlA K x lo hi H Q) ∨ rSlS x lo hi H Q
section
variable {K : KF}
theorem cutV_of {Fz : Addr → Prop} {H : Hp} {ds : List PyData} {vs : List V} (lo hi : Option Int) (r : RepPs K Fz H ds vs) : RepPs K Fz H (cutP ds lo hi) (cutV vs lo hi) := by
  unfold cutP cutV
  rw [r.len]
  exact RepPs.take _ (RepPs.drop _ r)
theorem sl_sliceP {w : Wd} {x : V} {p z : PyData} {lo hi : Option Int} {Q : VK} (ok : w.Ok K) (rx : RepS K w p x) (e : sliceP lo hi p = some z) (a : After K w (.v z) Q) : rSlice K x lo hi w.H Q := by
  cases p with
  | list ds =>
    cases e
    obtain ⟨b, vs, rfl, ht, hr⟩ := rx
    exact .inl (.inl ⟨b, vs, rfl, ht, a.newL ok (cutV_of lo hi hr)⟩)
  | tuple ds =>
    cases e
    obtain ⟨b, vs, rfl, ht, hr⟩ := rx
    refine .inl (.inr ⟨b, vs, rfl, ht, fun hw => ?_, fun _ => a.newT ok (cutV_of lo hi hr)⟩)
    have : cutP ds lo hi = ds := by
      unfold cutP
      rw [← hr.len, hw.1, hw.2, List.drop_zero, Nat.sub_zero]
      exact List.take_of_length_le (Nat.le_of_eq hr.len.symm)
    rw [this] at a
    exact a.here ok ⟨b, vs, rfl, ht, hr⟩
  | str z =>
    simp only [sliceP] at e
    split at e
    · rename_i hz
      cases e
      cases str_of rx
      exact .inr ⟨z, rfl, hz, a.here ok rfl⟩
    · cases e
  | _ => cases e
end
section
variable {X : Cx} {W : WX} {e : Expr} {lo hi : Option Expr} {f : EM} {ol oh : Option EM} {pos p2 : Pos}
/-- a slice's part -/
def tPartI (X : Cx) (W : WX) (o : Option EM) : TO := match o with
  | none => tNoPart
  | some f => tPart (tI X.K X.mg W f)
theorem so_po {e : Option Expr} {o : Option EM} (h : SO X W e o) : PO X e (tPartI X W o) := by
  cases o with
  | none =>
    cases (show e = none from h)
    exact po_none
  | some f =>
    obtain ⟨e', rfl, h⟩ := h
    exact po_some h
theorem part_of {o : Option EM} {k : Option Int → EM} {σ : L2.St} {w : Wd} {sl : Sl} {R : D → V → Wd → Prop} {Q : Option Int → Hp → Prop} (ok : w.Ok X.K) (hs : SRep X.K w sl σ) (h : WpE X.K X.mg W σ (ePart o k sl w.h) w R)
    (q : ∀ i w1, w.Le w1 → w1.Ok X.K → SRep X.K w1 sl σ → WpE X.K X.mg W σ (k i sl w1.h) w1 R → Q i w1.H) : tPartI X W o σ w.H Q := by
  cases o with
  | none => exact q none w (Wd.Le.refl w) ok hs h
  | some f =>
    show tI X.K X.mg W f σ w.H fun x H1 => ∃ i, x = .int i ∧ Q (some i) H1
    refine tI_bind ok hs h fun d v w1 l1 ok1 hs1 r1 h1 => ?_
    cases d with
    | v d =>
      cases d with
      | int i => exact ⟨i, r1, q (some i) w1 l1 ok1 hs1 h1⟩
      | _ => exact h1.elim
    | _ => exact h1.elim
theorem se_slice (he : SE X W e f) (hl : SO X W lo ol) (hu : SO X W hi oh) : SE X W (.Subscript e (.Slice lo hi none p2) pos) (eSl f ol oh) :=
  PE.mono' (pe_slice ((sl_list.or sl_tupA).or sl_str) he (so_po hl) (so_po hu)) fun σ H Q ⟨w, sl, eH, ok, hs, h⟩ => by
    subst eH
    refine tI_bind ok hs h fun dx x w1 l1 ok1 hs1 rx h1 => ?_
    refine part_of ok1 hs1 h1 fun i w2 l2 ok2 hs2 h2 => ?_
    refine part_of ok2 hs2 h2 fun j w3 l3 ok3 hs3 h3 => ?_
    obtain ⟨dz, e, q⟩ := WpE.lift h3
    unfold lift1 at e
    cases ex : shal w3.h dx with
    | none => simp [ex] at e
    | some p =>
      simp only [ex, Option.map_eq_some_iff] at e
      obtain ⟨z, ez, rfl⟩ := e
      exact sl_sliceP ok3 (shal_rep ok3 (RepD.mono ok2 l3 dx (RepD.mono ok1 l2 dx rx)) ex) ez q
end

/-! ## isinstance -/
def tyN : D → Hs → Option String
  | .v .none, _ => some "NoneType"
  | .v (.bool _), _ => some "bool"
  | .v (.int _), _ => some "int"
  | .v (.str _), _ => some "str"
  | .v (.list _), _ => some "list"
  | .v (.tuple _), _ => some "tuple"
  | .v (.dict _), _ => some "dict"
  | .ref n, h => match h[n]? with
    | some (.lst _) => some "list"
    | some (.dct _) => some "dict"
    | _ => none
  | .mix _, _ => some "tuple"
  | .exc _ _, _ => none
theorem tyX_of {K : KF} {w : Wd} {d : D} {v : V} {n : String} (ok : w.Ok K) (r : RepD K w d v) (h : tyN d w.h = some n) : TyX K w.H v (.type n) := by
  cases d with
  | v d =>
    cases d with
    | none => cases h; rw [show v = _ from r]; exact .base .non
    | bool b => cases h; rw [show v = _ from r]; exact .base (.bl b)
    | int b => cases h; rw [show v = _ from r]; exact .base (.int b)
    | str b => cases h; rw [show v = _ from r]; exact .base (.str b)
    | list ds =>
      cases h
      obtain ⟨a, vs, rfl, ht, hr⟩ := r
      rcases ht with ⟨_, ht | ⟨o, ht⟩⟩ | ⟨o, its, n, hk, hc, _⟩
      · exact .base (.lst ht)
      · exact .base (.frz ht)
      · exact .kList hk hc
    | tuple ds =>
      cases h
      obtain ⟨a, vs, rfl, ht, hr⟩ := r
      rcases ht with (ht | ⟨o, ht⟩) | ⟨o, its, n, hk, hc, _⟩
      · exact .base (.tup ht)
      · exact .fTuple ht
      · exact .kTuple hk hc
    | dict _ =>
      cases h
      obtain ⟨a, ks, rfl, hf, ht, hr⟩ := r
      exact .base (.dK ht)
  | ref n =>
    obtain ⟨a, ha, rfl⟩ := r
    simp only [tyN] at h
    cases q : w.h[n]? with
    | none => simp [q] at h
    | some c =>
      cases c with
      | lst xs =>
        simp only [q] at h
        cases h
        obtain ⟨vs, e, _⟩ := ok.cell n a _ ha q
        exact .base (.lst e)
      | dct xs =>
        simp only [q] at h
        cases h
        obtain ⟨vs, e, _⟩ := ok.cell n a _ ha q
        exact .base (.dK e)
      | ins c fs => simp [q] at h
  | mix xs =>
    cases h
    obtain ⟨a, vs, rfl, ht, hr⟩ := r
    rcases ht with (ht | ⟨o, ht⟩) | ⟨o, its, n, hk, hc, _⟩
    · exact .base (.tup ht)
    · exact .fTuple ht
    · exact .kTuple hk hc
  | exc c fs => cases h
/-- by the names of two built-in types -/
def isiN (a T : String) : Option Bool := kitB a T
def isiD (T : String) : D → Hs → Option D := fun d h => match tyN d h with
  | some n => (isiN n T).map fun b => .v (.bool b)
  | none => none
def eIsi (T : String) (f : EM) : EM := f.bind fun d => EM.lift (isiD T d)
section
variable {X : Cx} {W : WX} {e : Expr} {f : EM} {pos p p2 : Pos} {T : String} {T' : Str}
theorem se_isi (he : SE X W e f) (hg : Gl X "isinstance") (hm : X.mg "isinstance" = none) (hg2 : Gl X T') (hm2 : X.mg T' = none) (hv2 : bootBuiltins T' = some (.type T)) (hn2 : T' ≠ "__name__" := by decide) (hd2 : (T' == ("__debug__" : Str)) = false := by decide)
    (hs : starEach (e :: [.Name T' p2]) X.env = (false, eval e X.env) :: starEach [.Name T' p2] X.env := by rfl) (hs2 : starEach [.Name T' p2] X.env = (false, eval (.Name T' p2) X.env) :: starEach [] X.env := by rfl) (hpl : (backTo pos (starEach [.Name T' p2] X.env)).any (·.1) = false := by rfl) :
    SE X W (.Call (.Name "isinstance" p) [e, .Name T' p2] [] pos) (eIsi T f) :=
  PE.mono' (pe_callB call_isi hg hm (by decide +kernel) (pa_cons he (pa_cons (pe_bltn (v := .ty T) hg2 hm2 hv2 rfl hn2 hd2) pa_nil hs2) hs) (by decide) (by decide) hs hpl) fun σ H Q ⟨w, sl, eH, ok, hs, h⟩ => by
    subst eH
    refine tI_bind ok hs h fun dx x w1 l1 ok1 hs1 rx h1 => ?_
    obtain ⟨dz, e, q⟩ := WpE.lift h1
    unfold isiD at e
    cases en : tyN dx w1.h with
    | none => simp [en] at e
    | some n =>
      simp only [en, Option.map_eq_some_iff] at e
      obtain ⟨b, eb, rfl⟩ := e
      exact ⟨x, .ty T, .type n, .type T, b, rfl, .ty T, tyX_of ok1 rx en, kit_ty eb, q w1 (.bl b) (Wd.Le.refl w1) ok1 rfl rfl⟩
end
end Vl
set_option maxHeartbeats 4000000
namespace Vl
open PySem PySem.Spec PyProof.Rows L2

/-! ## statements -/
inductive SR where
  | nx (s : Sl) (h : Hs)
  | rt (d : D) (h : Hs)
  | bk (s : Sl) (h : Hs)
  | ct (s : Sl) (h : Hs)
  | ex (s : Sl) (x : Ex) (h : Hs)
abbrev SM := Sl → Hs → Option SR
section
variable (K : KF) (mg : Str → Option Value) (W : WX)
def WpS (r : Option SR) (w : Wd) (E : Ends) : Prop :=
  match r with
  | some (.nx s h') => ∀ w' σ', w.Le w' → w'.Ok K → w'.h = h' → SRep K w' s σ' → E.nx σ' w'.H
  | some (.rt d h') => ∀ w' v, w.Le w' → w'.Ok K → w'.h = h' → RepD K w' d v → E.rt v w'.H
  | some (.bk s h') => ∀ w' σ', w.Le w' → w'.Ok K → w'.h = h' → SRep K w' s σ' → E.bk σ' w'.H
  | some (.ct s h') => ∀ w' σ', w.Le w' → w'.Ok K → w'.h = h' → SRep K w' s σ' → E.ct σ' w'.H
  | some (.ex s x h') => ∀ w' σ' cls da, w.Le w' → w'.Ok K → w'.h = h' → SRep K w' s σ' → ExRep K mg w' x cls da → W cls da σ' w'.H
  | none => False
def tS (f : SM) : TS := fun E σ H => ∃ (w : Wd) (sl : Sl), w.H = H ∧ w.Ok K ∧ SRep K w sl σ ∧ WpS K mg W (f sl w.h) w E
end
def SS (X : Cx) (W : WX) (st : Stmt) (f : SM) : Prop := PS X st (tS X.K X.mg W f)
def SSs (X : Cx) (W : WX) (st : List Stmt) (f : SM) : Prop := PSs X st (tS X.K X.mg W f)
section
variable {K : KF} {mg : Str → Option Value} {W : WX} {w w1 : Wd}
theorem WpS.le {r : Option SR} {E : Ends} (h : WpS K mg W r w E) (le : w.Le w1) (ok : w1.Ok K) : WpS K mg W r w1 E := by
  unfold WpS at h ⊢
  split
  · exact fun w' σ' l => h w' σ' (le.trans l ok)
  · exact fun w' σ' l => h w' σ' (le.trans l ok)
  · exact fun w' σ' l => h w' σ' (le.trans l ok)
  · exact fun w' σ' l => h w' σ' (le.trans l ok)
  · exact fun w' σ' cls da l => h w' σ' cls da (le.trans l ok)
  · exact h
end
def sNext : SM := fun s h => some (.nx s h)
def sSeq (a b : SM) : SM := fun s h => match a s h with
  | some (.nx s1 h1) => b s1 h1
  | r => r
def sBrk : SM := fun s h => some (.bk s h)
def sCnt : SM := fun s h => some (.ct s h)
/-- an expression, then k -/
def sE (f : EM) (k : D → SM) : SM := fun s h => match f s h with
  | some (.ok d h1) => k d s h1
  | some (.ex x h1) => some (.ex s x h1)
  | none => none
/-- a test, then one of two -/
def sIf (t : TM) (a b : SM) : SM := fun s h => match t s h with
  | some (.ok k h1) => if k = true then a s h1 else b s h1
  | some (.ex x h1) => some (.ex s x h1)
  | none => none
def sRet (f : EM) : SM := sE f fun d _ h => some (.rt d h)
def sRetN : SM := fun _ h => some (.rt (.v .none) h)
def sExpr (f : EM) : SM := sE f fun _ s h => some (.nx s h)
section
variable {K : KF} {mg : Str → Option Value} {W : WX} {σ : L2.St} {w : Wd} {sl : Sl}
theorem tIS_bind {f : EM} {k : D → SM} {E : Ends} {Q : VK} (ok : w.Ok K) (hs : SRep K w sl σ) (h : WpS K mg W ((sE f k) sl w.h) w E)
    (q : ∀ d v w1, w.Le w1 → w1.Ok K → SRep K w1 sl σ → RepD K w1 d v → WpS K mg W (k d sl w1.h) w1 E → Q v w1.H) : tI K mg W f σ w.H Q := by
  refine ⟨w, sl, rfl, ok, hs, ?_⟩
  unfold sE at h
  unfold WpE
  cases e : f sl w.h with
  | none =>
    simp only [e] at h
    exact h
  | some r =>
    cases r with
    | ok d h' =>
      simp only [e] at h
      exact fun w' v l o eh r => q d v w' l o (hs.mono ok l) r (by rw [eh]; exact WpS.le h l o)
    | ex x h' =>
      simp only [e] at h
      exact fun w' cls da l o eh r => h w' σ cls da l o eh (hs.mono ok l) r
theorem tITS_bind {t : TM} {a b : SM} {E : Ends} {Q : Bool → Hp → Prop} (ok : w.Ok K) (hs : SRep K w sl σ) (h : WpS K mg W ((sIf t a b) sl w.h) w E)
    (q : ∀ k w1, w.Le w1 → w1.Ok K → SRep K w1 sl σ → WpS K mg W (if k = true then a sl w1.h else b sl w1.h) w1 E → Q k w1.H) : tIT K mg W t σ w.H Q := by
  refine ⟨w, sl, rfl, ok, hs, ?_⟩
  unfold sIf at h
  unfold WpT
  cases e : t sl w.h with
  | none =>
    simp only [e] at h
    exact h
  | some r =>
    cases r with
    | ok d h' =>
      simp only [e] at h
      exact fun w' l o eh => q d w' l o (hs.mono ok l) (by rw [eh]; exact WpS.le h l o)
    | ex x h' =>
      simp only [e] at h
      exact fun w' cls da l o eh r => h w' σ cls da l o eh (hs.mono ok l) r
end
section
variable {X : Cx} {W : WX} {st : Stmt} {rest body els : List Stmt} {a b : SM} {e c : Expr} {f : EM} {t : TM} {pos : Pos}
theorem ss_nil : SSs X W [] sNext := PSs.mono' pss_nil fun E σ H ⟨w, sl, eH, ok, hs, h⟩ => by
  subst eH
  exact h w σ (Wd.Le.refl w) ok rfl hs
theorem ss_cons (h1 : SS X W st a) (h2 : SSs X W rest b) : SSs X W (st :: rest) (sSeq a b) := PSs.mono' (pss_cons h1 h2) fun E σ H ⟨w, sl, eH, ok, hs, h⟩ => by
  subst eH
  refine ⟨w, sl, rfl, ok, hs, ?_⟩
  unfold sSeq at h
  cases e : a sl w.h with
  | none => simp only [e] at h; exact h
  | some r =>
    cases r with
    | nx s1 h1 =>
      simp only [e] at h
      exact fun w' σ' l o eh hs' => ⟨w', s1, rfl, o, hs', by rw [eh]; exact WpS.le h l o⟩
    | _ => simp only [e] at h; exact h
theorem ss_expr (he : SE X W e f) (hs : swapsWith e none pos.line X.env = pure false := by rfl) : SS X W (.Expr e pos) (sExpr f) := PS.mono' (ps_expr he hs) fun E σ H ⟨w, sl, eH, ok, hs, h⟩ => by
  subst eH
  exact tIS_bind ok hs h fun d v w1 l1 ok1 hs1 r1 h1 => h1 w1 σ (Wd.Le.refl w1) ok1 rfl hs1
theorem ss_ret (he : SE X W e f) : SS X W (.Return (some e) pos) (sRet f) := PS.mono' (ps_ret he) fun E σ H ⟨w, sl, eH, ok, hs, h⟩ => by
  subst eH
  exact tIS_bind ok hs h fun d v w1 l1 ok1 hs1 r1 h1 => h1 w1 v (Wd.Le.refl w1) ok1 rfl r1
theorem ss_if (hc : ST X W c t) (ha : SSs X W body a) (hb : SSs X W els b) : SS X W (.If c body els pos) (sIf t a b) := PS.mono' (ps_if hc ha hb) fun E σ H ⟨w, sl, eH, ok, hs, h⟩ => by
  subst eH
  refine tITS_bind ok hs h fun k w1 l1 ok1 hs1 h1 => ?_
  cases k with
  | true =>
    rw [if_pos rfl] at h1 ⊢
    exact ⟨w1, sl, rfl, ok1, hs1, h1⟩
  | false =>
    rw [if_neg Bool.false_ne_true] at h1 ⊢
    exact ⟨w1, sl, rfl, ok1, hs1, h1⟩
end

/-! ## targets -/
abbrev GM := D → Sl → Hs → Option Sl
/-- all slots but those at js are as they were -/
def Else (js : List Nat) (σ σ' : L2.St) : Prop := σ'.length = σ.length ∧ ∀ j, j ∉ js → σ'[j]? = σ[j]?
def tG (K : KF) (js : List Nat) (g : GM) : TG := fun v σ H Q => ∃ (w : Wd) (sl sl' : Sl) (d : D), w.H = H ∧ w.Ok K ∧ SRep K w sl σ ∧ RepD K w d v ∧ g d sl w.h = some sl' ∧ ∀ σ', SRep K w sl' σ' → Else js σ σ' → Q σ' w.H
def SG (X : Cx) (e : Expr) (js : List Nat) (g : GM) : Prop := PG X e (tG X.K js g)
abbrev GsM := List D → Sl → Hs → Option Sl
def tGs (K : KF) (js : List Nat) (g : GsM) : TGs := fun vs σ H Q => ∃ (w : Wd) (sl sl' : Sl) (ds : List D), w.H = H ∧ w.Ok K ∧ SRep K w sl σ ∧ RepDs K w ds vs ∧ g ds sl w.h = some sl' ∧ ∀ σ', SRep K w sl' σ' → Else js σ σ' → Q σ' w.H
def SGs (X : Cx) (e : List Expr) (js : List Nat) (g : GsM) : Prop := PGs X e (tGs X.K js g)
theorem PG.mono' {X : Cx} {e : Expr} {t t' : TG} (h : PG X e t) (i : ∀ v σ H Q, t' v σ H Q → t v σ H Q) : PG X e t' := ⟨fun pins s σ H v u Q I r q => h.run pins s σ H v u Q I r (i v σ H Q q)⟩
theorem PGs.mono' {X : Cx} {e : List Expr} {t t' : TGs} (h : PGs X e t) (i : ∀ v σ H Q, t' v σ H Q → t v σ H Q) : PGs X e t' := ⟨fun pins s σ H v u Q I r q => h.run pins s σ H v u Q I r (i v σ H Q q)⟩
def gNm (i : Nat) : GM := fun d s _ => some (s.set i (some d))
def gsNil : GsM := fun ds s _ => match ds with
  | [] => some s
  | _ => none
def gsCons (g : GM) (r : GsM) : GsM := fun ds s h => match ds with
  | d :: ds' => match g d s h with
    | some s1 => r ds' s1 h
    | none => none
  | [] => none
def itemsT : D → Option (List D)
  | .v (.tuple ds) => some (ds.map .v)
  | .mix xs => some xs
  | _ => none
def gTp (n : Nat) (g : GsM) : GM := fun d s h => match itemsT d with
  | some xs => if xs.length = n then g xs s h else none
  | none => none
theorem RepDs.ofP {K : KF} {w : Wd} : ∀ {ds : List PyData} {vs : List V}, RepPs K w.Fz w.H ds vs → RepDs K w (ds.map .v) vs
  | [], _, h => h
  | d :: ds, _, ⟨v, r, e, h1, h2⟩ => ⟨v, r, e, h1, RepDs.ofP h2⟩
theorem SRep.set {K : KF} {w : Wd} {sl : Sl} {σ : L2.St} {d : D} {v : V} (hs : SRep K w sl σ) (i : Nat) (r : RepD K w d v) : SRep K w (sl.set i (some d)) (σ.set i (some v)) where
  len := by rw [List.length_set, List.length_set]; exact hs.len
  at' := fun j e h => by
    by_cases hj : i = j
    · subst hj
      by_cases hl : i < sl.length
      · rw [List.getElem?_set_self hl] at h
        cases h
        exact ⟨v, List.getElem?_set_self (by rw [← hs.len]; exact hl), r⟩
      · rw [List.set_eq_of_length_le (by omega)] at h
        rw [List.set_eq_of_length_le (by rw [← hs.len]; omega)]
        exact hs.at' i e h
    · rw [List.getElem?_set_ne hj] at h
      rw [List.getElem?_set_ne hj]
      exact hs.at' j e h
section
variable {X : Cx} {e : Expr} {es : List Expr} {g : GM} {gs : GsM} {js js' : List Nat} {pos : Pos}
theorem sg_name {i : Nat} {x : Str} (hN : X.N.Nodup) (hi : X.N[i]? = some x) (hx : Loc X.env.scope x) (hf : X.fn x = true ∨ X.env.scope.names.lookup x = some .local := by first | exact .inl rfl | exact .inr rfl | assumption) : SG X (.Name x pos) [i] (gNm i) :=
  PG.mono' (pg_name hN hi hx hf) fun v σ H Q ⟨w, sl, sl', d, eH, ok, hs, r, eg, q⟩ => by
    subst eH
    cases eg
    exact q _ (hs.set i r) ⟨List.length_set, fun j hj => List.getElem?_set_ne fun e => hj (by simp [e])⟩
theorem sgs_nil : SGs X [] [] gsNil := PGs.mono' pgs_nil fun v σ H Q ⟨w, sl, sl', ds, eH, ok, hs, r, eg, q⟩ => by
  subst eH
  unfold gsNil at eg
  split at eg
  · cases eg
    exact ⟨r, q σ hs ⟨rfl, fun _ _ => rfl⟩⟩
  · cases eg
theorem sgs_cons (h1 : SG X e js g) (h2 : SGs X es js' gs) (hs : (assignEach (e :: es) X.env).map (·.2) = assign e X.env :: (assignEach es X.env).map (·.2) := by rfl) : SGs X (e :: es) (js ++ js') (gsCons g gs) :=
  PGs.mono' (pgs_cons h1 h2 hs) fun v σ H Q ⟨w, sl, sl', ds, eH, ok, hs, r, eg, q⟩ => by
    subst eH
    unfold gsCons at eg
    split at eg
    · rename_i d ds'
      obtain ⟨v1, vr, ev, r1, r2⟩ := r
      split at eg
      · rename_i s1 e1
        exact ⟨v1, vr, ev, w, sl, s1, d, rfl, ok, hs, r1, e1, fun σ1 hs1 el1 => ⟨w, s1, sl', ds', rfl, ok, hs1, r2, eg, fun σ2 hs2 el2 => q σ2 hs2 ⟨el2.1.trans el1.1, fun j hj => (el2.2 j fun z => hj (List.mem_append_right _ z)).trans (el1.2 j fun z => hj (List.mem_append_left _ z))⟩⟩⟩
      · cases eg
    · cases eg
theorem sg_tup {k n : Nat} (hc : X.calm = true) (h : SGs X es js gs) (hn : (assignEach es X.env).length = n := by rfl) (hst : (assignEach es X.env).findIdx? (·.1) = none := by rfl) : SG X (.Tuple es k pos) js (gTp n gs) :=
  PG.mono' (pg_tup hc h hn hst) fun v σ H Q ⟨w, sl, sl', d, eH, ok, hs, r, eg, q⟩ => by
    subst eH
    unfold gTp at eg
    split at eg
    · rename_i xs ex
      split at eg
      · rename_i hl
        cases d with
        | v d =>
          cases d with
          | tuple ds =>
            cases ex
            obtain ⟨a, vs, rfl, ht, hr⟩ := r
            exact ⟨a, vs, rfl, ht, by rw [hr.len]; simpa using hl, w, sl, sl', _, rfl, ok, hs, RepDs.ofP hr, eg, q⟩
          | _ => cases ex
        | ref n => cases ex
        | mix ys =>
          cases ex
          obtain ⟨a, vs, rfl, ht, hr⟩ := r
          exact ⟨a, vs, rfl, ht, by rw [hr.len]; exact hl, w, sl, sl', _, rfl, ok, hs, hr, eg, q⟩
        | exc c fs => cases ex
      · cases eg
    · cases eg
end
def sAsg (f : EM) (g : GM) : SM := sE f fun d s h => match g d s h with
  | some s1 => some (.nx s1 h)
  | none => none
section
variable {X : Cx} {W : WX} {e tg : Expr} {f : EM} {g : GM} {js : List Nat} {pos : Pos}
theorem asg_of (σ : L2.St) (H : Hp) (E : Ends) (h : tS X.K X.mg W (sAsg f g) E σ H) : tAsg (tI X.K X.mg W f) (tG X.K js g) E σ H := by
  obtain ⟨w, sl, rfl, ok, hs, h⟩ := h
  refine tIS_bind ok hs h fun d v w1 l1 ok1 hs1 r1 h1 => ?_
  cases eg : g d sl w1.h with
  | none => simp only [eg] at h1; exact h1.elim
  | some s1 =>
    simp only [eg] at h1
    exact ⟨w1, sl, s1, d, rfl, ok1, hs1, r1, eg, fun σ' hs' _ => h1 w1 σ' (Wd.Le.refl w1) ok1 rfl hs'⟩
theorem ss_asg (he : SE X W e f) (hg : SG X tg js g) (hs : swapsWithSole [tg] e pos.line X.env = pure false := by rfl) (hw : swappedStores [tg] e X.env = pure none := by rfl)
    (h1 : (assignEach [tg] X.env).map (·.2) = [assign tg X.env] := by rfl) : SS X W (.Assign [tg] e pos) (sAsg f g) := PS.mono' (ps_asg he hg hs hw h1) fun E σ H h => asg_of σ H E h
theorem ss_set {i : Nat} {x : Str} {pos' : Pos} (hN : X.N.Nodup) (hi : X.N[i]? = some x) (hx : Loc X.env.scope x) (he : SE X W e f) (hs : swapsWith e (some (.Name x pos')) pos.line X.env = pure false := by rfl) (hf : X.fn x = true ∨ X.env.scope.names.lookup x = some .local := by first | exact .inl rfl | exact .inr rfl | assumption) :
    SS X W (.Assign [.Name x pos'] e pos) (sAsg f (gNm i)) := PS.mono' (ps_set hN hi hx he hs hf) fun E σ H ⟨w, sl, eH, ok, hs, h⟩ => by
  subst eH
  exact tIS_bind ok hs h fun d v w1 l1 ok1 hs1 r1 h1 => h1 w1 _ (Wd.Le.refl w1) ok1 rfl (hs1.set i r1)
end

/-! ## what is walked -/
inductive IR where
  | ok (items : List D) (gd : Option (Nat × List D)) (h : Hs)
  | ex (x : Ex) (h : Hs)
abbrev IM := Sl → Hs → Option IR
def gok : Option (Nat × List D) → Hs → Prop
  | none, _ => True
  | some (n, xs), h => h[n]? = some (.lst xs)
structure Its (K : KF) (J : It) (items : List D) (gd : Option (Nat × List D)) (w1 : Wd) : Prop where
  len : items.length ≤ sizeLine
  go : ∀ (i : Nat) w2, w1.Le w2 → w2.Ok K → gok gd w2.h → i < items.length → J.go i w2.H ∧ ∀ x H', J.yld i w2.H x H' → ∃ w3 d, w2.Le w3 ∧ w3.Ok K ∧ w3.h = w2.h ∧ w3.H = H' ∧ items[i]? = some d ∧ RepD K w3 d x
  stop : ∀ (i : Nat) w2, w1.Le w2 → w2.Ok K → gok gd w2.h → items.length ≤ i → i = items.length → J.stop i w2.H
section
variable (K : KF) (mg : Str → Option Value) (W : WX)
def WpI (σ : L2.St) (r : Option IR) (w : Wd) (R : It → Hp → Prop) : Prop :=
  match r with
  | some (.ok items gd h') => ∀ w' J, w.Le w' → w'.Ok K → w'.h = h' → Its K J items gd w' → R J w'.H
  | some (.ex x h') => ∀ w' cls da, w.Le w' → w'.Ok K → w'.h = h' → ExRep K mg w' x cls da → W cls da σ w'.H
  | none => False
def tII (f : IM) : TI := fun σ H R => ∃ (w : Wd) (sl : Sl), w.H = H ∧ w.Ok K ∧ SRep K w sl σ ∧ WpI K mg W σ (f sl w.h) w R
end
def SI (X : Cx) (W : WX) (tg iter : Expr) (f : IM) : Prop := PI X tg iter (tII X.K X.mg W f)
theorem PI.mono' {X : Cx} {tg e : Expr} {t t' : TI} (h : PI X tg e t) (i : ∀ σ H Q, t' σ H Q → t σ H Q) : PI X tg e t' := ⟨fun pins s σ H Q I q => h.run pins s σ H Q I (i σ H Q q)⟩

/-! ## names that are not asked any more -/
def sWp (vs : List Nat) (f : SM) : SM := fun s h => match f s h with
  | some (.nx s1 h1) => some (.nx (wipeS s1 vs) h1)
  | some (.ct s1 h1) => some (.ct (wipeS s1 vs) h1)
  | some (.bk s1 h1) => some (.bk (wipeS s1 vs) h1)
  | r => r
theorem sss_wp {X : Cx} {W : WX} {st : List Stmt} {f : SM} {vs : List Nat} (h : SSs X W st f) : SSs X W st (sWp vs f) := PSs.mono' h fun E σ H ⟨w, sl, eH, ok, hs, h⟩ => by
  subst eH
  refine ⟨w, sl, rfl, ok, hs, ?_⟩
  unfold sWp at h
  unfold WpS at h ⊢
  cases e : f sl w.h with
  | none => simp only [e] at h
  | some r =>
    cases r with
    | nx s1 h1 =>
      simp only [e] at h
      exact fun w' σ' l o eh hs1 => h w' σ' l o eh (hs1.wipeL vs)
    | ct s1 h1 =>
      simp only [e] at h
      exact fun w' σ' l o eh hs1 => h w' σ' l o eh (hs1.wipeL vs)
    | bk s1 h1 =>
      simp only [e] at h
      exact fun w' σ' l o eh hs1 => h w' σ' l o eh (hs1.wipeL vs)
    | rt d h1 => simp only [e] at h; exact h
    | ex s1 x h1 => simp only [e] at h; exact h
/-! ## for -/
open Classical in
noncomputable def forL (gd : Option (Nat × List D)) (g : GM) (body : SM) : List D → SM
  | [], s, h => if gok gd h then some (.nx s h) else none
  | d :: r, s, h => if gok gd h then match g d s h with
      | some s1 => match body s1 h with
        | some (.nx s2 h2) => forL gd g body r s2 h2
        | some (.ct s2 h2) => forL gd g body r s2 h2
        | some (.bk s2 h2) => some (.nx s2 h2)
        | some (.rt d h2) => some (.rt d h2)
        | some (.ex s2 x h2) => some (.ex s2 x h2)
        | none => none
      | none => none
    else none
/-- vs: the names that no turn and nothing behind the loop asks -/
noncomputable def sFor (vs : List Nat) (it : IM) (g : GM) (body : SM) : SM := fun s h => match it s h with
  | some (.ok items gd h1) => forL gd g body items (wipeS s vs) h1
  | some (.ex x h1) => some (.ex s x h1)
  | none => none
section
variable {X : Cx} {W : WX} {iter tg : Expr} {body : List Stmt} {it : IM} {g : GM} {js vs : List Nat} {b : SM} {pos : Pos}
theorem ss_for (hp : PassesOwn (model X.prog X.w) X.A X.env X.xe) (hc : X.calm = true) (hi : SI X W tg iter it) (hg : SG X tg js g) (hb : SSs X W body b) (hs : ∀ x, foldedSetIterable iter X.env x = pure x := by intro _; rfl) : SS X W (.For tg iter body [] pos) (sFor vs it g b) :=
  PS.mono' (ps_for hp hc hi hg hb hs) fun E σ H ⟨w, sl, eH, ok, hs, h⟩ => by
    subst eH
    refine ⟨w, sl, rfl, ok, hs, ?_⟩
    unfold sFor at h
    unfold WpI
    cases ei : it sl w.h with
    | none => simp only [ei] at h; exact h.elim
    | some r =>
      cases r with
      | ex x h' =>
        simp only [ei] at h
        exact fun w' cls da l o eh r => h w' σ cls da l o eh (hs.mono ok l) r
      | ok items gd h' =>
        simp only [ei] at h
        intro w1 J l1 ok1 eh1 T
        subst eh1
        refine ⟨fun i m σ H => m = items.length - i ∧ i ≤ items.length ∧ ∃ w2 sl2, w1.Le w2 ∧ w2.H = H ∧ w2.Ok X.K ∧ SRep X.K w2 sl2 σ ∧ WpS X.K X.mg W (forL gd g b (items.drop i) sl2 w2.h) w2 E,
          ⟨items.length, by simp, Nat.zero_le _, w1, wipeS sl vs, Wd.Le.refl w1, rfl, ok1, (hs.mono ok l1).wipeL vs, by rw [List.drop_zero]; exact WpS.le h l1 ok1⟩, ?_⟩
        rintro i m σ2 H2 ⟨rfl, hi, w2, sl2, l2, rfl, ok2, hs2, h2⟩
        by_cases hlt : i < items.length
        · rw [List.drop_eq_getElem_cons hlt] at h2
          unfold forL at h2
          split at h2
          · rename_i hg2
            obtain ⟨hgo, hy⟩ := T.go i w2 l2 ok2 hg2 hlt
            refine .inr ⟨hgo, fun σ' H' => ∃ w3 sl3, w1.Le w3 ∧ w3.H = H' ∧ w3.Ok X.K ∧ SRep X.K w3 sl3 σ' ∧ WpS X.K X.mg W (forL gd g b (items.drop (i + 1)) sl3 w3.h) w3 E,
              fun σ' H' ⟨w3, sl3, l3, e3, ok3, hs3, h3⟩ => ⟨items.length - (i + 1), by omega, rfl, hlt, w3, sl3, l3, e3, ok3, hs3, h3⟩, fun x H' y => ?_⟩
            obtain ⟨w3, d, l3, ok3, eh3, rfl, ed, rd⟩ := hy x H' y
            rw [List.getElem?_eq_getElem hlt] at ed
            cases ed
            cases eg : g items[i] sl2 w2.h with
            | none => simp only [eg] at h2; exact h2.elim
            | some s1 =>
              simp only [eg] at h2
              refine ⟨w3, sl2, s1, items[i], rfl, ok3, hs2.mono ok2 l3, rd, by rw [eh3]; exact eg, fun σ4 hs4 _ => ?_⟩
              refine ⟨w3, s1, rfl, ok3, hs4, ?_⟩
              rw [eh3]
              cases eb : b s1 w2.h with
              | none => simp only [eb] at h2; exact h2.elim
              | some r =>
                cases r with
                | nx s5 h5 =>
                  simp only [eb] at h2
                  exact fun w5 σ5 l5 ok5 e5 hs5 => ⟨w5, s5, (l2.trans l3 ok2).trans l5 ok3, rfl, ok5, hs5, by rw [e5]; exact WpS.le h2 (l3.trans l5 ok3) ok5⟩
                | ct s5 h5 =>
                  simp only [eb] at h2
                  exact fun w5 σ5 l5 ok5 e5 hs5 => ⟨w5, s5, (l2.trans l3 ok2).trans l5 ok3, rfl, ok5, hs5, by rw [e5]; exact WpS.le h2 (l3.trans l5 ok3) ok5⟩
                | bk s5 h5 =>
                  simp only [eb] at h2
                  exact fun w5 σ5 l5 => h2 w5 σ5 (l3.trans l5 ok3)
                | rt d5 h5 =>
                  simp only [eb] at h2
                  exact fun w5 σ5 l5 => h2 w5 σ5 (l3.trans l5 ok3)
                | ex s5 x h5 =>
                  simp only [eb] at h2
                  exact fun w5 σ5 cls da l5 => h2 w5 σ5 cls da (l3.trans l5 ok3)
          · exact h2.elim
        · have ei : i = items.length := by omega
          subst ei
          rw [List.drop_length] at h2
          unfold forL at h2
          split at h2
          · rename_i hg2
            exact .inl ⟨T.stop _ w2 l2 ok2 hg2 (Nat.le_refl _) rfl, h2 w2 σ2 (Wd.Le.refl w2) ok2 rfl hs2⟩
          · exact h2.elim
end

/-! ## while -/
section
variable {X : Cx} {W : WX} {c : Expr} {body : List Stmt} {t : TM} {b : SM} {vs : List Nat} {pos : Pos}
end
end Vl
set_option maxHeartbeats 4000000
namespace Vl
open PySem PySem.Spec PyProof.Rows L2

/-! ## what is walked: a list, a tuple, a text -/
def iAny (K : KF) (te : TE) : TI := fun σ H R => te σ H fun x H1 =>
  (∃ a xs, x = .ref a ∧ SqL K H1 a xs ∧ (xs.length ≤ sizeLine → R (Itl K a) H1)) ∨ (∃ a xs, x = .ref a ∧ SqT K H1 a xs ∧ (xs.length ≤ sizeLine → R (Itt K a) H1)) ∨ (∃ z, x = .str z ∧ R (L2.Its z) H1)
theorem pi_any {X : Cx} {tg l : Expr} {tl : TE} (hl : PE X l tl) : PI X tg l (iAny X.K tl) := by
  refine ⟨fun pins s σ H R I h => ?_⟩
  refine thn (hl.run pins s σ H _ I h) fun v s1 ⟨x, H1, I1, r1, q1⟩ => ?_
  rcases q1 with ⟨a, xs, e, hq, q⟩ | ⟨a, xs, e, hq, q⟩ | ⟨z, e, q⟩
  · subst e
    cases r1
    obtain ⟨its, rv, p, hz⟩ := I1.list hq
    refine wpAny_pyIter_list p.isList ?_
    refine ⟨s1.heap.objs.size, [s1.heap.objs.size], _, _, H1, rfl, I1.kept (t' := s1.toks) fun b o e => Heap.get?_push_of_some _ e, turn_list a _, ⟨_, Heap.get?_push_size _ rfl, rfl, rfl⟩, fun b hb => ?_, q hz⟩
    have e : b = s1.heap.objs.size := by simpa using hb
    subst e
    exact I1.fpOk (Nat.le_refl _) (I1.hok.fresh (Nat.le_refl _))
  · subst e
    cases r1
    obtain ⟨its, rv, p, hz⟩ := I1.tuple hq
    refine wpAny_pyIter_tuple (show s1.heap.IsTuple a its.toArray from p) ?_
    refine ⟨s1.heap.objs.size, [s1.heap.objs.size], _, _, H1, rfl, I1.kept (t' := s1.toks) fun b o e => Heap.get?_push_of_some _ e, turn_tuple a _, ⟨_, Heap.get?_push_size _ rfl, rfl, rfl⟩, fun b hb => ?_, q hz⟩
    have e : b = s1.heap.objs.size := by simpa using hb
    subst e
    exact I1.fpOk (Nat.le_refl _) (I1.hok.fresh (Nat.le_refl _))
  · subst e
    obtain ⟨t, rfl⟩ := r1
    cases ha : z.cps.all (· < 128)
    · exact wpAny_pyIter_wide ha (pi_one (tk := s1.toks) I1 _ (turn_str _ z t "str_iterator" (.inr rfl)) ⟨_, Heap.get?_push_size _ rfl, rfl, rfl⟩ q)
    · exact wpAny_pyIter_ascii ha (pi_one (tk := s1.toks) I1 _ (turn_str _ z t "str_ascii_iterator" (.inl rfl)) ⟨_, Heap.get?_push_size _ rfl, rfl, rfl⟩ q)
def signsD (z : Str) : List D := z.cps.toList.map fun c => .v (.str ⟨#[c]⟩)
def seqI (d : D) (h : Hs) : Option IR := match d with
  | .v (.list ds) => some (.ok (ds.map .v) none h)
  | .v (.tuple ds) => some (.ok (ds.map .v) none h)
  | .v (.str z) => if z.length ≤ sizeLine then some (.ok (signsD z) none h) else none
  | .ref n => match h[n]? with
    | some (.lst xs) => some (.ok xs (some (n, xs)) h)
    | _ => none
  | .mix xs => some (.ok xs none h)
  | _ => none
def iSeq (f : EM) : IM := fun s h => match f s h with
  | some (.ok d h1) => seqI d h1
  | some (.ex x h1) => some (.ex x h1)
  | none => none
section
variable {K : KF} {w : Wd}
theorem its_list {a : Addr} {ds : List PyData} {vs : List V} (ok : w.Ok K) (ht : LRd K w.Fz w.H a vs) (hr : RepPs K w.Fz w.H ds vs) (hz : vs.length ≤ sizeLine) : Its K (Itl K a) (ds.map .v) none w where
  len := by rw [List.length_map, ← hr.len]; exact hz
  go := fun i w2 l2 ok2 _ hi => by
    have ht2 := (LRd.keepW ok l2 ht).sql
    have hr2 := RepPs.mono ok l2 ds hr
    rw [List.length_map] at hi
    obtain ⟨v, hv, rv⟩ := RepPs.get hr2 (List.getElem?_eq_getElem hi)
    refine ⟨⟨vs, v, ht2, hv⟩, fun x H' y => ⟨w2, .v ds[i], Wd.Le.refl w2, ok2, rfl, y.1.symm, by simp [hi], ?_⟩⟩
    have := y.2 vs ht2
    rw [hv] at this
    cases this
    exact rv
  stop := fun i w2 l2 ok2 _ hi _ => ⟨vs, (LRd.keepW ok l2 ht).sql, by rw [hr.len]; simpa using hi⟩
theorem its_tuple {a : Addr} {xs : List D} {vs : List V} (ok : w.Ok K) (ht : SqT K w.H a vs) (hr : RepDs K w xs vs) (hz : vs.length ≤ sizeLine) : Its K (Itt K a) xs none w where
  len := by rw [← hr.len]; exact hz
  go := fun i w2 l2 ok2 _ hi => by
    have ht2 := SqT.keepW ok l2 ht
    have hr2 := RepDs.mono ok l2 xs hr
    obtain ⟨v, hv, rv⟩ := RepDs.get hr2 (List.getElem?_eq_getElem hi)
    refine ⟨⟨vs, v, ht2, hv⟩, fun x H' y => ⟨w2, xs[i], Wd.Le.refl w2, ok2, rfl, y.1.symm, by simp [hi], ?_⟩⟩
    have := y.2 vs ht2
    rw [hv] at this
    cases this
    exact rv
  stop := fun i w2 l2 ok2 _ hi _ => ⟨vs, SqT.keepW ok l2 ht, by rw [hr.len]; exact hi⟩
theorem its_cell {a : Addr} {n : Nat} {xs : List D} {vs : List V} (ok : w.Ok K) (ha : w.ι[n]? = some a) (hr : RepDs K w xs vs) (hz : vs.length ≤ sizeLine) : Its K (Itl K a) xs (some (n, xs)) w where
  len := by rw [← hr.len]; exact hz
  go := fun i w2 l2 ok2 hg hi => by
    obtain ⟨m, em, _⟩ := l2.more
    have ha2 : w2.ι[n]? = some a := by
      rw [em, List.getElem?_append_left (List.getElem?_eq_some_iff.mp ha).1]
      exact ha
    obtain ⟨vs2, hH, hr2⟩ := ok2.cell n a _ ha2 hg
    obtain ⟨v, hv, rv⟩ := RepDs.get hr2 (List.getElem?_eq_getElem hi)
    refine ⟨⟨vs2, v, .inl (.inl hH), hv⟩, fun x H' y => ⟨w2, xs[i], Wd.Le.refl w2, ok2, rfl, y.1.symm, by simp [hi], ?_⟩⟩
    have := y.2 vs2 (.inl (.inl hH))
    rw [hv] at this
    cases this
    exact rv
  stop := fun i w2 l2 ok2 hg hi _ => by
    obtain ⟨m, em, _⟩ := l2.more
    have ha2 : w2.ι[n]? = some a := by
      rw [em, List.getElem?_append_left (List.getElem?_eq_some_iff.mp ha).1]
      exact ha
    obtain ⟨vs2, hH, hr2⟩ := ok2.cell n a _ ha2 hg
    exact ⟨vs2, .inl (.inl hH), by rw [hr2.len]; exact hi⟩
theorem its_str {z : Str} (hz : z.length ≤ sizeLine) : Its K (L2.Its z) (signsD z) none w where
  len := by
    unfold signsD
    rw [List.length_map]
    exact hz
  go := fun i w2 l2 ok2 _ hi => by
    unfold signsD at hi ⊢
    rw [List.length_map, Array.length_toList] at hi
    refine ⟨hi, fun x H' y => ?_⟩
    obtain ⟨e, c, hc, rfl⟩ := y
    refine ⟨w2, .v (.str ⟨#[c]⟩), Wd.Le.refl w2, ok2, rfl, e.symm, ?_, rfl⟩
    rw [List.getElem?_map, Array.getElem?_toList, hc]
    rfl
  stop := fun i w2 l2 ok2 _ hi _ => by
    unfold signsD at hi
    rw [List.length_map, Array.length_toList] at hi
    exact hi
end
section
variable {X : Cx} {W : WX} {tg e : Expr} {f : EM} {pos p : Pos}
theorem si_seq (he : SE X W e f) : SI X W tg e (iSeq f) := PI.mono' (pi_any he) fun σ H R ⟨w, sl, eH, ok, hs, h⟩ => by
  subst eH
  refine ⟨w, sl, rfl, ok, hs, ?_⟩
  unfold iSeq at h
  unfold WpE
  cases e1 : f sl w.h with
  | none => simp only [e1] at h; exact h.elim
  | some r =>
    cases r with
    | ex x h1 => simp only [e1] at h; exact h
    | ok d h1 =>
      simp only [e1] at h
      intro w1 v l1 ok1 eh r1
      subst eh
      cases d with
      | v d =>
        cases d with
        | list ds =>
          obtain ⟨a, vs, rfl, ht, hr⟩ := r1
          exact .inl ⟨a, vs, rfl, ht.sql, fun hz => h w1 _ l1 ok1 rfl (its_list ok1 ht hr hz)⟩
        | tuple ds =>
          obtain ⟨a, vs, rfl, ht, hr⟩ := r1
          exact .inr (.inl ⟨a, vs, rfl, ht, fun hz => h w1 _ l1 ok1 rfl (its_tuple ok1 ht (RepDs.ofP hr) hz)⟩)
        | str z =>
          simp only [seqI] at h
          split at h
          · rename_i hz
            exact .inr (.inr ⟨z, r1, h w1 _ l1 ok1 rfl (its_str hz)⟩)
          · exact h.elim
        | _ => exact h.elim
      | ref n =>
        obtain ⟨a, ha, rfl⟩ := r1
        simp only [seqI] at h
        cases q : w1.h[n]? with
        | none => simp only [q] at h; exact h.elim
        | some c =>
          cases c with
          | lst xs =>
            simp only [q] at h
            obtain ⟨vs, hH, hr⟩ := ok1.cell n a _ ha q
            exact .inl ⟨a, vs, rfl, .inl (.inl hH), fun hz => h w1 _ l1 ok1 rfl (its_cell ok1 ha hr hz)⟩
          | _ => simp only [q] at h; exact h.elim
      | mix xs =>
        obtain ⟨a, vs, rfl, ht, hr⟩ := r1
        exact .inr (.inl ⟨a, vs, rfl, ht, fun hz => h w1 _ l1 ok1 rfl (its_tuple ok1 ht hr hz)⟩)
      | exc c fs => exact h.elim
end
/-- arguments, then what is walked -/
def iP (a : AM) (k : List D → Hs → Option (List D × Option (Nat × List D))) : IM := fun s h => match a s h with
  | some (.ok ds h1) => match k ds h1 with
    | some (items, gd) => some (.ok items gd h1)
    | none => none
  | some (.ex x h1) => some (.ex x h1)
  | none => none
theorem tIP_bind {K : KF} {mg : Str → Option Value} {W : WX} {σ : L2.St} {w : Wd} {sl : Sl} {a : AM} {k : List D → Hs → Option (List D × Option (Nat × List D))} {R : It → Hp → Prop} {Q : List V → Hp → Prop} (ok : w.Ok K) (hs : SRep K w sl σ) (h : WpI K mg W σ ((iP a k) sl w.h) w R)
    (q : ∀ ds vs w1 items gd, w.Le w1 → w1.Ok K → RepDs K w1 ds vs → k ds w1.h = some (items, gd) → (∀ J, Its K J items gd w1 → R J w1.H) → Q vs w1.H) : tIA K mg W a σ w.H Q := by
  refine ⟨w, sl, rfl, ok, hs, ?_⟩
  unfold iP at h
  unfold WpA
  cases e1 : a sl w.h with
  | none => simp only [e1] at h; exact h.elim
  | some r =>
    cases r with
    | ex x h1 => simp only [e1] at h; exact h
    | ok ds h1 =>
      simp only [e1] at h
      intro w1 vs l1 ok1 eh r1
      subst eh
      cases ek : k ds w1.h with
      | none => simp only [ek] at h; exact h.elim
      | some r =>
        obtain ⟨items, gd⟩ := r
        simp only [ek] at h
        exact q ds vs w1 items gd l1 ok1 r1 ek fun J T => h w1 J l1 ok1 rfl T
def rngItems (lo : Int) (n : Nat) : List D := (List.range n).map fun (k : Nat) => .v (.int (lo + k))
noncomputable def inLine (i : Int) : Bool := yes (-(2 ^ 62) ≤ i ∧ i < 2 ^ 62)
theorem inLine_ok {i : Int} (h : inLine i = true) : -(2 ^ 62) ≤ i ∧ i < 2 ^ 62 := by
  unfold inLine at h
  rw [yes_iff] at h
  exact h
abbrev KI := List D → Hs → Option (List D × Option (Nat × List D))
noncomputable def kRng1 : KI := fun ds _ => match ds with
  | [.v (.int j)] => if (inLine j && yes (j ≤ 10000000)) = true then some (rngItems 0 j.toNat, none) else none
  | _ => none
theorem its_rng {K : KF} {w : Wd} {lo : Int} {n : Nat} (hn : n ≤ sizeLine) : Its K (Itr lo n) (rngItems lo n) none w where
  len := by unfold rngItems; rw [List.length_map, List.length_range]; exact hn
  go := fun i w2 l2 ok2 _ hi => by
    unfold rngItems at hi ⊢
    rw [List.length_map, List.length_range] at hi
    refine ⟨hi, fun x H' y => ⟨w2, .v (.int (lo + i)), Wd.Le.refl w2, ok2, rfl, y.1.symm, ?_, y.2⟩⟩
    rw [List.getElem?_map, List.getElem?_range hi]
    rfl
  stop := fun i w2 l2 ok2 _ hi _ => by
    unfold rngItems at hi
    rw [List.length_map, List.length_range] at hi
    exact hi
theorem ten_line {n : Nat} (h : n ≤ 10000000) : n ≤ sizeLine := Nat.le_trans h (by rw [sizeLine_eq]; decide)
def enumI : Nat → List D → List D
  | _, [] => []
  | k, x :: r => mkTup [.v (.int k), x] :: enumI (k + 1) r
theorem enumI_len : ∀ (k : Nat) (xs : List D), (enumI k xs).length = xs.length
  | _, [] => rfl
  | k, x :: r => by rw [enumI, List.length_cons, List.length_cons, enumI_len (k + 1) r]
theorem enumI_get : ∀ (k i : Nat) (xs : List D) (x : D), xs[i]? = some x → (enumI k xs)[i]? = some (mkTup [.v (.int (k + i : Nat)), x])
  | _, _, [], _, h => by simp at h
  | k, 0, x :: r, y, h => by
    simp at h
    subst h
    rfl
  | k, i + 1, x :: r, y, h => by
    rw [enumI, List.getElem?_cons_succ, enumI_get (k + 1) i r y (by simpa using h)]
    rw [show k + 1 + i = k + (i + 1) by omega]
def zipI : List D → List D → List D
  | x :: xs, y :: ys => mkTup [x, y] :: zipI xs ys
  | _, _ => []
theorem zipI_len : ∀ (xs ys : List D), (zipI xs ys).length = min xs.length ys.length
  | [], ys => by simp [zipI]
  | x :: xs, [] => by simp [zipI]
  | x :: xs, y :: ys => by
    rw [zipI, List.length_cons, List.length_cons, List.length_cons, zipI_len xs ys]
    omega
theorem zipI_get : ∀ (i : Nat) (xs ys : List D) (x y : D), xs[i]? = some x → ys[i]? = some y → (zipI xs ys)[i]? = some (mkTup [x, y])
  | _, [], _, _, _, h, _ => by simp at h
  | _, _ :: _, [], _, _, _, h => by simp at h
  | 0, x :: xs, y :: ys, a, b, h, h' => by
    simp at h h'
    subst h h'
    rfl
  | i + 1, x :: xs, y :: ys, a, b, h, h' => by
    rw [zipI, List.getElem?_cons_succ]
    exact zipI_get i xs ys a b (by simpa using h) (by simpa using h')
/-- the items of a list that is walked -/
def lstItems (d : D) (h : Hs) : Option (List D × Option (Nat × List D)) := match d with
  | .v (.list ds) => some (ds.map .v, none)
  | .ref n => match h[n]? with
    | some (.lst xs) => some (xs, some (n, xs))
    | _ => none
  | _ => none
/-- a list, as it stands at every later moment while its guard holds -/
theorem lst_at {K : KF} {w : Wd} {d : D} {x : V} {items : List D} {gd : Option (Nat × List D)} (ok : w.Ok K) (r : RepD K w d x) (e : lstItems d w.h = some (items, gd)) :
    ∃ a, x = .ref a ∧ ∀ w2, w.Le w2 → w2.Ok K → gok gd w2.h → ∃ vs, SqL K w2.H a vs ∧ RepDs K w2 items vs := by
  cases d with
  | v d =>
    cases d with
    | list ds =>
      cases e
      obtain ⟨a, vs, rfl, ht, hr⟩ := r
      exact ⟨a, rfl, fun w2 l2 ok2 _ => ⟨vs, (LRd.keepW ok l2 ht).sql, RepDs.ofP (RepPs.mono ok l2 ds hr)⟩⟩
    | _ => cases e
  | ref n =>
    obtain ⟨a, ha, rfl⟩ := r
    simp only [lstItems] at e
    cases q : w.h[n]? with
    | none => simp [q] at e
    | some c =>
      cases c with
      | lst ys =>
        simp [q] at e
        obtain ⟨rfl, rfl⟩ := e
        refine ⟨a, rfl, fun w2 l2 ok2 hg => ?_⟩
        obtain ⟨m, em, _⟩ := l2.more
        have ha2 : w2.ι[n]? = some a := by
          rw [em, List.getElem?_append_left (List.getElem?_eq_some_iff.mp ha).1]
          exact ha
        obtain ⟨vs2, hH, hr2⟩ := ok2.cell n a _ ha2 hg
        exact ⟨vs2, .inl (.inl hH), hr2⟩
      | _ => simp [q] at e
  | mix xs => cases e
  | exc c fs => cases e
theorem lst_gok {h : Hs} {d : D} {items : List D} {gd : Option (Nat × List D)} (e : lstItems d h = some (items, gd)) : gok gd h := by
  cases d with
  | v d =>
    cases d with
    | list ds =>
      cases e
      trivial
    | _ => cases e
  | ref n =>
    simp only [lstItems] at e
    cases q : h[n]? with
    | none => simp [q] at e
    | some c =>
      cases c with
      | lst ys =>
        simp [q] at e
        obtain ⟨rfl, rfl⟩ := e
        exact q
      | _ => simp [q] at e
  | mix xs => cases e
  | exc c fs => cases e
/-- a pair that was just made -/
theorem pair_new {K : KF} {w : Wd} {T : Addr} {x y : V} {dx dy : D} (ok : w.Ok K) (hT : w.H T = none) (rx : RepD K w dx x) (ry : RepD K w dy y) :
    ∃ w3, w.Le w3 ∧ w3.Ok K ∧ w3.h = w.h ∧ w3.H = upd w.H T (.tup [x, y]) ∧ RepD K w3 (mkTup [dx, dy]) (.ref T) := by
  have hr : RepDs K w [dx, dy] [x, y] := ⟨x, [y], rfl, rx, y, [], rfl, ry, rfl⟩
  refine ⟨w.newT T (.tup [x, y]), Wd.newT_le hT, Wd.newT_ok ok hT, rfl, rfl, ?_⟩
  have a : After K w (mkTup [dx, dy]) fun v H => ∃ w3, w.Le w3 ∧ w3.H = H ∧ RepD K w3 (mkTup [dx, dy]) v := fun w' v l o e r => ⟨w', l, rfl, r⟩
  unfold mkTup
  cases e : unvs [dx, dy] with
  | some ps => exact ⟨T, _, rfl, .inl (.inl upd_same), RepPs.mono ok (Wd.newT_le hT) ps (unvs_rep e hr)⟩
  | none => exact ⟨T, _, rfl, .inl (.inl upd_same), RepDs.mono ok (Wd.newT_le hT) _ hr⟩
def kEnum : KI := fun ds h => match ds with
  | [d] => (lstItems d h).map fun q => (enumI 0 q.1, q.2)
  | _ => none
theorem its_enum {K : KF} {w : Wd} {a : Addr} {items : List D} {gd : Option (Nat × List D)} (hz : items.length ≤ sizeLine) (st : ∀ w2, w.Le w2 → w2.Ok K → gok gd w2.h → ∃ vs, SqL K w2.H a vs ∧ RepDs K w2 items vs) : Its K (Ite K a) (enumI 0 items) gd w where
  len := by rw [enumI_len]; exact hz
  go := fun i w2 l2 ok2 hg hi => by
    rw [enumI_len] at hi
    obtain ⟨vs, hS, hr⟩ := st w2 l2 ok2 hg
    obtain ⟨v, hv, rv⟩ := RepDs.get hr (List.getElem?_eq_getElem hi)
    refine ⟨⟨vs, v, hS, hv⟩, fun x H' y => ?_⟩
    obtain ⟨T, u, rfl, hT, rfl, hu⟩ := y
    have := hu vs hS
    rw [hv] at this
    cases this
    obtain ⟨w3, l3, ok3, eh, eH, r3⟩ := pair_new (dx := .v (.int (i : Nat))) ok2 hT (show RepD K w2 (.v (.int (i : Nat))) (.int (i : Nat)) from rfl) rv
    refine ⟨w3, _, l3, ok3, eh, eH, ?_, r3⟩
    have := enumI_get 0 i items _ (List.getElem?_eq_getElem hi)
    rw [Nat.zero_add] at this
    exact this
  stop := fun i w2 l2 ok2 hg hi _ => by
    rw [enumI_len] at hi
    obtain ⟨vs, hS, hr⟩ := st w2 l2 ok2 hg
    exact ⟨vs, hS, by rw [hr.len]; exact hi⟩
section
variable {X : Cx} {W : WX} {tg a b : Expr} {f g : EM} {pos p : Pos}
theorem si_rng1 (hg : Gl X "range") (hm : X.mg "range" = none) (ha : SE X W a f) (hs : starEach [a] X.env = [(false, eval a X.env)] := by rfl) : SI X W tg (.Call (.Name "range" p) [a] [] pos) (iP (eCons f eNil) kRng1) :=
  PI.mono' (pi_range1 hg hm (sa_cons ha sa_nil hs) hs) fun σ H R ⟨w, sl, eH, ok, hs, h⟩ => by
    subst eH
    refine tIP_bind ok hs h fun ds vs w1 items gd l1 ok1 r1 ek q => ?_
    unfold kRng1 at ek
    split at ek
    · split at ek
      · rename_i j hb
        cases ek
        rw [Bool.and_eq_true, yes_iff] at hb
        obtain ⟨v, vr, rfl, h1, h2⟩ := r1
        cases (show vr = [] from h2)
        cases (show v = V.int j from h1)
        exact ⟨j, rfl, (inLine_ok hb.1).1, (inLine_ok hb.1).2, q _ (its_rng (ten_line (by omega)))⟩
      · cases ek
    · cases ek
def iEnumZ (K : KF) (ta : TA) : TI := fun σ H R => ta σ H fun vs H1 => ∃ a xs, vs = [.ref a] ∧ SqL K H1 a xs ∧ (xs.length ≤ sizeLine → R (Ite K a) H1)
theorem pi_enumZ {e : Expr} {ta : TA} {tpos : Pos} {elts : List Expr} {kk : Nat} (hg : Gl X "enumerate") (hm : X.mg "enumerate" = none) (ha : PA X [e] ta) (hs : starEach [e] X.env = [(false, eval e X.env)] := by rfl) :
    PI X (.Tuple elts kk tpos) (.Call (.Name "enumerate" p) [e] [] pos) (iEnumZ X.K ta) := by
  refine ⟨fun pins s σ H R I h => ?_⟩
  refine Call_ (ld_blt I hg hm boot_enumerate (PyProof.Rows.callWith_type1 (thn (ha.run pos pins s σ H _ I h) fun us s1 ⟨vs, H1, I1, r1, q1⟩ => ?_) hs rfl))
  obtain ⟨a, xs, ex, hq, q⟩ := q1
  subst ex
  cases r1 with
  | cons r rr =>
    cases rr
    cases r
    obtain ⟨its, rv, p', hz⟩ := I1.list hq
    refine call_enumerate_list p'.isList fun h' he hit hsz hk => wpAny_pyIter_enum he ?_
    have I2 : Inv X pins σ H1 { s1 with heap := h' } := I1.kept (t' := s1.toks) hk
    refine ⟨s1.heap.objs.size + 1, [s1.heap.objs.size + 1, s1.heap.objs.size], _, _, H1, rfl, I2, turn_enum a (s1.heap.objs.size + 1) s1.heap.objs.size, ⟨⟨.none, he⟩, hit, Nat.succ_ne_self _⟩, fun b hb => ?_, q hz⟩
    have e' : b = s1.heap.objs.size + 1 ∨ b = s1.heap.objs.size := by simpa using hb
    have hle : s1.heap.objs.size ≤ b := by
      rcases e' with z | z
      · rw [z]; exact Nat.le_add_right _ _
      · rw [z]; exact Nat.le_refl _
    exact I1.fpOk hle (I1.hok.fresh hle)
theorem si_enum {tpos : Pos} {elts : List Expr} {kk : Nat} (hg : Gl X "enumerate") (hm : X.mg "enumerate" = none) (ha : SE X W a f) (hs : starEach [a] X.env = [(false, eval a X.env)] := by rfl) : SI X W (.Tuple elts kk tpos) (.Call (.Name "enumerate" p) [a] [] pos) (iP (eCons f eNil) kEnum) :=
  PI.mono' (pi_enumZ hg hm (sa_cons ha sa_nil hs) hs) fun σ H R ⟨w, sl, eH, ok, hs, h⟩ => by
    subst eH
    refine tIP_bind ok hs h fun ds vs w1 items gd l1 ok1 r1 ek q => ?_
    unfold kEnum at ek
    split at ek
    · rename_i d
      rw [Option.map_eq_some_iff] at ek
      obtain ⟨⟨xs, gd'⟩, ex, ep⟩ := ek
      cases ep
      obtain ⟨v, vr, rfl, h1, h2⟩ := r1
      cases (show vr = [] from h2)
      obtain ⟨a', rfl, st⟩ := lst_at ok1 h1 ex
      obtain ⟨us, hS, hr⟩ := st w1 (Wd.Le.refl w1) ok1 (lst_gok ex)
      exact ⟨a', us, rfl, hS, fun hz => q _ (its_enum (by rw [← hr.len]; exact hz) st)⟩
    · cases ek
end
end Vl
set_option maxHeartbeats 4000000
namespace Vl
open PySem PySem.Spec PyProof.Rows L2

/-! ## list comprehensions -/
abbrev W0 : WX := fun _ _ _ _ => False
theorem wipe_get (σ : L2.St) (j : Nat) : ∀ vs : List Nat, (wipe σ vs)[j]? = if j ∈ vs then (if j < σ.length then some none else none) else σ[j]?
  | [] => by rw [wipe, if_neg (by simp)]
  | v :: vs => by
    rw [wipe]
    by_cases h : v = j
    · subst h
      rw [if_pos (by simp)]
      by_cases hl : v < σ.length
      · rw [List.getElem?_set_self (by rw [wipe_length]; exact hl), if_pos hl]
      · rw [if_neg hl, List.getElem?_eq_none (by rw [List.length_set, wipe_length]; omega)]
    · rw [List.getElem?_set_ne h, wipe_get σ j vs]
      by_cases hj : j ∈ vs
      · rw [if_pos hj, if_pos (List.mem_cons_of_mem _ hj)]
      · rw [if_neg hj, if_neg (by simp only [List.mem_cons, not_or]; exact ⟨fun e => h e.symm, hj⟩)]
theorem wipeS_get (s : Sl) (j : Nat) : ∀ vs : List Nat, (wipeS s vs)[j]? = if j ∈ vs then (if j < s.length then some none else none) else s[j]?
  | [] => by rw [wipeS, if_neg (by simp)]
  | v :: vs => by
    rw [wipeS]
    by_cases h : v = j
    · subst h
      rw [if_pos (by simp)]
      by_cases hl : v < s.length
      · rw [List.getElem?_set_self (by rw [wipeS_len]; exact hl), if_pos hl]
      · rw [if_neg hl, List.getElem?_eq_none (by rw [List.length_set, wipeS_len]; omega)]
    · rw [List.getElem?_set_ne h, wipeS_get s j vs]
      by_cases hj : j ∈ vs
      · rw [if_pos hj, if_pos (List.mem_cons_of_mem _ hj)]
      · rw [if_neg hj, if_neg (by simp only [List.mem_cons, not_or]; exact ⟨fun e => h e.symm, hj⟩)]
theorem SRep.wipe {K : KF} {w : Wd} {sl : Sl} {σ : L2.St} (hs : SRep K w sl σ) (vs : List Nat) : SRep K w (wipeS sl vs) (L2.wipe σ vs) where
  len := by rw [wipeS_len, wipe_length]; exact hs.len
  at' := fun i d h => by
    rw [wipeS_get] at h
    rw [wipe_get]
    by_cases hi : i ∈ vs
    · rw [if_pos hi] at h
      split at h <;> cases h
    · rw [if_neg hi] at h ⊢
      exact hs.at' i d h
theorem wipe_else {σ σ2 : L2.St} {vs js : List Nat} (h : Else js (wipe σ vs) σ2) (hj : ∀ j ∈ js, j ∈ vs) : wipe σ2 vs = wipe σ vs := by
  have hl : σ2.length = σ.length := h.1.trans (wipe_length σ vs)
  apply List.ext_getElem?
  intro j
  rw [wipe_get, wipe_get, hl]
  by_cases hv : j ∈ vs
  · rw [if_pos hv, if_pos hv]
  · rw [if_neg hv, if_neg hv, h.2 j fun z => hv (hj j z), wipe_get, if_neg hv]
/-! ### a list of ours, a dict of ours is written -/
class NoT (o : HO) : Prop where
  m : Mut o
theorem NoT.a {o : HO} [n : NoT o] (xs : List V) : o ≠ .tup xs := fun z => by
  have := n.m
  rw [z] at this
  exact this
theorem NoT.b {o : HO} [n : NoT o] (q : Obj) (xs : List V) : o ≠ .frz q (.tup xs) := fun z => by
  have := n.m
  rw [z] at this
  exact this
instance {xs : List V} : NoT (.lst xs) := ⟨trivial⟩
instance {xs : List (Key × V)} : NoT (.dK xs) := ⟨trivial⟩
instance {C dx : Addr} {fs : List (Str × V)} : NoT (.ins C dx fs) := ⟨trivial⟩
theorem poke_not {H : Hp} {p a : Addr} {old o u : HO} [n : NoT old] (hl : H p = some old) (h : H a = some u) (k : ¬ Mut u) : upd H p o a = some u := by
  rw [upd_ne fun z : a = p => by
    subst z
    rw [hl] at h
    cases h
    exact k n.m]
  exact h
section
variable {K : KF} {w : Wd} {p : Addr} {old o : HO} [NoT old]
theorem SqT.poke {a : Addr} {vs : List V} (hl : w.H p = some old) (h : SqT K w.H a vs) : SqT K (upd w.H p o) a vs := by
  rcases h with (h | ⟨ob, h⟩) | h
  · exact .inl (.inl (poke_not hl h (fun z => z)))
  · exact .inl (.inr ⟨ob, poke_not hl h (fun z => z)⟩)
  · exact .inr h
mutual
theorem RepP.poke (hp : ¬ w.Fz p) (hl : w.H p = some old) : ∀ (d : PyData) {v : V}, RepP K w.Fz w.H d v → RepP K w.Fz (upd w.H p o) d v
  | .none, _, h => h
  | .bool _, _, h => h
  | .int _, _, h => h
  | .str _, _, h => h
  | .list ds, _, ⟨a, vs, e, hr, hs⟩ => ⟨a, vs, e, by
      rcases hr with ⟨hf, hr⟩ | h
      · have ne : a ≠ p := fun z => hp (z ▸ hf)
        rcases hr with h | ⟨ob, h⟩
        · refine .inl ⟨hf, .inl ?_⟩
          rw [upd_ne ne]
          exact h
        · refine .inl ⟨hf, .inr ⟨ob, ?_⟩⟩
          rw [upd_ne ne]
          exact h
      · exact .inr h, RepPs.poke hp hl ds hs⟩
  | .tuple ds, _, ⟨a, vs, e, hr, hs⟩ => ⟨a, vs, e, SqT.poke hl hr, RepPs.poke hp hl ds hs⟩
  | .dict ds, _, ⟨a, vs, e, hf, hr, hs⟩ => ⟨a, vs, e, hf, by
      have ne : a ≠ p := fun z => hp (z ▸ hf)
      rw [upd_ne ne]
      exact hr, RepKs.poke hp hl ds hs⟩
theorem RepPs.poke (hp : ¬ w.Fz p) (hl : w.H p = some old) : ∀ (ds : List PyData) {vs : List V}, RepPs K w.Fz w.H ds vs → RepPs K w.Fz (upd w.H p o) ds vs
  | [], _, h => h
  | d :: ds, _, ⟨v, r, e, h1, h2⟩ => ⟨v, r, e, RepP.poke hp hl d h1, RepPs.poke hp hl ds h2⟩
theorem RepKs.poke (hp : ¬ w.Fz p) (hl : w.H p = some old) : ∀ (ds : List (PyData × PyData)) {vs : List (Key × V)}, RepKs K w.Fz w.H ds vs → RepKs K w.Fz (upd w.H p o) ds vs
  | [], _, h => h
  | (_, d) :: ds, _, ⟨q, v, r, e, hk, h1, h2⟩ => ⟨q, v, r, e, hk, RepP.poke hp hl d h1, RepKs.poke hp hl ds h2⟩
end
mutual
theorem RepD.poke {w' : Wd} (hp : ¬ w.Fz p) (hl : w.H p = some old) (eF : w'.Fz = w.Fz) (eH : w'.H = upd w.H p o) (eI : w'.ι = w.ι) : ∀ (d : D) {v : V}, RepD K w d v → RepD K w' d v
  | .v d, _, h => by
    show RepP K w'.Fz w'.H d _
    rw [eF, eH]
    exact RepP.poke hp hl d h
  | .ref n, _, ⟨a, e, r⟩ => ⟨a, by rw [eI]; exact e, r⟩
  | .mix ds, _, ⟨a, vs, e, hr, hs⟩ => ⟨a, vs, e, by rw [eH]; exact SqT.poke hl hr, RepDs.poke hp hl eF eH eI ds hs⟩
  | .exc c fs, _, ⟨a, C, da, e, hc, ha, hf⟩ => ⟨a, C, da, e, hc, by rw [eH]; exact poke_not hl ha (fun z => z), hf.imp id fun ⟨d, fv, e1, h1, h2, h3⟩ => ⟨d, fv, e1, by rw [eH]; exact poke_not hl h1 (fun z => z), h2, by rw [eF, eH]; exact RepPs.poke hp hl _ h3⟩⟩
theorem RepDs.poke {w' : Wd} (hp : ¬ w.Fz p) (hl : w.H p = some old) (eF : w'.Fz = w.Fz) (eH : w'.H = upd w.H p o) (eI : w'.ι = w.ι) : ∀ (ds : List D) {vs : List V}, RepDs K w ds vs → RepDs K w' ds vs
  | [], _, h => h
  | d :: ds, _, ⟨v, r, e, h1, h2⟩ => ⟨v, r, e, RepD.poke hp hl eF eH eI d h1, RepDs.poke hp hl eF eH eI ds h2⟩
end
theorem Wd.poke_ok (ok : w.Ok K) (hp : ¬ w.Fz p) (hi : p ∉ w.ι) (hl : w.H p = some old) : (w.newT p o).Ok K where
  nd := ok.nd
  len := ok.len
  cell := fun n a c ha hc => by
    have := ok.cell n a c ha hc
    have ne : a ≠ p := fun z => hi (z ▸ List.mem_of_getElem? ha)
    have k : ∀ u, w.H a = some u → (w.newT p o).H a = some u := fun u e => by
      show upd w.H p o a = _
      rw [upd_ne ne]
      exact e
    cases c with
    | lst ds =>
      obtain ⟨vs, e, r⟩ := this
      exact ⟨vs, k _ e, RepDs.poke (w' := w.newT p o) hp hl rfl rfl rfl ds r⟩
    | dct ds =>
      obtain ⟨vs, e, n, r⟩ := this
      exact ⟨vs, k _ e, n, RepDs.poke (w' := w.newT p o) hp hl rfl rfl rfl _ r⟩
    | ins c ds =>
      obtain ⟨C, dx, fv, hc, e, hd, n, r⟩ := this
      exact ⟨C, dx, fv, hc, k _ e, poke_not hl hd (fun z => z), n, RepDs.poke (w' := w.newT p o) hp hl rfl rfl rfl _ r⟩
  apart := ok.apart
  there := fun a h => by
    show upd w.H p o a ≠ none
    rw [upd_ne fun z : a = p => hp (z ▸ h)]
    exact ok.there a h
end
theorem RepDs.app {K : KF} {w : Wd} : ∀ {ds es : List D} {vs us : List V}, RepDs K w ds vs → RepDs K w es us → RepDs K w (ds ++ es) (vs ++ us)
  | [], _, _, _, h, h' => by
    rw [show _ = [] from h]
    exact h'
  | d :: ds, _, _, _, ⟨v, r, e, h1, h2⟩, h' => ⟨v, r ++ _, by rw [e]; rfl, h1, RepDs.app h2 h'⟩
mutual
theorem RepD.fz {K : KF} {w w' : Wd} (f : ∀ a, w.Fz a → w'.Fz a) (eH : w'.H = w.H) (eI : w'.ι = w.ι) : ∀ (d : D) {v : V}, RepD K w d v → RepD K w' d v
  | .v d, _, h => by
    show RepP K w'.Fz w'.H d _
    rw [eH]
    exact RepP.same (fun _ _ z => z) f d h
  | .ref n, _, ⟨a, e, r⟩ => ⟨a, by rw [eI]; exact e, r⟩
  | .mix ds, _, ⟨a, vs, e, hr, hs⟩ => ⟨a, vs, e, by rw [eH]; exact hr, RepDs.fz f eH eI ds hs⟩
  | .exc c fs, _, ⟨a, C, da, e, hc, ha, hf⟩ => ⟨a, C, da, e, hc, by rw [eH]; exact ha, hf.imp id fun ⟨d, fv, e1, h1, h2, h3⟩ => ⟨d, fv, e1, by rw [eH]; exact h1, h2, by rw [eH]; exact RepPs.same (fun _ _ z => z) f _ h3⟩⟩
theorem RepDs.fz {K : KF} {w w' : Wd} (f : ∀ a, w.Fz a → w'.Fz a) (eH : w'.H = w.H) (eI : w'.ι = w.ι) : ∀ (ds : List D) {vs : List V}, RepDs K w ds vs → RepDs K w' ds vs
  | [], _, h => h
  | d :: ds, _, ⟨v, r, e, h1, h2⟩ => ⟨v, r, e, RepD.fz f eH eI d h1, RepDs.fz f eH eI ds h2⟩
end
theorem CellOk.fz {K : KF} {w w' : Wd} (f : ∀ a, w.Fz a → w'.Fz a) (eH : w'.H = w.H) (eI : w'.ι = w.ι) {a : Addr} : ∀ {c : Cell}, CellOk K w a c → CellOk K w' a c
  | .lst _, ⟨vs, e, r⟩ => ⟨vs, by rw [eH]; exact e, RepDs.fz f eH eI _ r⟩
  | .dct _, ⟨ks, e, n, r⟩ => ⟨ks, by rw [eH]; exact e, n, RepDs.fz f eH eI _ r⟩
  | .ins _ _, ⟨C, dx, fv, hc, e, hd, n, r⟩ => ⟨C, dx, fv, hc, by rw [eH]; exact e, by rw [eH]; exact hd, n, RepDs.fz f eH eI _ r⟩
def tYes' : TM := fun _ h => some (.ok true h)
open Classical in
noncomputable def compL (gd : Option (Nat × List D)) (g : GM) (t : TM) (f : EM) : List D → Sl → Hs → Option (List D × Hs)
  | [], s, h => if gok gd h then some ([], h) else none
  | d :: r, s, h => if gok gd h then match g d s h with
      | some s1 => match t s1 h with
        | some (.ok b h1) => if b = true then match f s1 h1 with
            | some (.ok y h2) => match compL gd g t f r s h2 with
              | some (ys, h3) => some (y :: ys, h3)
              | none => none
            | _ => none
          else compL gd g t f r s h1
        | _ => none
      | none => none
    else none
noncomputable def eComp (it : IM) (g : GM) (t : TM) (f : EM) (vs : List Nat) : EM := fun s h => match it s h with
  | some (.ok items gd h1) => match compL gd g t f items (wipeS s vs) h1 with
    | some (ds, h2) => match unvs ds with
      | some ps => some (.ok (.v (.list ps)) h2)
      | none => none
    | none => none
  | some (.ex x h1) => some (.ex x h1)
  | none => none
def STs (X : Cx) (W : WX) (ifs : List Expr) (t : TM) : Prop := PTs X ifs (tIT X.K X.mg W t)
theorem PTs.mono' {X : Cx} {e : List Expr} {t t' : TT} (h : PTs X e t) (i : ∀ σ H Q, t' σ H Q → t σ H Q) : PTs X e t' := ⟨fun pins s σ H Q I q => h.run pins s σ H Q I (i σ H Q q)⟩
theorem sts_nil {X : Cx} {W : WX} : STs X W [] tYes' := PTs.mono' pts_nil fun σ H Q ⟨w, sl, eH, ok, hs, h⟩ => by
  subst eH
  exact h w (Wd.Le.refl w) ok rfl
theorem sts_one {X : Cx} {W : WX} {c : Expr} {t : TM} (h : ST X W c t) : STs X W [c] t := pts_one h
section
variable {X : Cx} {W : WX} {elt tg iter : Expr} {ifs : List Expr} {scope : Scope} {own : List (Str × Nat)} {js : List Nat} {it : IM} {g : GM} {t : TM} {f : EM} {pos : Pos}
theorem comp_of (hj : ∀ j ∈ js, j ∈ own.map (·.2)) (σ : L2.St) (H : Hp) (Q : VK) (h : tI X.K X.mg W (eComp it g t f (own.map (·.2))) σ H Q) :
    tLc (tII X.K X.mg W it) (tG X.K js g) (tIT X.K X.mg W0 t) (tI X.K X.mg W0 f) (own.map (·.2)) σ H Q := by
  obtain ⟨w, sl, rfl, ok, hs, h⟩ := h
  refine ⟨w, sl, rfl, ok, hs, ?_⟩
  unfold eComp at h
  unfold WpI
  cases ei : it sl w.h with
  | none => simp only [ei] at h; exact h.elim
  | some r =>
    cases r with
    | ex x h' => simp only [ei] at h; exact h
    | ok items gd h' =>
      simp only [ei] at h
      intro w1 J l1 ok1 eh1 T
      subst eh1
      cases ec : compL gd g t f items (wipeS sl (own.map (·.2))) w1.h with
      | none => simp only [ec] at h; exact h.elim
      | some r =>
        obtain ⟨ds, h2⟩ := r
        simp only [ec] at h
        cases eu : unvs ds with
        | none => simp only [eu] at h; exact h.elim
        | some ps =>
          simp only [eu] at h
          intro p hp
          have hsw := (hs.mono ok l1).wipe (own.map (·.2))
          have hpf : ¬ w1.Fz p := fun z => ok1.there p z hp
          have hpi : p ∉ w1.ι := fun z => by
            obtain ⟨us, e, _⟩ := ok1.tracked z
            rw [hp] at e
            cases e
          refine ⟨fun i m H => m = items.length - i ∧ i ≤ items.length ∧ ∃ (w2 : Wd) (acc : List V) (dacc ys : List D), w1.Le w2 ∧ w2.H = H ∧ w2.Ok X.K ∧ ¬ w2.Fz p ∧ p ∉ w2.ι ∧ w2.H p = some (.lst acc) ∧ RepDs X.K w2 dacc acc ∧ acc.length ≤ i ∧ dacc ++ ys = ds ∧
              compL gd g t f (items.drop i) (wipeS sl (own.map (·.2))) w2.h = some (ys, h2) ∧ SRep X.K w2 (wipeS sl (own.map (·.2))) (wipe σ (own.map (·.2))),
            ⟨items.length, by simp, Nat.zero_le _, w1.newT p (.lst []), [], [], ds, Wd.newT_le hp, rfl, Wd.newT_ok ok1 hp, hpf, hpi, upd_same, rfl, Nat.le_refl _, rfl, by rw [List.drop_zero]; exact ec, hsw.mono ok1 (Wd.newT_le hp)⟩, ?_⟩
          rintro i m H2 ⟨rfl, hi, w2, acc, dacc, ys, l2, rfl, ok2, hpf2, hpi2, hp2, hr2, hal, hd, hc2, hs2⟩
          by_cases hlt : i < items.length
          · rw [List.drop_eq_getElem_cons hlt, compL] at hc2
            split at hc2
            · rename_i hg2
              obtain ⟨hgo, hy⟩ := T.go i w2 l2 ok2 hg2 hlt
              refine .inr ⟨hgo, fun H' => ∃ (w2 : Wd) (acc : List V) (dacc ys : List D), w1.Le w2 ∧ w2.H = H' ∧ w2.Ok X.K ∧ ¬ w2.Fz p ∧ p ∉ w2.ι ∧ w2.H p = some (.lst acc) ∧ RepDs X.K w2 dacc acc ∧ acc.length ≤ i + 1 ∧ dacc ++ ys = ds ∧
                  compL gd g t f (items.drop (i + 1)) (wipeS sl (own.map (·.2))) w2.h = some (ys, h2) ∧ SRep X.K w2 (wipeS sl (own.map (·.2))) (wipe σ (own.map (·.2))), fun H' q => ⟨items.length - (i + 1), by omega, rfl, hlt, q⟩, fun x H' y => ?_⟩
              obtain ⟨w3, d, l3, ok3, eh3, rfl, ed, rd⟩ := hy x H' y
              rw [List.getElem?_eq_getElem hlt] at ed
              cases ed
              -- what a step keeps of p
              have stepP : ∀ {wa wb : Wd}, wa.Le wb → ¬ wa.Fz p → p ∉ wa.ι → wa.H p = some (.lst acc) → ¬ wb.Fz p ∧ p ∉ wb.ι ∧ wb.H p = some (.lst acc) := fun {wa wb} l a b c => by
                refine ⟨fun z => ?_, fun z => ?_, l.keep p _ c b⟩
                · rcases l.new p z with z | z
                  · exact a z
                  · rw [c] at z; cases z
                · obtain ⟨mm, em, hm⟩ := l.more
                  rw [em] at z
                  rcases List.mem_append.mp z with z | z
                  · exact b z
                  · rw [hm p z] at c; cases c
              obtain ⟨f3, i3, p3⟩ := stepP l3 hpf2 hpi2 hp2
              cases eg : g items[i] (wipeS sl (own.map (·.2))) w2.h with
              | none => simp only [eg] at hc2; cases hc2
              | some s1 =>
                simp only [eg] at hc2
                refine ⟨w3, wipeS sl (own.map (·.2)), s1, items[i], rfl, ok3, hs2.mono ok2 l3, rd, by rw [eh3]; exact eg, fun σ4 hs4 el4 => ⟨wipe_else el4 hj, ?_⟩⟩
                refine ⟨w3, s1, rfl, ok3, hs4, ?_⟩
                unfold WpT
                rw [eh3]
                cases et : t s1 w2.h with
                | none => simp only [et] at hc2; cases hc2
                | some r =>
                  cases r with
                  | ex x h5 => simp only [et] at hc2; cases hc2
                  | ok b h5 =>
                    simp only [et] at hc2
                    intro w5 l5 ok5 eh5
                    obtain ⟨f5, i5, p5⟩ := stepP l5 f3 i3 p3
                    cases b with
                    | false =>
                      rw [if_neg Bool.false_ne_true] at hc2 ⊢
                      exact ⟨w5, acc, dacc, ys, (l2.trans l3 ok2).trans l5 ok3, rfl, ok5, f5, i5, p5, RepDs.mono ok3 l5 _ (RepDs.mono ok2 l3 _ hr2), by omega, hd, by rw [eh5]; exact hc2, (hs2.mono ok2 l3).mono ok3 l5⟩
                    | true =>
                      rw [if_pos rfl] at hc2 ⊢
                      refine ⟨w5, s1, rfl, ok5, hs4.mono ok3 l5, ?_⟩
                      unfold WpE
                      rw [eh5]
                      cases ef : f s1 h5 with
                      | none => simp only [ef] at hc2; cases hc2
                      | some r =>
                        cases r with
                        | ex x h6 => simp only [ef] at hc2; cases hc2
                        | ok yd h6 =>
                          simp only [ef] at hc2
                          intro w6 v l6 ok6 eh6 r6
                          obtain ⟨f6, i6, p6⟩ := stepP l6 f5 i5 p5
                          cases er : compL gd g t f (items.drop (i + 1)) (wipeS sl (own.map (·.2))) h6 with
                          | none => simp only [er] at hc2; cases hc2
                          | some q =>
                            obtain ⟨zs, h7⟩ := q
                            simp only [er] at hc2
                            cases hc2
                            have hz : acc.length < sizeLine := by
                              have := T.len
                              omega
                            refine ⟨acc, p6, hz, w6.newT p (.lst (acc ++ [v])), acc ++ [v], dacc ++ [yd], zs, ?_, rfl, Wd.poke_ok ok6 f6 i6 p6, f6, i6, upd_same, ?_, by rw [List.length_append]; simp only [List.length_cons, List.length_nil]; omega, by rw [← hd, List.append_assoc]; rfl, by rw [← eh6] at er; exact er, ?_⟩
                            · have lq := ((l2.trans l3 ok2).trans l5 ok3).trans l6 ok5
                              refine ⟨lq.more, lq.up, lq.new, fun b o hb hi => ?_⟩
                              show upd w6.H p _ b = some o
                              rw [upd_ne (ne_of_none hb hp)]
                              exact lq.keep b o hb hi
                            · have h1 : RepDs X.K w6 dacc acc := RepDs.mono ok5 l6 _ (RepDs.mono ok3 l5 _ (RepDs.mono ok2 l3 _ hr2))
                              have h2 : RepDs X.K w6 (dacc ++ [yd]) (acc ++ [v]) := RepDs.app h1 ⟨v, [], rfl, r6, rfl⟩
                              exact RepDs.poke (w' := w6.newT p (.lst (acc ++ [v]))) f6 p6 rfl rfl rfl _ h2
                            · have hsl := ((hs2.mono ok2 l3).mono ok3 l5).mono ok5 l6
                              exact ⟨hsl.len, fun j dj hj' => let ⟨u, eu', ru⟩ := hsl.at' j dj hj'; ⟨u, eu', RepD.poke (w' := w6.newT p (.lst (acc ++ [v]))) f6 p6 rfl rfl rfl _ ru⟩⟩
            · cases hc2
          · have ei : i = items.length := by omega
            subst ei
            rw [List.drop_length, compL] at hc2
            split at hc2
            · rename_i hg2
              cases hc2
              rw [List.append_nil] at hd
              subst hd
              refine .inl ⟨T.stop _ w2 l2 ok2 hg2 (Nat.le_refl _) rfl, ?_⟩
              have lF : w1.Le { w2 with Fz := fun a => w2.Fz a ∨ a = p } := ⟨l2.more, fun a z => .inl (l2.up a z), fun a z => by
                rcases z with z | z
                · exact l2.new a z
                · subst z
                  exact .inr hp, l2.keep⟩
              have okF : ({ w2 with Fz := fun a => w2.Fz a ∨ a = p } : Wd).Ok X.K := ⟨ok2.nd, ok2.len, fun n a c ha hc => by
                have := ok2.cell n a c ha hc
                exact this.fz (w' := { w2 with Fz := fun a => w2.Fz a ∨ a = p }) (fun _ z => .inl z) rfl rfl, fun a z => by
                  rcases z with z | z
                  · exact ok2.apart a z
                  · subst z
                    exact hpi2, fun a z => by
                  rcases z with z | z
                  · exact ok2.there a z
                  · subst z
                    show w2.H a ≠ none
                    rw [hp2]
                    exact fun e => by cases e⟩
              exact h { w2 with Fz := fun a => w2.Fz a ∨ a = p } (.ref p) (l1.trans lF ok1) okF rfl ⟨p, acc, rfl, .inl ⟨.inr rfl, .inl hp2⟩, RepPs.same (Fz := w2.Fz) (fun _ _ z => z) (fun _ z => .inl z) ps (unvs_rep eu hr2)⟩
            · cases hc2
end
end Vl
set_option maxHeartbeats 4000000
namespace Vl
open PySem PySem.Spec PyProof.Rows L2
section
variable {X : Cx} {W : WX} {elt tg iter : Expr} {ifs : List Expr} {scope : Scope} {own : List (Str × Nat)} {js : List Nat} {it : IM} {g : GM} {t : TM} {f : EM} {pos : Pos}
theorem se_comp (hc : X.calm = true) (hN : X.N.Nodup) (hi : SI X W tg iter it) (ok : BlkOk X.N X.env.scope scope own)
    (hg : ∀ (s : Shared) (H : Hp) (C : Addr) (cl : List (Str × Addr)) (fp : List Addr), SG (X.blk s H scope (compEnvC scope cl C X.env) fp) tg js g) (ht : ∀ (s : Shared) (H : Hp) (C : Addr) (cl : List (Str × Addr)) (fp : List Addr), STs (X.blk s H scope (compEnvC scope cl C X.env) fp) W0 ifs t)
    (he : ∀ (s : Shared) (H : Hp) (C : Addr) (cl : List (Str × Addr)) (fp : List Addr), SE (X.blk s H scope (compEnvC scope cl C X.env) fp) W0 elt f) (hj : ∀ j ∈ js, j ∈ own.map (·.2) := by decide) (hs : ∀ x, foldedSetIterable iter X.env x = pure x := by intro _; rfl) :
    SE X W (.ListComp elt [⟨tg, iter, ifs, 0⟩] scope pos) (eComp it g t f (own.map (·.2))) :=
  PE.mono' (pe_lc (g := tG X.K js g) (tt := tIT X.K X.mg W0 t) (te := tI X.K X.mg W0 f) hc hN hi ok hg ht he hs) fun σ H Q h => comp_of hj σ H Q h
theorem ss_setLc {i : Nat} {y : Str} {py spos : Pos} (hc : X.calm = true) (hN : X.N.Nodup) (hy : X.N[i]? = some y) (hyl : X.env.scope.names.lookup y = some .local)
    (hsw : swapsWith (.ListComp elt [⟨tg, iter, ifs, 0⟩] scope pos) (some (.Name y py)) spos.line X.env = pure true) (hi : SI X W tg iter it) (ok : BlkOk X.N X.env.scope scope own)
    (hg : ∀ (s : Shared) (H : Hp) (C : Addr) (cl : List (Str × Addr)) (fp : List Addr), SG (X.blk s H scope (compEnvC scope cl C X.env) fp) tg js g) (ht : ∀ (s : Shared) (H : Hp) (C : Addr) (cl : List (Str × Addr)) (fp : List Addr), STs (X.blk s H scope (compEnvC scope cl C X.env) fp) W0 ifs t)
    (he : ∀ (s : Shared) (H : Hp) (C : Addr) (cl : List (Str × Addr)) (fp : List Addr), SE (X.blk s H scope (compEnvC scope cl C X.env) fp) W0 elt f) (hj : ∀ j ∈ js, j ∈ own.map (·.2) := by decide) (hs : ∀ x, foldedSetIterable iter X.env x = pure x := by intro _; rfl) :
    SS X W (.Assign [.Name y py] (.ListComp elt [⟨tg, iter, ifs, 0⟩] scope pos) spos) (sAsg (eComp it g t f (own.map (·.2))) (gNm i)) :=
  PS.mono' (ps_setLc (g := tG X.K js g) (tt := tIT X.K X.mg W0 t) (te := tI X.K X.mg W0 f) hc hN hy hyl hsw hi ok hg ht he hs) fun E σ H ⟨w, sl, eH, ok', hs', h⟩ => by
    subst eH
    refine comp_of hj σ w.H _ ?_
    exact tIS_bind ok' hs' h fun d v w1 l1 ok1 hs1 r1 h1 => h1 w1 _ (Wd.Le.refl w1) ok1 rfl (hs1.set i r1)
end

/-! ## defs -/
inductive FR where
  | rt (d : D) (h : Hs)
  | ex (x : Ex) (h : Hs)
abbrev Fn := List D → Hs → Option FR
def WpF (K : KF) (mg : Str → Option Value) (r : Option FR) (w : Wd) (Q : VK) (E : XK) : Prop := match r with
  | some (.rt d h') => ∀ w' v, w.Le w' → w'.Ok K → w'.h = h' → RepD K w' d v → Q v w'.H
  | some (.ex x h') => ∀ w' cls da, w.Le w' → w'.Ok K → w'.h = h' → ExRep K mg w' x cls da → E cls da w'.H
  | none => False
def spF (K : KF) (mg : Str → Option Value) (n : Nat) (F : Fn) : Sp := fun vs H Q E => ∃ (w : Wd) (ds : List D), w.H = H ∧ w.Ok K ∧ RepDs K w ds vs ∧ ds.length = n ∧ WpF K mg (F ds w.h) w Q E
/-- a def with this many names and this body -/
def mkFn (n : Nat) (b : SM) : Fn := fun ds h => match b (ds.map some ++ List.replicate (n - ds.length) none) h with
  | some (.rt d h') => some (.rt d h')
  | some (.nx _ h') => some (.rt (.v .none) h')
  | some (.ex _ x h') => some (.ex x h')
  | _ => none
theorem srep_start {K : KF} {w : Wd} {N : List Str} {ds : List D} {vs : List V} (r : RepDs K w ds vs) : SRep K w (ds.map some ++ List.replicate (N.length - ds.length) none) (L2.start N vs) where
  len := by
    unfold L2.start
    rw [List.length_append, List.length_append, List.length_map, List.length_map, List.length_replicate, List.length_replicate, r.len]
  at' := fun i d h => by
    unfold L2.start
    by_cases hi : i < ds.length
    · rw [List.getElem?_append_left (by rw [List.length_map]; exact hi), List.getElem?_map] at h
      rw [List.getElem?_append_left (by rw [List.length_map, r.len]; exact hi), List.getElem?_map]
      cases e : ds[i]? with
      | none => rw [e] at h; cases h
      | some d' =>
        rw [e] at h
        cases h
        obtain ⟨v, ev, rv⟩ := RepDs.get r e
        exact ⟨v, by rw [ev]; rfl, rv⟩
    · rw [List.getElem?_append_right (by rw [List.length_map]; omega), List.getElem?_replicate] at h
      split at h <;> cases h
/-! ## calls -/
mutual
/-- no list in it -/
def noL : PyData → Bool
  | .list _ => false
  | .tuple ds => noLs ds
  | .dict _ => false
  | _ => true
def noLs : List PyData → Bool
  | [] => true
  | d :: ds => noL d && noLs ds
end
mutual
theorem RepP.noL {K : KF} {Fz Fz' : Addr → Prop} {H : Hp} : ∀ (d : PyData) {v : V}, noL d = true → RepP K Fz H d v → RepP K Fz' H d v
  | .none, _, _, h => h
  | .bool _, _, _, h => h
  | .int _, _, _, h => h
  | .str _, _, _, h => h
  | .list ds, _, n, _ => by cases n
  | .tuple ds, _, n, ⟨a, vs, e, hr, hs⟩ => ⟨a, vs, e, hr, RepPs.noL ds n hs⟩
  | .dict _, _, n, _ => by cases n
theorem RepPs.noL {K : KF} {Fz Fz' : Addr → Prop} {H : Hp} : ∀ (ds : List PyData) {vs : List V}, noLs ds = true → RepPs K Fz H ds vs → RepPs K Fz' H ds vs
  | [], _, _, h => h
  | d :: ds, _, n, ⟨v, r, e, h1, h2⟩ => by
    rw [noLs, Bool.and_eq_true] at n
    exact ⟨v, r, e, RepP.noL d n.1 h1, RepPs.noL ds n.2 h2⟩
end
/-- what a call tells, its cells read off; b: what was handed in had cells -/
def callR (F : Fn) (ps : List PyData) (b : Bool) (h : Hs) : Option ER := match F (ps.map .v) [] with
  | some (.rt d h') => match frz h' dep d with
    | some p => if (b && !noL p) = true then none else some (.ok (.v p) h)
    | none => none
  | some (.ex x h') => match frzs h' (dep + 1) (x.fs.map (·.2)) with
    | some qs => if (b && !noLs qs) = true then none else some (.ex ⟨x.c, (x.fs.map (·.1)).zip (qs.map .v)⟩ h)
    | none => none
  | none => none
def eCall (F : Fn) (a : AM) : EM := eA a fun ds _ h => match unvs ds with
  | some ps => callR F ps false h
  | none => match frzs h (dep + 1) ds with
    | some ps => callR F ps true h
    | none => none
/-- the callee's world -/
def Wd.sub (w : Wd) (G : Addr → Prop) : Wd := ⟨[], G, [], w.H⟩
/-- the caller's world behind the call -/
def Wd.back (w w' : Wd) : Wd := ⟨w.ι, fun a => w.Fz a ∨ (w.H a = none ∧ (w'.Fz a ∨ a ∈ w'.ι)), w.h, w'.H⟩
section
variable {K : KF} {w w' : Wd} {G : Addr → Prop}
theorem Wd.sub_ok (hG : ∀ a, G a → w.H a ≠ none) : (w.sub G).Ok K := ⟨List.nodup_nil, rfl, fun n a c h => (by simp [Wd.sub] at h), fun _ _ z => (by cases z), hG⟩
theorem Wd.back_le (l : (w.sub G).Le w') : w.Le (w.back w') := by
  refine ⟨⟨[], by simp [Wd.back], by simp⟩, fun _ h => .inl h, fun a h => ?_, fun b o h _ => l.keep b o h (by simp [Wd.sub])⟩
  rcases h with h | h
  · exact .inl h
  · exact .inr h.1
theorem Wd.back_ok (ok : w.Ok K) (l : (w.sub G).Le w') (ok' : w'.Ok K) : (w.back w').Ok K where
  nd := ok.nd
  len := ok.len
  cell := fun n a c ha hc => by
    have le : w.Le (w.back w') := Wd.back_le l
    have := ok.cell n a c ha hc
    exact this.mono ok le (fun o e => l.keep a _ e (by simp [Wd.sub])) fun r => RepDs.mono ok le _ r
  apart := fun a h => by
    rcases h with h | h
    · exact ok.apart a h
    · intro z
      obtain ⟨us, e, _⟩ := ok.tracked z
      rw [h.1] at e
      cases e
  there := fun a h => by
    show w'.H a ≠ none
    rcases h with h | h
    · cases q : w.H a with
      | none => exact absurd q (ok.there a h)
      | some o =>
        rw [l.keep a o q (by simp [Wd.sub])]
        exact fun z => by cases z
    · rcases h.2 with z | z
      · exact ok'.there a z
      · obtain ⟨us, e, _⟩ := ok'.tracked z
        rw [e]
        exact fun z => by cases z
/-- what the callee tells, in the caller's world -/
theorem back_rep {b : Bool} (l : (w.sub G).Le w') (ok' : w'.Ok K) (hG : b = false → ∀ a, G a → w.Fz a) {d : D} {p : PyData} {v : V} (r : RepD K w' d v) (e : frz w'.h dep d = some p) (hb : ¬ (b && !noL p) = true) : RepP K (w.back w').Fz (w.back w').H p v := by
  have h1 := frz_rep ok' (G := fun a => w'.Fz a ∨ a ∈ w'.ι) (fun _ z => .inl z) (fun _ z => .inr z) dep r e
  cases b with
  | true =>
    have hn : noL p = true := by
      cases q : noL p with
      | true => rfl
      | false => rw [q] at hb; exact absurd rfl hb
    exact RepP.noL p hn h1
  | false =>
    refine RepP.same (fun _ _ z => z) (fun a z => ?_) p h1
    rcases z with z | z
    · rcases l.new a z with q | q
      · exact .inl (hG rfl a q)
      · exact .inr ⟨q, .inl z⟩
    · obtain ⟨m, em, hm⟩ := l.more
      rw [em] at z
      exact .inr ⟨hm a (by simpa [Wd.sub] using z), .inr (by rw [em]; exact z)⟩
theorem backs_rep {b : Bool} (l : (w.sub G).Le w') (ok' : w'.Ok K) (hG : b = false → ∀ a, G a → w.Fz a) {ds : List D} {ps : List PyData} {vs : List V} (r : RepDs K w' ds vs) (e : frzs w'.h (dep + 1) ds = some ps) (hb : ¬ (b && !noLs ps) = true) : RepPs K (w.back w').Fz (w.back w').H ps vs := by
  have h1 := frzs_rep ok' (G := fun a => w'.Fz a ∨ a ∈ w'.ι) (fun _ z => .inl z) (fun _ z => .inr z) (dep + 1) r e
  cases b with
  | true =>
    have hn : noLs ps = true := by
      cases q : noLs ps with
      | true => rfl
      | false => rw [q] at hb; exact absurd rfl hb
    exact RepPs.noL ps hn h1
  | false =>
    refine RepPs.same (fun _ _ z => z) (fun a z => ?_) ps h1
    rcases z with z | z
    · rcases l.new a z with q | q
      · exact .inl (hG rfl a q)
      · exact .inr ⟨q, .inl z⟩
    · obtain ⟨m, em, hm⟩ := l.more
      rw [em] at z
      exact .inr ⟨hm a (by simpa [Wd.sub] using z), .inr (by rw [em]; exact z)⟩
end
theorem zip_fst {α β : Type} : ∀ {xs : List α} {ys : List β}, xs.length = ys.length → (xs.zip ys).map (·.1) = xs
  | [], _, _ => by simp
  | x :: xs, [], h => by simp at h
  | x :: xs, y :: ys, h => by
    rw [List.zip_cons_cons, List.map_cons, zip_fst (by simpa using h)]
theorem zip_snd {α β : Type} : ∀ {xs : List α} {ys : List β}, xs.length = ys.length → (xs.zip ys).map (·.2) = ys
  | [], [], _ => rfl
  | [], _ :: _, h => by simp at h
  | x :: xs, [], h => by simp at h
  | x :: xs, y :: ys, h => by
    rw [List.zip_cons_cons, List.map_cons, zip_snd (by simpa using h)]
theorem callR_of {K : KF} {mg : Str → Option Value} {W : WX} {σ : L2.St} {w : Wd} {F : Fn} {ps : List PyData} {b : Bool} {G : Addr → Prop} {vs : List V} {Q : VK} (ok : w.Ok K) (hGt : ∀ a, G a → w.H a ≠ none) (hG : b = false → ∀ a, G a → w.Fz a)
    (r : RepPs K G w.H ps vs) (h : WpE K mg W σ (callR F ps b w.h) w fun _ v w' => Q v w'.H) : spF K mg ps.length F vs w.H Q fun cls d H => W cls d σ H := by
  refine ⟨w.sub G, ps.map .v, rfl, Wd.sub_ok hGt, RepDs.ofP r, by rw [List.length_map], ?_⟩
  unfold callR at h
  unfold WpF
  show match F (ps.map .v) [] with
    | some (.rt d h') => _
    | some (.ex x h') => _
    | none => False
  cases e : F (ps.map .v) [] with
  | none => simp only [e] at h; exact h
  | some q =>
    cases q with
    | rt d h' =>
      simp only [e] at h
      intro w' v l ok' eh r'
      subst eh
      cases ef : frz w'.h dep d with
      | none => simp only [ef] at h; exact h.elim
      | some p =>
        simp only [ef] at h
        split at h
        · exact h.elim
        · rename_i hb
          exact h (w.back w') v (Wd.back_le l) (Wd.back_ok ok l ok') rfl (back_rep l ok' hG r' ef hb)
    | ex x h' =>
      simp only [e] at h
      intro w' cls da l ok' eh r'
      subst eh
      cases ef : frzs w'.h (dep + 1) (x.fs.map (·.2)) with
      | none => simp only [ef] at h; exact h.elim
      | some qs =>
        simp only [ef] at h
        split at h
        · exact h.elim
        · rename_i hb
          refine h (w.back w') cls da (Wd.back_le l) (Wd.back_ok ok l ok') rfl ?_
          obtain ⟨C, hm, hcls, hx⟩ := r'
          refine ⟨C, hm, hcls, ?_⟩
          rcases hx with ⟨h1, h2⟩ | ⟨d, fv, h1, h2, h3, h4⟩
          · rw [h1] at ef
            cases ef
            exact .inl ⟨by rw [h1]; rfl, h2⟩
          · have hq := backs_rep l ok' hG h3 ef hb
            have hl : (x.fs.map (·.1)).length = (qs.map D.v).length := by
              have e1 := h3.len
              have e2 := hq.len
              rw [List.length_map, List.length_map] at e1
              rw [List.length_map, List.length_map, ← e2, List.length_map, e1]
            refine .inr ⟨d, fv, h1, h2, ?_, ?_⟩
            · rw [zip_snd hl]
              exact RepDs.ofP hq
            · rw [zip_fst hl]
              exact h4
theorem unvs_len : ∀ {ds : List D} {ps : List PyData}, unvs ds = some ps → ps.length = ds.length
  | [], _, e => by
    cases e
    rfl
  | d :: ds, ps, e => by
    unfold unvs at e
    split at e
    · rename_i p ps' h1 h2
      cases e
      rw [List.length_cons, List.length_cons, unvs_len h2]
    · cases e
section
variable {X : Cx} {W : WX} {e : Expr} {es : List Expr} {a : AM} {F : Fn} {f : Addr} {fd : FuncData} {ps : List Str} {k : Nat} {x : Str} {p pos : Pos}
theorem call_args {σ : L2.St} {Q : VK} {w : Wd} {sl : Sl} (hl : (e :: es).length = ps.length) (hal : ∀ s h ds h', a s h = some (.ok ds h') → ds.length = (e :: es).length) (ok : w.Ok X.K) (hs : SRep X.K w sl σ) (h : WpE X.K X.mg W σ (eCall F a sl w.h) w fun _ v w' => Q v w'.H) :
    tCallS (spF X.K X.mg ps.length F) (WE W) (tIA X.K X.mg W a) σ w.H Q := by
  refine ⟨w, sl, rfl, ok, hs, ?_⟩
  unfold eCall eA at h
  unfold WpA
  cases ea : a sl w.h with
  | none => simp only [ea] at h; exact h
  | some r =>
    cases r with
    | ex x h' => simp only [ea] at h; exact h
    | ok ds h' =>
      simp only [ea] at h
      intro w1 vs l1 ok1 eh1 r1
      subst eh1
      have hlen := hal _ _ _ _ ea
      cases eu : unvs ds with
      | some qs =>
        simp only [eu] at h
        have := callR_of ok1 (G := w1.Fz) (b := false) ok1.there (fun _ _ z => z) (unvs_rep eu r1) (WpE.le h l1 ok1)
        rw [unvs_len eu, hlen, hl] at this
        exact this
      | none =>
        simp only [eu] at h
        cases ef : frzs w1.h (dep + 1) ds with
        | none => simp only [ef] at h; exact h.elim
        | some qs =>
          simp only [ef] at h
          have hq := frzs_rep ok1 (G := fun a => w1.Fz a ∨ a ∈ w1.ι) (fun _ z => .inl z) (fun _ z => .inr z) (dep + 1) r1 ef
          have := callR_of ok1 (G := fun a => w1.Fz a ∨ a ∈ w1.ι) (b := true) (fun a z => by
            rcases z with z | z
            · exact ok1.there a z
            · obtain ⟨us, e, _⟩ := ok1.tracked z
              rw [e]
              exact fun z => by cases z) (fun z => by cases z) hq (WpE.le h l1 ok1)
          have e1 := hq.len
          have e2 := r1.len
          rw [show qs.length = ps.length by rw [← e1, e2, hlen, hl]] at this
          exact this
end
end Vl
set_option maxHeartbeats 4000000
namespace Vl
open PySem PySem.Spec PyProof.Rows L2

/-! ## cells -/
def Wd.newG (w : Wd) (p : Addr) (c : Cell) (o : HO) : Wd := ⟨w.ι ++ [p], w.Fz, w.h ++ [c], upd w.H p o⟩
def Wd.setG (w : Wd) (n : Nat) (a : Addr) (c : Cell) (o : HO) : Wd := ⟨w.ι, w.Fz, w.h.set n c, upd w.H a o⟩
abbrev Wd.newC (w : Wd) (p : Addr) (ds : List D) (vs : List V) : Wd := w.newG p (.lst ds) (.lst vs)
abbrev Wd.setC (w : Wd) (n : Nat) (a : Addr) (ds : List D) (vs : List V) : Wd := w.setG n a (.lst ds) (.lst vs)
section
variable {K : KF} {w : Wd} {p a : Addr} {n : Nat} {ds : List D} {vs : List V} {c : Cell} {o : HO}
theorem Wd.newG_le (hp : w.H p = none) : w.Le (w.newG p c o) :=
  ⟨⟨[p], rfl, fun a h => by rw [List.mem_singleton.mp h]; exact hp⟩, fun _ h => h, fun _ h => .inl h, fun b u h _ => by
    show upd w.H p _ b = some u
    rw [upd_ne (ne_of_none h hp)]
    exact h⟩
theorem Wd.newG_ok (ok : w.Ok K) (hp : w.H p = none) (r : CellOk K (w.newG p c o) p c) : (w.newG p c o).Ok K where
  nd := List.nodup_append.mpr ⟨ok.nd, by simp, fun a h b hb e => by
    rw [List.mem_singleton.mp hb] at e
    subst e
    obtain ⟨us, e, _⟩ := ok.tracked h
    rw [hp] at e
    cases e⟩
  len := by
    show (w.ι ++ [p]).length = (w.h ++ [c]).length
    rw [List.length_append, List.length_append, ok.len]
    rfl
  cell := fun n a c' ha hc => by
    have le : w.Le (w.newG p c o) := Wd.newG_le hp
    have ha' : (w.ι ++ [p])[n]? = some a := ha
    have hc' : (w.h ++ [c])[n]? = some c' := hc
    by_cases hn : n < w.ι.length
    · rw [List.getElem?_append_left hn] at ha'
      rw [List.getElem?_append_left (by rw [← ok.len]; exact hn)] at hc'
      exact (ok.cell n a c' ha' hc').mono ok le (fun u e => by
        show upd w.H p _ a = _
        rw [upd_ne (ne_of_none e hp)]
        exact e) fun r => RepDs.mono ok le _ r
    · rw [List.getElem?_append_right (by omega)] at ha'
      rw [List.getElem?_append_right (by rw [← ok.len]; omega), ← ok.len] at hc'
      cases q : n - w.ι.length with
      | zero =>
        rw [q] at ha' hc'
        cases ha'
        cases hc'
        exact r
      | succ k => rw [q] at ha'; simp at ha'
  apart := fun a h z => by
    rcases List.mem_append.mp (show a ∈ w.ι ++ [p] from z) with z | z
    · exact ok.apart a h z
    · rw [List.mem_singleton.mp z] at h
      exact ok.there p h hp
  there := fun a h => by
    show upd w.H p _ a ≠ none
    by_cases e : a = p
    · subst e
      rw [upd_same]
      exact fun z => by cases z
    · rw [upd_ne e]
      exact ok.there a h
theorem Wd.newG_rep (ok : w.Ok K) : RepD K (w.newG p c o) (.ref w.h.length) (.ref p) :=
  ⟨p, by
    show (w.ι ++ [p])[w.h.length]? = some p
    rw [← ok.len, List.getElem?_append_right (Nat.le_refl _), Nat.sub_self]
    rfl, rfl⟩
theorem Wd.setG_le (ha : w.ι[n]? = some a) : w.Le (w.setG n a c o) :=
  ⟨⟨[], by simp [Wd.setG], by simp⟩, fun _ h => h, fun _ h => .inl h, fun b u h hb => by
    show upd w.H a _ b = some u
    rw [upd_ne fun e : b = a => hb (e ▸ List.mem_of_getElem? ha)]
    exact h⟩
theorem nodup_get {l : List Addr} (nd : l.Nodup) {i j : Nat} {x : Addr} (h1 : l[i]? = some x) (h2 : l[j]? = some x) : i = j := by
  obtain ⟨a, e1⟩ := List.getElem?_eq_some_iff.mp h1
  obtain ⟨b, e2⟩ := List.getElem?_eq_some_iff.mp h2
  exact (List.getElem_inj nd).mp (e1.trans e2.symm)
theorem Wd.setG_ok (ok : w.Ok K) (ha : w.ι[n]? = some a) (r : CellOk K (w.setG n a c o) a c) : (w.setG n a c o).Ok K where
  nd := ok.nd
  len := by
    show w.ι.length = (w.h.set n _).length
    rw [List.length_set, ok.len]
  cell := fun m b c' hb hc => by
    have le : w.Le (w.setG n a c o) := Wd.setG_le ha
    have hc' : (w.h.set n c)[m]? = some c' := hc
    by_cases hm : n = m
    · subst hm
      have hb' : w.ι[n]? = some b := hb
      rw [ha] at hb'
      cases hb'
      have hl : n < w.h.length := by rw [← ok.len]; exact (List.getElem?_eq_some_iff.mp ha).1
      rw [List.getElem?_set_self hl] at hc'
      cases hc'
      exact r
    · rw [List.getElem?_set_ne hm] at hc'
      exact (ok.cell m b c' hb hc').mono ok le (fun u e => by
        show upd w.H a _ b = _
        rw [upd_ne fun e : b = a => hm (nodup_get ok.nd ha (e ▸ hb))]
        exact e) fun r => RepDs.mono ok le _ r
  apart := ok.apart
  there := fun b h => by
    show upd w.H a _ b ≠ none
    rw [upd_ne fun e : b = a => ok.apart b h (e ▸ List.mem_of_getElem? ha)]
    exact ok.there b h
theorem Wd.newC_le (hp : w.H p = none) : w.Le (w.newC p ds vs) := Wd.newG_le hp
theorem Wd.newC_ok (ok : w.Ok K) (hp : w.H p = none) (r : RepDs K w ds vs) : (w.newC p ds vs).Ok K := Wd.newG_ok ok hp ⟨vs, upd_same, RepDs.mono ok (Wd.newG_le hp) ds r⟩
theorem Wd.newC_rep (ok : w.Ok K) : RepD K (w.newC p ds vs) (.ref w.h.length) (.ref p) := Wd.newG_rep ok
theorem Wd.setC_le (ha : w.ι[n]? = some a) : w.Le (w.setC n a ds vs) := Wd.setG_le ha
theorem Wd.setC_ok (ok : w.Ok K) (ha : w.ι[n]? = some a) (r : RepDs K w ds vs) : (w.setC n a ds vs).Ok K := Wd.setG_ok ok ha ⟨vs, upd_same, RepDs.mono ok (Wd.setG_le ha) ds r⟩
end
/-- a list display that is to be changed -/
def eLstN (a : AM) : EM := eA a fun ds _ h => if ds.length ≤ 1000 then some (.ok (.ref h.length) (h ++ [.lst ds])) else none
section
variable {X : Cx} {W : WX} {es : List Expr} {g : AM} {pos : Pos}
theorem se_lstN (h : SA X W es g) : SE X W (.List es pos) (eLstN g) := PE.mono' (pe_lst h) fun σ H Q ⟨w, sl, eH, ok, hs, h⟩ => by
  subst eH
  refine tIA_bind ok hs h fun ds vs w1 l1 ok1 hs1 r1 h1 => ?_
  split at h1
  · rename_i hl
    exact ⟨by rw [r1.len]; exact k_line hl, fun p hp => h1 (w1.newC p ds vs) (.ref p) (Wd.newC_le hp) (Wd.newC_ok ok1 hp r1) rfl (Wd.newC_rep ok1)⟩
  · exact h1.elim
end

/-! ## methods of built-in types -/
def After2 (K : KF) (w : Wd) (d : D) (h' : Hs) (Q : VK) : Prop := ∀ w' v, w.Le w' → w'.Ok K → w'.h = h' → RepD K w' d v → Q v w'.H
theorem After2.here {K : KF} {w : Wd} {d : D} {Q : VK} (h : After2 K w d w.h Q) (ok : w.Ok K) {v : V} (r : RepD K w d v) : Q v w.H := h w v (Wd.Le.refl w) ok rfl r
def MtD (K : KF) (r : V → List V → Hp → VK → Prop) (g : D → List D → Hs → Option (D × Hs)) : Prop :=
  ∀ (w : Wd) (x : V) (xs : List V) (dx : D) (ds : List D) (dz : D) (h' : Hs) (Q : VK), w.Ok K → RepD K w dx x → RepDs K w ds xs → g dx ds w.h = some (dz, h') → After2 K w dz h' Q → r x xs w.H Q
def eBM (T : String) (g : D → List D → Hs → Option (D × Hs)) (f : EM) (a : AM) : EM := f.bind fun o s h => if tyN o h = some T then (eA a fun ds _ h => match g o ds h with
  | some (d, h') => some (.ok d h')
  | none => none) s h else none
theorem tyV_of {K : KF} {w : Wd} {o : D} {x : V} {T : String} (hT : T = "list" ∨ T = "str" ∨ T = "dict") (ok : w.Ok K) (r : RepD K w o x) (h : tyN o w.h = some T) : tyV K T x w.H := by
  cases o with
  | v d =>
    cases d with
    | str z =>
      cases h
      rw [show x = _ from r]
      exact rfl
    | list ds =>
      cases h
      obtain ⟨a, vs, rfl, ht, hr⟩ := r
      exact .inl ⟨rfl, vs, ht.sql⟩
    | none => cases h; rcases hT with e | e | e <;> exact absurd e (by decide)
    | bool _ => cases h; rcases hT with e | e | e <;> exact absurd e (by decide)
    | int _ => cases h; rcases hT with e | e | e <;> exact absurd e (by decide)
    | tuple _ => cases h; rcases hT with e | e | e <;> exact absurd e (by decide)
    | dict ks =>
      cases h
      obtain ⟨a, vs, rfl, _, ht, hr⟩ := r
      exact .inr (.inr (.inl ⟨rfl, .inl ⟨_, ht⟩⟩))
  | ref n =>
    obtain ⟨a, ha, rfl⟩ := r
    simp only [tyN] at h
    cases q : w.h[n]? with
    | none => simp [q] at h
    | some c =>
      cases c with
      | lst xs =>
        simp only [q] at h
        cases h
        obtain ⟨vs, e, _⟩ := ok.cell n a _ ha q
        exact .inl ⟨rfl, vs, .inl (.inl e)⟩
      | dct xs =>
        simp only [q] at h
        cases h
        obtain ⟨vs, e, _⟩ := ok.cell n a _ ha q
        exact .inr (.inr (.inl ⟨rfl, .inl ⟨_, e⟩⟩))
      | ins c fs => simp [q] at h
  | mix _ => cases h; rcases hT with e | e | e <;> exact absurd e (by decide)
  | exc _ _ => cases h
section
variable {X : Cx} {W : WX} {o e : Expr} {es : List Expr} {f : EM} {a : AM} {name : Str} {apos cpos : Pos} {T id : String} {r : V → List V → Hp → VK → Prop} {g : D → List D → Hs → Option (D × Hs)}
theorem eBM_of (hT : T = "list" ∨ T = "str" ∨ T = "dict") (hd : MtD X.K r g) (σ : L2.St) (H : Hp) (Q : VK) (h : tI X.K X.mg W (eBM T g f a) σ H Q) : tBM X.K T r (tI X.K X.mg W f) (tIA X.K X.mg W a) σ H Q := by
  obtain ⟨w, sl, rfl, ok, hs, h⟩ := h
  refine tI_bind ok hs h fun dx x w1 l1 ok1 hs1 rx h1 => ?_
  split at h1
  · rename_i ht
    refine ⟨tyV_of hT ok1 rx ht, tIA_bind ok1 hs1 h1 fun ds vs w2 l2 ok2 hs2 r2 h2 => ?_⟩
    cases eg : g dx ds w2.h with
    | none => simp only [eg] at h2; exact h2.elim
    | some q =>
      obtain ⟨dz, h'⟩ := q
      simp only [eg] at h2
      exact hd w2 x vs dx ds dz h' Q ok2 (RepD.mono ok1 l2 dx rx) r2 eg h2
  · exact h1.elim
theorem se_bm (hT : T = "list" ∨ T = "str" ∨ T = "dict") (pa : PlainAttrs T) (slot : Slot T name id) (hty : typeOf (.builtin id) = pure (.type "method_descriptor")) (hm : MtR X id r) (hd : MtD X.K r g) (ho : SE X W o f) (ha : SA X W (e :: es) a)
    (hbase : attributeBase o name X.env (eval o X.env) = eval o X.env := by rfl)
    (hfew : ((backTo cpos (starEach (e :: es) X.env)).all (fun x => !x.1) && (backToKw cpos (keywordEach [] X.env)).all (fun x => x.1.isSome)
      && decide ((e :: es).length + ([] : List Keyword).length + (if ([] : List Keyword).isEmpty then 0 else 1) < 30)) = true := by rfl)
    (hline : (apos.endLine == cpos.line) = true := by rfl) (hs : starEach (e :: es) X.env = (false, eval e X.env) :: starEach es X.env := by rfl) (hplain : (backTo cpos (starEach es X.env)).any (·.1) = false := by rfl) :
    SE X W (.Call (.Attribute o name apos) (e :: es) [] cpos) (eBM T g f a) := PE.mono' (pe_bm pa slot hty hm ho ha hbase hfew hline hs hplain) fun σ H Q h => eBM_of hT hd σ H Q h
theorem se_bm0 (hT : T = "list" ∨ T = "str" ∨ T = "dict") (pa : PlainAttrs T) (slot : Slot T name id) (hty : typeOf (.builtin id) = pure (.type "method_descriptor")) (hm : MtR X id r) (hd : MtD X.K r g) (ho : SE X W o f)
    (hbase : attributeBase o name X.env (eval o X.env) = eval o X.env := by rfl) (hline : (apos.endLine == cpos.line) = true := by rfl) : SE X W (.Call (.Attribute o name apos) [] [] cpos) (eBM T g f eNil) :=
  PE.mono' (pe_bm0 pa slot hty hm ho hbase hline) fun σ H Q ⟨w, sl, eH, ok, hs, h⟩ => by
    subst eH
    refine tI_bind ok hs h fun dx x w1 l1 ok1 hs1 rx h1 => ?_
    split at h1
    · rename_i ht
      refine ⟨tyV_of hT ok1 rx ht, ?_⟩
      unfold eA eNil at h1
      cases eg : g dx [] w1.h with
      | none => simp only [eg] at h1; exact h1.elim
      | some q =>
        obtain ⟨dz, h'⟩ := q
        simp only [eg] at h1
        exact hd w1 x [] dx [] dz h' Q ok1 rx rfl eg h1
    · exact h1.elim
end
section
variable {K : KF}
def appendD : D → List D → Hs → Option (D × Hs) := fun o ds h => match o, ds with
  | .ref n, [y] => match h[n]? with
    | some (.lst xs) => if xs.length < sizeLine then some (.v .none, h.set n (.lst (xs ++ [y]))) else none
    | _ => none
  | _, _ => none
theorem mt_appendD : MtD K rAppend appendD := by
  intro w x xs dx ds dz h' Q ok rx rs e a
  unfold appendD at e
  split at e
  · rename_i n y
    obtain ⟨b, hb, rfl⟩ := rx
    obtain ⟨v, vr, rfl, r1, r2⟩ := rs
    cases (show vr = [] from r2)
    cases q : w.h[n]? with
    | none => simp [q] at e
    | some c =>
      cases c with
      | lst ys =>
        simp only [q] at e
        split at e
        · rename_i hz
          cases e
          obtain ⟨us, hH, hr⟩ := ok.cell n b _ hb q
          refine ⟨b, us, v, rfl, rfl, hH, by rw [hr.len]; exact hz, ?_⟩
          exact a (w.setC n b (ys ++ [y]) (us ++ [v])) .non (Wd.setC_le hb) (Wd.setC_ok ok hb (RepDs.app hr ⟨v, [], rfl, r1, rfl⟩)) rfl rfl
        · cases e
      | _ => simp [q] at e
  · cases e
def popD : D → List D → Hs → Option (D × Hs) := fun o ds h => match o, ds with
  | .ref n, [] => match h[n]? with
    | some (.lst xs) => match xs[xs.length - 1]? with
      | some y => some (y, h.set n (.lst xs.dropLast))
      | none => none
    | _ => none
  | _, _ => none
theorem RepDs.dropLast {w : Wd} : ∀ {ds : List D} {vs : List V}, RepDs K w ds vs → RepDs K w ds.dropLast vs.dropLast
  | [], _, h => by rw [show _ = [] from h]; rfl
  | [d], _, ⟨v, r, e, h1, h2⟩ => by
    rw [e, show r = [] from h2]
    rfl
  | d :: d2 :: ds, _, ⟨v, r, e, h1, h2⟩ => by
    obtain ⟨v2, r2, e2, h3, h4⟩ := id h2
    rw [e]
    rw [e2] at h2 ⊢
    exact ⟨v, _, rfl, h1, RepDs.dropLast h2⟩
end

/-! ## texts -/
section
variable {K : KF}
def texts : List PyData → Option (List Str)
  | [] => some []
  | .str z :: r => (texts r).map (z :: ·)
  | _ :: _ => none
theorem texts_rep {Fz : Addr → Prop} {H : Hp} : ∀ {ds : List PyData} {bs : List Str} {vs : List V}, texts ds = some bs → RepPs K Fz H ds vs → vs = bs.map V.str
  | [], bs, vs, e, r => by
    have e' : [] = bs := Option.some.inj e
    subst e'
    exact r
  | .str b :: ds, bs, vs, e, ⟨v, vr, ev, r1, r2⟩ => by
    simp only [texts, Option.map_eq_some_iff] at e
    obtain ⟨bs', e1, rfl⟩ := e
    rw [ev, show v = V.str b from r1, texts_rep e1 r2]
    rfl
  | .none :: _, _, _, e, _ => by cases e
  | .int _ :: _, _, _, e, _ => by cases e
  | .bool _ :: _, _, _, e, _ => by cases e
  | .list _ :: _, _, _, e, _ => by cases e
  | .tuple _ :: _, _, _, e, _ => by cases e
  | .dict _ :: _, _, _, e, _ => by cases e
end
end Vl
set_option maxHeartbeats 4000000
namespace Vl
open PySem PySem.Spec PyProof.Rows L2

/-! ## list(text) -/
section
variable {prog : Program} {w : World} {A : Around} {E : Value → Shared → Prop} {s : Shared}
end
def signsV (z : Str) : List V := z.cps.toList.map fun c => .str ⟨#[c]⟩
section
variable {K : KF}
def signsP (z : Str) : List PyData := z.cps.toList.map fun c => .str ⟨#[c]⟩
def lstP : PyData → Option PyData
  | .list ds => some (.list ds)
  | .tuple ds => some (.list ds)
  | .str z => if z.length ≤ sizeLine then some (.list (signsP z)) else none
  | _ => none
end

/-! ## join -/
section
variable {K : KF}
abbrev rJoin (K : KF) : V → List V → Hp → VK → Prop := fun x xs H Q => ∃ a p, ∃ ys : List Str, x = .str a ∧ xs = [.ref p] ∧ (SqL K H p (ys.map V.str) ∨ SqT K H p (ys.map V.str)) ∧
    (ys.map (·.length)).sum + ys.length * a.length ≤ 16777216 ∧ Q (.str (Txt.join a ys)) H
/-- a method that changes nothing, of data -/
def MtP (K : KF) (r : V → List V → Hp → VK → Prop) (g : PyData → List PyData → Option PyData) : Prop :=
  ∀ (w : Wd) (x : V) (xs : List V) (p : PyData) (ps : List PyData) (z : PyData) (Q : VK), w.Ok K → RepS K w p x → RepSs K w ps xs → g p ps = some z → After K w (.v z) Q → r x xs w.H Q
where RepSs (K : KF) (w : Wd) : List PyData → List V → Prop
  | [], vs => vs = []
  | d :: ds, vs => ∃ v r, vs = v :: r ∧ RepS K w d v ∧ RepSs K w ds r
def shals (h : Hs) : List D → Option (List PyData)
  | [] => some []
  | d :: r => match shal h d, shals h r with
    | some p, some ps => some (p :: ps)
    | _, _ => none
def liftM (g : PyData → List PyData → Option PyData) : D → List D → Hs → Option (D × Hs) := fun o ds h => match shal h o, shals h ds with
  | some p, some ps => (g p ps).map fun z => (.v z, h)
  | _, _ => none
theorem shals_rep {w : Wd} (ok : w.Ok K) : ∀ {ds : List D} {ps : List PyData} {vs : List V}, RepDs K w ds vs → shals w.h ds = some ps → MtP.RepSs K w ps vs
  | [], ps, vs, r, e => by
    cases e
    exact r
  | d :: ds, ps, vs, ⟨v, vr, ev, h1, h2⟩, e => by
    simp only [shals] at e
    cases q : shal w.h d with
    | none => simp [q] at e
    | some p =>
      cases q2 : shals w.h ds with
      | none => simp [q, q2] at e
      | some ps' =>
        simp [q, q2] at e
        subst e
        exact ⟨v, vr, ev, shal_rep ok h1 q, shals_rep ok h2 q2⟩
theorem MtP.d {r : V → List V → Hp → VK → Prop} {g : PyData → List PyData → Option PyData} (m : MtP K r g) : MtD K r (liftM g) := by
  intro w x xs dx ds dz h' Q ok rx rs e a
  unfold liftM at e
  cases q : shal w.h dx with
  | none => simp [q] at e
  | some p =>
    cases q2 : shals w.h ds with
    | none => simp [q, q2] at e
    | some ps =>
      simp only [q, q2, Option.map_eq_some_iff] at e
      obtain ⟨z, ez, e2⟩ := e
      cases e2
      exact m w x xs p ps z Q ok (shal_rep ok rx q) (shals_rep ok rs q2) ez a
def joinOk (a : Str) (ys : List Str) : Bool := decide ((ys.map (·.length)).sum + ys.length * a.length ≤ 16777216)
def joinP : PyData → List PyData → Option PyData
  | .str a, [.list ds] => match texts ds with
    | some ys => if joinOk a ys = true then some (.str (Txt.join a ys)) else none
    | none => none
  | .str a, [.tuple ds] => match texts ds with
    | some ys => if joinOk a ys = true then some (.str (Txt.join a ys)) else none
    | none => none
  | _, _ => none
theorem mt_joinP : MtP K (rJoin K) joinP := by
  intro w x xs p ps z Q ok rx rs e a
  unfold joinP at e
  split at e
  · rename_i b ds
    obtain ⟨v, vr, rfl, ⟨q, vs, rfl, ht, hr⟩, h2⟩ := rs
    cases (show vr = [] from h2)
    cases et : texts ds with
    | none => simp [et] at e
    | some ys =>
      simp only [et] at e
      split at e
      · rename_i hj
        cases e
        rw [texts_rep et hr] at ht
        exact ⟨b, q, ys, rx, rfl, .inl ht, of_decide_eq_true hj, a.here ok rfl⟩
      · cases e
  · rename_i b ds
    obtain ⟨v, vr, rfl, ⟨q, vs, rfl, ht, hr⟩, h2⟩ := rs
    cases (show vr = [] from h2)
    cases et : texts ds with
    | none => simp [et] at e
    | some ys =>
      simp only [et] at e
      split at e
      · rename_i hj
        cases e
        rw [texts_rep et hr] at ht
        exact ⟨b, q, ys, rx, rfl, .inr ht, of_decide_eq_true hj, a.here ok rfl⟩
      · cases e
  · cases e
end
end Vl
set_option maxHeartbeats 4000000
namespace Vl
open PySem PySem.Spec PyProof.Rows L2

/-! ## dict displays -/
def ofKey : Key → PyData
  | .inl i => .int i
  | .inr z => .str z
theorem keyP_of (k : Key) : keyP (ofKey k) = some k := by cases k <;> rfl
def putG {α : Type} (kvs : List (Key × α)) (k : Key) (v : α) : List (Key × α) :=
  if (kvs.any fun kv => decide (kv.1 = k)) = true then kvs.map (fun kv => if kv.1 = k then (kv.1, v) else kv) else kvs ++ [(k, v)]
def kvP (kvs : List (Key × PyData)) : List (PyData × PyData) := kvs.map fun kv => (ofKey kv.1, kv.2)
section
variable {K : KF} {Fz : Addr → Prop} {H : Hp}
theorem RepKs.head {k : Key} {d : PyData} {r : List (Key × PyData)} {vs : List (Key × V)} (h : RepKs K Fz H (kvP ((k, d) :: r)) vs) : ∃ v t, vs = (k, v) :: t ∧ RepP K Fz H d v ∧ RepKs K Fz H (kvP r) t := by
  obtain ⟨q, v, t, e, hk, h1, h2⟩ := h
  rw [keyP_of] at hk
  cases hk
  exact ⟨v, t, e, h1, h2⟩
theorem RepKs.mk {k : Key} {d : PyData} {r : List (Key × PyData)} {v : V} {t : List (Key × V)} (h1 : RepP K Fz H d v) (h2 : RepKs K Fz H (kvP r) t) : RepKs K Fz H (kvP ((k, d) :: r)) ((k, v) :: t) := ⟨k, v, t, rfl, keyP_of k, h1, h2⟩
theorem RepKs.any (k : Key) : ∀ {kvs : List (Key × PyData)} {vs : List (Key × V)}, RepKs K Fz H (kvP kvs) vs → (kvs.any fun kv => decide (kv.1 = k)) = vs.any fun kv => decide (kv.1 = k)
  | [], vs, h => by rw [show vs = [] from h]; rfl
  | (j, d) :: r, vs, h => by
    obtain ⟨v, t, rfl, _, h2⟩ := RepKs.head h
    rw [List.any_cons, List.any_cons, RepKs.any k h2]
theorem RepKs.len : ∀ {kvs : List (Key × PyData)} {vs : List (Key × V)}, RepKs K Fz H (kvP kvs) vs → vs.length = kvs.length
  | [], vs, h => by rw [show vs = [] from h]; rfl
  | (j, d) :: r, vs, h => by
    obtain ⟨v, t, rfl, _, h2⟩ := RepKs.head h
    rw [List.length_cons, List.length_cons, RepKs.len h2]
theorem RepKs.repl (k : Key) {d : PyData} {v : V} (h1 : RepP K Fz H d v) : ∀ {kvs : List (Key × PyData)} {vs : List (Key × V)}, RepKs K Fz H (kvP kvs) vs → RepKs K Fz H (kvP (kvs.map fun kv => if kv.1 = k then (kv.1, d) else kv)) (vs.map fun kv => if kv.1 = k then (kv.1, v) else kv)
  | [], vs, h => by rw [show vs = [] from h]; rfl
  | (j, e) :: r, vs, h => by
    obtain ⟨u, t, rfl, hu, h2⟩ := RepKs.head h
    rw [List.map_cons, List.map_cons]
    by_cases z : j = k
    · simp only [z, if_true]
      exact RepKs.mk h1 (RepKs.repl k h1 h2)
    · simp only [z, if_false]
      exact RepKs.mk hu (RepKs.repl k h1 h2)
theorem RepKs.app : ∀ {kvs more : List (Key × PyData)} {vs us : List (Key × V)}, RepKs K Fz H (kvP kvs) vs → RepKs K Fz H (kvP more) us → RepKs K Fz H (kvP (kvs ++ more)) (vs ++ us)
  | [], _, vs, _, h, h' => by rw [show vs = [] from h]; exact h'
  | (j, e) :: r, _, vs, _, h, h' => by
    obtain ⟨u, t, rfl, hu, h2⟩ := RepKs.head h
    exact RepKs.mk hu (RepKs.app h2 h')
theorem RepKs.put (k : Key) {d : PyData} {v : V} (h1 : RepP K Fz H d v) {kvs : List (Key × PyData)} {vs : List (Key × V)} (h : RepKs K Fz H (kvP kvs) vs) : RepKs K Fz H (kvP (putG kvs k d)) (putK vs k v) := by
  unfold putG putK
  rw [RepKs.any k h]
  split
  · exact RepKs.repl k h1 h
  · exact RepKs.app h (RepKs.mk h1 (show RepKs K Fz H (kvP []) [] from rfl))
end
section
variable {X : Cx} {W : WX} {keys : List (Option Expr)} {values : List Expr} {fs : List (EM × EM)} {pos : Pos}
end
end Vl
set_option maxHeartbeats 4000000
namespace Vl
open PySem PySem.Spec PyProof.Rows L2

/-! ## small things for printed texts -/
theorem u65 {k : Nat} {A : Around} (r : Room k A) : A.units + 65 < cLine := by have := r.un; omega
theorem al_nil : ∀ s h ds h', eNil s h = some (.ok ds h') → ds.length = 0 := fun s h ds h' e => by
  cases e
  rfl
theorem al_cons {n : Nat} {f : EM} {g : AM} (i : ∀ s h ds h', g s h = some (.ok ds h') → ds.length = n) : ∀ s h ds h', eCons f g s h = some (.ok ds h') → ds.length = n + 1 := fun s h ds h' e => by
  unfold eCons at e
  cases e1 : f s h with
  | none => simp [e1] at e
  | some r =>
    cases r with
    | ex x h1 => simp [e1] at e
    | ok d h1 =>
      simp only [e1] at e
      cases e2 : g s h1 with
      | none => simp [e2] at e
      | some r2 =>
        cases r2 with
        | ex x h2 => simp [e2] at e
        | ok es h2 =>
          simp only [e2] at e
          cases e
          rw [List.length_cons, i _ _ _ _ e2]
section
variable {X : Cx} {W : WX} {pos : Pos} {x : Str}
theorem se_gInt {i : Int} (hg : Gl X x) (h : ∃ t, X.mg x = some (.int i t)) (hd : (x == ("__debug__" : Str)) = false := by decide) : SE X W (.Name x pos) (eC (.int i)) :=
  let ⟨t, e⟩ := h
  se_glob (v := .int i) hg e ⟨t, rfl⟩ (fun _ => rfl) hd
theorem se_gStr {z : Str} (hg : Gl X x) (h : ∃ t, X.mg x = some (.str z t)) (hd : (x == ("__debug__" : Str)) = false := by decide) : SE X W (.Name x pos) (eC (.str z)) :=
  let ⟨t, e⟩ := h
  se_glob (v := .str z) hg e ⟨t, rfl⟩ (fun _ => rfl) hd
end
def eAdd (f g : EM) : EM := eBin (lift2 addP) f g
def eSub (f g : EM) : EM := eBin (lift2 subP) f g
noncomputable def eMul (f g : EM) : EM := eBin (lift2 mulP) f g
noncomputable def eFdiv (f g : EM) : EM := eBin (lift2 fdivP) f g
def eMod (f g : EM) : EM := eBin (lift2 modP) f g
noncomputable def ePow (f g : EM) : EM := eBin (lift2 powP) f g
def eEq (f g : EM) : EM := eBin (eqD false) f g
def eNe (f g : EM) : EM := eBin (eqD true) f g
def eLt (f g : EM) : EM := eBin (lift2 ltP) f g
def eLe (f g : EM) : EM := eBin (lift2 leP) f g
def eGt (f g : EM) : EM := eBin (lift2 gtP) f g
def eGe (f g : EM) : EM := eBin (lift2 geP) f g
def eIn (f g : EM) : EM := eBin (lift2 (inP false)) f g
def eNin (f g : EM) : EM := eBin (lift2 (inP true)) f g
def eIsN (f g : EM) : EM := eBin (isND false) f g
def eNisN (f g : EM) : EM := eBin (isND true) f g
def eIs (f g : EM) : EM := eBin (lift2 (isBP false)) f g
def eNis (f g : EM) : EM := eBin (lift2 (isBP true)) f g
def eIx (f g : EM) : EM := eBin ixD f g
def eNeg (f : EM) : EM := eUn (lift1 negP) f
section
variable {X : Cx} {W : WX} {a b : Expr} {f g : EM} {pos : Pos}
theorem se_add (ha : SE X W a f) (hb : SE X W b g) : SE X W (.BinOp a .Add b pos) (eAdd f g) := se_op op_addR op_addP.d ha hb
theorem se_sub (ha : SE X W a f) (hb : SE X W b g) : SE X W (.BinOp a .Sub b pos) (eSub f g) := se_op op_sub op_subP.d ha hb
theorem se_mul (ha : SE X W a f) (hb : SE X W b g) : SE X W (.BinOp a .Mult b pos) (eMul f g) := se_op op_mulR op_mulP.d ha hb
theorem se_fdiv (ha : SE X W a f) (hb : SE X W b g) : SE X W (.BinOp a .FloorDiv b pos) (eFdiv f g) := se_op op_fdivW op_fdivP.d ha hb
theorem se_mod (ha : SE X W a f) (hb : SE X W b g) : SE X W (.BinOp a .Mod b pos) (eMod f g) := se_op op_mod op_modP.d ha hb
theorem se_pow (ha : SE X W a f) (hb : SE X W b g) : SE X W (.BinOp a .Pow b pos) (ePow f g) := se_op op_pow op_powP.d ha hb
theorem se_neg (ha : SE X W a f) : SE X W (.UnaryOp .USub a pos) (eNeg f) := se_un un_neg un_negP.d ha
theorem se_idx (ha : SE X W a f) (hb : SE X W b g) (hs : PlainIx b) : SE X W (.Subscript a b pos) (eIx f g) := se_ix ix_seq op_ixD ha hb hs
variable {k : Nat}
theorem se_eq (hr : Room k X.A) (ha : SE X W a f) (hb : SE X W b g) : SE X W (.Compare a [.Eq] [b] pos) (eEq f g) := se_cmp (op_eqA hr.units) op_eqDD ha hb (nomark _)
theorem se_ne (hr : Room k X.A) (ha : SE X W a f) (hb : SE X W b g) : SE X W (.Compare a [.NotEq] [b] pos) (eNe f g) := se_cmp (op_neA hr.units) op_neDD ha hb (nomark _)
theorem se_gt (ha : SE X W a f) (hb : SE X W b g) : SE X W (.Compare a [.Gt] [b] pos) (eGt f g) := se_cmp op_gt op_gtP.d ha hb (nomark _)
theorem se_ge (ha : SE X W a f) (hb : SE X W b g) : SE X W (.Compare a [.GtE] [b] pos) (eGe f g) := se_cmp op_ge op_geP.d ha hb (nomark _)
theorem se_in (hr : Room k X.A) (ha : SE X W a f) (hb : SE X W b g) (hm : behindInMarks .In b = false := by with_unfolding_all rfl) : SE X W (.Compare a [.In] [b] pos) (eIn f g) := se_cmp (op_inR (u65 hr)) (op_inP false).d ha hb hm
theorem se_isN (ha : SE X W a f) (hb : SE X W b g) : SE X W (.Compare a [.Is] [b] pos) (eIsN f g) := se_cmp op_isN op_isNDD ha hb (nomark _)
theorem st_eq (hr : Room k X.A) (ha : SE X W a f) (hb : SE X W b g) : ST X W (.Compare a [.Eq] [b] pos) (tBl (eEq f g)) := st_cmp (op_eqA hr.units) op_eqDD ha hb (nomark _)
theorem st_ne (hr : Room k X.A) (ha : SE X W a f) (hb : SE X W b g) : ST X W (.Compare a [.NotEq] [b] pos) (tBl (eNe f g)) := st_cmp (op_neA hr.units) op_neDD ha hb (nomark _)
theorem st_lt (ha : SE X W a f) (hb : SE X W b g) : ST X W (.Compare a [.Lt] [b] pos) (tBl (eLt f g)) := st_cmp op_lt op_ltP.d ha hb (nomark _)
theorem st_le (ha : SE X W a f) (hb : SE X W b g) : ST X W (.Compare a [.LtE] [b] pos) (tBl (eLe f g)) := st_cmp op_le op_leP.d ha hb (nomark _)
theorem st_gt (ha : SE X W a f) (hb : SE X W b g) : ST X W (.Compare a [.Gt] [b] pos) (tBl (eGt f g)) := st_cmp op_gt op_gtP.d ha hb (nomark _)
theorem st_in (hr : Room k X.A) (ha : SE X W a f) (hb : SE X W b g) (hm : behindInMarks .In b = false := by with_unfolding_all rfl) : ST X W (.Compare a [.In] [b] pos) (tBl (eIn f g)) := st_cmp (op_inR (u65 hr)) (op_inP false).d ha hb hm
theorem st_nin (hr : Room k X.A) (ha : SE X W a f) (hb : SE X W b g) (hm : behindInMarks .NotIn b = false := by with_unfolding_all rfl) : ST X W (.Compare a [.NotIn] [b] pos) (tBl (eNin f g)) := st_cmp (op_notInR (u65 hr)) (op_inP true).d ha hb hm
theorem st_isN (ha : SE X W a f) (hb : SE X W b g) : ST X W (.Compare a [.Is] [b] pos) (tBl (eIsN f g)) := st_cmp op_isN op_isNDD ha hb (nomark _)
theorem st_nisN (ha : SE X W a f) (hb : SE X W b g) : ST X W (.Compare a [.IsNot] [b] pos) (tBl (eNisN f g)) := st_cmp op_notN op_notNDD ha hb (nomark _)
end
/-- the law answers True -/
theorem law_sp {K : KF} {mg : Str → Option Value} {F : Fn} {H : Hp} {a : Addr} {ns : List Int} (hS : SqL K H a (ns.map V.int)) (h : ∃ h', F [.v (.list (ns.map .int))] [] = some (.rt (.v (.bool true)) h')) :
    spF K mg 1 F [.ref a] H (fun v _ => v = .bl true) fun _ _ _ => False := by
  have hr : ∀ Fz, RepPs K Fz H (ns.map .int) (ns.map V.int) := fun Fz => by
    clear h hS
    induction ns with
    | nil => rfl
    | cons n r ih => exact ⟨_, _, rfl, rfl, ih⟩
  obtain ⟨h', e⟩ := h
  rcases hS with hS | hS
  · refine ⟨⟨[], fun b => b = a, [], H⟩, [.v (.list (ns.map .int))], rfl, ⟨List.nodup_nil, rfl, fun n a c h => (by simp at h), fun _ _ z => (by cases z), fun b e => ?_⟩, ⟨.ref a, [], rfl, ⟨a, _, rfl, .inl ⟨rfl, hS⟩, hr _⟩, rfl⟩, rfl, ?_⟩
    · subst e
      rcases hS with h | ⟨o, h⟩
      · show H b ≠ none
        rw [h]
        exact fun z => by cases z
      · show H b ≠ none
        rw [h]
        exact fun z => by cases z
    · unfold WpF
      show match F _ [] with
        | some (.rt d h') => _
        | some (.ex x h') => _
        | none => False
      rw [e]
      exact fun w' v _ _ _ r => r
  · refine ⟨⟨[], fun _ => False, [], H⟩, [.v (.list (ns.map .int))], rfl, ⟨List.nodup_nil, rfl, fun n a c h => (by simp at h), fun _ _ z => (by cases z), fun b e => e.elim⟩, ⟨.ref a, [], rfl, ⟨a, _, rfl, .inr hS, hr _⟩, rfl⟩, rfl, ?_⟩
    unfold WpF
    show match F _ [] with
      | some (.rt d h') => _
      | some (.ex x h') => _
      | none => False
    rw [e]
    exact fun w' v _ _ _ r => r
end Vl
set_option maxHeartbeats 4000000
namespace Vl
open PySem PySem.Spec PyProof.Rows L2

/-! ## range down -/
section
variable {X : Cx} {W : WX} {tg a b c : Expr} {f g k : EM} {pos p : Pos}
end
end Vl
set_option maxHeartbeats 4000000
namespace Vl
open PySem PySem.Spec PyProof.Rows L2

/-! ## zip of anything: lists, tuples, texts -/
inductive Src where
  | lst (a : Addr)
  | tup (a : Addr)
  | txt (z : Str)
def Src.v : Src → V
  | .lst a => .ref a
  | .tup a => .ref a
  | .txt z => .str z
def Src.has (K : KF) (H : Hp) : Src → List V → Prop
  | .lst a, xs => SqL K H a xs
  | .tup a, xs => SqT K H a xs
  | .txt z, xs => xs = signsV z
def Src.fp (it : Addr) : Src → List Addr
  | .lst a => [it, a]
  | .tup a => [it, a]
  | .txt _ => [it]
def Src.at (it : Addr) : Src → Nat → Heap → Prop
  | .lst a, i, h => h.IsListIter it a i
  | .tup a, i, h => h.IsTupleIter it a i
  | .txt z, i, h => ∃ t, h.IsStrIter it (strIterType z) z t i
theorem signs_at {z : Str} {i : Nat} {v : Value} (h : ∃ c u, z.cps[i]? = some c ∧ v = .str ⟨#[c]⟩ u) : ∃ x, (signsV z)[i]? = some x ∧ RelV x v := by
  obtain ⟨c, u, hc, rfl⟩ := h
  refine ⟨.str ⟨#[c]⟩, ?_, u, rfl⟩
  unfold signsV
  rw [List.getElem?_map, Array.getElem?_toList, hc]
  rfl
theorem vals_back : ∀ {xs : List V} {us : List Value} {j : Nat} {u : Value}, Vals xs us → us[j]? = some u → ∃ x, xs[j]? = some x ∧ RelV x u
  | _, _, j, _, .nil, h => by simp at h
  | _, _, 0, _, .cons r _, h => by
    cases h
    exact ⟨_, rfl, r⟩
  | _, _, j + 1, _, .cons _ t, h => vals_back (j := j) t (by simpa using h)
section
variable {X : Cx} {pins : List (Addr × Obj)} {σ : L2.St} {H : Hp} {s : Shared} {sr : Src} {it : Addr} {xs ys : List V} {i : Nat}
theorem Src.inj (I : Inv X pins σ H s) (h : sr.has X.K H xs) (h' : sr.has X.K H ys) : xs = ys := by
  cases sr with
  | lst a => exact I.list_inj h h'
  | tup a => exact I.tuple_inj h h'
  | txt z => exact (show xs = signsV z from h).trans (show ys = signsV z from h').symm
theorem Src.obj {h : Heap} (st : sr.at it i h) : ∃ o, h.get? it = some o ∧ ∀ v, o.data ≠ .cell v := by
  cases sr with
  | lst a => obtain ⟨o, e, _, d⟩ := st; exact ⟨o, e, fun v q => by rw [d] at q; cases q⟩
  | tup a => obtain ⟨o, e, _, d⟩ := st; exact ⟨o, e, fun v q => by rw [d] at q; cases q⟩
  | txt z => obtain ⟨t, o, e, _, d⟩ := st; exact ⟨o, e, fun v q => by rw [d] at q; cases q⟩
theorem Src.keep {h h' : Heap} (st : sr.at it i h) (k : ∀ o, h.get? it = some o → h'.get? it = some o) : sr.at it i h' := by
  cases sr with
  | lst a => exact st.at k
  | tup a => exact st.at k
  | txt z => obtain ⟨t, o, e, r⟩ := st; exact ⟨t, o, k o e, r⟩
theorem Src.draws (I : Inv X pins σ H s) (hc : X.calm = true) (hs : ∀ a ∈ sr.fp it, a = it ∨ a ≠ it) (ha : ∀ a, (sr = .lst a ∨ sr = .tup a) → a ≠ it) (h : sr.has X.K H xs) (st : sr.at it i s.heap) :
    ∃ (P : Nat → Value → Prop) (St : Nat → Heap → Prop), Draws X.prog X.w X.A.in1 it (sr.fp it) xs.length P St ∧ (∀ j v, P j v → ∃ x, xs[j]? = some x ∧ RelV x v) ∧ St i s.heap ∧ ∀ j h', St j h' → sr.at it j h' := by
  have hh : X.A.in1.handled = none := I.ok.hd hc
  cases sr with
  | lst a =>
    obtain ⟨its, rv, p, _⟩ := I.list h
    have e : its.toArray.size = xs.length := by rw [List.size_toArray, rv.length]
    refine ⟨fun j v => its.toArray[j]? = some v, fun j h' => h'.IsListIter it a j ∧ h'.IsList a its.toArray, e ▸ Draws.list hh it a (ha a (.inl rfl)) its.toArray, fun j v hv => ?_, ⟨st, p.isList⟩, fun j h' z => z.1⟩
    obtain ⟨x, hx, rx⟩ := vals_back rv (by simpa using hv)
    exact ⟨x, hx, rx⟩
  | tup a =>
    obtain ⟨its, rv, p, _⟩ := I.tuple h
    have e : its.toArray.size = xs.length := by rw [List.size_toArray, rv.length]
    refine ⟨fun j v => its.toArray[j]? = some v, fun j h' => h'.IsTupleIter it a j ∧ h'.IsTuple a its.toArray, e ▸ Draws.tuple hh it a (ha a (.inr rfl)) its.toArray, fun j v hv => ?_, ⟨st, p⟩, fun j h' z => z.1⟩
    obtain ⟨x, hx, rx⟩ := vals_back rv (by simpa using hv)
    exact ⟨x, hx, rx⟩
  | txt z =>
    cases (show xs = signsV z from h)
    obtain ⟨t, st⟩ := st
    have e : z.cps.size = (signsV z).length := by unfold signsV; rw [List.length_map, Array.length_toList]
    exact ⟨_, _, e ▸ Draws.text hh it z t, fun j v hv => signs_at hv, st, fun j h' q => ⟨t, q⟩⟩
theorem Src.begins (I : Inv X pins σ H s) {u : Value} (h : sr.has X.K H xs) (r : RelV sr.v u) : ∃ (o : Obj) (Hc : Heap → Prop), Begins u o Hc ∧ Hc s.heap ∧ (∀ (h' : Heap) (j : Addr), h'.get? j = some o → sr.at j 0 h') ∧ ∀ a, (sr = .lst a ∨ sr = .tup a) → a < s.heap.objs.size := by
  cases sr with
  | lst a =>
    cases r
    obtain ⟨its, rv, p, _⟩ := I.list h
    exact ⟨_, _, begins_list a its.toArray, p.isList, fun h' j e => ⟨_, e, rfl, rfl⟩, fun b e => by rcases e with e | e <;> cases e; exact p.lt⟩
  | tup a =>
    cases r
    obtain ⟨its, rv, p, _⟩ := I.tuple h
    obtain ⟨o, ho, _⟩ := id p
    exact ⟨_, _, begins_tuple a its.toArray, p, fun h' j e => ⟨_, e, rfl, rfl⟩, fun b e => by rcases e with e | e <;> cases e; exact Heap.lt_size ho⟩
  | txt z =>
    obtain ⟨t, rfl⟩ := r
    exact ⟨_, _, begins_text z t, trivial, fun h' j e => ⟨t, _, e, rfl, rfl⟩, fun b e => by rcases e with e | e <;> cases e⟩
end
/-- the sources as they stand at each turn, the items in new pairs -/
def ItzS (K : KF) (s1 s2 : Src) : It :=
  ⟨fun i H => ∃ xs ys : List V, s1.has K H xs ∧ s2.has K H ys ∧ i < min xs.length ys.length,
    fun i H v H' => ∃ T x y, v = .ref T ∧ H T = none ∧ H' = upd H T (.tup [x, y]) ∧ (∀ xs, s1.has K H xs → xs[i]? = some x) ∧ ∀ ys, s2.has K H ys → ys[i]? = some y,
    fun i H => ∃ xs ys : List V, s1.has K H xs ∧ s2.has K H ys ∧ i = min xs.length ys.length⟩
theorem turn_zipS {P : Program} {w : World} {K : KF} {elts : List Expr} {kk : Nat} {tpos : Pos} {s1 s2 : Src} {z TI TO i1 i2 : Addr} (S : ZipSep2 z TI TO i1 i2 (s1.fp i1) (s2.fp i2)) (ha : ∀ a, (s1 = .lst a ∨ s1 = .tup a) → a ≠ i1) (hb : ∀ a, (s2 = .lst a ∨ s2 = .tup a) → a ≠ i2) (h1f : ∀ a ∈ s1.fp i1, a = i1 ∨ a ≠ i1) (h2f : ∀ a ∈ s2.fp i2, a = i2 ∨ a ≠ i2) :
    Turn P w K (.Tuple elts kk tpos) (ItzS K s1 s2) [z, TI, TO, i1, i2] z (fun i h => IsZip h z TI TO .none ∧ IsTupOf2 h TI (.ref i1) (.ref i2) ∧ (∃ x y, IsTupOf2 h TO x y) ∧ s1.at i1 i h ∧ s2.at i2 i h) where
  mem := by simp
  obj := fun i h st c hc => by
    obtain ⟨hz, hTI, ⟨x, y, hTO⟩, h1, h2⟩ := st
    have e' : c = z ∨ c = TI ∨ c = TO ∨ c = i1 ∨ c = i2 := by simpa using hc
    rcases e' with rfl | rfl | rfl | rfl | rfl
    · exact ⟨_, hz, fun v q => nomatch q⟩
    · exact ⟨_, hTI, fun v q => nomatch q⟩
    · exact ⟨_, hTO, fun v q => nomatch q⟩
    · exact Src.obj h1
    · exact Src.obj h2
  keep := fun i h h' st k => by
    obtain ⟨hz, hTI, ⟨x, y, hTO⟩, h1, h2⟩ := st
    exact ⟨k z (by simp) _ hz, k TI (by simp) _ hTI, ⟨x, y, k TO (by simp) _ hTO⟩, Src.keep h1 fun o q => k i1 (by simp) o q, Src.keep h2 fun o q => k i2 (by simp) o q⟩
  item := by
    intro X hP hw hK hc i pins s σ H E I hf st hg
    subst hP hw hK
    obtain ⟨hz, hTI, ⟨x0, y0, hTO⟩, h1, h2⟩ := st
    obtain ⟨xs, ys, hx, hy, hlt⟩ := hg
    obtain ⟨P1, St1, D1, p1, st1, b1⟩ := Src.draws I hc h1f ha hx h1
    obtain ⟨P2, St2, D2, p2, st2, b2⟩ := Src.draws I hc h2f hb hy h2
    have W := GoesN.zip2 (elts := elts) (x1 := kk) (pos := tpos) S D1 D2
    refine W.goes i s (fun v s2 => ∃ x H', Inv X pins σ H' s2 ∧ RelV x v ∧ _ ∧ _ ∧ _) E hlt ⟨hz, hTI, ⟨_, _, hTO⟩, st1, st2⟩ fun v h' tk hY st' hk htk => ?_
    obtain ⟨T, u, u2, rfl, hT, q1, q2, hTT⟩ := hY
    obtain ⟨hz', hTI', ⟨x1, y1, hTO'⟩, st1', st2'⟩ := st'
    obtain ⟨x, ex, rx⟩ := p1 i u q1
    obtain ⟨y, ey, ry⟩ := p2 i u2 q2
    have new : ObjOk X.prog X.w (upd H T (.tup [x, y])) h' T (.tup [x, y]) :=
      ⟨by show 2 ≤ sizeLine; decide, [u, u2], .cons rx (.cons ry .nil), hTT⟩
    have I1 : Inv X pins σ (upd H T (.tup [x, y])) { s with heap := h', toks := tk } :=
      I.turnedNew (ch := [z, TI, TO, i1, i2]) (fun b o hb q => hk b o (fun m => hb (by
        have m' : b = z ∨ b = TO ∨ b = i1 ∨ b = i2 := by simpa using m
        rcases m' with rfl | rfl | rfl | rfl <;> simp)) q) hf hT new
    refine ⟨.ref T, _, I1, rfl, ⟨T, x, y, rfl, I.hok.fresh hT, rfl, fun l hl => by rw [Src.inj I hl hx]; exact ex, fun l hl => by rw [Src.inj I hl hy]; exact ey⟩, ⟨hz', hTI', ⟨_, _, hTO'⟩, b1 _ _ st1', b2 _ _ st2'⟩, fun c hcm => ?_⟩
    have hlt : c < s.heap.objs.size := by
      have e' : c = z ∨ c = TI ∨ c = TO ∨ c = i1 ∨ c = i2 := by simpa using hcm
      rcases e' with rfl | rfl | rfl | rfl | rfl
      · exact Heap.lt_size hz
      · exact Heap.lt_size hTI
      · exact Heap.lt_size hTO
      · obtain ⟨_, e1, _⟩ := Src.obj h1; exact Heap.lt_size e1
      · obtain ⟨_, e1, _⟩ := Src.obj h2; exact Heap.lt_size e1
    rw [upd_ne (Nat.ne_of_lt (Nat.lt_of_lt_of_le hlt hT))]
    exact (hf c hcm).1
  done := by
    intro X hP hw hK hc i pins s σ H E I hf st hg
    subst hP hw hK
    obtain ⟨hz, hTI, ⟨x0, y0, hTO⟩, h1, h2⟩ := st
    obtain ⟨xs, ys, hx, hy, rfl⟩ := hg
    obtain ⟨P1, St1, D1, p1, st1, b1⟩ := Src.draws I hc h1f ha hx h1
    obtain ⟨P2, St2, D2, p2, st2, b2⟩ := Src.draws I hc h2f hb hy h2
    have W := GoesN.zip2 (elts := elts) (x1 := kk) (pos := tpos) S D1 D2
    refine W.stops s (fun s1 => Inv X pins σ H s1) E ⟨hz, hTI, ⟨_, _, hTO⟩, st1, st2⟩ fun h' tk hk htk => ?_
    exact I.turnedL (t' := tk) (ch := [z, TI, TO, i1, i2]) (fun b o hb q => hk b o (fun m => hb (by
      have m' : b = z ∨ b = TO ∨ b = i1 ∨ b = i2 := by simpa using m
      rcases m' with rfl | rfl | rfl | rfl <;> simp)) q) hf
  self := fun A i s Q E st h => wpAny_pyIter_zip st.1 h
def iZipS (K : KF) (ta : TA) : TI := fun σ H R => ta σ H fun vs H1 => ∃ s1 s2 xs ys, vs = [s1.v, s2.v] ∧ s1.has K H1 xs ∧ s2.has K H1 ys ∧ R (ItzS K s1 s2) H1
theorem pi_zipS {X : Cx} {e e2 : Expr} {ta : TA} {p pos tpos : Pos} {elts : List Expr} {kk : Nat} (hg : Gl X "zip") (hm : X.mg "zip" = none) (ha : PA X [e, e2] ta)
    (hs : starEach [e, e2] X.env = (false, eval e X.env) :: starEach [e2] X.env := by rfl) (hpl : (backTo pos (starEach [e2] X.env)).any (·.1) = false := by rfl) :
    PI X (.Tuple elts kk tpos) (.Call (.Name "zip" p) [e, e2] [] pos) (iZipS X.K ta) := by
  refine ⟨fun pins s σ H R I h => ?_⟩
  refine Call_ (ld_blt I hg hm PyProof.Rows.boot_zip (PyProof.Rows.callWith_type1 (thn (ha.run pos pins s σ H _ I h) fun us s1 ⟨vs, H1, I1, r1, q1⟩ => ?_) hs hpl))
  obtain ⟨a, b, xs, ys, rfl, hx, hy, q⟩ := q1
  cases r1 with
  | cons r rr =>
    cases rr with
    | cons r' rr =>
      cases rr
      obtain ⟨o1, C1, B1, c1, k1, l1⟩ := Src.begins I1 hx r
      obtain ⟨o2, C2, B2, c2, k2, l2⟩ := Src.begins I1 hy r'
      refine zip_begins2 B1 B2 c1 c2 fun h' hz hTI hTO e1 e2 hsz hk => wpAny_pyIter_zip hz ?_
      have I2 : Inv X pins σ H1 { s1 with heap := h' } := I1.kept (t' := s1.toks) hk
      have m1 : ∀ c, c ∈ a.fp s1.heap.objs.size → c = s1.heap.objs.size ∨ c < s1.heap.objs.size := fun c hc => by
        cases a with
        | lst x =>
          have : c = s1.heap.objs.size ∨ c = x := by simpa [Src.fp] using hc
          rcases this with rfl | rfl
          · exact .inl rfl
          · exact .inr (l1 _ (.inl rfl))
        | tup x =>
          have : c = s1.heap.objs.size ∨ c = x := by simpa [Src.fp] using hc
          rcases this with rfl | rfl
          · exact .inl rfl
          · exact .inr (l1 _ (.inr rfl))
        | txt x => exact .inl (by simpa [Src.fp] using hc)
      have m2 : ∀ c, c ∈ b.fp (s1.heap.objs.size + 1) → c = s1.heap.objs.size + 1 ∨ c < s1.heap.objs.size := fun c hc => by
        cases b with
        | lst x =>
          have : c = s1.heap.objs.size + 1 ∨ c = x := by simpa [Src.fp] using hc
          rcases this with rfl | rfl
          · exact .inl rfl
          · exact .inr (l2 _ (.inl rfl))
        | tup x =>
          have : c = s1.heap.objs.size + 1 ∨ c = x := by simpa [Src.fp] using hc
          rcases this with rfl | rfl
          · exact .inl rfl
          · exact .inr (l2 _ (.inr rfl))
        | txt x => exact .inl (by simpa [Src.fp] using hc)
      have n1 : ∀ k : Nat, s1.heap.objs.size + (k + 1) ∉ a.fp s1.heap.objs.size := fun k m => by
        rcases m1 _ m with q | q
        · have q' : (s1.heap.objs.size + (k + 1) : Nat) = s1.heap.objs.size := q
          omega
        · have q' : (s1.heap.objs.size + (k + 1) : Nat) < s1.heap.objs.size := q
          omega
      have n2 : ∀ k : Nat, k ≠ 1 → s1.heap.objs.size + k ∉ b.fp (s1.heap.objs.size + 1) := fun k hk m => by
        rcases m2 _ m with q | q
        · have q' : (s1.heap.objs.size + k : Nat) = s1.heap.objs.size + 1 := q
          omega
        · have q' : (s1.heap.objs.size + k : Nat) < s1.heap.objs.size := q
          omega
      have ne : ∀ j k : Nat, j ≠ k → (s1.heap.objs.size + j : Nat) ≠ s1.heap.objs.size + k := fun j k h => by omega
      have S : ZipSep2 (s1.heap.objs.size + 4) (s1.heap.objs.size + 2) (s1.heap.objs.size + 3) s1.heap.objs.size (s1.heap.objs.size + 1) (a.fp s1.heap.objs.size) (b.fp (s1.heap.objs.size + 1)) :=
        ⟨ne 2 4 (by decide), ne 3 4 (by decide), ne 2 3 (by decide), ne 2 0 (by decide), by cases a <;> simp [Src.fp], n1 3, n1 2, ne 2 1 (by decide), by cases b <;> simp [Src.fp], n2 4 (by decide), n2 3 (by decide), n2 0 (by decide), n1 0⟩
      refine ⟨s1.heap.objs.size + 4, [s1.heap.objs.size + 4, s1.heap.objs.size + 2, s1.heap.objs.size + 3, s1.heap.objs.size, s1.heap.objs.size + 1], _, _, H1, rfl, I2,
        turn_zipS S (fun x hx => Nat.ne_of_lt (l1 x hx)) (fun x hx => Nat.ne_of_lt (Nat.lt_succ_of_lt (l2 x hx))) (fun c _ => Classical.em _) (fun c _ => Classical.em _), ⟨hz, hTI, ⟨_, _, hTO⟩, k1 _ _ e1, k2 _ _ e2⟩, fun c hcm => ?_, q⟩
      have hle : s1.heap.objs.size ≤ c := by
        have e' : c = s1.heap.objs.size + 4 ∨ c = s1.heap.objs.size + 2 ∨ c = s1.heap.objs.size + 3 ∨ c = s1.heap.objs.size ∨ c = s1.heap.objs.size + 1 := by simpa using hcm
        rcases e' with rfl | rfl | rfl | rfl | rfl
        · exact Nat.le_add_right _ _
        · exact Nat.le_add_right _ _
        · exact Nat.le_add_right _ _
        · exact Nat.le_refl _
        · exact Nat.le_add_right _ _
      exact I1.fpOk hle (I1.hok.fresh hle)
def srcD (d : D) (h : Hs) : Option (List D × Option (Nat × List D)) := match d with
  | .v (.list ds) => some (ds.map .v, none)
  | .v (.tuple ds) => some (ds.map .v, none)
  | .v (.str z) => if z.length ≤ sizeLine then some (signsD z, none) else none
  | .ref n => match h[n]? with
    | some (.lst xs) => some (xs, some (n, xs))
    | _ => none
  | .mix xs => some (xs, none)
  | _ => none
theorem signsD_rep {K : KF} {w : Wd} (z : Str) : RepDs K w (signsD z) (signsV z) := by
  unfold signsD signsV
  induction z.cps.toList with
  | nil => rfl
  | cons c r ih => exact ⟨_, _, rfl, rfl, ih⟩
theorem src_at {K : KF} {w : Wd} {d : D} {x : V} {items : List D} {gd : Option (Nat × List D)} (ok : w.Ok K) (r : RepD K w d x) (e : srcD d w.h = some (items, gd)) :
    ∃ sr : Src, x = sr.v ∧ ∀ w2, w.Le w2 → w2.Ok K → gok gd w2.h → ∃ vs, sr.has K w2.H vs ∧ RepDs K w2 items vs := by
  cases d with
  | v d =>
    cases d with
    | list ds =>
      cases e
      obtain ⟨a, vs, rfl, ht, hr⟩ := r
      exact ⟨.lst a, rfl, fun w2 l2 ok2 _ => ⟨vs, (LRd.keepW ok l2 ht).sql, RepDs.ofP (RepPs.mono ok l2 ds hr)⟩⟩
    | tuple ds =>
      cases e
      obtain ⟨a, vs, rfl, ht, hr⟩ := r
      exact ⟨.tup a, rfl, fun w2 l2 ok2 _ => ⟨vs, SqT.keepW ok l2 ht, RepDs.ofP (RepPs.mono ok l2 ds hr)⟩⟩
    | str z =>
      simp only [srcD] at e
      split at e
      · cases e
        exact ⟨.txt z, r, fun w2 l2 ok2 _ => ⟨signsV z, rfl, signsD_rep z⟩⟩
      · cases e
    | _ => cases e
  | ref n =>
    obtain ⟨a, ha, rfl⟩ := r
    simp only [srcD] at e
    cases q : w.h[n]? with
    | none => simp [q] at e
    | some c =>
      cases c with
      | lst ys =>
        simp [q] at e
        obtain ⟨rfl, rfl⟩ := e
        refine ⟨.lst a, rfl, fun w2 l2 ok2 hg => ?_⟩
        obtain ⟨m, em, _⟩ := l2.more
        have ha2 : w2.ι[n]? = some a := by
          rw [em, List.getElem?_append_left (List.getElem?_eq_some_iff.mp ha).1]
          exact ha
        obtain ⟨vs2, hH, hr2⟩ := ok2.cell n a _ ha2 hg
        exact ⟨vs2, .inl (.inl hH), hr2⟩
      | _ => simp [q] at e
  | mix xs =>
    cases e
    obtain ⟨a, vs, rfl, ht, hr⟩ := r
    exact ⟨.tup a, rfl, fun w2 l2 ok2 _ => ⟨vs, SqT.keepW ok l2 ht, RepDs.mono ok l2 _ hr⟩⟩
  | exc c fs => cases e
theorem src_gok {h : Hs} {d : D} {items : List D} {gd : Option (Nat × List D)} (e : srcD d h = some (items, gd)) : gok gd h := by
  cases d with
  | v d =>
    cases d with
    | list ds => cases e; trivial
    | tuple ds => cases e; trivial
    | str z =>
      simp only [srcD] at e
      split at e
      · cases e; trivial
      · cases e
    | _ => cases e
  | ref n =>
    simp only [srcD] at e
    cases q : h[n]? with
    | none => simp [q] at e
    | some c =>
      cases c with
      | lst ys =>
        simp [q] at e
        obtain ⟨rfl, rfl⟩ := e
        exact q
      | _ => simp [q] at e
  | mix xs => cases e; trivial
  | exc c fs => cases e
def kZipS : KI := fun ds h => match ds with
  | [d, e] => match srcD d h, srcD e h with
    | some (xs, none), some (ys, g) => if xs.length ≤ sizeLine then some (zipI xs ys, g) else none
    | some (xs, some g), some (ys, none) => if xs.length ≤ sizeLine then some (zipI xs ys, some g) else none
    | _, _ => none
  | _ => none
theorem its_zipS {K : KF} {w : Wd} {s1 s2 : Src} {xs ys : List D} {gd : Option (Nat × List D)} (hz : xs.length ≤ sizeLine) (st : ∀ w2, w.Le w2 → w2.Ok K → gok gd w2.h → ∃ vs, s1.has K w2.H vs ∧ RepDs K w2 xs vs) (st' : ∀ w2, w.Le w2 → w2.Ok K → gok gd w2.h → ∃ vs, s2.has K w2.H vs ∧ RepDs K w2 ys vs) : Its K (ItzS K s1 s2) (zipI xs ys) gd w where
  len := by rw [zipI_len]; omega
  go := fun i w2 l2 ok2 hg hi => by
    rw [zipI_len] at hi
    have h1 : i < xs.length := by omega
    have h2 : i < ys.length := by omega
    obtain ⟨vs, hS, hr⟩ := st w2 l2 ok2 hg
    obtain ⟨us, hS', hr'⟩ := st' w2 l2 ok2 hg
    obtain ⟨v, hv, rv⟩ := RepDs.get hr (List.getElem?_eq_getElem h1)
    obtain ⟨u, hu, ru⟩ := RepDs.get hr' (List.getElem?_eq_getElem h2)
    refine ⟨⟨vs, us, hS, hS', by rw [hr.len, hr'.len]; exact hi⟩, fun x H' y => ?_⟩
    obtain ⟨T, v', u', rfl, hT, rfl, hv', hu'⟩ := y
    have e1 := hv' vs hS
    have e2 := hu' us hS'
    rw [hv] at e1
    rw [hu] at e2
    cases e1
    cases e2
    obtain ⟨w3, l3, ok3, eh, eH, r3⟩ := pair_new ok2 hT rv ru
    exact ⟨w3, _, l3, ok3, eh, eH, zipI_get i xs ys _ _ (List.getElem?_eq_getElem h1) (List.getElem?_eq_getElem h2), r3⟩
  stop := fun i w2 l2 ok2 hg hi he => by
    rw [zipI_len] at he
    obtain ⟨vs, hS, hr⟩ := st w2 l2 ok2 hg
    obtain ⟨us, hS', hr'⟩ := st' w2 l2 ok2 hg
    exact ⟨vs, us, hS, hS', by rw [hr.len, hr'.len]; exact he⟩
theorem si_zipS {X : Cx} {W : WX} {a b : Expr} {f g : EM} {p pos : Pos} {tpos : Pos} {elts : List Expr} {kk : Nat} (hg : Gl X "zip") (hm : X.mg "zip" = none) (ha : SE X W a f) (hb : SE X W b g) (hs : starEach [a, b] X.env = (false, eval a X.env) :: starEach [b] X.env := by rfl) (hs2 : starEach [b] X.env = (false, eval b X.env) :: starEach [] X.env := by rfl)
    (hpl : (backTo pos (starEach [b] X.env)).any (·.1) = false := by rfl) : SI X W (.Tuple elts kk tpos) (.Call (.Name "zip" p) [a, b] [] pos) (iP (eCons f (eCons g eNil)) kZipS) :=
  PI.mono' (pi_zipS hg hm (sa_cons ha (sa_cons hb sa_nil hs2) hs) hs hpl) fun σ H R ⟨w, sl, eH, ok, hs, h⟩ => by
    subst eH
    refine tIP_bind ok hs h fun ds vs w1 items gd l1 ok1 r1 ek q => ?_
    unfold kZipS at ek
    split at ek
    · rename_i d e
      obtain ⟨v, vr, rfl, q1, v2, vr2, rfl, q2, q3⟩ := r1
      cases (show vr2 = [] from q3)
      split at ek
      · rename_i xs ys gg e1 e2
        split at ek
        · rename_i hz
          cases ek
          obtain ⟨s1, rfl, t1⟩ := src_at ok1 q1 e1
          obtain ⟨s2, rfl, t2⟩ := src_at ok1 q2 e2
          obtain ⟨us, h1, _⟩ := t1 w1 (Wd.Le.refl w1) ok1 trivial
          obtain ⟨us2, h2, _⟩ := t2 w1 (Wd.Le.refl w1) ok1 (src_gok e2)
          exact ⟨s1, s2, us, us2, rfl, h1, h2, q _ (its_zipS hz (fun w2 l2 o2 _ => t1 w2 l2 o2 trivial) t2)⟩
        · cases ek
      · rename_i xs gg ys e1 e2
        split at ek
        · rename_i hz
          cases ek
          obtain ⟨s1, rfl, t1⟩ := src_at ok1 q1 e1
          obtain ⟨s2, rfl, t2⟩ := src_at ok1 q2 e2
          obtain ⟨us, h1, _⟩ := t1 w1 (Wd.Le.refl w1) ok1 (src_gok e1)
          obtain ⟨us2, h2, _⟩ := t2 w1 (Wd.Le.refl w1) ok1 trivial
          exact ⟨s1, s2, us, us2, rfl, h1, h2, q _ (its_zipS hz t1 (fun w2 l2 o2 _ => t2 w2 l2 o2 trivial))⟩
        · cases ek
      · cases ek
    · cases ek
end Vl
set_option maxHeartbeats 4000000
namespace Vl
open PySem PySem.Spec PyProof.Rows L2

/-! ## the plain side: how the pieces reckon -/
section
variable {g : GM} {t : TM} {f : EM} {body : SM} {s : Sl} {h : Hs}
end
end Vl
set_option maxHeartbeats 4000000
namespace Vl
open PySem PySem.Spec PyProof.Rows L2

/-! ## how the pieces reckon, for simp -/
section
variable (s : Sl) (h : Hs) (f g e1 e2 e3 : EM) (a b : AM) (t u : TM) (p q : SM) (x y d : D) (gm : GM) (gs : GsM)
@[simp] theorem z_c (p : PyData) : eC p s h = some (.ok (.v p) h) := rfl
@[simp] theorem z_var (i : Nat) : eVar i s h = match s[i]? with
  | some (some d) => some (.ok d h)
  | _ => none := rfl
@[simp] theorem z_bind (k : D → EM) : EM.bind f k s h = match f s h with
  | some (.ok d h') => k d s h'
  | some (.ex x h') => some (.ex x h')
  | none => none := rfl
@[simp] theorem z_lift (k : Hs → Option D) : EM.lift k s h = match k h with
  | some d => some (.ok d h)
  | none => none := rfl
@[simp] theorem z_bin (k : D → D → Hs → Option D) : eBin k f g s h = match f s h with
  | some (.ok x h1) => (match g s h1 with
    | some (.ok y h2) => (match k x y h2 with
      | some z => some (.ok z h2)
      | none => none)
    | some (.ex x h2) => some (.ex x h2)
    | none => none)
  | some (.ex x h1) => some (.ex x h1)
  | none => none := rfl
@[simp] theorem z_un (k : D → Hs → Option D) : eUn k f s h = match f s h with
  | some (.ok x h1) => (match k x h1 with
    | some z => some (.ok z h1)
    | none => none)
  | some (.ex x h1) => some (.ex x h1)
  | none => none := rfl
@[simp] theorem z_Add : eAdd f g s h = eBin (lift2 addP) f g s h := rfl
@[simp] theorem z_Sub : eSub f g s h = eBin (lift2 subP) f g s h := rfl
@[simp] theorem z_Mul : eMul f g s h = eBin (lift2 mulP) f g s h := rfl
@[simp] theorem z_Fdiv : eFdiv f g s h = eBin (lift2 fdivP) f g s h := rfl
@[simp] theorem z_Mod : eMod f g s h = eBin (lift2 modP) f g s h := rfl
@[simp] theorem z_Pow : ePow f g s h = eBin (lift2 powP) f g s h := rfl
@[simp] theorem z_Eq : eEq f g s h = eBin (eqD false) f g s h := rfl
@[simp] theorem z_Ne : eNe f g s h = eBin (eqD true) f g s h := rfl
@[simp] theorem z_Lt : eLt f g s h = eBin (lift2 ltP) f g s h := rfl
@[simp] theorem z_Le : eLe f g s h = eBin (lift2 leP) f g s h := rfl
@[simp] theorem z_Gt : eGt f g s h = eBin (lift2 gtP) f g s h := rfl
@[simp] theorem z_Ge : eGe f g s h = eBin (lift2 geP) f g s h := rfl
@[simp] theorem z_In : eIn f g s h = eBin (lift2 (inP false)) f g s h := rfl
@[simp] theorem z_Nin : eNin f g s h = eBin (lift2 (inP true)) f g s h := rfl
@[simp] theorem z_IsN : eIsN f g s h = eBin (isND false) f g s h := rfl
@[simp] theorem z_NisN : eNisN f g s h = eBin (isND true) f g s h := rfl
@[simp] theorem z_Is : eIs f g s h = eBin (lift2 (isBP false)) f g s h := rfl
@[simp] theorem z_Nis : eNis f g s h = eBin (lift2 (isBP true)) f g s h := rfl
@[simp] theorem z_Ix : eIx f g s h = eBin (ixD) f g s h := rfl
@[simp] theorem z_neg : eNeg f s h = eUn (lift1 negP) f s h := rfl
@[simp] theorem z_nil : eNil s h = some (.ok [] h) := rfl
@[simp] theorem z_cons : eCons f a s h = match f s h with
  | some (.ok d h1) => (match a s h1 with
    | some (.ok ds h2) => some (.ok (d :: ds) h2)
    | some (.ex x h2) => some (.ex x h2)
    | none => none)
  | some (.ex x h1) => some (.ex x h1)
  | none => none := rfl
@[simp] theorem z_a (k : List D → EM) : eA a k s h = match a s h with
  | some (.ok ds h1) => k ds s h1
  | some (.ex x h1) => some (.ex x h1)
  | none => none := rfl
@[simp] theorem z_b (k : List D → Hs → Option D) : eB k a s h = match a s h with
  | some (.ok ds h1) => (match k ds h1 with
    | some z => some (.ok z h1)
    | none => none)
  | some (.ex x h1) => some (.ex x h1)
  | none => none := rfl
@[simp] theorem z_tup : eTup a s h = match a s h with
  | some (.ok ds h1) => if ds.length ≤ 1000 then some (.ok (mkTup ds) h1) else none
  | some (.ex x h1) => some (.ex x h1)
  | none => none := by
  unfold eTup eA kTup EM.lift
  cases a s h with
  | none => rfl
  | some r =>
    cases r with
    | ex x h1 => rfl
    | ok ds h1 =>
      by_cases z : ds.length ≤ 1000
      · simp only [z, if_true]
      · simp only [z, if_false]
@[simp] theorem z_lst : eLst a s h = match a s h with
  | some (.ok ds h1) => if ds.length ≤ 1000 then (match unvs ds with
    | some ps => some (.ok (.v (.list ps)) h1)
    | none => none) else none
  | some (.ex x h1) => some (.ex x h1)
  | none => none := by
  unfold eLst eA kLst EM.lift
  cases a s h with
  | none => rfl
  | some r =>
    cases r with
    | ex x h1 => rfl
    | ok ds h1 =>
      by_cases z : ds.length ≤ 1000
      · simp only [z, if_true]
        cases unvs ds <;> rfl
      · simp only [z, if_false]
@[simp] theorem z_lstN : eLstN a s h = match a s h with
  | some (.ok ds h1) => if ds.length ≤ 1000 then some (.ok (.ref h1.length) (h1 ++ [.lst ds])) else none
  | some (.ex x h1) => some (.ex x h1)
  | none => none := rfl
@[simp] theorem z_not : eNot f s h = match f s h with
  | some (.ok x h1) => (match truthD x h1 with
    | some b => some (.ok (.v (.bool (!b))) h1)
    | none => none)
  | some (.ex x h1) => some (.ex x h1)
  | none => none := rfl
@[simp] theorem z_or : eOr f g s h = match f s h with
  | some (.ok x h1) => (match truthD x h1 with
    | some b => if b = true then some (.ok x h1) else g s h1
    | none => none)
  | some (.ex x h1) => some (.ex x h1)
  | none => none := rfl
@[simp] theorem z_and : eAnd f g s h = match f s h with
  | some (.ok x h1) => (match truthD x h1 with
    | some b => if b = true then g s h1 else some (.ok x h1)
    | none => none)
  | some (.ex x h1) => some (.ex x h1)
  | none => none := rfl
@[simp] theorem z_if : eIf t f g s h = match t s h with
  | some (.ok b h1) => if b = true then f s h1 else g s h1
  | some (.ex x h1) => some (.ex x h1)
  | none => none := rfl
@[simp] theorem z_chain (k k' : D → D → Hs → Option D) : eChain k k' e1 e2 e3 s h = match e1 s h with
  | some (.ok x h1) => (match e2 s h1 with
    | some (.ok y h2) => (match k x y h2 with
      | some (.v (.bool b)) => if b = true then (match e3 s h2 with
        | some (.ok z h3) => (match k' y z h3 with
          | some r => some (.ok r h3)
          | none => none)
        | some (.ex x h3) => some (.ex x h3)
        | none => none) else some (.ok (.v (.bool false)) h2)
      | _ => none)
    | some (.ex x h2) => some (.ex x h2)
    | none => none)
  | some (.ex x h1) => some (.ex x h1)
  | none => none := rfl
@[simp] theorem z_part0 (k : Option Int → EM) : ePart none k s h = k none s h := rfl
@[simp] theorem z_part1 (k : Option Int → EM) : ePart (some f) k s h = match f s h with
  | some (.ok (.v (.int i)) h1) => k (some i) s h1
  | some (.ok _ h1) => none
  | some (.ex x h1) => some (.ex x h1)
  | none => none := by
  show (EM.bind f fun d => match d with
    | .v (.int i) => k (some i)
    | _ => fun _ _ => none) s h = _
  unfold EM.bind
  cases f s h with
  | none => rfl
  | some r =>
    cases r with
    | ex x h1 => rfl
    | ok d h1 =>
      cases d with
      | v p => cases p <;> rfl
      | ref n => rfl
      | mix xs => rfl
      | exc c fs => rfl
@[simp] theorem z_sl (lo hi : Option EM) : eSl f lo hi s h = match f s h with
  | some (.ok x h1) => ePart lo (fun l => ePart hi fun u => EM.lift (lift1 (sliceP l u) x)) s h1
  | some (.ex x h1) => some (.ex x h1)
  | none => none := rfl
@[simp] theorem z_isi (T : String) : eIsi T f s h = match f s h with
  | some (.ok x h1) => (match isiD T x h1 with
    | some z => some (.ok z h1)
    | none => none)
  | some (.ex x h1) => some (.ex x h1)
  | none => none := rfl
@[simp] theorem z_bm (T : String) (k : D → List D → Hs → Option (D × Hs)) : eBM T k f a s h = match f s h with
  | some (.ok o h1) => if tyN o h1 = some T then (match a s h1 with
    | some (.ok ds h2) => (match k o ds h2 with
      | some (d, h') => some (.ok d h')
      | none => none)
    | some (.ex x h2) => some (.ex x h2)
    | none => none) else none
  | some (.ex x h1) => some (.ex x h1)
  | none => none := by
  unfold eBM EM.bind
  cases f s h with
  | none => rfl
  | some r =>
    cases r with
    | ex x h1 => rfl
    | ok o h1 =>
      by_cases z : tyN o h1 = some T
      · simp only [z, if_true]
        unfold eA
        cases a s h1 with
        | none => rfl
        | some r => cases r <;> rfl
      · simp only [z, if_false]
@[simp] theorem z_call (F : Fn) : eCall F a s h = match a s h with
  | some (.ok ds h1) => (match unvs ds with
    | some ps => callR F ps false h1
    | none => (match frzs h1 (dep + 1) ds with
      | some ps => callR F ps true h1
      | none => none))
  | some (.ex x h1) => some (.ex x h1)
  | none => none := rfl
@[simp] theorem z_tru : tTru f s h = match f s h with
  | some (.ok d h1) => (match truthD d h1 with
    | some b => some (.ok b h1)
    | none => none)
  | some (.ex x h1) => some (.ex x h1)
  | none => none := rfl
@[simp] theorem z_bl : tBl f s h = match f s h with
  | some (.ok (.v (.bool b)) h1) => some (.ok b h1)
  | some (.ex x h1) => some (.ex x h1)
  | _ => none := rfl
@[simp] theorem z_tnot : Vl.tNot t s h = match t s h with
  | some (.ok b h1) => some (.ok (!b) h1)
  | some (.ex x h1) => some (.ex x h1)
  | none => none := rfl
@[simp] theorem z_tand : Vl.tAnd t u s h = match t s h with
  | some (.ok b h1) => if b = true then u s h1 else some (.ok false h1)
  | some (.ex x h1) => some (.ex x h1)
  | none => none := rfl
@[simp] theorem z_tor : Vl.tOr t u s h = match t s h with
  | some (.ok b h1) => if b = true then some (.ok true h1) else u s h1
  | some (.ex x h1) => some (.ex x h1)
  | none => none := rfl
@[simp] theorem z_yes : tYes' s h = some (.ok true h) := rfl
@[simp] theorem z_next : sNext s h = some (.nx s h) := rfl
@[simp] theorem z_brk : sBrk s h = some (.bk s h) := rfl
@[simp] theorem z_cnt : sCnt s h = some (.ct s h) := rfl
@[simp] theorem z_retN : sRetN s h = some (.rt (.v .none) h) := rfl
@[simp] theorem z_seq : sSeq p q s h = match p s h with
  | some (.nx s1 h1) => q s1 h1
  | r => r := rfl
@[simp] theorem z_sif : sIf t p q s h = match t s h with
  | some (.ok k h1) => if k = true then p s h1 else q s h1
  | some (.ex x h1) => some (.ex s x h1)
  | none => none := rfl
@[simp] theorem z_ret : sRet f s h = match f s h with
  | some (.ok d h1) => some (.rt d h1)
  | some (.ex x h1) => some (.ex s x h1)
  | none => none := rfl
@[simp] theorem z_expr : sExpr f s h = match f s h with
  | some (.ok d h1) => some (.nx s h1)
  | some (.ex x h1) => some (.ex s x h1)
  | none => none := rfl
@[simp] theorem z_asg : sAsg f gm s h = match f s h with
  | some (.ok d h1) => (match gm d s h1 with
    | some s1 => some (.nx s1 h1)
    | none => none)
  | some (.ex x h1) => some (.ex s x h1)
  | none => none := rfl
@[simp] theorem z_wp (vs : List Nat) : sWp vs p s h = match p s h with
  | some (.nx s1 h1) => some (.nx (wipeS s1 vs) h1)
  | some (.ct s1 h1) => some (.ct (wipeS s1 vs) h1)
  | some (.bk s1 h1) => some (.bk (wipeS s1 vs) h1)
  | r => r := rfl
@[simp] theorem z_gnm (i : Nat) : gNm i d s h = some (s.set i (some d)) := rfl
@[simp] theorem z_gnil : gsNil [] s h = some s := rfl
@[simp] theorem z_gcons (ds : List D) : gsCons gm gs (d :: ds) s h = match gm d s h with
  | some s1 => gs ds s1 h
  | none => none := rfl
@[simp] theorem z_gtp (n : Nat) : gTp n gs d s h = match itemsT d with
  | some xs => if xs.length = n then gs xs s h else none
  | none => none := rfl
@[simp] theorem z_it0 (ds : List PyData) : itemsT (.v (.tuple ds)) = some (ds.map .v) := rfl
@[simp] theorem z_it1 (ds : List D) : itemsT (.mix ds) = some ds := rfl
@[simp] theorem z_for (it : IM) (vs : List Nat) : sFor vs it gm p s h = match it s h with
  | some (.ok items gd h1) => forL gd gm p items (wipeS s vs) h1
  | some (.ex x h1) => some (.ex s x h1)
  | none => none := rfl
@[simp] theorem z_iseq : iSeq f s h = match f s h with
  | some (.ok d h1) => seqI d h1
  | some (.ex x h1) => some (.ex x h1)
  | none => none := rfl
@[simp] theorem z_ip (k : List D → Hs → Option (List D × Option (Nat × List D))) : iP a k s h = match a s h with
  | some (.ok ds h1) => (match k ds h1 with
    | some (items, gd) => some (.ok items gd h1)
    | none => none)
  | some (.ex x h1) => some (.ex x h1)
  | none => none := rfl
@[simp] theorem z_seq0 (ds : List PyData) : seqI (.v (.list ds)) h = some (.ok (ds.map .v) none h) := rfl
@[simp] theorem z_seq1 (ds : List PyData) : seqI (.v (.tuple ds)) h = some (.ok (ds.map .v) none h) := rfl
@[simp] theorem z_seq2 (z : Str) : seqI (.v (.str z)) h = if z.length ≤ sizeLine then some (.ok (signsD z) none h) else none := rfl
@[simp] theorem z_seq3 (n : Nat) : seqI (.ref n) h = match h[n]? with
  | some (.lst xs) => some (.ok xs (some (n, xs)) h)
  | _ => none := rfl
@[simp] theorem z_seq4 (xs : List D) : seqI (.mix xs) h = some (.ok xs none h) := rfl
@[simp] theorem z_comp (it : IM) (vs : List Nat) : eComp it gm t f vs s h = match it s h with
  | some (.ok items gd h1) => (match compL gd gm t f items (wipeS s vs) h1 with
    | some (ds, h2) => (match unvs ds with
      | some ps => some (.ok (.v (.list ps)) h2)
      | none => none)
    | none => none)
  | some (.ex x h1) => some (.ex x h1)
  | none => none := rfl
@[simp] theorem z_w0 : wipeS s [] = s := rfl
@[simp] theorem z_w1 (i : Nat) (vs : List Nat) : wipeS s (i :: vs) = (wipeS s vs).set i none := rfl
@[simp] theorem z_unv (p : PyData) : unv (.v p) = some p := rfl
@[simp] theorem z_unv1 (n : Nat) : unv (.ref n) = none := rfl
@[simp] theorem z_unv2 (xs : List D) : unv (.mix xs) = none := rfl
@[simp] theorem z_unvs0 : unvs [] = some [] := rfl
@[simp] theorem z_unvs1 (ds : List D) : unvs (d :: ds) = match unv d, unvs ds with
  | some p, some ps => some (p :: ps)
  | _, _ => none := rfl
@[simp] theorem z_unvsM (ps : List PyData) : unvs (ps.map .v) = some ps := by
  induction ps with
  | nil => rfl
  | cons p ps ih => simp [unvs, ih]
@[simp] theorem z_sh0 (p : PyData) : shal h (.v p) = some p := rfl
@[simp] theorem z_sh1 (n : Nat) : shal h (.ref n) = match h[n]? with
  | some (.lst xs) => (unvs xs).map .list
  | _ => none := rfl
@[simp] theorem z_sh2 (xs : List D) : shal h (.mix xs) = none := rfl
@[simp] theorem z_shs0 : shals h [] = some [] := rfl
@[simp] theorem z_shs1 (ds : List D) : shals h (d :: ds) = match shal h d, shals h ds with
  | some p, some ps => some (p :: ps)
  | _, _ => none := rfl
@[simp] theorem z_l1 (k : PyData → Option PyData) : lift1 k x h = match shal h x with
  | some p => (k p).map .v
  | none => none := rfl
@[simp] theorem z_l2 (k : PyData → PyData → Option PyData) : lift2 k x y h = match shal h x, shal h y with
  | some p, some q => (k p q).map .v
  | _, _ => none := rfl
@[simp] theorem z_lm (k : PyData → List PyData → Option PyData) (ds : List D) : liftM k x ds h = match shal h x, shals h ds with
  | some p, some ps => (k p ps).map fun z => (.v z, h)
  | _, _ => none := rfl
@[simp] theorem z_b1 (k : PyData → Option PyData) : b1 k [x] h = lift1 k x h := rfl
@[simp] theorem z_mk (ds : List D) : mkTup ds = match unvs ds with
  | some ps => .v (.tuple ps)
  | none => .mix ds := rfl
@[simp] theorem z_tr0 : truthD (.v .none) h = some false := rfl
@[simp] theorem z_tr1 (b : Bool) : truthD (.v (.bool b)) h = some b := rfl
@[simp] theorem z_tr2 (i : Int) : truthD (.v (.int i)) h = some (i != 0) := rfl
@[simp] theorem z_tr3 (z : Str) : truthD (.v (.str z)) h = if z.length ≤ sizeLine then some ((z.length : Int) != 0) else none := rfl
@[simp] theorem z_tr4 (ds : List PyData) : truthD (.v (.list ds)) h = some (!ds.isEmpty) := rfl
@[simp] theorem z_tr5 (ds : List PyData) : truthD (.v (.tuple ds)) h = some (!ds.isEmpty) := rfl
@[simp] theorem z_tr6 (n : Nat) : truthD (.ref n) h = match h[n]? with
  | some (.lst xs) => some (!xs.isEmpty)
  | _ => none := rfl
end
section
variable (i j : Int) (xs ys : List PyData) (z v : Str) (h : Hs)
@[simp] theorem y_add0 : addP (.int i) (.int j) = some (.int (i + j)) := rfl
@[simp] theorem y_add1 : addP (.str z) (.str v) = if z.length + v.length ≤ sizeLine then some (.str (z ++ v)) else none := rfl
@[simp] theorem y_add2 : addP (.tuple xs) (.tuple ys) = if xs.length + ys.length ≤ sizeLine then some (.tuple (xs ++ ys)) else none := rfl
@[simp] theorem y_add3 : addP (.list xs) (.list ys) = if xs.length + ys.length ≤ sizeLine then some (.list (xs ++ ys)) else none := rfl
@[simp] theorem y_sub : subP (.int i) (.int j) = some (.int (i - j)) := rfl
@[simp] theorem y_mul0 : mulP (.int i) (.int j) = if cmul i j = true then some (.int (i * j)) else none := rfl
@[simp] theorem y_mul1 : mulP (.list xs) (.int j) = if yes (-(2 ^ 63) ≤ j ∧ j < 2 ^ 63 ∧ xs.length * j.toNat ≤ sizeLine) = true then some (.list (List.replicate j.toNat xs).flatten) else none := rfl
@[simp] theorem y_fdiv : fdivP (.int i) (.int j) = if cdiv j = true then some (.int (i / j)) else none := rfl
@[simp] theorem y_mod : modP (.int i) (.int j) = if 0 < j then some (.int (i % j)) else none := by
  unfold modP intP
  simp
@[simp] theorem y_pow : powP (.int i) (.int j) = if cpow i j = true then some (.int (i ^ j.toNat)) else none := rfl
@[simp] theorem y_lt : ltP (.int i) (.int j) = some (.bool (decide (i < j))) := rfl
@[simp] theorem y_le : leP (.int i) (.int j) = some (.bool (decide (i ≤ j))) := rfl
@[simp] theorem y_gt : gtP (.int i) (.int j) = some (.bool (decide (j < i))) := rfl
@[simp] theorem y_ge : geP (.int i) (.int j) = some (.bool (decide (j ≤ i))) := rfl
@[simp] theorem y_neg : negP (.int i) = some (.int (-i)) := rfl
@[simp] theorem y_len0 : lenD [.v (.str z)] h = if z.length ≤ sizeLine then some (.v (.int z.length)) else none := rfl
@[simp] theorem y_len1 : lenD [.v (.list xs)] h = some (.v (.int xs.length)) := rfl
@[simp] theorem y_len2 : lenD [.v (.tuple xs)] h = some (.v (.int xs.length)) := rfl
@[simp] theorem y_len3 (n : Nat) : lenD [.ref n] h = match h[n]? with
  | some (.lst xs) => some (.v (.int xs.length))
  | _ => none := rfl
@[simp] theorem y_abs : absP (.int i) = some (.int (if i < 0 then -i else i)) := rfl
@[simp] theorem y_all : allP (.list xs) = (bools xs).map fun bs => .bool (bs.all id) := rfl
theorem bools_map {α : Type} (f : α → Bool) : ∀ l : List α, bools (l.map fun x => .bool (f x)) = some (l.map f)
  | [] => rfl
  | x :: l => by simp [bools, bools_map f l]
theorem texts_map {α : Type} (f : α → Str) : ∀ l : List α, texts (l.map fun x => .str (f x)) = some (l.map f)
  | [] => rfl
  | x :: l => by simp [texts, texts_map f l]
@[simp] theorem y_lst0 : lstP (.list xs) = some (.list xs) := rfl
@[simp] theorem y_lst1 : lstP (.tuple xs) = some (.list xs) := rfl
@[simp] theorem y_lst2 : lstP (.str z) = if z.length ≤ sizeLine then some (.list (signsP z)) else none := rfl
@[simp] theorem y_tup0 : tupOfP (.list xs) = some (.tuple xs) := rfl
@[simp] theorem y_tup1 : tupOfP (.tuple xs) = some (.tuple xs) := rfl
@[simp] theorem y_join0 : joinP (.str z) [.list xs] = match texts xs with
  | some ys => if joinOk z ys = true then some (.str (Txt.join z ys)) else none
  | none => none := rfl
@[simp] theorem y_slc0 (lo hi : Option Int) : sliceP lo hi (.list xs) = some (.list (cutP xs lo hi)) := rfl
@[simp] theorem y_slc1 (lo hi : Option Int) : sliceP lo hi (.tuple xs) = some (.tuple (cutP xs lo hi)) := rfl
@[simp] theorem y_slc2 (lo hi : Option Int) : sliceP lo hi (.str z) = if z.length ≤ sizeLine then some (.str (cutS z lo hi)) else none := rfl
@[simp] theorem y_ix0 : ixD (.v (.list xs)) (.v (.int i)) h = (atI xs i).map .v := rfl
@[simp] theorem y_ix1 : ixD (.v (.tuple xs)) (.v (.int i)) h = (atI xs i).map .v := rfl
@[simp] theorem y_ix2 : ixD (.v (.str z)) (.v (.int i)) h = if z.length ≤ sizeLine then (atI z.cps.toList i).map fun c => .v (.str ⟨#[c]⟩) else none := rfl
@[simp] theorem y_ix3 (n : Nat) : ixD (.ref n) (.v (.int i)) h = match h[n]? with
  | some (.lst xs) => atI xs i
  | _ => none := rfl
@[simp] theorem y_enum0 : kEnum [.v (.list xs)] h = some (enumI 0 (xs.map .v), none) := rfl
@[simp] theorem y_app (n : Nat) (y : D) : appendD (.ref n) [y] h = match h[n]? with
  | some (.lst xs) => if xs.length < sizeLine then some (.v .none, h.set n (.lst (xs ++ [y]))) else none
  | _ => none := rfl
@[simp] theorem y_isN0 (neg : Bool) (d : D) : isND neg d (.v .none) h = some (.v (.bool (ngt neg (isNoneD d)))) := rfl
@[simp] theorem y_is (neg a b : Bool) : isBP neg (.bool a) (.bool b) = some (.bool (if neg = true then !decide (a = b) else decide (a = b))) := rfl
@[simp] theorem y_in0 (neg : Bool) (c : Nat) : inP neg (.str ⟨#[c]⟩) (.str z) = some (.bool (ngt neg (decide (c ∈ z.cps.toList)))) := rfl
@[simp] theorem y_frz0 (n : Nat) (p : PyData) : frz h n (.v p) = some p := frz_v h n p
@[simp] theorem y_frz1 (n k : Nat) : frz h (n + 1) (.ref k) = match h[k]? with
  | some (.lst xs) => (frzs h n xs).map .list
  | _ => none := rfl
@[simp] theorem y_frzs (n : Nat) (ps : List PyData) : frzs h (n + 1) (ps.map .v) = some ps := by
  induction ps with
  | nil => rfl
  | cons p ps ih =>
    simp only [frzs, List.map_cons, List.foldr_cons, frz_v] at ih ⊢
    rw [ih]
end
theorem eqD_v {neg : Bool} {p q : PyData} {h : Hs} (hp : SeqAt.shaped p = true) (hq : SeqAt.shaped q = true) : eqD neg (.v p) (.v q) h = some (.v (.bool (if neg = true then !PyData.eqv p q else PyData.eqv p q))) := by
  unfold eqD
  rw [frz_v, frz_v]
  simp only [hp, hq, Bool.and_self, Bool.true_or, if_true]
theorem eqD_str {neg : Bool} {a b : Str} {h : Hs} : eqD neg (.v (.str a)) (.v (.str b)) h = some (.v (.bool (if neg = true then !(a == b) else (a == b)))) := by
  unfold eqD
  rw [frz_v, frz_v]
  simp [isStr, PyData.eqv]
theorem callR_rt {F : Fn} {ps : List PyData} {h h' : Hs} {d : D} {p : PyData} (e : F (ps.map .v) [] = some (.rt d h')) (ef : frz h' dep d = some p) : callR F ps false h = some (.ok (.v p) h) := by
  unfold callR
  rw [e]
  simp only [ef, Bool.false_and, Bool.false_eq_true, if_false]

@[simp] theorem x_NoneType_str (h : Hs) : isiD "str" (.v .none) h = some (.v (.bool false)) := by
  have e : kitB "NoneType" "str" = some false := by decide +kernel
  show ((kitB "NoneType" "str").map fun b => D.v (.bool b)) = _
  rw [e]
  rfl
@[simp] theorem x_NoneType_int (h : Hs) : isiD "int" (.v .none) h = some (.v (.bool false)) := by
  have e : kitB "NoneType" "int" = some false := by decide +kernel
  show ((kitB "NoneType" "int").map fun b => D.v (.bool b)) = _
  rw [e]
  rfl
@[simp] theorem x_NoneType_bool (h : Hs) : isiD "bool" (.v .none) h = some (.v (.bool false)) := by
  have e : kitB "NoneType" "bool" = some false := by decide +kernel
  show ((kitB "NoneType" "bool").map fun b => D.v (.bool b)) = _
  rw [e]
  rfl
@[simp] theorem x_NoneType_list (h : Hs) : isiD "list" (.v .none) h = some (.v (.bool false)) := by
  have e : kitB "NoneType" "list" = some false := by decide +kernel
  show ((kitB "NoneType" "list").map fun b => D.v (.bool b)) = _
  rw [e]
  rfl
@[simp] theorem x_NoneType_tuple (h : Hs) : isiD "tuple" (.v .none) h = some (.v (.bool false)) := by
  have e : kitB "NoneType" "tuple" = some false := by decide +kernel
  show ((kitB "NoneType" "tuple").map fun b => D.v (.bool b)) = _
  rw [e]
  rfl
@[simp] theorem x_NoneType_dict (h : Hs) : isiD "dict" (.v .none) h = some (.v (.bool false)) := by
  have e : kitB "NoneType" "dict" = some false := by decide +kernel
  show ((kitB "NoneType" "dict").map fun b => D.v (.bool b)) = _
  rw [e]
  rfl
@[simp] theorem x_bool_str (b : Bool) (h : Hs) : isiD "str" (.v (.bool b)) h = some (.v (.bool false)) := by
  have e : kitB "bool" "str" = some false := by decide +kernel
  show ((kitB "bool" "str").map fun b => D.v (.bool b)) = _
  rw [e]
  rfl
@[simp] theorem x_bool_int (b : Bool) (h : Hs) : isiD "int" (.v (.bool b)) h = some (.v (.bool true)) := by
  have e : kitB "bool" "int" = some true := by decide +kernel
  show ((kitB "bool" "int").map fun b => D.v (.bool b)) = _
  rw [e]
  rfl
@[simp] theorem x_bool_bool (b : Bool) (h : Hs) : isiD "bool" (.v (.bool b)) h = some (.v (.bool true)) := by
  have e : kitB "bool" "bool" = some true := by decide +kernel
  show ((kitB "bool" "bool").map fun b => D.v (.bool b)) = _
  rw [e]
  rfl
@[simp] theorem x_bool_list (b : Bool) (h : Hs) : isiD "list" (.v (.bool b)) h = some (.v (.bool false)) := by
  have e : kitB "bool" "list" = some false := by decide +kernel
  show ((kitB "bool" "list").map fun b => D.v (.bool b)) = _
  rw [e]
  rfl
@[simp] theorem x_bool_tuple (b : Bool) (h : Hs) : isiD "tuple" (.v (.bool b)) h = some (.v (.bool false)) := by
  have e : kitB "bool" "tuple" = some false := by decide +kernel
  show ((kitB "bool" "tuple").map fun b => D.v (.bool b)) = _
  rw [e]
  rfl
@[simp] theorem x_bool_dict (b : Bool) (h : Hs) : isiD "dict" (.v (.bool b)) h = some (.v (.bool false)) := by
  have e : kitB "bool" "dict" = some false := by decide +kernel
  show ((kitB "bool" "dict").map fun b => D.v (.bool b)) = _
  rw [e]
  rfl
@[simp] theorem x_int_str (b : Int) (h : Hs) : isiD "str" (.v (.int b)) h = some (.v (.bool false)) := by
  have e : kitB "int" "str" = some false := by decide +kernel
  show ((kitB "int" "str").map fun b => D.v (.bool b)) = _
  rw [e]
  rfl
@[simp] theorem x_int_int (b : Int) (h : Hs) : isiD "int" (.v (.int b)) h = some (.v (.bool true)) := by
  have e : kitB "int" "int" = some true := by decide +kernel
  show ((kitB "int" "int").map fun b => D.v (.bool b)) = _
  rw [e]
  rfl
@[simp] theorem x_int_bool (b : Int) (h : Hs) : isiD "bool" (.v (.int b)) h = some (.v (.bool false)) := by
  have e : kitB "int" "bool" = some false := by decide +kernel
  show ((kitB "int" "bool").map fun b => D.v (.bool b)) = _
  rw [e]
  rfl
@[simp] theorem x_int_list (b : Int) (h : Hs) : isiD "list" (.v (.int b)) h = some (.v (.bool false)) := by
  have e : kitB "int" "list" = some false := by decide +kernel
  show ((kitB "int" "list").map fun b => D.v (.bool b)) = _
  rw [e]
  rfl
@[simp] theorem x_int_tuple (b : Int) (h : Hs) : isiD "tuple" (.v (.int b)) h = some (.v (.bool false)) := by
  have e : kitB "int" "tuple" = some false := by decide +kernel
  show ((kitB "int" "tuple").map fun b => D.v (.bool b)) = _
  rw [e]
  rfl
@[simp] theorem x_int_dict (b : Int) (h : Hs) : isiD "dict" (.v (.int b)) h = some (.v (.bool false)) := by
  have e : kitB "int" "dict" = some false := by decide +kernel
  show ((kitB "int" "dict").map fun b => D.v (.bool b)) = _
  rw [e]
  rfl
@[simp] theorem x_str_str (b : Str) (h : Hs) : isiD "str" (.v (.str b)) h = some (.v (.bool true)) := by
  have e : kitB "str" "str" = some true := by decide +kernel
  show ((kitB "str" "str").map fun b => D.v (.bool b)) = _
  rw [e]
  rfl
@[simp] theorem x_str_int (b : Str) (h : Hs) : isiD "int" (.v (.str b)) h = some (.v (.bool false)) := by
  have e : kitB "str" "int" = some false := by decide +kernel
  show ((kitB "str" "int").map fun b => D.v (.bool b)) = _
  rw [e]
  rfl
@[simp] theorem x_str_bool (b : Str) (h : Hs) : isiD "bool" (.v (.str b)) h = some (.v (.bool false)) := by
  have e : kitB "str" "bool" = some false := by decide +kernel
  show ((kitB "str" "bool").map fun b => D.v (.bool b)) = _
  rw [e]
  rfl
@[simp] theorem x_str_list (b : Str) (h : Hs) : isiD "list" (.v (.str b)) h = some (.v (.bool false)) := by
  have e : kitB "str" "list" = some false := by decide +kernel
  show ((kitB "str" "list").map fun b => D.v (.bool b)) = _
  rw [e]
  rfl
@[simp] theorem x_str_tuple (b : Str) (h : Hs) : isiD "tuple" (.v (.str b)) h = some (.v (.bool false)) := by
  have e : kitB "str" "tuple" = some false := by decide +kernel
  show ((kitB "str" "tuple").map fun b => D.v (.bool b)) = _
  rw [e]
  rfl
@[simp] theorem x_str_dict (b : Str) (h : Hs) : isiD "dict" (.v (.str b)) h = some (.v (.bool false)) := by
  have e : kitB "str" "dict" = some false := by decide +kernel
  show ((kitB "str" "dict").map fun b => D.v (.bool b)) = _
  rw [e]
  rfl
@[simp] theorem x_list_str (b : List PyData) (h : Hs) : isiD "str" (.v (.list b)) h = some (.v (.bool false)) := by
  have e : kitB "list" "str" = some false := by decide +kernel
  show ((kitB "list" "str").map fun b => D.v (.bool b)) = _
  rw [e]
  rfl
@[simp] theorem x_list_int (b : List PyData) (h : Hs) : isiD "int" (.v (.list b)) h = some (.v (.bool false)) := by
  have e : kitB "list" "int" = some false := by decide +kernel
  show ((kitB "list" "int").map fun b => D.v (.bool b)) = _
  rw [e]
  rfl
@[simp] theorem x_list_bool (b : List PyData) (h : Hs) : isiD "bool" (.v (.list b)) h = some (.v (.bool false)) := by
  have e : kitB "list" "bool" = some false := by decide +kernel
  show ((kitB "list" "bool").map fun b => D.v (.bool b)) = _
  rw [e]
  rfl
@[simp] theorem x_list_list (b : List PyData) (h : Hs) : isiD "list" (.v (.list b)) h = some (.v (.bool true)) := by
  have e : kitB "list" "list" = some true := by decide +kernel
  show ((kitB "list" "list").map fun b => D.v (.bool b)) = _
  rw [e]
  rfl
@[simp] theorem x_list_tuple (b : List PyData) (h : Hs) : isiD "tuple" (.v (.list b)) h = some (.v (.bool false)) := by
  have e : kitB "list" "tuple" = some false := by decide +kernel
  show ((kitB "list" "tuple").map fun b => D.v (.bool b)) = _
  rw [e]
  rfl
@[simp] theorem x_list_dict (b : List PyData) (h : Hs) : isiD "dict" (.v (.list b)) h = some (.v (.bool false)) := by
  have e : kitB "list" "dict" = some false := by decide +kernel
  show ((kitB "list" "dict").map fun b => D.v (.bool b)) = _
  rw [e]
  rfl
@[simp] theorem x_tuple_str (b : List PyData) (h : Hs) : isiD "str" (.v (.tuple b)) h = some (.v (.bool false)) := by
  have e : kitB "tuple" "str" = some false := by decide +kernel
  show ((kitB "tuple" "str").map fun b => D.v (.bool b)) = _
  rw [e]
  rfl
@[simp] theorem x_tuple_int (b : List PyData) (h : Hs) : isiD "int" (.v (.tuple b)) h = some (.v (.bool false)) := by
  have e : kitB "tuple" "int" = some false := by decide +kernel
  show ((kitB "tuple" "int").map fun b => D.v (.bool b)) = _
  rw [e]
  rfl
@[simp] theorem x_tuple_bool (b : List PyData) (h : Hs) : isiD "bool" (.v (.tuple b)) h = some (.v (.bool false)) := by
  have e : kitB "tuple" "bool" = some false := by decide +kernel
  show ((kitB "tuple" "bool").map fun b => D.v (.bool b)) = _
  rw [e]
  rfl
@[simp] theorem x_tuple_list (b : List PyData) (h : Hs) : isiD "list" (.v (.tuple b)) h = some (.v (.bool false)) := by
  have e : kitB "tuple" "list" = some false := by decide +kernel
  show ((kitB "tuple" "list").map fun b => D.v (.bool b)) = _
  rw [e]
  rfl
@[simp] theorem x_tuple_tuple (b : List PyData) (h : Hs) : isiD "tuple" (.v (.tuple b)) h = some (.v (.bool true)) := by
  have e : kitB "tuple" "tuple" = some true := by decide +kernel
  show ((kitB "tuple" "tuple").map fun b => D.v (.bool b)) = _
  rw [e]
  rfl
@[simp] theorem x_tuple_dict (b : List PyData) (h : Hs) : isiD "dict" (.v (.tuple b)) h = some (.v (.bool false)) := by
  have e : kitB "tuple" "dict" = some false := by decide +kernel
  show ((kitB "tuple" "dict").map fun b => D.v (.bool b)) = _
  rw [e]
  rfl
@[simp] theorem x_dict_str (b : List (PyData × PyData)) (h : Hs) : isiD "str" (.v (.dict b)) h = some (.v (.bool false)) := by
  have e : kitB "dict" "str" = some false := by decide +kernel
  show ((kitB "dict" "str").map fun b => D.v (.bool b)) = _
  rw [e]
  rfl
@[simp] theorem x_dict_int (b : List (PyData × PyData)) (h : Hs) : isiD "int" (.v (.dict b)) h = some (.v (.bool false)) := by
  have e : kitB "dict" "int" = some false := by decide +kernel
  show ((kitB "dict" "int").map fun b => D.v (.bool b)) = _
  rw [e]
  rfl
@[simp] theorem x_dict_bool (b : List (PyData × PyData)) (h : Hs) : isiD "bool" (.v (.dict b)) h = some (.v (.bool false)) := by
  have e : kitB "dict" "bool" = some false := by decide +kernel
  show ((kitB "dict" "bool").map fun b => D.v (.bool b)) = _
  rw [e]
  rfl
@[simp] theorem x_dict_list (b : List (PyData × PyData)) (h : Hs) : isiD "list" (.v (.dict b)) h = some (.v (.bool false)) := by
  have e : kitB "dict" "list" = some false := by decide +kernel
  show ((kitB "dict" "list").map fun b => D.v (.bool b)) = _
  rw [e]
  rfl
@[simp] theorem x_dict_tuple (b : List (PyData × PyData)) (h : Hs) : isiD "tuple" (.v (.dict b)) h = some (.v (.bool false)) := by
  have e : kitB "dict" "tuple" = some false := by decide +kernel
  show ((kitB "dict" "tuple").map fun b => D.v (.bool b)) = _
  rw [e]
  rfl
@[simp] theorem x_dict_dict (b : List (PyData × PyData)) (h : Hs) : isiD "dict" (.v (.dict b)) h = some (.v (.bool true)) := by
  have e : kitB "dict" "dict" = some true := by decide +kernel
  show ((kitB "dict" "dict").map fun b => D.v (.bool b)) = _
  rw [e]
  rfl
@[simp] theorem x_tyref (n : Nat) (h : Hs) : tyN (.ref n) h = match h[n]? with
  | some (.lst _) => some "list"
  | some (.dct _) => some "dict"
  | _ => none := rfl
@[simp] theorem x_tystr (z : Str) (h : Hs) : tyN (.v (.str z)) h = some "str" := rfl
@[simp] theorem x_tylst (z : List PyData) (h : Hs) : tyN (.v (.list z)) h = some "list" := rfl
end Vl
namespace Vl
open PySem PySem.Spec PyProof.Rows L2
/-! ## shaped data -/
def okS (z : Str) : Prop := ∀ c ∈ z.cps.toList, c < 0x110000
def Sh (n : Nat) (d : PyData) : Prop := d.canLay0 = true ∧ d.depth ≤ n
theorem Sh.shaped {n : Nat} {d : PyData} (h : Sh n d) (hn : n ≤ 64 := by decide) : SeqAt.shaped d = true := by
  unfold SeqAt.shaped
  rw [h.1, Bool.true_and]
  exact decide_eq_true (Nat.le_trans h.2 hn)
theorem Sh.mono {m n : Nat} {d : PyData} (h : Sh m d) (l : m ≤ n) : Sh n d := ⟨h.1, Nat.le_trans h.2 l⟩
theorem sh_int {n : Nat} (i : Int) : Sh n (.int i) := ⟨rfl, Nat.zero_le _⟩
theorem sh_str {n : Nat} {z : Str} (h : okS z) : Sh n (.str z) := ⟨by
  show z.cps.all (· < 0x110000) = true
  rw [← Array.all_toList, List.all_eq_true]
  exact fun c hc => decide_eq_true (h c hc), Nat.zero_le _⟩
theorem sh_all {n : Nat} : ∀ {xs : List PyData}, (∀ x ∈ xs, Sh n x) → PyData.canLayAll0 xs = true ∧ PyData.depthAll xs ≤ n
  | [], _ => ⟨rfl, Nat.zero_le _⟩
  | x :: r, h => by
    obtain ⟨h1, h2⟩ := h x List.mem_cons_self
    obtain ⟨h3, h4⟩ := sh_all (xs := r) fun z hz => h z (List.mem_cons_of_mem _ hz)
    exact ⟨by rw [PyData.canLayAll0, h1, h3]; rfl, by rw [PyData.depthAll]; exact Nat.max_le.mpr ⟨h2, h4⟩⟩
theorem sh_list {n : Nat} {xs : List PyData} (h : ∀ x ∈ xs, Sh n x) : Sh (n + 1) (.list xs) := ⟨(sh_all h).1, Nat.succ_le_succ (sh_all h).2⟩
theorem sh_tup {n : Nat} {xs : List PyData} (h : ∀ x ∈ xs, Sh n x) : Sh (n + 1) (.tuple xs) := ⟨(sh_all h).1, Nat.succ_le_succ (sh_all h).2⟩
mutual
theorem eqv_refl : ∀ {d : PyData}, d.canLay0 = true → PyData.eqv d d = true
  | .none, _ => rfl
  | .bool b, _ => by simp [PyData.eqv]
  | .int b, _ => by simp [PyData.eqv]
  | .str b, _ => by simp [PyData.eqv]
  | .list xs, h => by
    rw [PyData.eqv]
    exact eqvs_refl (by simpa [PyData.canLay0] using h)
  | .tuple xs, h => by
    rw [PyData.eqv]
    exact eqvs_refl (by simpa [PyData.canLay0] using h)
  | .dict xs, h => by simp [PyData.canLay0] at h
theorem eqvs_refl : ∀ {ds : List PyData}, PyData.canLayAll0 ds = true → PyData.eqvAll ds ds = true
  | [], _ => rfl
  | d :: ds, h => by
    rw [PyData.canLayAll0, Bool.and_eq_true] at h
    rw [PyData.eqvAll, eqv_refl h.1, eqvs_refl h.2]
    rfl
end
@[simp] theorem z_unvsC {α : Type} (f : α → PyData) (l : List α) : unvs (l.map (D.v ∘ f)) = some (l.map f) := by
  rw [← List.map_map, z_unvsM]
@[simp] theorem z_unvsC' {α : Type} (f : α → PyData) (l : List α) : unvs (l.map fun x => D.v (f x)) = some (l.map f) := z_unvsC f l
theorem compSigns {s : Sl} {h : Hs} (z : Str) (gm : GM) (t : TM) (f : EM) (p : Nat → Bool) (y : Nat → PyData) (H : ∀ c, ∃ s1, gm (.v (.str ⟨#[c]⟩)) s h = some s1 ∧ t s1 h = some (.ok (p c) h) ∧ (p c = true → f s1 h = some (.ok (.v (y c)) h))) :
    compL none gm t f (signsD z) s h = some (((z.cps.toList.filter p).map y).map .v, h) := by
  unfold signsD
  generalize z.cps.toList = l
  induction l with
  | nil => simp [compL, gok]
  | cons c r ih =>
    obtain ⟨s1, e1, e2, e3⟩ := H c
    rw [List.map_cons, compL, if_pos (show gok none h from trivial)]
    simp only [e1, e2]
    cases e : p c with
    | false =>
      rw [if_neg Bool.false_ne_true, ih, List.filter_cons_of_neg (by rw [e]; exact Bool.false_ne_true)]
    | true =>
      rw [if_pos rfl]
      simp only [e3 e, ih]
      rw [List.filter_cons_of_pos e, List.map_cons, List.map_cons]
/-- a comprehension over data -/
theorem compData {α : Type} {s : Sl} {h : Hs} (l : List α) (i : α → D) (gm : GM) (t : TM) (f : EM) (p : α → Bool) (y : α → PyData) (H : ∀ c ∈ l, ∃ s1, gm (i c) s h = some s1 ∧ t s1 h = some (.ok (p c) h) ∧ (p c = true → f s1 h = some (.ok (.v (y c)) h))) :
    compL none gm t f (l.map i) s h = some (((l.filter p).map y).map .v, h) := by
  induction l with
  | nil => simp [compL, gok]
  | cons c r ih =>
    obtain ⟨s1, e1, e2, e3⟩ := H c List.mem_cons_self
    have ih := ih fun z hz => H z (List.mem_cons_of_mem _ hz)
    rw [List.map_cons, compL, if_pos (show gok none h from trivial)]
    simp only [e1, e2]
    cases e : p c with
    | false =>
      rw [if_neg Bool.false_ne_true, ih, List.filter_cons_of_neg (by rw [e]; exact Bool.false_ne_true)]
    | true =>
      rw [if_pos rfl]
      simp only [e3 e, ih]
      rw [List.filter_cons_of_pos e, List.map_cons, List.map_cons]
end Vl
set_option maxHeartbeats 4000000
namespace Vl
open PySem PySem.Spec PyProof.Rows L2

/-! ## texts, places -/
theorem ten_line' {n : Nat} (h : n ≤ 10000000) : n ≤ sizeLine := Nat.le_trans h (by rw [sizeLine_eq]; decide)
theorem lt_line {n : Nat} (h : n < 10000000) : n < sizeLine := Nat.lt_of_lt_of_le h (by rw [sizeLine_eq]; decide)
def Tx (n : Nat) (z : Str) : Prop := okS z ∧ z.length ≤ n
theorem Tx.line {n : Nat} {z : Str} (h : Tx n z) (l : n ≤ 10000000 := by omega) : z.length ≤ sizeLine := ten_line' (Nat.le_trans h.2 l)
theorem Tx.mono {m n : Nat} {z : Str} (h : Tx m z) (l : m ≤ n) : Tx n z := ⟨h.1, Nat.le_trans h.2 l⟩
theorem len_tl (z : Str) : z.cps.toList.length = z.length := Array.length_toList
theorem tl_app (a b : Str) : (a ++ b).cps.toList = a.cps.toList ++ b.cps.toList := TL.tl_append a b
theorem atI_in {α : Type} {xs : List α} {i : Int} (h0 : 0 ≤ i) (h1 : i < xs.length) : ∃ x, atI xs i = some x ∧ x ∈ xs ∧ xs[i.toNat]? = some x := by
  have hl : i.toNat < xs.length := by omega
  refine ⟨xs[i.toNat], ?_, List.getElem_mem hl, List.getElem?_eq_getElem hl⟩
  unfold atI ixN
  rw [if_pos h0, if_pos h1]
  exact List.getElem?_eq_getElem hl
@[simp] theorem atI_map {α β : Type} (f : α → β) (xs : List α) (i : Int) : atI (xs.map f) i = (atI xs i).map f := by
  unfold atI
  rw [List.length_map]
  cases ixN xs.length i with
  | none => rfl
  | some j => simp
theorem cutP_map {α β : Type} (f : α → β) (xs : List α) (lo hi : Option Int) : cutP (xs.map f) lo hi = (cutP xs lo hi).map f := by
  unfold cutP
  rw [List.length_map, ← List.map_drop, ← List.map_take]
/-- a comprehension of no test, over data -/
theorem compMap {α : Type} {s : Sl} {h : Hs} (l : List α) (i : α → D) (gm : GM) (f : EM) (y : α → PyData) (H : ∀ c ∈ l, ∃ s1, gm (i c) s h = some s1 ∧ f s1 h = some (.ok (.v (y c)) h)) :
    compL none gm tYes' f (l.map i) s h = some (l.map (fun c => .v (y c)), h) := by
  rw [compData l i gm tYes' f (fun _ => true) y fun c hc => let ⟨s1, e1, e2⟩ := H c hc; ⟨s1, e1, rfl, fun _ => e2⟩, List.filter_eq_self.mpr (fun _ _ => rfl), List.map_map]
  rfl
theorem sz {n : Nat} (h : n ≤ 10000000) : (n ≤ sizeLine) = True := eq_true (ten_line' h)
theorem szI {n : Nat} (h : n ≤ 10000000) : (n < sizeLine) = True := eq_true (Nat.lt_of_le_of_lt h (by rw [sizeLine_eq]; decide))
end Vl
set_option maxHeartbeats 4000000
namespace Vl
open PySem PySem.Spec PyProof.Rows L2

/-! ## a def's promise where nothing is being told by repr around it -/
structure FnG (P : Program) (w : World) (K : KF) (mg : Str → Option Value) (base : Heap) (CX : CXT) (k : Nat) (f : Addr) (fd : FuncData) (ps : List Str) (sp : Sp) : Prop where
  len : ∀ vs H Q E, sp vs H Q E → vs.length = ps.length
  run : ∀ (A : Around) (outer : List Env) (s : Shared) (H : Hp) (args : Args) (us : List Value) (vs : List V) (Q : VK) (E : XK), Room k A → A.guards = some [] → Env0 P w K mg base A outer s H → BindsTo s fd args (ps.zip us) → Vals vs us → sp vs H Q E →
    codeAny (model P w) A (.call (.ref f) args) (CR CX outer P w H s Q E) s
section
variable {P : Program} {w : World} {K : KF} {mg : Str → Option Value} {base : Heap} {CX : CXT} {k : Nat} {f : Addr} {fd : FuncData} {N ps : List Str} {sp : Sp}
theorem FnG.mono {j : Nat} (F : FnG P w K mg base CX j f fd ps sp) (h : j ≤ k) : FnG P w K mg base CX k f fd ps sp := ⟨F.len, fun A outer s H args us vs Q E hr => F.run A outer s H args us vs Q E (hr.mono h)⟩
/-- what leaves a body by its end -/
theorem ends_body {X : Cx} {outer : List Env} {s0 s' : Shared} {Q : VK} {H0 : Hp} {fl : Flow} (hX : ∀ {σ' : L2.St} {H' : Hp} {v : V} {u : Value}, Inv X [] σ' H' s' → RelV v u → Q v H' → CE outer X.prog X.w H0 s0 Q u s')
    (h : SP X [] { nx := fun _ H' => Q .non H', rt := Q } fl s') : (match fl with
      | .ret u => CE outer X.prog X.w H0 s0 Q u s'
      | .next => CE outer X.prog X.w H0 s0 Q .none s'
      | _ => False) := by
  cases fl with
  | ret u =>
    obtain ⟨v, σ', H', J, rv, q⟩ := h
    exact hX J rv q
  | next =>
    obtain ⟨σ', H', J, q⟩ := h
    exact hX (v := V.non) (u := Value.none) J rfl q
  | brk =>
    obtain ⟨_, _, _, q⟩ := h
    exact q
  | cont =>
    obtain ⟨_, _, _, q⟩ := h
    exact q
/-- the rule for such a def -/
theorem okG {x qual : Str} {params : Arguments} {body : List Stmt} {scope : Scope} (F : FunD K x qual params body scope [] [] f fd) (S : FnScope N ps scope) (len : ∀ vs H Q E, sp vs H Q E → vs.length = ps.length)
    (hbody : ∀ (cdv : Value) (A : Around) (outer : List Env) (s : Shared) (H : Hp) (vs : List V) (Q : VK) (E : XK), Room k (A.deeper (envOfC qual scope s.heap.objs.size f cdv)) → A.guards = some [] → sp vs H Q E →
      ∃ t, PSs (cxOf CX P w K mg base N qual scope f cdv A outer s H E) body t ∧ t { nx := fun _ H' => Q .non H', rt := Q } (start N vs) H) : FnG P w K mg base CX (k + 1) f fd ps sp := by
  obtain ⟨oc, od, dV, kV, doc, pm, an, cdv, ct, osl, rfl, lk, hcd, _, _⟩ := F.ex
  refine ⟨len, fun A outer s H args us vs Q E room gds env0 binds rel hsp => ?_⟩
  have kin : K.In s.heap := env0.mod.kin.keeps fun b o e => (env0.bs b o e).1
  refine codeAny_call_function room.depth (kin _ _ lk) rfl S.co S.gen rfl (PySem.W.codeRec_of kin hcd) (binds _ _ _ _ ?_)
  refine wpAny_newFunctionEnv_cells S.kind (fun y hy => (S.par y.1 (List.of_mem_zip (a := y.1) (b := y.2) hy).1).imp id fun q => ⟨q, PySem.W.cellsFrom_some _ _ _ (.inl q)⟩) fun env he s1 made => ?_
  subst he
  refine ⟨(env0.mod.nolimit.keeps fun b o e => (env0.bs b o e).1).keeps made.toInCall.keep, codeAny_func ?_⟩
  obtain ⟨t, runs, starts⟩ := hbody cdv A outer s H vs Q E (room.deeper _) gds hsp
  refine wpAny_mono (runs.run [] s1 (start N vs) H _ (inv_start S room.hd env0 (len _ _ _ _ hsp) rel made) starts) (fun fl s' ends => ?_) fun _ _ z => z
  have := ends_body (outer := outer) (s0 := s) (H0 := H) (fun {σ' H' v u} J rv q => ⟨v, H', J.os, J.bare, J.base, J.hok, rv, q⟩) ends
  cases fl with
  | ret u => exact this
  | next => exact this
  | brk => exact this.elim
  | cont => exact this.elim
end
/-- the law's call, its script the one thing that may be known -/
theorem law_callG {P : Program} {w : World} {K : KF} {mg mb : Str → Option Value} {k : Nat} {fa a : Addr} {fd : FuncData} {x : Str} {sp : Sp} {s₁ : Shared} {vs : List Value} {ns : List Int}
    (KX : K.In s₁.heap) (hns : s₁.heap.Ns mainGlobals mg) (hb : s₁.heap.Ns builtinsNs mb) (hbb : ∀ x : Str, x ≠ "__name__" → mb x = bootBuiltins x) (hlim : s₁.heap.NoLimit) (hg : s₁.gens = #[])
    (ha : s₁.heap.get? a = some { cls := .type "list", data := .seq vs.toArray }) (hi : IntsAre vs ns) (hl : ns.length ≤ sizeLine) (hr : Room k callerA)
    (F : ∀ base : Heap, K.In base → base.Ns mainGlobals mg → FnG P w K mg base CX0 k fa fd [x] sp) (hbind : ∀ (s : Shared) (u : Value), BindsTo s fd ⟨[u], []⟩ [(x, u)])
    (hsp : ∀ H : Hp, Only H → SqL K H a (ns.map V.int) → sp [.ref a] H (fun v _ => v = .bl true) fun _ _ _ => False) :
    codeAny (model P w) callerA (.call (.ref fa) ⟨[.ref a], []⟩) (fun r s' => r = .ok (.ret (.bool true)) ∧ OldK s₁.heap s'.heap ∧ s'.os = s₁.os ∧ AllBare s'.gens) s₁ := by
  have rel := vals_ints hi
  obtain ⟨H, only, seq, fits, just, out⟩ : ∃ H : Hp, Only H ∧ SqL K H a (ns.map V.int) ∧ HOk P w H s₁.heap ∧ (∀ b, H b ≠ none → b = a) ∧ (H a ≠ none → K.lookup a = none) := by
    cases hk : K.lookup a with
    | some o =>
      have e := KX a o hk
      rw [ha] at e
      cases e
      exact ⟨fun _ => none, fun _ => .inl rfl, .inr ⟨_, vs.toArray, _, hk, rfl, rfl, rfl, by rw [List.size_toArray, hi.length]; exact hl, by simpa using rel⟩, fun b u z => (by cases (show (none : Option HO) = some u from z)), fun b z => absurd rfl z, fun z => absurd rfl z⟩
    | none =>
      refine ⟨fun b => if b = a then some (.frz { cls := .type "list", data := .seq vs.toArray } (.lst (ns.map V.int))) else none, fun b => ?_, .inl (.inr ⟨{ cls := .type "list", data := .seq vs.toArray }, if_pos rfl⟩), fun b u z => ?_, fun b z => ?_, fun _ => rfl⟩
      · by_cases e : b = a
        · exact .inr ⟨_, _, if_pos e⟩
        · exact .inl (if_neg e)
      · by_cases e : b = a
        · cases (if_pos e).symm.trans z
          subst e
          exact ⟨ha, by rw [List.length_map]; exact hl, vs, _, rel, ha⟩
        · cases (if_neg e).symm.trans z
      · by_cases e : b = a
        · exact e
        · exact absurd (if_neg e) z
  have hid : ∀ {b : Addr} {o : Obj}, s₁.heap.get? b = some o → H b = none → (hidT s₁.heap H).get? b = some o := fun e n => hidT_get e n
  have free : ∀ {b : Addr} {o : Obj}, s₁.heap.get? b = some o → (∀ xs n, o.data ≠ .seq xs n) → H b = none := fun {b o} e d => by
    cases q : H b with
    | none => rfl
    | some u =>
      cases just b (by rw [q]; exact fun z => by cases z)
      rw [ha] at e
      cases e
      exact absurd rfl (d _ _)
  have ns' : ∀ {b : Addr} {m : Str → Option Value}, s₁.heap.Ns b m → (hidT s₁.heap H).Ns b m := fun {b m} ⟨o, es, ep, e, d, r⟩ => ⟨o, es, ep, hid e (free e fun xs n z => by rw [d] at z; cases z), d, r⟩
  have kin : K.In (hidT s₁.heap H) := fun b o e => hid (KX b o e) (by
    cases q : H b with
    | none => rfl
    | some u =>
      cases just b (by rw [q]; exact fun z => by cases z)
      rw [out (by rw [q]; exact fun z => by cases z)] at e
      cases e)
  have md : Mod K mg (hidT s₁.heap H) := ⟨kin, ns' hns, ⟨mb, ns' hb, hbb⟩, let ⟨mc, h1, h2⟩ := hlim; ⟨mc, ns' h1, h2⟩⟩
  have none_in : ∀ b : Addr, b ∉ ([] : List Addr) := fun b z => by cases z
  have env0 : Env0 P w K mg (hidT s₁.heap H) callerA [] s₁ H := ⟨rfl, md, fun b o e => of_hidT e, Nat.le_of_eq (hidT_size _ _), trivial, fun b hb => absurd hb (none_in b), fits, .of_eq hg⟩
  refine codeAny_mono ((F _ kin (ns' hns)).run callerA [] s₁ H ⟨[.ref a], []⟩ [.ref a] [.ref a] _ _ hr rfl env0 (hbind s₁ (.ref a)) (.cons rfl .nil) (hsp H only seq)) fun r s' h => ?_
  cases r with
  | error e => exact h.elim
  | ok fl =>
    cases fl with
    | ret u =>
      obtain ⟨v, H', os, bare, un, fits', r', rfl⟩ := h
      obtain rfl : u = Value.bool true := r'
      refine ⟨rfl, OldK.of_keep fun b o e => ?_, os, bare⟩
      cases q : H b with
      | none => exact un.keep b o e q (none_in b) (none_in b)
      | some u =>
        rcases only b with z | ⟨ob, xs, z⟩
        · rw [q] at z; cases z
        · obtain ⟨e1, _⟩ := fits b _ z
          obtain ⟨e2, _⟩ := fits' b _ (un.frzs b ob _ z)
          rw [e] at e1
          cases e1
          exact e2
    | _ => exact h.elim
theorem walk_G {l : PySem.W.OpenLaw} {n k : Nat} {q : Program} {loose : List Str} {XP : (Str → Option Value) → Heap → Prop} {YP : World → Heap → Prop} {d : DefRec} {x : Str}
    (hn : l.most = some n) (hn2 : n ≤ sizeLine) (hdf : d.params.defaults = []) (hr : Room k callerA)
    (F : ∀ (w : World) (mg : Str → Option Value) (fa : Addr) (h : Heap), YP w h → h.Ns mainGlobals mg → mg d.name = some (.ref fa) →
      ∃ (K : KF) (fd : FuncData) (sp : Sp), K.In h ∧ (∀ (s : Shared) (u : Value), BindsTo s fd ⟨[u], []⟩ [(x, u)]) ∧
        (∀ (H : Hp) (a : Addr) (ns : List Int), ns.length ≤ n → Only H → SqL K H a (ns.map V.int) → sp [.ref a] H (fun v _ => v = .bl true) fun _ _ _ => False) ∧
        ∀ base : Heap, K.In base → base.Ns mainGlobals mg → FnG l.prog w K mg base CX0 k fa fd [x] sp) :
    PySem.W.WalkO q loose XP YP l.row.toRowW d [] (fun f vs => PySem.call f vs) := by
  refine Att.attach_call hn hdf fun w s₀ s₁ mg mb fa o pm cd doc a vs ns G Y ho hd hcd hmg hobj hints hlen hg => ?_
  obtain ⟨K, fd, sp, KX, hb, hsp, hF⟩ := F w mg fa _ Y G.T.g hmg
  exact law_callG KX G.T.g G.T.b G.T.builtins G.T.nolimit hg hobj hints (Nat.le_trans hlen hn2) hr hF hb fun H hO hS => hsp H a ns hlen hO hS
/-! ## bodies, calls -/
theorem fn_okG {P : Program} {w : World} {K : KF} {mg : Str → Option Value} {base : Heap} {x qual : Str} {params : Arguments} {body : List Stmt} {scope : Scope} {f : Addr} {fd : FuncData} {N ps : List Str} {k : Nat} {b : SM} {F : Fn}
    (Fd : FunD K x qual params body scope [] [] f fd) (S : FnScope N ps scope) (hF : F = mkFn N.length b)
    (hb : ∀ (cdv : Value) (A : Around) (outer : List Env) (s : Shared) (H : Hp) (E : XK), Room k (A.deeper (envOfC qual scope s.heap.objs.size f cdv)) → (A.deeper (envOfC qual scope s.heap.objs.size f cdv)).guards = some [] →
      SSs (cxOf (L2.CX P w) P w K mg base N qual scope f cdv A outer s H E) (fun cls d _ H => E cls d H) body b) : FnG P w K mg base (L2.CX P w) (k + 1) f fd ps (spF K mg ps.length F) := by
  subst hF
  refine okG Fd S (fun vs H Q E ⟨w, ds, _, _, r, hl, _⟩ => r.len.trans hl) fun cdv A outer s H vs Q E hr gd hsp => ?_
  obtain ⟨w1, ds, rfl, ok, r, hl, hw⟩ := hsp
  refine ⟨_, hb cdv A outer s w1.H E hr gd, ⟨w1, ds.map some ++ List.replicate (N.length - ds.length) none, rfl, ok, srep_start r, ?_⟩⟩
  unfold mkFn WpF at hw
  unfold WpS
  cases e : b (ds.map some ++ List.replicate (N.length - ds.length) none) w1.h with
  | none => simp only [e] at hw
  | some r =>
    cases r with
    | nx s1 h1 =>
      simp only [e] at hw
      exact fun w' σ' l o eh _ => hw w' .non l o eh rfl
    | rt d h1 =>
      simp only [e] at hw
      exact hw
    | bk s1 h1 => simp only [e] at hw
    | ct s1 h1 => simp only [e] at hw
    | ex s1 x h1 =>
      simp only [e] at hw
      exact fun w' σ' cls da l o eh _ r => hw w' cls da l o eh r
theorem fn_okLG {P : Program} {w : World} {K : KF} {mg : Str → Option Value} {base : Heap} {x qual : Str} {params : Arguments} {body : List Stmt} {scope : Scope} {f : Addr} {fd : FuncData} {N ps : List Str} {k : Nat} {b : SM} {F : Fn}
    (Fd : FunD K x qual params body scope [] [] f fd) (S : FnScope N ps scope) (hF : F = mkFn N.length b)
    (hb : ∀ (cdv : Value) (A : Around) (outer : List Env) (s : Shared) (H : Hp) (E : XK), Room k (A.deeper (envOfC qual scope s.heap.objs.size f cdv)) → (A.deeper (envOfC qual scope s.heap.objs.size f cdv)).guards = some [] →
      SSs (cxOf CX0 P w K mg base N qual scope f cdv A outer s H E) W0 body b) : FnG P w K mg base CX0 (k + 1) f fd ps (fun vs H Q _ => spF K mg ps.length F vs H Q fun _ _ _ => False) := by
  subst hF
  refine okG Fd S (fun vs H Q E ⟨w, ds, _, _, r, hl, _⟩ => r.len.trans hl) fun cdv A outer s H vs Q E hr gd hsp => ?_
  obtain ⟨w1, ds, rfl, ok, r, hl, hw⟩ := hsp
  refine ⟨_, hb cdv A outer s w1.H E hr gd, ⟨w1, ds.map some ++ List.replicate (N.length - ds.length) none, rfl, ok, srep_start r, ?_⟩⟩
  unfold mkFn WpF at hw
  unfold WpS
  cases e : b (ds.map some ++ List.replicate (N.length - ds.length) none) w1.h with
  | none => simp only [e] at hw
  | some r =>
    cases r with
    | nx s1 h1 =>
      simp only [e] at hw
      exact fun w' σ' l o eh _ => hw w' .non l o eh rfl
    | rt d h1 =>
      simp only [e] at hw
      exact hw
    | bk s1 h1 => simp only [e] at hw
    | ct s1 h1 => simp only [e] at hw
    | ex s1 x h1 =>
      simp only [e] at hw
      exact fun w' σ' cls da l o eh _ r => hw w' cls da l o eh r
section
variable {X : Cx} {W : WX} {e : Expr} {es : List Expr} {a : AM} {F : Fn} {f : Addr} {fd : FuncData} {ps : List Str} {k : Nat} {x : Str} {p pos : Pos}
theorem pe_callG {sp : Sp} {E : L2.St → XK} {t : TA} (F : FnG X.prog X.w X.K X.mg X.base (L2.CX X.prog X.w) k f fd ps sp) (hr : Room k X.A) (gd : X.A.guards = some []) (hg : Gl X x) (hm : X.mg x = some (.ref f)) (hk : PySem.W.keepIn X.K (.ref f) = true) (hb : Binds X.K fd ps []) (hx : ∀ σ, PassesAt (L2.CX X.prog X.w) X σ (E σ))
    (ha : PA X (e :: es) t) (hdb : (x == ("__debug__" : Str)) = false := by decide) (he : starEach (e :: es) X.env = (false, eval e X.env) :: starEach es X.env := by rfl) (hpl : (backTo pos (starEach es X.env)).any (·.1) = false := by rfl) :
    PE X (.Call (.Name x p) (e :: es) [] pos) (tCallS sp E t) := by
  refine ⟨fun pins s σ H Q I h => wpAny_Call_Name_kw (ld_glob I hg hm (PySem.W.callWith_K (h₀ := X.base) I.ok.mod.kin hk (thn (ha.run pos pins s σ H _ I h) fun us s1 ⟨vs, H1, J, r, q⟩ => ⟨J.kIn, ?_⟩) he hpl) hdb)⟩
  have bd := hb s1 us J.kIn (by rw [List.append_nil, ← r.length]; exact F.len _ _ _ _ q)
  rw [List.append_nil] at bd
  refine wpAny_call (codeAny_mono (F.run X.A X.stack s1 H1 ⟨us, []⟩ us vs Q (E σ) hr gd J.env0 bd r q) fun out s' hq => ?_)
  cases out with
  | error u => exact hx σ pins H1 s1 u s' J hq
  | ok fl =>
    cases fl with
    | ret u => exact J.after hq
    | _ => exact hq.elim
/-- a call of a def by its name -/
theorem se_callG (G : FnG X.prog X.w X.K X.mg X.base (L2.CX X.prog X.w) k f fd ps (spF X.K X.mg ps.length F)) (tk : Takes X W) (hr : Room k X.A) (gd : X.A.guards = some []) (hg : Gl X x) (hm : X.mg x = some (.ref f)) (hk : PySem.W.keepIn X.K (.ref f) = true) (hb : Binds X.K fd ps [])
    (hl : (e :: es).length = ps.length) (ha : SA X W (e :: es) a) (hal : ∀ s h ds h', a s h = some (.ok ds h') → ds.length = (e :: es).length) (hdb : (x == ("__debug__" : Str)) = false := by decide) (he : starEach (e :: es) X.env = (false, eval e X.env) :: starEach es X.env := by rfl) (hpl : (backTo pos (starEach es X.env)).any (·.1) = false := by rfl) :
    SE X W (.Call (.Name x p) (e :: es) [] pos) (eCall F a) :=
  PE.mono' (pe_callG G hr gd hg hm hk hb (E := WE W) (fun σ => passAt tk σ) ha hdb he hpl) fun σ H Q ⟨w, sl, eH, ok, hs, h⟩ => by
    subst eH
    exact call_args hl hal ok hs h
end
end Vl
set_option maxHeartbeats 4000000
namespace Vl
open PySem PySem.Spec PyProof.Rows L2

/-! ## repr -/
/-! ## str(n), str(text) -/
abbrev rStr : List V → Hp → VK → Prop := fun xs H Q => (∃ i, xs = [.int i] ∧ i.natAbs.log2 < 1920 ∧ Q (.str (toString i)) H) ∨ (∃ a, xs = [.str a] ∧ Q (.str a) H)
theorem call_strA {X : Cx} : CallR X (.type "str") rStr := call_str_int.or SkE.call_str_str
def strP : PyData → Option PyData
  | .int i => if i.natAbs.log2 < 1920 then some (.str (toString i)) else none
  | .str z => some (.str z)
  | _ => none
theorem call_strP {K : KF} : CallP K rStr strP := by
  intro w x p z Q ok rx e a
  cases p with
  | int i =>
    simp only [strP] at e
    split at e
    · rename_i h
      cases e
      cases int_of rx
      exact .inl ⟨i, rfl, h, a.here ok rfl⟩
    · cases e
  | str t =>
    cases e
    cases str_of rx
    exact .inr ⟨t, rfl, a.here ok rfl⟩
  | _ => cases e
end Vl
set_option maxHeartbeats 4000000
namespace Vl
open PySem PySem.Spec PyProof.Rows L2

/-! ## B.__init__(self, ..) of an own exception class B that has no __init__ of its own -/
structure HinC (K : KF) (B : Addr) (mc : Value) : Prop where
  rd : PySem.W.readsIn K B mc = true
  ga : PySem.W.specialIn K (.ref B) "__getattribute__" = some (some (.builtin "type.__getattribute__"))
  at_ : PySem.W.findCls K (.ref B) mc "__init__" = some (.val (.builtin "ValueError.__init__"))
section
variable {X : Cx} {e : Expr} {es : List Expr} {ta : TA} {p1 p2 pos : Pos} {x : Str} {B : Addr} {mc : Value}
theorem pe_hinit {pl : Sem Bool} (hg : Gl X x) (hm : X.mg x = some (.ref B)) (hB : HinC X.K B mc) (ha : PA X (e :: es) ta) (hdb : (x == ("__debug__" : Str)) = false := by decide)
    (hc : eval (.Call (.Attribute (.Name x p1) "__init__" p2) (e :: es) [] pos) X.env = (do
      let ov ← eval (.Name x p1) X.env
      standAt p2.atName
      let (f, first) ← holding [ov] (getMethod ov "__init__" pl)
      callWith pos f first (backTo pos (starEach (e :: es) X.env)) (backToKw pos (keywordEach [] X.env))) := by rfl)
    (he : starEach (e :: es) X.env = (false, eval e X.env) :: starEach es X.env := by rfl) (hpl : (backTo pos (starEach es X.env)).any (·.1) = false := by rfl) :
    PE X (.Call (.Attribute (.Name x p1) "__init__" p2) (e :: es) [] pos) (tVeI X.K ta) := by
  refine ⟨fun pins s σ H Q I h => ?_⟩
  refine PySem.W.methodCall_KW (ld_glob I hg hm ?_ hdb) hc
  refine PySem.W.method_cls I.kIn hB.ga (PySem.W.cls_value I.kIn hB.rd hB.at_ (by decide +kernel) ?_)
  show wpAny _ _ (callWith pos (Value.builtin "ValueError.__init__") [] (backTo pos (starEach (e :: es) X.env)) []) _ _ _
  refine PyProof.Rows.callWith_method1 (thn (ha.run pos pins _ σ H _ (I.tok _) h) fun us s1 ⟨vs, H1, I1, r1, a, C, ws, ev, hl, T, ea, q⟩ => ?_) he hpl
  subst ev
  cases r1 with
  | @cons _ u0 _ ur ra rw' =>
    obtain rfl : u0 = Value.ref a := ra
    have hlen : ur.length ≤ sizeLine := by
      rw [← Paired.length rw', sizeLine_eq]
      omega
    exact oinit_ok T I1 ea hlen fun s' J => ⟨.non, H1, J, rfl, q⟩
end
/-- an own exception class over ValueError, with a dict: what the written part must show -/
def oexB (K : KF) (C : Addr) : Bool := (match K.lookup C with
  | some ⟨.type "type", _, .cls cd, sl⟩ => (match cd.mro, sl.toList with
    | .ref C' :: bm, [_, _, _, _, some (.builtin n), _] => C' == C && n == "ValueError.__new__" && !cd.hasDel && cd.hasDict && PySem.HandSPX.refsVE bm
    | _, _ => false)
  | _ => false) && (decide (PySem.W.findIn K (.ref C) "__setattr__" = some (some (.builtin "object.__setattr__"))) && (decide (PySem.W.subIn K (.ref C) (.type "BaseException") = some true) && (decide (PySem.W.typeIn K (.ref C) = some (.type "type")) && PySem.W.keepIn K (.ref C))))
theorem oexB_ok {K : KF} {C : Addr} (h : oexB K C = true) : OexC K C := by
  unfold oexB at h
  rw [Bool.and_eq_true, Bool.and_eq_true, Bool.and_eq_true, Bool.and_eq_true] at h
  obtain ⟨q, h2, h3, h4, h5⟩ := h
  refine ⟨?_, of_decide_eq_true h2, of_decide_eq_true h3, of_decide_eq_true h4, h5⟩
  split at q
  · rename_i dd cd sl ho
    split at q
    · rename_i C' bm k0 k1 k2 k3 n k5 hm hs
      simp only [Bool.and_eq_true, beq_iff_eq, Bool.not_eq_true'] at q
      obtain ⟨⟨⟨⟨rfl, rfl⟩, hdel⟩, hdict⟩, hve⟩ := q
      obtain ⟨nm, bs, mro, ns, qn, hd, sn, sub, ab, col, del⟩ := cd
      dsimp only at hm hdel hdict
      subst hm hdel hdict
      have hsl : sl = #[k0, k1, k2, k3, some (.builtin "ValueError.__new__"), k5] := by
        obtain ⟨l⟩ := sl
        simp only at hs
        rw [hs]
      subst hsl
      exact ⟨_, _, _, _, _, _, _, _, _, _, _, _, _, _, _, ho, hve⟩
    · cases q
  · cases q
/-! ## an exception's __init__: its fields, one after the other -/
inductive FldS (X : Cx) : List Stmt → List (Str × Nat) → Prop
  | nil : FldS X [] []
  | cons {st : Stmt} {r : List Stmt} {f : Str} {i : Nat} {fs : List (Str × Nat)} : PS X st (tOst X.K f (tVar 0) (tVar i)) → FldS X r fs → FldS X (st :: r) ((f, i) :: fs)
def tFlds (K : KF) : List (Str × Nat) → TS
  | [] => tNext
  | (f, i) :: r => tSeq (tOst K f (tVar 0) (tVar i)) (tFlds K r)
theorem FldS.pss {X : Cx} : ∀ {st : List Stmt} {fs : List (Str × Nat)}, FldS X st fs → PSs X st (tFlds X.K fs)
  | _, _, .nil => pss_nil
  | _, _, .cons h r => pss_cons h r.pss
theorem upd_self {H : Hp} {a : Addr} {o : HO} (h : H a = some o) : upd H a o = H := by
  funext b
  by_cases e : b = a
  · subst e
    rw [upd_same, h]
  · rw [upd_ne e]
theorem upd_upd {H : Hp} {a : Addr} {o u : HO} : upd (upd H a o) a u = upd H a u := by
  funext b
  by_cases e : b = a
  · subst e
    rw [upd_same, upd_same]
  · rw [upd_ne e, upd_ne e, upd_ne e]
/-- the fields behind the first -/
theorem flds_more {K : KF} {D : Ends} {σ : L2.St} {a C dx : Addr} (T : OexC K C) (h0 : σ[0]? = some (some (.ref a))) : ∀ (fs : List (Str × Nat)) (vs : List V) (acc : List (Str × V)) (H : Hp), dx ≠ a → H a = some (exo a C (some dx)) → H dx = some (exd dx acc) → acc.length + fs.length ≤ 900 →
    (∀ f i, (f, i) ∈ fs → PySem.W.findIn K (.ref C) f = some none) → fs.length = vs.length → (∀ (j : Nat) (f : Str) (i : Nat) (v : V), fs[j]? = some (f, i) → vs[j]? = some v → σ[i]? = some (some v)) →
    D.nx σ (upd H dx (exd dx (((fs.map (·.1)).zip vs).reverse ++ acc))) → tFlds K fs D σ H
  | [], vs, acc, H, hne, ha, hd, hl, hf, hv, hs, q => by
    rw [List.map_nil, List.zip_nil_left, List.reverse_nil, List.nil_append, upd_self hd] at q
    exact q
  | (f, i) :: r, [], acc, H, _, _, _, _, _, hv, _, _ => by simp at hv
  | (f, i) :: r, v :: vs, acc, H, hne, ha, hd, hl, hf, hv, hs, q => by
    rw [List.length_cons] at hl
    refine ⟨v, hs 0 f i v rfl rfl, .ref a, h0, a, C, rfl, T, hf f i List.mem_cons_self, .inr ⟨dx, acc, ha, hd, by omega, ?_⟩⟩
    refine flds_more T h0 r vs ((f, v) :: acc) _ hne ?_ upd_same (by rw [List.length_cons]; omega) (fun g j hg => hf g j (List.mem_cons_of_mem _ hg)) (by simpa using hv) (fun j g k u e1 e2 => hs (j + 1) g k u (by simpa using e1) (by simpa using e2)) ?_
    · rw [upd_ne fun z => hne z.symm]
      exact ha
    · rw [upd_upd]
      rw [List.map_cons, List.zip_cons_cons, List.reverse_cons, List.append_assoc] at q
      exact q
theorem upd_swap {H : Hp} {a d : Addr} {o u w : HO} (h : d ≠ a) : upd (upd (upd H d o) a u) d w = upd (upd H d w) a u := by
  funext b
  by_cases e : b = d
  · subst e
    rw [upd_same, upd_ne h, upd_same]
  · rw [upd_ne e]
    by_cases e2 : b = a
    · subst e2
      rw [upd_same, upd_same]
    · rw [upd_ne e2, upd_ne e2, upd_ne e, upd_ne e]
def spInit (C : Addr) (names : List Str) : Sp := fun vs H Q _ => ∃ a ws, vs = .ref a :: ws ∧ ws.length = names.length ∧ H a = some (exo a C none) ∧ ∀ dx, H dx = none → dx ≠ a → Q .non (upd (upd H dx (exd dx (names.zip ws).reverse)) a (exo a C (some dx)))
theorem flds_all {K : KF} {D : Ends} {σ : L2.St} {a C : Addr} (T : OexC K C) (h0 : σ[0]? = some (some (.ref a))) (f : Str) (i : Nat) (fs : List (Str × Nat)) (v : V) (vs : List V) (H : Hp) (ha : H a = some (exo a C none)) (hl : fs.length ≤ 800)
    (hf : ∀ g j, (g, j) ∈ (f, i) :: fs → PySem.W.findIn K (.ref C) g = some none) (hv : fs.length = vs.length) (hs : ∀ (j : Nat) (g : Str) (k : Nat) (u : V), ((f, i) :: fs)[j]? = some (g, k) → (v :: vs)[j]? = some u → σ[k]? = some (some u))
    (q : ∀ dx, H dx = none → dx ≠ a → D.nx σ (upd (upd H dx (exd dx (((f :: fs.map (·.1)).zip (v :: vs)).reverse))) a (exo a C (some dx)))) : tFlds K ((f, i) :: fs) D σ H := by
  refine ⟨v, hs 0 f i v rfl rfl, .ref a, h0, a, C, rfl, T, hf f i List.mem_cons_self, .inl ⟨ha, fun dx hd hne => ?_⟩⟩
  refine flds_more T h0 fs vs [(f, v)] _ hne upd_same ?_ (by rw [List.length_singleton]; omega) (fun g j hg => hf g j (List.mem_cons_of_mem _ hg)) hv (fun j g k u e1 e2 => hs (j + 1) g k u (by simpa using e1) (by simpa using e2)) ?_
  · rw [upd_ne hne, upd_same]
  · rw [upd_swap hne]
    have := q dx hd hne
    rw [List.zip_cons_cons, List.reverse_cons] at this
    exact this
theorem init_ok {P : Program} {w : World} {K : KF} {mg : Str → Option Value} {base : Heap} {x qual : Str} {params : Arguments} {hd : Stmt} {rest : List Stmt} {scope : Scope} {fI : Addr} {fd : FuncData} {N ps : List Str} {k : Nat} {m f : Str} {names : List Str} {C : Addr}
    (Fd : FunD K x qual params (hd :: rest) scope [] [] fI fd) (S : FnScope N ps scope) (T : OexC K C) (hp : ps.length = names.length + 2) (hl : names.length ≤ 800) (hf : ∀ g ∈ f :: names, PySem.W.findIn K (.ref C) g = some none)
    (hb : ∀ (cdv : Value) (A : Around) (outer : List Env) (s : Shared) (H : Hp) (E : XK), PS (cxOf (L2.CX P w) P w K mg base N qual scope fI cdv A outer s H E) hd (tDrop (tVeI K (tCons (tVar 0) (tCons (tC (.str m)) tNil)))) ∧
      FldS (cxOf (L2.CX P w) P w K mg base N qual scope fI cdv A outer s H E) rest ((f :: names).zipIdx 1)) : FnOk P w K mg base (L2.CX P w) (k + 1) fI fd ps (spInit C (f :: names)) := by
  refine Fd.ok S (fun vs H Q E ⟨a, ws, e, h, _, _⟩ => by rw [e, List.length_cons, h, hp, List.length_cons]) fun cdv A outer s H vs Q E hr ⟨a, ws, e, hlen, ha, q⟩ => ?_
  subst e
  obtain ⟨h1, h2⟩ := hb cdv A outer s H E
  cases ws with
  | nil => simp at hlen
  | cons v vs =>
    have hst : ∀ (j : Nat) (u : V), (v :: vs)[j]? = some u → (L2.start N (.ref a :: v :: vs))[j + 1]? = some (some u) := fun j u hj => by
      unfold L2.start
      have hj' := (List.getElem?_eq_some_iff.mp hj).1
      rw [List.getElem?_append_left (by rw [List.length_map, List.length_cons]; omega), List.getElem?_map, List.getElem?_cons_succ, hj]
      rfl
    have h0 : (L2.start N (.ref a :: v :: vs))[0]? = some (some (.ref a)) := by
      unfold L2.start
      rw [List.getElem?_append_left (by rw [List.length_map, List.length_cons]; omega)]
      rfl
    refine ⟨_, pss_cons h1 h2.pss, .ref a, h0, a, C, [.str m], rfl, (by simp), T, ha, ?_⟩
    have hz : ∀ (l : List Str) (n : Nat), (l.zipIdx n).map (·.1) = l := fun l => by
      induction l with
      | nil => exact fun _ => rfl
      | cons y r ih => exact fun n => by rw [List.zipIdx_cons, List.map_cons, ih]
    have hg : ∀ (l : List Str) (n j : Nat) (g : Str) (k : Nat), (l.zipIdx n)[j]? = some (g, k) → k = n + j := fun l => by
      induction l with
      | nil => exact fun n j g k h => by simp at h
      | cons y r ih =>
        intro n j g k h
        rw [List.zipIdx_cons] at h
        cases j with
        | zero =>
          cases h
          rfl
        | succ j =>
          have := ih (n + 1) j g k (by simpa using h)
          omega
    refine flds_all T h0 f 1 (names.zipIdx 2) v vs H ha (by simpa using hl) (fun g j hm => hf g ?_) (by simpa using hlen.symm) (fun j g k u e1 e2 => ?_) fun dx hd hne => ?_
    · have : g ∈ ((f :: names).zipIdx 1).map (·.1) := List.mem_map.mpr ⟨(g, j), hm, rfl⟩
      rw [hz] at this
      exact this
    · have := hg (f :: names) 1 j g k e1
      subst this
      rw [Nat.add_comm]
      exact hst j u e2
    · rw [hz]
      exact q dx hd hne
/-! ## raise X(..) -/
def sThrow (c : Str) (names : List Str) (a : AM) : SM := fun s h => match a s h with
  | some (.ok ds h1) => some (.ex s ⟨c, (names.zip ds).reverse⟩ h1)
  | some (.ex x h1) => some (.ex s x h1)
  | none => none
theorem RepDs.rev {K : KF} {w : Wd} : ∀ {ds : List D} {vs : List V}, RepDs K w ds vs → RepDs K w ds.reverse vs.reverse
  | [], _, h => by rw [show _ = [] from h]; rfl
  | d :: ds, _, ⟨v, r, e, h1, h2⟩ => by
    rw [e, List.reverse_cons, List.reverse_cons]
    exact RepDs.app (RepDs.rev h2) ⟨v, [], rfl, h1, rfl⟩
section
variable {X : Cx} {W : WX} {e : Expr} {es : List Expr} {a : AM} {C fI : Addr} {fd : FuncData} {ps names : List Str} {k : Nat} {x : Str} {p pos pos2 : Pos}
theorem ss_throw (T : OexC X.K C) (iC : PySem.W.findIn X.K (.ref C) "__init__" = some (some (.ref fI))) (tI : PySem.W.typeIn X.K (.ref fI) = some (.type "function"))
    (F1 : FnOk X.prog X.w X.K X.mg X.base (L2.CX X.prog X.w) k fI fd ps (spInit C names)) (hr : Room (k + 1) X.A) (hb : Binds X.K fd ps []) (tk : Takes X W) (hc : X.calm = true) (hg : Gl X x) (hm : X.mg x = some (.ref C)) (ha : SA X W (e :: es) a)
    (hal : ∀ s h ds h', a s h = some (.ok ds h') → ds.length = names.length) (hn : names.length ≤ 1000) (hdb : (x == ("__debug__" : Str)) = false := by decide) (he : starEach (e :: es) X.env = (false, eval e X.env) :: starEach es X.env := by rfl) (hpl : (backTo pos (starEach es X.env)).any (·.1) = false := by rfl) :
    SS X W (.Raise (some (.Call (.Name x p) (e :: es) [] pos)) none pos2) (sThrow x names a) :=
  PS.mono' (ps_raise hc tk (pmk_oex T iC tI F1 hr hb .nil (fun _ _ _ _ _ _ _ c => by obtain ⟨_, _, _, _, _, _, _, _, _, _, _, _, q⟩ := c; exact q.elim) hg hm ha hdb he hpl)) fun E σ H ⟨w, sl, eH, ok, hs, h⟩ => by
    subst eH
    refine ⟨w, sl, rfl, ok, hs, ?_⟩
    unfold sThrow at h
    unfold WpA
    cases ea : a sl w.h with
    | none => simp only [ea] at h; exact h
    | some r =>
      cases r with
      | ex y h' =>
        simp only [ea] at h
        exact fun w' cls da l o eh r => h w' σ cls da l o eh (hs.mono ok l) r
      | ok ds h' =>
        simp only [ea] at h
        intro w1 vs l1 ok1 eh1 r1
        subst eh1
        have hlen := hal _ _ _ _ ea
        have hv := r1.len
        refine ⟨by omega, fun ad had => ?_⟩
        refine ⟨ad, vs, by rw [List.append_nil], by omega, upd_same, fun dx hdx hne => ⟨rfl, dx, (names.zip vs).reverse, upd_same, by rw [upd_ne hne, upd_same], ?_, ?_⟩⟩
        · rw [upd_ne hne] at hdx
          exact hdx
        · rw [upd_ne hne] at hdx
          have eH : upd (del (upd (upd (upd w1.H ad (exo ad C none)) dx (exd dx (names.zip vs).reverse)) ad (exo ad C (some dx))) ad) dx (.xd (names.zip vs).reverse) = (w1.newT dx (.xd (names.zip vs).reverse)).H := by
            show _ = upd w1.H dx _
            funext b
            by_cases e1 : b = dx
            · subst e1
              rw [upd_same, upd_same]
            · rw [upd_ne e1, upd_ne e1]
              by_cases e2 : b = ad
              · subst e2
                rw [del_same, had]
              · rw [del_ne e2, upd_ne e2, upd_ne e1, upd_ne e2]
          rw [eH]
          have le := Wd.newT_le (o := .xd (names.zip vs).reverse) hdx
          refine h (w1.newT dx (.xd (names.zip vs).reverse)) σ (.ref C) (some dx) (l1.trans le ok1) (Wd.newT_ok ok1 hdx) rfl ((hs.mono ok l1).mono ok1 le) ⟨C, hm, rfl, .inr ⟨dx, (names.zip vs).reverse, rfl, upd_same, ?_, ?_⟩⟩
          · rw [List.map_reverse, List.map_reverse, zip_snd (by omega), zip_snd (by omega)]
            exact RepDs.mono ok1 le _ (RepDs.rev r1)
          · rw [List.map_reverse, List.map_reverse, zip_fst (by omega), zip_fst (by omega)]
end
/-! ## what the head must show of the classes -/
def clsB : Stmt → List Stmt
  | .ClassDef (body := b) .. => b
  | _ => []
def hinB (K : KF) (B : Addr) : Bool := PySem.W.readsIn K B (.type "type") && (decide (PySem.W.specialIn K (.ref B) "__getattribute__" = some (some (.builtin "type.__getattribute__"))) && (match PySem.W.findCls K (.ref B) (.type "type") "__init__" with
  | some (.val (.builtin n)) => n == "ValueError.__init__"
  | _ => false))
theorem hinB_ok {K : KF} {B : Addr} (h : hinB K B = true) : HinC K B (.type "type") := by
  unfold hinB at h
  rw [Bool.and_eq_true, Bool.and_eq_true] at h
  obtain ⟨h1, h2, h3⟩ := h
  refine ⟨h1, of_decide_eq_true h2, ?_⟩
  split at h3
  · rename_i n e
    rw [e, eq_of_beq h3]
  · cases h3
def exB (K : KF) (C fI : Addr) (fs : List Str) : Bool := oexB K C && (decide (PySem.W.findIn K (.ref C) "__init__" = some (some (.ref fI))) && (decide (PySem.W.typeIn K (.ref fI) = some (.type "function")) && fs.all fun g => decide (PySem.W.findIn K (.ref C) g = some none)))
theorem exB_ok {K : KF} {C fI : Addr} {fs : List Str} (h : exB K C fI fs = true) : OexC K C ∧ PySem.W.findIn K (.ref C) "__init__" = some (some (.ref fI)) ∧ PySem.W.typeIn K (.ref fI) = some (.type "function") ∧ ∀ g ∈ fs, PySem.W.findIn K (.ref C) g = some none := by
  unfold exB at h
  rw [Bool.and_eq_true, Bool.and_eq_true, Bool.and_eq_true] at h
  exact ⟨oexB_ok h.1, of_decide_eq_true h.2.1, of_decide_eq_true h.2.2.1, fun g hg => of_decide_eq_true (List.all_eq_true.mp h.2.2.2 g hg)⟩
end Vl
set_option maxHeartbeats 4000000
namespace Vl
open PySem PySem.Spec PyProof.Rows L2

/-! ## a caught exception is tracked from then on -/
section
variable {X : Cx} {pins : List (Addr × Obj)} {σ : L2.St} {H : Hp} {s : Shared}
end
section
variable {X : Cx} {x n : Str} {c : Value} {i : Nat} {body suite : List Stmt} {b₀ : Stmt} {np pos pos' : Pos} {tb : WX → TS} {ts : Addr → TS} {Wout : WX}
end
/-! ## isinstance of a tracked exception -/
section
open PySem.Calls PySem.W
variable {prog : Program} {w : World} {A : Around} {E : Value → Shared → Prop} {s : Shared} {K : Frag} {x C : Addr} {ox : Obj} {od : Option Obj}
end
section
variable {X : Cx} {pins : List (Addr × Obj)} {σ : L2.St} {H : Hp} {s : Shared} {a C : Addr} {da : Option Addr}
end
end Vl
set_option maxHeartbeats 4000000
namespace Vl
open PySem PySem.Spec PyProof.Rows L2

/-! ## the law's own exception classes: a table of what stands above each -/
abbrev Anc := List (Str × List Str)
structure ExT (K : KF) (mg : Str → Option Value) (anc : Anc) (ts fl : List Str) : Prop where
  cls : ∀ x as C, anc.lookup x = some as → mg x = some (.ref C) → clsN K C = some x ∧ ExcC K C ∧ XfC K C ∧ ∀ f ∈ fl, PySem.W.findIn K (.ref C) f = some none
  uniq : ∀ x as C, anc.lookup x = some as → clsN K C = some x → mg x = some (.ref C)
  sub : ∀ x as C t T, anc.lookup x = some as → mg x = some (.ref C) → t ∈ ts → mg t = some (.ref T) → PySem.W.exmOne K (.ref C) (.ref T) = some (decide (t ∈ as)) ∧ PySem.W.kitOne K (.ref C) (.ref T) = some (decide (t ∈ as))
  ve : ∀ x as C, anc.lookup x = some as → mg x = some (.ref C) → PySem.W.kitOne K (.ref C) (.type "ValueError") = some true
/-- the tables of all refusals, and their fields -/
def ANC : Anc := [("HandError", ["HandError"]), ("NoProgram", ["NoProgram", "HandError"]), ("NoText", ["NoText", "HandError"]), ("NoStep", ["NoStep", "HandError"]), ("NoMark", ["NoMark", "HandError"]), ("NoRun", ["NoRun", "HandError"]), ("NoNames", ["NoNames", "HandError"]),
  ("TooMany", ["TooMany", "HandError"]), ("TooLong", ["TooLong", "HandError"]), ("Bare", ["Bare", "HandError"]), ("NoRow", ["NoRow", "HandError"]), ("NoName", ["NoName", "HandError"])]
/-! ## try: .. except T as n: .. -/
section
variable {X : Cx} {W : WX} {x n : Str} {i : Nat} {body suite : List Stmt} {b₀ : Stmt} {np pos pos' : Pos} {b su : SM} {anc : Anc} {ts fl : List Str} {T : Addr}
end
section
variable {X : Cx} {W : WX} {x n : Str} {body suite : List Stmt} {b₀ : Stmt} {np pos pos' : Pos} {b su : SM} {anc : Anc} {ts fl : List Str} {T : Addr}
end
/-! ## isinstance of what was caught, its fields -/
def isXs (anc : Anc) (ts : List Str) : D → Option Bool
  | .exc c _ => (anc.lookup c).map fun as => ts.any fun t => decide (t ∈ as)
  | _ => none
def isXv (anc : Anc) : D → Option Bool
  | .exc c _ => (anc.lookup c).map fun _ => true
  | _ => none
def eIsX (anc : Anc) (ts : List Str) (f : EM) : EM := f.bind fun d => EM.lift fun _ => (isXs anc ts d).map fun b => .v (.bool b)
def eIsV (anc : Anc) (f : EM) : EM := f.bind fun d => EM.lift fun _ => (isXv anc d).map fun b => .v (.bool b)
def fldX (anc : Anc) (n : Str) : D → Option D
  | .exc c fs => (anc.lookup c).bind fun _ => (fs.lookup n).map .v
  | _ => none
def eFldX (anc : Anc) (n : Str) (f : EM) : EM := f.bind fun d => EM.lift fun _ => fldX anc n d
/-- names of own classes, one behind the other -/
inductive ClsA (X : Cx) : List Expr → List Str → List Addr → Prop
  | nil : ClsA X [] [] []
  | cons {x : Str} {p : Pos} {C : Addr} {es : List Expr} {xs : List Str} {Cs : List Addr} : Gl X x → X.mg x = some (.ref C) → (x == ("__debug__" : Str)) = false → starEach (.Name x p :: es) X.env = (false, eval (.Name x p) X.env) :: starEach es X.env → ClsA X es xs Cs → ClsA X (.Name x p :: es) (x :: xs) (C :: Cs)
theorem ClsA.pa {X : Cx} : ∀ {es : List Expr} {xs : List Str} {Cs : List Addr}, ClsA X es xs Cs → PA X es (fun _ H Q => Q (Cs.map V.ref) H)
  | _, _, _, .nil => PA.mono' pa_nil fun σ H Q h => h
  | _, _, _, .cons hg hm hd hs r => PA.mono' (pa_cons (pe_glob (v := .ref _) hg hm rfl hd) r.pa hs) fun σ H Q h => h
section
variable {X : Cx} {W : WX} {e : Expr} {f : EM} {pos p p2 : Pos} {t : Str} {anc : Anc} {ts fl : List Str} {T : Addr}
theorem ClsA.at {X : Cx} : ∀ {es : List Expr} {xs : List Str} {Cs : List Addr}, ClsA X es xs Cs → xs.length = Cs.length ∧ ∀ (i : Nat) x T, xs[i]? = some x → Cs[i]? = some T → X.mg x = some (.ref T)
  | _, _, _, .nil => ⟨rfl, fun i x T h _ => by simp at h⟩
  | _, _, _, .cons hg hm hd hs r => ⟨by rw [List.length_cons, List.length_cons, r.at.1], fun i x T h1 h2 => by
    cases i with
    | zero =>
      cases h1
      cases h2
      exact hm
    | succ i => exact r.at.2 i x T (by simpa using h1) (by simpa using h2)⟩
end
/-! ## raise X('m') of a class without own __init__ -/
structure Ex0 (K : KF) (C : Addr) : Prop where
  q : PySem.W.excIn K C [.type "ValueError", .type "Exception", .type "BaseException", .type "object"] "ValueError.__new__" = true
  k : PySem.W.keepIn K (.ref C) = true
  s : PySem.W.subIn K (.ref C) (.type "BaseException") = some true
  t : PySem.W.typeIn K (.ref C) = some (.type "type")
/-! ## the head's facts, the interpreter's statics among them -/
abbrev AlV : Type := He.AlD × Bool
def frV (n : Nat) (g : Addr → Option Obj) : KF := He.frG g (He.asD g n ++ [cStatics])
def obsV (n : Nat) (fa : List He.Fa) (fn : List He.DefD) (ex : KF → Bool) (g : Addr → Option Obj) : AlV := (He.obsD fa fn (frV n g), ex (frV n g))
def hookV (n : Nat) (fa : List He.Fa) (fn : List He.DefD) (ex : KF → Bool) : PySem.W.Hook where
  α := AlV
  obs := fun s => obsV n fa fn ex s.heap.get?
  val := fun _ => (He.valD fn, true)
  says := fun _ h => ∃ K : KF, K.In h ∧ He.SaysD fa fn K ∧ ex K = true
  of := fun _ _ e => ⟨_, He.frG_in, congrArg (fun z : AlV => z.1) e, congrArg (fun z : AlV => z.2) e⟩
  keeps := fun _ _ _ ⟨K, hK, c⟩ k => ⟨K, PySem.W.Frag.In.keeps hK k, c⟩
theorem obsV_eq {n : Nat} {fa : List He.Fa} {fn : List He.DefD} {ex : KF → Bool} {g : Addr → Option Obj} {s : Shared} (h : ∀ a, g a = s.heap.get? a) : obsV n fa fn ex g = (hookV n fa fn ex).obs s := by
  have e : g = s.heap.get? := funext h
  rw [e]
  rfl
end Vl
set_option maxHeartbeats 4000000
namespace Vl
open PySem PySem.Spec PyProof.Rows L2

/-! ## list(range(n)) -/
noncomputable def rgL : D → Hs → Option D := fun d _ => match d with
  | .v (.int n) => if yes (n ≤ 1000000 ∧ -1000000 ≤ n) = true then some (.v (.list ((List.range n.toNat).map fun k : Nat => .int (k : Int)))) else none
  | _ => none
noncomputable def eLstRg (f : EM) : EM := f.bind fun x => EM.lift (rgL x)
section
variable {X : Cx} {W : WX} {a b c o e : Expr} {f g k : EM} {p p2 pos pos2 apos cpos : Pos}
end

/-! ## the place of a thing in a list -/
/-! ## xs[i] = v -/
def setD (o i d : D) (h : Hs) : Option Hs := match o, i with
  | .ref n, .v (.int k) => match h[n]? with
    | some (.lst xs) => match ixN xs.length k with
      | some j => some (h.set n (.lst (xs.set j d)))
      | none => none
    | _ => none
  | _, _ => none
def sSetI (f fo fi : EM) : SM := sE f fun d => sE fo fun o => sE fi fun i s h => match setD o i d h with
  | some h' => some (.nx s h')
  | none => none
theorem RepDs.set {K : KF} {w : Wd} : ∀ {ds : List D} {vs : List V} (j : Nat) {d : D} {v : V}, RepDs K w ds vs → RepD K w d v → RepDs K w (ds.set j d) (vs.set j v)
  | [], vs, j, d, v, h, r => by
    rw [show vs = [] from h]
    exact rfl
  | x :: ds, vs, 0, d, v, ⟨u, t, e, h1, h2⟩, r => by
    rw [e]
    exact ⟨v, t, rfl, r, h2⟩
  | x :: ds, vs, j + 1, d, v, ⟨u, t, e, h1, h2⟩, r => by
    rw [e]
    exact ⟨u, _, rfl, h1, RepDs.set j h2 r⟩
section
variable {X : Cx} {W : WX} {a b c o i e : Expr} {f fo fi : EM} {p pos spos : Pos}
end
end Vl
set_option maxHeartbeats 4000000
namespace Vl
open PySem PySem.Spec PyProof.Rows L2

/-! ## a new cell with the items of a sequence -/
def seqItems (d : D) (h : Hs) : Option (List D) := match d with
  | .v (.list ds) => some (ds.map .v)
  | .v (.tuple ds) => some (ds.map .v)
  | .mix xs => some xs
  | .ref n => match h[n]? with
    | some (.lst xs) => some xs
    | _ => none
  | _ => none
def eLstOf (a : AM) : EM := eA a fun ds _ h => match ds with
  | [d] => match seqItems d h with
    | some xs => some (.ok (.ref h.length) (h ++ [.lst xs]))
    | none => none
  | _ => none
section
variable {X : Cx} {W : WX} {e : Expr} {es : List Expr} {a : AM} {p pos : Pos}
end

/-! ## more methods of lists -/
section
variable {K : KF}
/-- the items of a list -/
def lstOf (d : D) (h : Hs) : Option (List D) := match d with
  | .v (.list ds) => some (ds.map .v)
  | .ref n => match h[n]? with
    | some (.lst xs) => some xs
    | _ => none
  | _ => none
theorem lstOf_rep {w : Wd} {d : D} {x : V} {xs : List D} (ok : w.Ok K) (r : RepD K w d x) (e : lstOf d w.h = some xs) : ∃ p ys, x = .ref p ∧ SqL K w.H p ys ∧ RepDs K w xs ys := by
  cases d with
  | v d =>
    cases d with
    | list ds =>
      cases e
      obtain ⟨a, vs, rfl, ht, hr⟩ := r
      exact ⟨a, vs, rfl, ht.sql, RepDs.ofP hr⟩
    | _ => cases e
  | ref n =>
    obtain ⟨a, ha, rfl⟩ := r
    simp only [lstOf] at e
    split at e
    · rename_i ys q
      cases e
      obtain ⟨vs, hH, hr⟩ := ok.cell n a _ ha q
      exact ⟨a, vs, rfl, .inl (.inl hH), hr⟩
    · cases e
  | mix xs => cases e
  | exc c fs => cases e
noncomputable def insertD : D → List D → Hs → Option (D × Hs) := fun o ds h => match o, ds with
  | .ref n, [.v (.int i), y] => match h[n]? with
    | some (.lst xs) => if yes (xs.length < sizeLine ∧ 0 ≤ i ∧ i < 2 ^ 63) = true then some (.v .none, h.set n (.lst (xs.take i.toNat ++ [y] ++ xs.drop i.toNat))) else none
    | _ => none
  | _, _ => none
noncomputable def popAtD : D → List D → Hs → Option (D × Hs) := fun o ds h => match o, ds with
  | .ref n, [.v (.int i)] => match h[n]? with
    | some (.lst xs) => match (if yes (-(2 ^ 63) ≤ i ∧ i < 2 ^ 63) = true then ixN xs.length i else none) with
      | some k => match xs[k]? with
        | some y => some (y, h.set n (.lst (xs.eraseIdx k)))
        | none => none
      | none => none
    | _ => none
  | _, _ => none
def clearD : D → List D → Hs → Option (D × Hs) := fun o ds h => match o, ds with
  | .ref n, [] => match h[n]? with
    | some (.lst xs) => some (.v .none, h.set n (.lst []))
    | _ => none
  | _, _ => none
theorem mt_clearD : MtD K rClear clearD := by
  intro w x xs dx ds dz h' Q ok rx rs e a
  unfold clearD at e
  split at e
  · rename_i n
    obtain ⟨b, hb, rfl⟩ := rx
    cases (show xs = [] from rs)
    split at e
    · rename_i ys q
      cases e
      obtain ⟨us, hH, hr⟩ := ok.cell n b _ hb q
      exact ⟨b, us, rfl, rfl, hH, a (w.setC n b [] []) .non (Wd.setC_le hb) (Wd.setC_ok ok hb rfl) rfl rfl⟩
    · cases e
  · cases e
end
end Vl
set_option maxHeartbeats 4000000
namespace Vl
open PySem PySem.Spec PyProof.Rows L2

/-! ## a call without arguments -/
section
variable {X : Cx} {W : WX} {F : Fn} {f : Addr} {fd : FuncData} {k : Nat} {x : Str} {p pos : Pos}
theorem pe_callG0 {sp : Sp} {E : L2.St → XK} (F : FnG X.prog X.w X.K X.mg X.base (L2.CX X.prog X.w) k f fd [] sp) (hr : Room k X.A) (gd : X.A.guards = some []) (hg : Gl X x) (hm : X.mg x = some (.ref f)) (hk : PySem.W.keepIn X.K (.ref f) = true) (hb : Binds X.K fd [] []) (hx : ∀ σ, PassesAt (L2.CX X.prog X.w) X σ (E σ))
    (hdb : (x == ("__debug__" : Str)) = false := by decide) : PE X (.Call (.Name x p) [] [] pos) (fun σ H Q => sp [] H Q (E σ)) := by
  refine ⟨fun pins s σ H Q I h => wpAny_Call_Name_kw (ld_glob I hg hm (PySem.W.callWith_K0 I.kIn hk ?_) hdb)⟩
  have bd := hb s [] I.kIn rfl
  refine wpAny_call (codeAny_mono (F.run X.A X.stack s H ⟨[], []⟩ [] [] Q (E σ) hr gd I.env0 bd .nil h) fun out s' hq => ?_)
  cases out with
  | error u => exact hx σ pins H s u s' I hq
  | ok fl =>
    cases fl with
    | ret u => exact I.after hq
    | _ => exact hq.elim
theorem se_callG0 (G : FnG X.prog X.w X.K X.mg X.base (L2.CX X.prog X.w) k f fd [] (spF X.K X.mg 0 F)) (tk : Takes X W) (hr : Room k X.A) (gd : X.A.guards = some []) (hg : Gl X x) (hm : X.mg x = some (.ref f)) (hk : PySem.W.keepIn X.K (.ref f) = true) (hb : Binds X.K fd [] [])
    (hdb : (x == ("__debug__" : Str)) = false := by decide) : SE X W (.Call (.Name x p) [] [] pos) (eCall F eNil) :=
  PE.mono' (pe_callG0 G hr gd hg hm hk hb (E := WE W) (fun σ => passAt tk σ) hdb) fun σ H Q ⟨w, sl, eH, ok, hs, h⟩ => by
    subst eH
    have h' : WpE X.K X.mg W σ (callR F [] false w.h) w fun _ v w' => Q v w'.H := h
    exact callR_of (ps := []) ok (G := w.Fz) (b := false) ok.there (fun _ _ z => z) rfl h'
end

/-! ## max, min of two ints -/
def max2 : List D → Hs → Option D := fun ds _ => match ds with
  | [.v (.int i), .v (.int j)] => some (.v (.int (if j > i then j else i)))
  | _ => none
def min2 : List D → Hs → Option D := fun ds _ => match ds with
  | [.v (.int i), .v (.int j)] => some (.v (.int (if j < i then j else i)))
  | _ => none
theorem call_max2D {K : KF} : CallD K (fun xs H Q => ∃ i j, xs = [.int i, .int j] ∧ Q (.int (if j > i then j else i)) H) max2 := by
  intro w xs ds dz Q ok rx e a
  unfold max2 at e
  split at e
  · rename_i i j
    cases e
    obtain ⟨v, vr, rfl, r1, v2, vr2, rfl, r2, r3⟩ := rx
    cases (show vr2 = [] from r3)
    cases (show v = V.int i from r1)
    cases (show v2 = V.int j from r2)
    exact ⟨i, j, rfl, a.here ok rfl⟩
  · cases e
theorem call_min2D {K : KF} : CallD K (fun xs H Q => ∃ i j, xs = [.int i, .int j] ∧ Q (.int (if j < i then j else i)) H) min2 := by
  intro w xs ds dz Q ok rx e a
  unfold min2 at e
  split at e
  · rename_i i j
    cases e
    obtain ⟨v, vr, rfl, r1, v2, vr2, rfl, r2, r3⟩ := rx
    cases (show vr2 = [] from r3)
    cases (show v = V.int i from r1)
    cases (show v2 = V.int j from r2)
    exact ⟨i, j, rfl, a.here ok rfl⟩
  · cases e

/-! ## range with a step -/
def stepItems (lo c : Int) (n : Nat) : List D := (List.range n).map fun (k : Nat) => .v (.int (lo + k * c))
noncomputable def kRng3 : KI := fun ds _ => match ds with
  | [.v (.int i), .v (.int j), .v (.int c)] => if yes (RgC i j c (Builtin.Range.rangeSize i j c).toNat ∧ (Builtin.Range.rangeSize i j c).toNat ≤ 10000000) = true then some (stepItems i c (Builtin.Range.rangeSize i j c).toNat, none) else none
  | _ => none
theorem its_step {K : KF} {w : Wd} {lo c : Int} {n : Nat} (hn : n ≤ sizeLine) : Its K (Itc lo c n) (stepItems lo c n) none w where
  len := by unfold stepItems; rw [List.length_map, List.length_range]; exact hn
  go := fun i w2 l2 ok2 _ hi => by
    unfold stepItems at hi ⊢
    rw [List.length_map, List.length_range] at hi
    refine ⟨hi, fun x H' y => ⟨w2, .v (.int (lo + i * c)), Wd.Le.refl w2, ok2, rfl, y.1.symm, ?_, y.2⟩⟩
    rw [List.getElem?_map, List.getElem?_range hi]
    rfl
  stop := fun i w2 l2 ok2 _ hi _ => by
    unfold stepItems at hi
    rw [List.length_map, List.length_range] at hi
    exact hi
section
variable {X : Cx} {W : WX} {tg a b c o i e : Expr} {f g k : EM} {pos p apos cpos : Pos}
theorem si_rng3 (hg : Gl X "range") (hm : X.mg "range" = none) (ha : SE X W a f) (hb : SE X W b g) (hc : SE X W c k) (hs : starEach [a, b, c] X.env = (false, eval a X.env) :: starEach [b, c] X.env := by rfl) (hs2 : starEach [b, c] X.env = (false, eval b X.env) :: starEach [c] X.env := by rfl) (hs3 : starEach [c] X.env = (false, eval c X.env) :: starEach [] X.env := by rfl) (hpl : (backTo pos (starEach [b, c] X.env)).any (·.1) = false := by rfl) :
    SI X W tg (.Call (.Name "range" p) [a, b, c] [] pos) (iP (eCons f (eCons g (eCons k eNil))) kRng3) :=
  PI.mono' (pi_range3 hg hm (sa_cons ha (sa_cons hb (sa_cons hc sa_nil hs3) hs2) hs) hs hpl) fun σ H R ⟨w, sl, eH, ok, hs, h⟩ => by
    subst eH
    refine tIP_bind ok hs h fun ds vs w1 items gd l1 ok1 r1 ek q => ?_
    unfold kRng3 at ek
    split at ek
    · rename_i i j c
      split at ek
      · rename_i hb
        cases ek
        rw [yes_iff] at hb
        obtain ⟨v, vr, rfl, h1, v2, vr2, rfl, h2, v3, vr3, rfl, h3, h4⟩ := r1
        cases (show vr3 = [] from h4)
        cases (show v = V.int i from h1)
        cases (show v2 = V.int j from h2)
        cases (show v3 = V.int c from h3)
        exact ⟨i, j, c, _, rfl, hb.1, q _ (its_step (ten_line hb.2))⟩
      · cases ek
    · cases ek

/-! ## dicts that stay as they are -/
def lookP : List (PyData × PyData) → Key → Option PyData
  | [], _ => none
  | (k, d) :: r, q => if keyP k = some q then some d else lookP r q
def dixD : D → D → Hs → Option D := fun x y _ => match x, y with
  | .v (.dict kvs), .v p => match keyP p with
    | some q => (lookP kvs q).map .v
    | none => none
  | _, _ => none
def eDix (f g : EM) : EM := f.bind fun x => g.bind fun y => EM.lift (dixD x y)
def dget2 (x y z : D) : Hs → Option D := fun _ => match x, y with
  | .v (.dict kvs), .v p => match keyP p with
    | some q => some (match lookP kvs q with
      | some d => .v d
      | none => z)
    | none => none
  | _, _ => none
def isDctD : D → Bool
  | .v (.dict _) => true
  | _ => false
def eGet2 (f g k : EM) : EM := f.bind fun x s h => if isDctD x = true then (g.bind fun y => k.bind fun z => EM.lift (dget2 x y z)) s h else none
end
end Vl
set_option maxHeartbeats 4000000
namespace Vl
open PySem PySem.Spec PyProof.Rows L2
/-! ## how the later pieces reckon, for simp -/
section
variable (s : Sl) (h : Hs) (f g k : EM) (a : AM) (x y z d : D)
@[simp] theorem z_lstRg : eLstRg f s h = match f s h with
  | some (.ok x h1) => (match rgL x h1 with
    | some z => some (.ok z h1)
    | none => none)
  | some (.ex x h1) => some (.ex x h1)
  | none => none := rfl
@[simp] theorem z_lstOf : eLstOf a s h = match a s h with
  | some (.ok [d] h1) => (match seqItems d h1 with
    | some xs => some (.ok (.ref h1.length) (h1 ++ [.lst xs]))
    | none => none)
  | some (.ok _ h1) => none
  | some (.ex x h1) => some (.ex x h1)
  | none => none := by
  unfold eLstOf eA
  cases a s h with
  | none => rfl
  | some r =>
    cases r with
    | ex x h1 => rfl
    | ok ds h1 =>
      cases ds with
      | nil => rfl
      | cons d r => cases r <;> rfl
@[simp] theorem z_si0 (ds : List PyData) : seqItems (.v (.list ds)) h = some (ds.map .v) := rfl
@[simp] theorem z_si1 (ds : List PyData) : seqItems (.v (.tuple ds)) h = some (ds.map .v) := rfl
@[simp] theorem z_si2 (xs : List D) : seqItems (.mix xs) h = some xs := rfl
@[simp] theorem z_si3 (n : Nat) : seqItems (.ref n) h = match h[n]? with
  | some (.lst xs) => some xs
  | _ => none := rfl
@[simp] theorem z_setI : sSetI f g k s h = match f s h with
  | some (.ok d h1) => (match g s h1 with
    | some (.ok o h2) => (match k s h2 with
      | some (.ok i h3) => (match setD o i d h3 with
        | some h' => some (.nx s h')
        | none => none)
      | some (.ex x h3) => some (.ex s x h3)
      | none => none)
    | some (.ex x h2) => some (.ex s x h2)
    | none => none)
  | some (.ex x h1) => some (.ex s x h1)
  | none => none := rfl
@[simp] theorem z_setD (n : Nat) (i : Int) : setD (.ref n) (.v (.int i)) d h = match h[n]? with
  | some (.lst xs) => (match ixN xs.length i with
    | some j => some (h.set n (.lst (xs.set j d)))
    | none => none)
  | _ => none := rfl
@[simp] theorem z_get2 : eGet2 f g k s h = match f s h with
  | some (.ok x h1) => if isDctD x = true then (match g s h1 with
    | some (.ok y h2) => (match k s h2 with
      | some (.ok z h3) => (match dget2 x y z h3 with
        | some r => some (.ok r h3)
        | none => none)
      | some (.ex x h3) => some (.ex x h3)
      | none => none)
    | some (.ex x h2) => some (.ex x h2)
    | none => none) else none
  | some (.ex x h1) => some (.ex x h1)
  | none => none := rfl
@[simp] theorem z_isd (kvs : List (PyData × PyData)) : isDctD (.v (.dict kvs)) = true := rfl
@[simp] theorem z_dg2s (kvs : List (PyData × PyData)) (q : Str) : dget2 (.v (.dict kvs)) (.v (.str q)) z h = some (match lookP kvs (.inr q) with
  | some d => .v d
  | none => z) := rfl
@[simp] theorem z_dix : eDix f g s h = match f s h with
  | some (.ok x h1) => (match g s h1 with
    | some (.ok y h2) => (match dixD x y h2 with
      | some r => some (.ok r h2)
      | none => none)
    | some (.ex x h2) => some (.ex x h2)
    | none => none)
  | some (.ex x h1) => some (.ex x h1)
  | none => none := rfl
@[simp] theorem z_dixs (kvs : List (PyData × PyData)) (q : Str) : dixD (.v (.dict kvs)) (.v (.str q)) h = (lookP kvs (.inr q)).map .v := rfl
@[simp] theorem z_look0 (q : Key) : lookP [] q = none := rfl
@[simp] theorem z_lookS (a : Str) (p : PyData) (r : List (PyData × PyData)) (q : Str) : lookP ((.str a, p) :: r) (.inr q) = if a = q then some p else lookP r (.inr q) := by
  show (if keyP (.str a) = some (.inr q) then some p else lookP r (.inr q)) = _
  by_cases e : a = q
  · rw [if_pos (by rw [e]; rfl), if_pos e]
  · rw [if_neg (fun z => e (by injection z with z; injection z)), if_neg e]
@[simp] theorem z_max (i j : Int) : max2 [.v (.int i), .v (.int j)] h = some (.v (.int (if j > i then j else i))) := rfl
@[simp] theorem z_min (i j : Int) : min2 [.v (.int i), .v (.int j)] h = some (.v (.int (if j < i then j else i))) := rfl
@[simp] theorem z_pop (n : Nat) : popD (.ref n) [] h = match h[n]? with
  | some (.lst xs) => (match xs[xs.length - 1]? with
    | some y => some (y, h.set n (.lst xs.dropLast))
    | none => none)
  | _ => none := rfl
end
end Vl
set_option maxHeartbeats 4000000
namespace Vl
open PySem PySem.Spec PyProof.Rows L2

/-! ## lists that are made to be changed: sums, comprehensions -/
def addN (x y : D) (h : Hs) : Option (List D) := match lstOf x h, lstOf y h with
  | some xs, some ys => if xs.length + ys.length ≤ sizeLine then some (xs ++ ys) else none
  | _, _ => none
def eAddN (f g : EM) : EM := f.bind fun x => g.bind fun y s h => match addN x y h with
  | some xs => some (.ok (.ref h.length) (h ++ [.lst xs]))
  | none => none
section
variable {X : Cx} {W : WX} {a b : Expr} {f g : EM} {pos : Pos}
theorem se_addN (ha : SE X W a f) (hb : SE X W b g) : SE X W (.BinOp a .Add b pos) (eAddN f g) :=
  PE.mono' (pe_op op_addR ha hb) fun σ H Q ⟨w, sl, eH, ok, hs, h⟩ => by
    subst eH
    refine tI_bind ok hs h fun dx x w1 l1 ok1 hs1 rx h1 => ?_
    refine tI_bind ok1 hs1 h1 fun dy y w2 l2 ok2 hs2 ry h2 => ?_
    unfold addN at h2
    split at h2
    · rename_i zs hz
      split at hz
      · rename_i xs ys qx qy
        split at hz
        · rename_i hl
          cases hz
          obtain ⟨p, us, rfl, s1, t1⟩ := lstOf_rep ok2 (RepD.mono ok1 l2 _ rx) qx
          obtain ⟨q, vs, rfl, s2, t2⟩ := lstOf_rep ok2 ry qy
          exact .inr ⟨p, q, us, vs, rfl, rfl, s1, s2, by rw [t1.len, t2.len]; exact hl, fun r hr => h2 (w2.newC r (xs ++ ys) (us ++ vs)) (.ref r) (Wd.newC_le hr) (Wd.newC_ok ok2 hr (RepDs.app t1 t2)) rfl (Wd.newC_rep ok2)⟩
        · cases hz
      · cases hz
    · exact h2.elim
end
/-! one more cell -/
section
variable {K : KF} {w : Wd} {p : Addr} {c : Cell}
mutual
theorem RepD.more : ∀ (d : D) {v : V}, RepD K w d v → RepD K ⟨w.ι ++ [p], w.Fz, w.h ++ [c], w.H⟩ d v
  | .v _, _, h => h
  | .ref n, _, ⟨a, e, r⟩ => ⟨a, by
    show (w.ι ++ [p])[n]? = some a
    rw [List.getElem?_append_left (List.getElem?_eq_some_iff.mp e).1]
    exact e, r⟩
  | .mix ds, _, ⟨a, vs, e, hr, hs⟩ => ⟨a, vs, e, hr, RepDs.more ds hs⟩
  | .exc _ _, _, h => h
theorem RepDs.more : ∀ (ds : List D) {vs : List V}, RepDs K w ds vs → RepDs K ⟨w.ι ++ [p], w.Fz, w.h ++ [c], w.H⟩ ds vs
  | [], _, h => h
  | d :: ds, _, ⟨v, r, e, h1, h2⟩ => ⟨v, r, e, RepD.more d h1, RepDs.more ds h2⟩
end
theorem CellOk.more {a : Addr} {c' : Cell} : ∀ {c : Cell}, CellOk K w a c → CellOk K ⟨w.ι ++ [p], w.Fz, w.h ++ [c'], w.H⟩ a c
  | .lst _, ⟨vs, e, r⟩ => ⟨vs, e, RepDs.more _ r⟩
  | .dct _, ⟨ks, e, n, r⟩ => ⟨ks, e, n, RepDs.more _ r⟩
  | .ins _ _, ⟨C, dx, fv, hc, e, hd, n, r⟩ => ⟨C, dx, fv, hc, e, hd, n, RepDs.more _ r⟩
end
noncomputable def eCompN (it : IM) (g : GM) (t : TM) (f : EM) (vs : List Nat) : EM := fun s h => match it s h with
  | some (.ok items gd h1) => match compL gd g t f items (wipeS s vs) h1 with
    | some (ds, h2) => some (.ok (.ref h2.length) (h2 ++ [.lst ds]))
    | none => none
  | some (.ex x h1) => some (.ex x h1)
  | none => none
section
variable {X : Cx} {W : WX} {elt tg iter : Expr} {ifs : List Expr} {scope : Scope} {own : List (Str × Nat)} {js : List Nat} {it : IM} {g : GM} {t : TM} {f : EM} {pos : Pos}
end
section
variable (s : Sl) (h : Hs) (f g : EM) (t : TM) (gm : GM) (x y : D)
@[simp] theorem z_addN : eAddN f g s h = match f s h with
  | some (.ok x h1) => (match g s h1 with
    | some (.ok y h2) => (match addN x y h2 with
      | some xs => some (.ok (.ref h2.length) (h2 ++ [.lst xs]))
      | none => none)
    | some (.ex x h2) => some (.ex x h2)
    | none => none)
  | some (.ex x h1) => some (.ex x h1)
  | none => none := rfl
@[simp] theorem z_compN (it : IM) (vs : List Nat) : eCompN it gm t f vs s h = match it s h with
  | some (.ok items gd h1) => (match compL gd gm t f items (wipeS s vs) h1 with
    | some (ds, h2) => some (.ok (.ref h2.length) (h2 ++ [.lst ds]))
    | none => none)
  | some (.ex x h1) => some (.ex x h1)
  | none => none := rfl
@[simp] theorem z_lo0 (ds : List PyData) : lstOf (.v (.list ds)) h = some (ds.map .v) := rfl
@[simp] theorem z_lo1 (n : Nat) : lstOf (.ref n) h = match h[n]? with
  | some (.lst xs) => some xs
  | _ => none := rfl
@[simp] theorem y_mul2 (xs : List PyData) (j : Int) : mulP (.tuple xs) (.int j) = if yes (xs ≠ [] ∧ 2 ≤ j ∧ (xs.length : Int) * j ≤ 1000000) = true then some (.tuple (List.replicate j.toNat xs).flatten) else none := rfl
end
end Vl
set_option maxHeartbeats 4000000
namespace Vl
open PySem PySem.Spec PyProof.Rows L2
section
variable {X : Cx}
end
def isIntP : PyData → Bool
  | .int _ => true
  | _ => false
def inXD (neg : Bool) : D → D → Hs → Option D := fun x y h => match x with
  | .v (.dict _) => (match y with
    | .v (.list ds) => if ds.all isIntP = true then some (.v (.bool neg)) else none
    | _ => none)
  | _ => lift2 (inP neg) x y h
def eInX (f g : EM) : EM := eBin (inXD false) f g
section
variable {X : Cx} {W : WX} {a b : Expr} {f g : EM} {pos : Pos} {k : Nat}
end
@[simp] theorem z_inX (f g : EM) (s : Sl) (h : Hs) : eInX f g s h = eBin (inXD false) f g s h := rfl
end Vl
set_option maxHeartbeats 4000000
namespace Vl
open PySem PySem.Spec PyProof.Rows L2
/-! ## calls that hand over the callee's cells -/
mutual
def shD (n : Nat) : D → D
  | .v p => .v p
  | .ref k => .ref (n + k)
  | .mix ds => .mix (shDs n ds)
  | .exc c fs => .exc c fs
def shDs (n : Nat) : List D → List D
  | [] => []
  | d :: ds => shD n d :: shDs n ds
end
def shC (n : Nat) : Cell → Cell
  | .lst ds => .lst (shDs n ds)
  | .dct kvs => .dct kvs
  | .ins c fs => .ins c fs
mutual
/-- its data hold no lists -/
def clnD : D → Bool
  | .v p => noL p
  | .ref _ => true
  | .mix ds => clnDs ds
  | .exc _ _ => false
def clnDs : List D → Bool
  | [] => true
  | d :: ds => clnD d && clnDs ds
end
def okC (b : Bool) : Cell → Bool
  | .lst ds => !b || clnDs ds
  | _ => false
def callT (F : Fn) (ps : List PyData) (b : Bool) (h : Hs) : Option ER := match F (ps.map .v) [] with
  | some (.rt d h') => if ((!b || clnD d) && h'.all (okC b)) = true then some (.ok (shD h.length d) (h ++ h'.map (shC h.length))) else none
  | _ => none
def callF (F : Fn) (ps : List PyData) (h : Hs) : Option ER := match F (ps.map .v) [] with
  | some (.rt d h') => if (clnD d && h'.all (okC true)) = true then (frz h' dep d).map fun p => .ok (.v p) h else none
  | _ => none
def eCallT (F : Fn) (a : AM) : EM := eA a fun ds _ h => match unvs ds with
  | some ps => callT F ps false h
  | none => match frzs h (dep + 1) ds with
    | some ps => callT F ps true h
    | none => none
def eCallF (F : Fn) (a : AM) : EM := eA a fun ds _ h => match frzs h (dep + 1) ds with
    | some ps => callF F ps h
    | none => none
def Wd.join (w w' : Wd) : Wd := ⟨w.ι ++ w'.ι, fun a => w.Fz a ∨ (w.H a = none ∧ w'.Fz a), w.h ++ w'.h.map (shC w.h.length), w'.H⟩
section
variable {K : KF} {w w' : Wd} {G : Addr → Prop} {b : Bool}
theorem sub_new (l : (w.sub G).Le w') : ∀ a ∈ w'.ι, w.H a = none := fun a h => by
  obtain ⟨m, em, hm⟩ := l.more
  rw [em] at h
  exact hm a (by simpa [Wd.sub] using h)
theorem Wd.join_le (l : (w.sub G).Le w') : w.Le (w.join w') :=
  ⟨⟨w'.ι, rfl, sub_new l⟩, fun _ h => .inl h, fun a h => by
    rcases h with h | h
    · exact .inl h
    · exact .inr h.1, fun c o h _ => l.keep c o h (by simp [Wd.sub])⟩
mutual
theorem join_rep (l : (w.sub G).Le w') (el : w.ι.length = w.h.length) (hG : b = false → ∀ a, G a → w.Fz a) : ∀ (d : D) {v : V}, (!b || clnD d) = true → RepD K w' d v → RepD K (w.join w') (shD w.h.length d) v
  | .v p, v, c, r => by
    cases b with
    | false => exact RepP.same (fun _ _ z => z) (fun a z => (l.new a z).elim (fun q => .inl (hG rfl a q)) fun q => .inr ⟨q, z⟩) p r
    | true => exact RepP.noL p c r
  | .ref k, v, c, ⟨a, e, r⟩ => ⟨a, by
      show (w.ι ++ w'.ι)[w.h.length + k]? = some a
      rw [← el, List.getElem?_append_right (Nat.le_add_right _ _), Nat.add_sub_cancel_left]
      exact e, r⟩
  | .mix ds, v, c, ⟨a, vs, e, hs, r⟩ => ⟨a, vs, e, hs, joins_rep l el hG ds c r⟩
  | .exc x fs, v, c, ⟨a, C, da, ev, hc, ha, hf⟩ => by
    cases b with
    | false =>
      refine ⟨a, C, da, ev, hc, ha, ?_⟩
      rcases hf with hf | ⟨d, fv, e1, e2, e3, e4⟩
      · exact .inl hf
      · exact .inr ⟨d, fv, e1, e2, e3, RepPs.same (fun _ _ z => z) (fun a z => (l.new a z).elim (fun q => .inl (hG rfl a q)) fun q => .inr ⟨q, z⟩) _ e4⟩
    | true => cases c
theorem joins_rep (l : (w.sub G).Le w') (el : w.ι.length = w.h.length) (hG : b = false → ∀ a, G a → w.Fz a) : ∀ (ds : List D) {vs : List V}, (!b || clnDs ds) = true → RepDs K w' ds vs → RepDs K (w.join w') (shDs w.h.length ds) vs
  | [], _, _, h => h
  | d :: ds, _, c, ⟨v, r, e, h1, h2⟩ => by
    have c' : (!b || clnD d) = true ∧ (!b || clnDs ds) = true := by
      cases b with
      | false => exact ⟨rfl, rfl⟩
      | true =>
        have c : (clnD d && clnDs ds) = true := c
        rw [Bool.and_eq_true] at c
        exact c
    exact ⟨v, r, e, join_rep l el hG d c'.1 h1, joins_rep l el hG ds c'.2 h2⟩
end
theorem Wd.join_ok (ok : w.Ok K) (l : (w.sub G).Le w') (ok' : w'.Ok K) (hG : b = false → ∀ a, G a → w.Fz a) (hc : w'.h.all (okC b) = true) : (w.join w').Ok K where
  nd := by
    refine List.nodup_append.mpr ⟨ok.nd, ok'.nd, fun a ha c hc e => ?_⟩
    subst e
    obtain ⟨us, e, _⟩ := ok.tracked ha
    rw [sub_new l a hc] at e
    cases e
  len := by
    show (w.ι ++ w'.ι).length = (w.h ++ w'.h.map (shC w.h.length)).length
    rw [List.length_append, List.length_append, List.length_map, ok.len, ok'.len]
  cell := fun n a c ha hcl => by
    have le : w.Le (w.join w') := Wd.join_le l
    have ha : (w.ι ++ w'.ι)[n]? = some a := ha
    have hcl : (w.h ++ w'.h.map (shC w.h.length))[n]? = some c := hcl
    by_cases hn : n < w.ι.length
    · rw [List.getElem?_append_left hn] at ha
      rw [List.getElem?_append_left (by rw [← ok.len]; exact hn)] at hcl
      have := ok.cell n a c ha hcl
      exact this.mono ok le (fun o e => l.keep a _ e (by simp [Wd.sub])) fun r => RepDs.mono ok le _ r
    · rw [List.getElem?_append_right (by omega)] at ha
      rw [List.getElem?_append_right (by rw [← ok.len]; omega), List.getElem?_map, ← ok.len] at hcl
      cases ec : w'.h[n - w.ι.length]? with
      | none =>
        rw [ec] at hcl
        cases hcl
      | some c0 =>
        rw [ec] at hcl
        cases hcl
        have h1 := ok'.cell _ a c0 ha ec
        have h2 := List.all_eq_true.mp hc c0 (List.mem_of_getElem? ec)
        cases c0 with
        | lst ds =>
          obtain ⟨vs, e, r⟩ := h1
          refine ⟨vs, e, ?_⟩
          have := joins_rep l ok.len hG ds h2 r
          rw [← ok.len] at this
          exact this
        | dct _ => cases h2
        | ins _ _ => cases h2
  apart := fun a h z => by
    have z : a ∈ w.ι ++ w'.ι := z
    rcases List.mem_append.mp z with z | z
    · rcases h with h | h
      · exact ok.apart a h z
      · obtain ⟨us, e, _⟩ := ok.tracked z
        rw [h.1] at e
        cases e
    · rcases h with h | h
      · exact ok.there a h (sub_new l a z)
      · exact ok'.apart a h.2 z
  there := fun a h => by
    show w'.H a ≠ none
    rcases h with h | h
    · cases q : w.H a with
      | none => exact absurd q (ok.there a h)
      | some o =>
        rw [l.keep a o q (by simp [Wd.sub])]
        exact fun z => by cases z
    · exact ok'.there a h.2
/-- a world whose lists are all cells -/
def Wd.bare (w : Wd) : Wd := ⟨w.ι, fun _ => False, w.h, w.H⟩
mutual
theorem bare_rep : ∀ (d : D) {v : V}, clnD d = true → RepD K w d v → RepD K w.bare d v
  | .v p, v, c, r => RepP.noL p c r
  | .ref k, v, c, r => r
  | .mix ds, v, c, ⟨a, vs, e, hs, r⟩ => ⟨a, vs, e, hs, bares_rep ds c r⟩
  | .exc x fs, v, c, r => by cases c
theorem bares_rep : ∀ (ds : List D) {vs : List V}, clnDs ds = true → RepDs K w ds vs → RepDs K w.bare ds vs
  | [], _, _, h => h
  | d :: ds, _, c, ⟨v, r, e, h1, h2⟩ => by
    rw [clnDs, Bool.and_eq_true] at c
    exact ⟨v, r, e, bare_rep d c.1 h1, bares_rep ds c.2 h2⟩
end
theorem callT_of {mg : Str → Option Value} {W : WX} {σ : L2.St} {F : Fn} {ps : List PyData} {vs : List V} {Q : VK} (ok : w.Ok K) (hGt : ∀ a, G a → w.H a ≠ none) (hG : b = false → ∀ a, G a → w.Fz a)
    (r : RepPs K G w.H ps vs) (h : WpE K mg W σ (callT F ps b w.h) w fun _ v w' => Q v w'.H) : spF K mg ps.length F vs w.H Q fun cls d H => W cls d σ H := by
  refine ⟨w.sub G, ps.map .v, rfl, Wd.sub_ok hGt, RepDs.ofP r, by rw [List.length_map], ?_⟩
  unfold callT at h
  unfold WpF
  show match F (ps.map .v) [] with
    | some (.rt d h') => _
    | some (.ex x h') => _
    | none => False
  cases e : F (ps.map .v) [] with
  | none => simp only [e] at h; exact h
  | some q =>
    cases q with
    | ex x h' => simp only [e] at h; exact h.elim
    | rt d h' =>
      simp only [e] at h
      intro w' v l ok' eh r'
      subst eh
      split at h
      · rename_i hb
        rw [Bool.and_eq_true] at hb
        exact h (w.join w') v (Wd.join_le l) (Wd.join_ok ok l ok' hG hb.2) rfl (join_rep l ok.len hG d hb.1 r')
      · exact h.elim
end
section
variable {X : Cx} {W : WX} {e : Expr} {es : List Expr} {a : AM} {F : Fn} {f : Addr} {fd : FuncData} {ps : List Str} {k : Nat} {x : Str} {p pos : Pos}
theorem call_argsT {σ : L2.St} {Q : VK} {w : Wd} {sl : Sl} (hl : (e :: es).length = ps.length) (hal : ∀ s h ds h', a s h = some (.ok ds h') → ds.length = (e :: es).length) (ok : w.Ok X.K) (hs : SRep X.K w sl σ) (h : WpE X.K X.mg W σ (eCallT F a sl w.h) w fun _ v w' => Q v w'.H) :
    tCallS (spF X.K X.mg ps.length F) (WE W) (tIA X.K X.mg W a) σ w.H Q := by
  refine ⟨w, sl, rfl, ok, hs, ?_⟩
  unfold eCallT eA at h
  unfold WpA
  cases ea : a sl w.h with
  | none => simp only [ea] at h; exact h
  | some r =>
    cases r with
    | ex x h' => simp only [ea] at h; exact h
    | ok ds h' =>
      simp only [ea] at h
      intro w1 vs l1 ok1 eh1 r1
      subst eh1
      have hlen := hal _ _ _ _ ea
      cases eu : unvs ds with
      | some qs =>
        simp only [eu] at h
        have := callT_of ok1 (G := w1.Fz) (b := false) ok1.there (fun _ _ z => z) (unvs_rep eu r1) (WpE.le h l1 ok1)
        rw [unvs_len eu, hlen, hl] at this
        exact this
      | none =>
        simp only [eu] at h
        cases ef : frzs w1.h (dep + 1) ds with
        | none => simp only [ef] at h; exact h.elim
        | some qs =>
          simp only [ef] at h
          have hq := frzs_rep ok1 (G := fun a => w1.Fz a ∨ a ∈ w1.ι) (fun _ z => .inl z) (fun _ z => .inr z) (dep + 1) r1 ef
          have := callT_of ok1 (G := fun a => w1.Fz a ∨ a ∈ w1.ι) (b := true) (fun a z => by
            rcases z with z | z
            · exact ok1.there a z
            · obtain ⟨us, e, _⟩ := ok1.tracked z
              rw [e]
              exact fun z => by cases z) (fun z => by cases z) hq (WpE.le h l1 ok1)
          have e1 := hq.len
          have e2 := r1.len
          rw [show qs.length = ps.length by rw [← e1, e2, hlen, hl]] at this
          exact this
theorem se_callT (G : FnG X.prog X.w X.K X.mg X.base (L2.CX X.prog X.w) k f fd ps (spF X.K X.mg ps.length F)) (tk : Takes X W) (hr : Room k X.A) (gd : X.A.guards = some []) (hg : Gl X x) (hm : X.mg x = some (.ref f)) (hk : PySem.W.keepIn X.K (.ref f) = true) (hb : Binds X.K fd ps [])
    (hl : (e :: es).length = ps.length) (ha : SA X W (e :: es) a) (hal : ∀ s h ds h', a s h = some (.ok ds h') → ds.length = (e :: es).length) (hdb : (x == ("__debug__" : Str)) = false := by decide) (he : starEach (e :: es) X.env = (false, eval e X.env) :: starEach es X.env := by rfl) (hpl : (backTo pos (starEach es X.env)).any (·.1) = false := by rfl) :
    SE X W (.Call (.Name x p) (e :: es) [] pos) (eCallT F a) :=
  PE.mono' (pe_callG G hr gd hg hm hk hb (E := WE W) (fun σ => passAt tk σ) ha hdb he hpl) fun σ H Q ⟨w, sl, eH, ok, hs, h⟩ => by
    subst eH
    exact call_argsT hl hal ok hs h
end
/-! ## list(range(n)), to be changed -/
noncomputable def eLstRgN (f : EM) : EM := f.bind fun x _ h => match rgL x h with
  | some (.v (.list ps)) => some (.ok (.ref h.length) (h ++ [.lst (ps.map .v)]))
  | _ => none
section
variable {X : Cx} {W : WX} {a : Expr} {f : EM} {p p2 pos pos2 : Pos}
end
end Vl
set_option maxHeartbeats 4000000
namespace Vl
open PySem PySem.Spec PyProof.Rows L2
/-! ## isinstance of an exception or None -/
def isX0 (anc : Anc) (t : Str) : D → Option Bool
  | .v .none => some false
  | d => isXs anc [t] d
def eIsX0 (anc : Anc) (t : Str) (f : EM) : EM := f.bind fun d => EM.lift fun _ => (isX0 anc t d).map fun b => .v (.bool b)
section
variable {X : Cx} {W : WX} {e : Expr} {f : EM} {anc : Anc} {ts fl : List Str} {t : Str} {T : Addr} {p p2 pos : Pos}
end
@[simp] theorem z_isx0 (anc : Anc) (t : Str) (f : EM) (s : Sl) (h : Hs) : eIsX0 anc t f s h = match f s h with
  | some (.ok d h1) => (match isX0 anc t d with
    | some b => some (.ok (.v (.bool b)) h1)
    | none => none)
  | some (.ex x h1) => some (.ex x h1)
  | none => none := by
  unfold eIsX0 EM.bind EM.lift
  cases f s h with
  | none => rfl
  | some r =>
    cases r with
    | ex x h1 => rfl
    | ok d h1 =>
      simp only
      cases isX0 anc t d <;> rfl
end Vl
set_option maxHeartbeats 4000000
namespace Vl
open PySem PySem.Spec PyProof.Rows L2
/-! ## an int in range(a, b) -/
def inRg (neg : Bool) : D → List D → Option D
  | .v (.int i), [.v (.int lo), .v (.int hi)] => some (.v (.bool (if neg = true then !(decide (lo ≤ i ∧ i < hi)) else decide (lo ≤ i ∧ i < hi))))
  | _, _ => none
def eInRg (neg : Bool) (f : EM) (a : AM) : EM := f.bind fun x => eA a fun ds _ h => match inRg neg x ds with
  | some d => some (.ok d h)
  | none => none
section
variable {X : Cx} {W : WX} {e b : Expr} {es : List Expr} {f : EM} {a : AM} {p pos pos2 : Pos}
end
end Vl
set_option maxHeartbeats 4000000
namespace Vl
open PySem PySem.Spec PyProof.Rows L2 HT
/-! ## t[::-1] -/
section
variable {prog : Program} {w : World} {A : Around} {E : Value → Shared → Prop} {s : Shared}
end
section
variable {X : Cx}
end
def revP : PyData → Option PyData
  | .list xs => some (.list xs.reverse)
  | .tuple xs => some (.tuple xs.reverse)
  | _ => none
def eRev (f : EM) : EM := f.bind fun x => EM.lift (lift1 revP x)
section
variable {X : Cx} {W : WX} {e : Expr} {f : EM} {k : Nat} {p1 p2 p3 pos : Pos}
end
section
variable {X : Cx} {W : WX} {e b : Expr} {es : List Expr} {f : EM} {a : AM} {p pos pos2 : Pos}
end
@[simp] theorem z_inRg {neg : Bool} {f : EM} {a : AM} {s : Sl} {h : Hs} : eInRg neg f a s h = match f s h with
  | some (.ok x h1) => (match a s h1 with
    | some (.ok ds h2) => (match inRg neg x ds with
      | some d => some (.ok d h2)
      | none => none)
    | some (.ex x h2) => some (.ex x h2)
    | none => none)
  | some (.ex x h1) => some (.ex x h1)
  | none => none := by
  unfold eInRg EM.bind eA
  cases f s h with
  | none => rfl
  | some r =>
    cases r with
    | ex x h1 => rfl
    | ok d h1 => rfl
@[simp] theorem z_rev {f : EM} {s : Sl} {h : Hs} : eRev f s h = match f s h with
  | some (.ok x h1) => (match lift1 revP x h1 with
    | some z => some (.ok z h1)
    | none => none)
  | some (.ex x h1) => some (.ex x h1)
  | none => none := rfl
end Vl
set_option maxHeartbeats 4000000
namespace Vl
open PySem PySem.Spec PyProof.Rows L2
/-! ## a key in a dict -/
def inKd (neg : Bool) : D → D → Hs → Option D := fun x y _ => match x, y with
  | .v p, .v (.dict kvs) => match keyP p with
    | some q => some (.v (.bool (ngt neg (lookP kvs q).isSome)))
    | none => none
  | _, _ => none
def eInK (neg : Bool) (f g : EM) : EM := eBin (inKd neg) f g
section
variable {X : Cx} {W : WX} {a b : Expr} {f g : EM} {k : Nat} {pos : Pos}
end
@[simp] theorem z_inK {neg : Bool} {f g : EM} {s : Sl} {h : Hs} : eInK neg f g s h = match f s h with
  | some (.ok x h1) => (match g s h1 with
    | some (.ok y h2) => (match inKd neg x y h2 with
      | some z => some (.ok z h2)
      | none => none)
    | some (.ex x h2) => some (.ex x h2)
    | none => none)
  | some (.ex x h1) => some (.ex x h1)
  | none => none := rfl
end Vl
set_option maxHeartbeats 4000000
namespace Vl
open PySem PySem.Spec PyProof.Rows L2
/-! ## the rest of a body, run on what the names hold as data: nobody changes a cell any more -/
def frzSl (h : Hs) (sl : Sl) : Sl := sl.map fun o => match o with
  | some d => (match frz h dep d with
    | some p => some (.v p)
    | none => none)
  | none => none
def sFrz (S : SM) : SM := fun sl h => match S (frzSl h sl) [] with
  | some (.rt (.v p) _) => if noL p = true then some (.rt (.v p) h) else none
  | _ => none
@[simp] theorem z_frz (S : SM) (sl : Sl) (h : Hs) : sFrz S sl h = match S (frzSl h sl) [] with
  | some (.rt (.v p) _) => if noL p = true then some (.rt (.v p) h) else none
  | _ => none := rfl
@[simp] theorem frzSl_nil (h : Hs) : frzSl h [] = [] := rfl
@[simp] theorem frzSl_none (h : Hs) (r : Sl) : frzSl h (none :: r) = none :: frzSl h r := rfl
@[simp] theorem frzSl_v (h : Hs) (p : PyData) (r : Sl) : frzSl h (some (.v p) :: r) = some (.v p) :: frzSl h r := rfl
end Vl
set_option maxHeartbeats 4000000
namespace Vl
open PySem PySem.Spec PyProof.Rows L2
/-! ## any data in a tuple of any data -/
def inTP (neg : Bool) : PyData → PyData → Option PyData
  | p, .tuple ys => if (SeqAt.shaped p && SeqAt.shaped (.tuple ys)) = true then some (.bool (ngt neg (ys.any fun z => PyData.eqv z p))) else none
  | _, _ => none
def eInT (neg : Bool) (f g : EM) : EM := eBin (lift2 (inTP neg)) f g
section
variable {X : Cx} {W : WX} {a b : Expr} {f g : EM} {pos : Pos} {k : Nat}
end
@[simp] theorem z_inT (neg : Bool) {f g : EM} {s : Sl} {h : Hs} : eInT neg f g s h = eBin (lift2 (inTP neg)) f g s h := rfl
end Vl
set_option maxHeartbeats 4000000
namespace Vl
open PySem PySem.Spec PyProof.Rows L2
/-! ## repr of data that may hold empty dicts, or of none, a number, a text -/
mutual
def dctE : PyData → Bool
  | .list ds => dctEs ds
  | .tuple ds => dctEs ds
  | .dict kvs => kvs.isEmpty
  | _ => true
def dctEs : List PyData → Bool
  | [] => true
  | d :: ds => dctE d && dctEs ds
end
section
variable {X : Cx} {pins : List (Addr × Obj)} {σ : L2.St} {H : Hp} {s : Shared} {Fz : Addr → Prop}
theorem dct0 (I : Inv X pins σ H s) {a : Addr} (e : H a = some (.dK [])) : (a == sysModules) = false ∧ ∃ o ep, s.heap.get? a = some o ∧ o.cls = .type "dict" ∧ o.data = .dict #[] ep := by
  obtain ⟨_, hsm, vs, kv, o, es, ep, ho, hx, hd, _, hp, _⟩ := dk_of I.hok e
  cases kv
  have : es.toList = [] := by
    cases he : es.toList with
    | nil => rfl
    | cons x r => rw [he] at hp; cases hp
  have : es = #[] := by
    obtain ⟨l⟩ := es
    simp only at this
    rw [this]
  subst this
  exact ⟨hsm, o, ep, ho, hx.1, hd⟩
mutual
theorem reads2 (I : Inv X pins σ H s) : ∀ (d : PyData) {v : V} {u : Value}, dctE d = true → RepP X.K Fz H d v → RelV v u → ∃ as, Reads s.heap u d as
  | .none, _, _, _, h, r => by cases h; cases r; exact ⟨_, Reads.none⟩
  | .bool b, _, _, _, h, r => by cases h; cases r; exact ⟨_, Reads.bool b⟩
  | .int i, _, _, _, h, r => by cases h; obtain ⟨t, rfl⟩ := r; exact ⟨_, Reads.int i t⟩
  | .str x, _, _, _, h, r => by cases h; obtain ⟨t, rfl⟩ := r; exact ⟨_, Reads.str x t⟩
  | .list ds, _, _, c, ⟨a, vs, e, hs, ha⟩, r => by
    subst e
    cases r
    obtain ⟨its, rv, ⟨o, n, ho, hc, _, hd⟩, _⟩ := I.list hs.sql
    obtain ⟨as, hr⟩ := reads2s I ds c ha rv
    exact ⟨_, Reads.list ho hc hd hr⟩
  | .tuple ds, _, _, c, ⟨a, vs, e, hs, ha⟩, r => by
    subst e
    cases r
    obtain ⟨its, rv, ⟨o, ho, hc, n, hd⟩, _⟩ := I.tuple hs
    obtain ⟨as, hr⟩ := reads2s I ds c ha rv
    exact ⟨_, Reads.tuple ho hc hd hr⟩
  | .dict kvs, _, _, c, ⟨a, ks, e, _, hH, hk⟩, r => by
    cases kvs with
    | nil =>
      cases (show ks = [] from hk)
      subst e
      cases r
      obtain ⟨_, o, ep, ho, hc, hd⟩ := dct0 I hH
      exact ⟨_, Reads.dict ho hc hd .nil .nil⟩
    | cons x r => cases c
theorem reads2s (I : Inv X pins σ H s) : ∀ (ds : List PyData) {vs : List V} {us : List Value}, dctEs ds = true → RepPs X.K Fz H ds vs → Vals vs us → ∃ as, ReadsAll s.heap us ds as
  | [], _, _, _, h, r => by
    cases h
    cases r
    exact ⟨_, ReadsAll.nil⟩
  | d :: ds, _, _, c, ⟨v, r, e, h1, h2⟩, rv => by
    subst e
    have c : (dctE d && dctEs ds) = true := c
    rw [Bool.and_eq_true] at c
    cases rv with
    | cons r1 r2 =>
      obtain ⟨as, q1⟩ := reads2 I d c.1 h1 r1
      obtain ⟨bs, q2⟩ := reads2s I ds c.2 h2 r2
      exact ⟨_, ReadsAll.cons q1 q2⟩
end
mutual
theorem shows2 (I : Inv X pins σ H s) : ∀ (d : PyData) {v : V} {u : Value}, dctE d = true → RepP X.K Fz H d v → RelV v u → d.showable = true → d.shown.length ≤ sizeLine →
    ∃ bs, ReadAtMost s.heap d.depth bs ∧ ReprK X.prog X.w bs s.heap d.depth u d.shown
  | .none, _, _, _, h, r, _, _ => by cases h; cases r; exact ⟨[], (fun _ h => nomatch h), .of_is ReprIs.none _ _ _⟩
  | .bool b, _, _, _, h, r, _, _ => by cases h; cases r; exact ⟨[], (fun _ h => nomatch h), .of_is (ReprIs.bool b) _ _ _⟩
  | .int i, _, _, _, h, r, hs, _ => by
    cases h
    obtain ⟨t, rfl⟩ := r
    exact ⟨[], (fun _ h => nomatch h), .of_is (ReprIs.int t (by simpa [PyData.showable] using hs)) _ _ _⟩
  | .str x, _, _, _, h, r, _, hz => by
    cases h
    obtain ⟨t, rfl⟩ := r
    exact ⟨[], (fun _ h => nomatch h), .of_is (ReprIs.str x t hz) _ _ _⟩
  | .list ds, _, _, c, ⟨a, vs, e, hq, ha⟩, r, hs, hz => by
    subst e
    cases r
    obtain ⟨its, rv, ⟨o, n, ho, hc, _, hd⟩, _⟩ := I.list hq.sql
    obtain ⟨as, hr⟩ := reads2s I ds c ha rv
    obtain ⟨bs, hb, hk⟩ := shows2s I ds c ha rv hs fun t ht => Nat.le_trans (listText_mem_le ht) hz
    have rd : Reads s.heap (.ref a) (.list ds) _ := .list ho hc hd hr
    have hna : a ∉ bs := not_mem_of_deeper rd (by simp only [PyData.depth]; omega) hb
    refine ⟨a :: bs, ReadAtMost.cons rd (by simp only [PyData.depth]; omega) hb, ?_⟩
    show ReprK X.prog X.w (a :: bs) s.heap (PyData.depthAll ds + 1) (.ref a) (listText (PyData.shownAll ds))
    cases its with
    | nil =>
      cases hr
      rw [show listText (PyData.shownAll []) = ("[]" : Str) from listText_nil]
      exact ReprK.listEmpty ho hc hd
    | cons x l => exact ReprK.list ho hc hd hna (by simpa using hk.length_eq) (fun i y e => hk.item i y (by simpa using e))
  | .tuple ds, _, _, c, ⟨a, vs, e, hq, ha⟩, r, hs, hz => by
    subst e
    cases r
    obtain ⟨its, rv, ⟨o, ho, hc, n, hd⟩, _⟩ := I.tuple hq
    obtain ⟨as, hr⟩ := reads2s I ds c ha rv
    obtain ⟨bs, hb, hk⟩ := shows2s I ds c ha rv hs fun t ht => Nat.le_trans (tupleText_mem_le ht) hz
    have rd : Reads s.heap (.ref a) (.tuple ds) _ := .tuple ho hc hd hr
    have hna : a ∉ bs := not_mem_of_deeper rd (by simp only [PyData.depth]; omega) hb
    exact ⟨a :: bs, ReadAtMost.cons rd (by simp only [PyData.depth]; omega) hb, ReprK.tuple ho hc hd hna hk⟩
  | .dict kvs, _, _, c, ⟨a, ks, e, _, hH, hk⟩, r, _, _ => by
    cases kvs with
    | nil =>
      cases (show ks = [] from hk)
      subst e
      cases r
      obtain ⟨hsm, o, ep, ho, hc, hd⟩ := dct0 I hH
      have rd : Reads s.heap (.ref a) (.dict []) _ := .dict ho hc hd .nil .nil
      have h0 : ReadAtMost s.heap 0 [] := fun _ h => nomatch h
      refine ⟨a :: [], ReadAtMost.cons rd (Nat.zero_le _) h0, ?_⟩
      have := ReprK.dict (prog := X.prog) (w := X.w) (as := []) (h₀ := s.heap) (d := 0) (a := a) ho hc hd hsm (by simp) (ReprEntriesK.of_two [] [] [] .nil .nil)
      exact this
    | cons x r => cases c
theorem shows2s (I : Inv X pins σ H s) : ∀ (ds : List PyData) {vs : List V} {us : List Value}, dctEs ds = true → RepPs X.K Fz H ds vs → Vals vs us → PyData.showableAll ds = true → (∀ t ∈ PyData.shownAll ds, t.length ≤ sizeLine) →
    ∃ bs, ReadAtMost s.heap (PyData.depthAll ds) bs ∧ ReprAllK X.prog X.w bs s.heap (PyData.depthAll ds) us (PyData.shownAll ds)
  | [], _, _, _, h, r, _, _ => by
    cases h
    cases r
    exact ⟨[], (fun _ h => nomatch h), .nil⟩
  | d :: ds, _, _, c, ⟨v, r, e, h1, h2⟩, rv, hs, hz => by
    subst e
    have c : (dctE d && dctEs ds) = true := c
    rw [Bool.and_eq_true] at c
    have hs : (d.showable && PyData.showableAll ds) = true := hs
    rw [Bool.and_eq_true] at hs
    cases rv with
    | cons r1 r2 =>
      obtain ⟨b1, hb1, k1⟩ := shows2 I d c.1 h1 r1 hs.1 (hz _ (List.mem_cons_self ..))
      obtain ⟨b2, hb2, k2⟩ := shows2s I ds c.2 h2 r2 hs.2 fun t ht => hz t (List.mem_cons_of_mem _ ht)
      exact ⟨b1 ++ b2, (ReadAtMost.mono hb1 (Nat.le_max_left _ _)).append (ReadAtMost.mono hb2 (Nat.le_max_right _ _)), .cons ((k1.more fun b hb => List.mem_append_left _ hb).level_le (Nat.le_max_left _ _)) (k2.more_le (fun b hb => List.mem_append_right _ hb) (Nat.le_max_right _ _))⟩
end
end
end Vl
set_option maxHeartbeats 4000000
namespace Vl
open PySem PySem.Spec PyProof.Rows L2
/-! ## exceptions made and held as values -/
def eMk (c : Str) (names : List Str) (a : AM) : EM := fun s h => match a s h with
  | some (.ok ds h1) => (match unvs ds with
    | some ps => some (.ok (.exc c (names.zip ps).reverse) h1)
    | none => none)
  | some (.ex x h1) => some (.ex x h1)
  | none => none
def eMk0 (c : Str) (f : EM) : EM := fun s h => match f s h with
  | some (.ok _ h1) => some (.ok (.exc c []) h1)
  | some (.ex x h1) => some (.ex x h1)
  | none => none
section
variable {X : Cx} {W : WX} {e : Expr} {es : List Expr} {a : AM} {f : EM} {C fI : Addr} {fd : FuncData} {ps names as : List Str} {k : Nat} {x : Str} {p pos : Pos} {anc : Anc} {ts fl : List Str}
end
/-! ## calls that are handed exceptions -/
def isVX : D → Bool
  | .v _ => true
  | .exc _ _ => true
  | _ => false
def callX (F : Fn) (ds : List D) (h : Hs) : Option ER := match F ds [] with
  | some (.rt d h') => match frz h' dep d with
    | some p => some (.ok (.v p) h)
    | none => none
  | _ => none
def eCallX (F : Fn) (a : AM) : EM := eA a fun ds _ h => if ds.all isVX = true then callX F ds h else none
section
variable {K : KF} {w w' : Wd}
end
section
variable {X : Cx} {W : WX} {e : Expr} {es : List Expr} {a : AM} {F : Fn} {f : Addr} {fd : FuncData} {ps : List Str} {k : Nat} {x : Str} {p pos : Pos}
end
@[simp] theorem z_mk' {c : Str} {names : List Str} {a : AM} {s : Sl} {h : Hs} : eMk c names a s h = match a s h with
  | some (.ok ds h1) => (match unvs ds with
    | some ps => some (.ok (.exc c (names.zip ps).reverse) h1)
    | none => none)
  | some (.ex x h1) => some (.ex x h1)
  | none => none := rfl
@[simp] theorem z_mk0 {c : Str} {f : EM} {s : Sl} {h : Hs} : eMk0 c f s h = match f s h with
  | some (.ok _ h1) => some (.ok (.exc c []) h1)
  | some (.ex x h1) => some (.ex x h1)
  | none => none := rfl
@[simp] theorem z_callX {F : Fn} {a : AM} {s : Sl} {h : Hs} : eCallX F a s h = match a s h with
  | some (.ok ds h1) => if ds.all isVX = true then callX F ds h1 else none
  | some (.ex x h1) => some (.ex x h1)
  | none => none := rfl
end Vl
set_option maxHeartbeats 0
namespace Fs
open PySem PySem.Spec PyProof.Rows L2 Vl
/-! is_whole: 0 thing -/
noncomputable def B_is_whole : SM := sSeq (sRet (eAnd (eIsi "int" (eVar 0)) (eNot (eIsi "bool" (eVar 0))))) (sNext)
noncomputable def F_is_whole : Fn := mkFn 1 B_is_whole
/-! is_within: 0 thing, 1 low, 2 high -/
noncomputable def B_is_within : SM := sSeq (sRet (eAnd (eCall F_is_whole (eCons (eVar 0) (eNil))) (eChain (lift2 leP) (lift2 ltP) (eVar 1) (eVar 0) (eVar 2)))) (sNext)
noncomputable def F_is_within : Fn := mkFn 3 B_is_within
/-! is_name: 0 thing, 1 sign -/
noncomputable def B_is_name : SM := sSeq (sIf (tOr (tNot (tTru (eIsi "str" (eVar 0)))) (tNot (tBl (eChain (lift2 leP) (lift2 leP) (eC (.int 1)) (eB (lenD) (eCons (eVar 0) (eNil))) (eC (.int (8))))))) (sSeq (sRet (eC (.bool false))) (sNext)) (sNext)) (sSeq (sRet (eB (b1 allP) (eCons (eComp (iSeq (eVar 0)) (gNm 1) (tYes') (eIn (eVar 1) (eC (.str "abcdefghijklmnopqrstuvwxyz"))) [1]) (eNil)))) (sNext))
noncomputable def F_is_name : Fn := mkFn 2 B_is_name
/-! many_stores: 0 boxes, 1 many, 2 name, 3 worths, 4 first -/
abbrev S_many_stores_1 (many : D) : Sl := [none, some many, none, none, none]
abbrev G_many_stores_1 : GM := gTp 3 (gsCons (gNm 2) (gsCons (gNm 3) (gsCons (gNm 4) (gsNil))))
noncomputable def L_many_stores_1 : SM := sSeq (sAsg (eMul (eVar 1) (eVar 3)) (gNm 1)) (sNext)
noncomputable def W_many_stores_1 (s : Sl) (h : Hs) : Option SR := sWp [0, 2, 3, 4] L_many_stores_1 s h
noncomputable def B_many_stores : SM := sSeq (sAsg (eC (.int 1)) (gNm 1)) (sSeq (sFor [0, 2, 3, 4] (iSeq (eVar 0)) (gTp 3 (gsCons (gNm 2) (gsCons (gNm 3) (gsCons (gNm 4) (gsNil))))) (W_many_stores_1)) (sSeq (sRet (eVar 1)) (sNext)))
noncomputable def F_many_stores : Fn := mkFn 5 B_many_stores
/-! is_tuple: 0 thing, 1 many -/
noncomputable def B_is_tuple : SM := sSeq (sRet (eAnd (eIsi "tuple" (eVar 0)) (eEq (eB (lenD) (eCons (eVar 0) (eNil))) (eVar 1)))) (sNext)
noncomputable def F_is_tuple : Fn := mkFn 2 B_is_tuple
/-! is_box: 0 thing -/
noncomputable def B_is_box : SM := sSeq (sIf (tOr (tNot (tTru (eCall F_is_tuple (eCons (eVar 0) (eCons (eC (.int 3)) (eNil)))))) (tOr (tNot (tTru (eCall F_is_name (eCons (eIx (eVar 0) (eC (.int 0))) (eNil))))) (tNot (tTru (eCall F_is_within (eCons (eIx (eVar 0) (eC (.int 1))) (eCons (eC (.int 2)) (eCons (eAdd (eC (.int (6))) (eC (.int 1))) (eNil))))))))) (sSeq (sRet (eC (.bool false))) (sNext)) (sNext)) (sSeq (sRet (eCall F_is_within (eCons (eIx (eVar 0) (eC (.int 2))) (eCons (eC (.int 0)) (eCons (eIx (eVar 0) (eC (.int 1))) (eNil)))))) (sNext))
noncomputable def F_is_box : Fn := mkFn 1 B_is_box
/-! look_at_boxes: 0 boxes, 1 number, 2 box, 3 one -/
abbrev S_look_at_boxes_1 (boxes : D) : Sl := [some boxes, none, none, none]
abbrev G_look_at_boxes_1 : GM := gTp 2 (gsCons (gNm 1) (gsCons (gNm 2) (gsNil)))
noncomputable def L_look_at_boxes_1 : SM := sSeq (sIf (tOr (tNot (tTru (eCall F_is_box (eCons (eVar 2) (eNil))))) (tBl (eIn (eIx (eVar 2) (eC (.int 0))) (eComp (iSeq (eSl (eVar 0) none (some (eVar 1)))) (gNm 3) (tYes') (eIx (eVar 3) (eC (.int 0))) [3])))) (sSeq (sThrow "NoProgram" ["part", "number", "row"] (eCons (eC (.str "boxes")) (eCons (eVar 1) (eCons (eC .none) (eNil))))) (sNext)) (sNext)) (sSeq (sIf (tBl (eGt (eCall F_many_stores (eCons (eSl (eVar 0) none (some (eAdd (eVar 1) (eC (.int 1))))) (eNil))) (eC (.int (8))))) (sSeq (sThrow "NoProgram" ["part", "number", "row"] (eCons (eC (.str "boxes")) (eCons (eVar 1) (eCons (eC .none) (eNil))))) (sNext)) (sNext)) (sNext))
noncomputable def W_look_at_boxes_1 (s : Sl) (h : Hs) : Option SR := sWp [1, 2, 3] L_look_at_boxes_1 s h
noncomputable def B_look_at_boxes : SM := sSeq (sIf (tNot (tBl (eChain (lift2 leP) (lift2 leP) (eC (.int 1)) (eB (lenD) (eCons (eVar 0) (eNil))) (eC (.int (3)))))) (sSeq (sThrow "NoProgram" ["part", "number", "row"] (eCons (eC (.str "boxes")) (eCons (eC .none) (eCons (eC .none) (eNil))))) (sNext)) (sNext)) (sSeq (sFor [1, 2, 3] (iP (eCons (eVar 0) eNil) kEnum) (gTp 2 (gsCons (gNm 1) (gsCons (gNm 2) (gsNil)))) (W_look_at_boxes_1)) (sNext))
noncomputable def F_look_at_boxes : Fn := mkFn 4 B_look_at_boxes
/-! look_at_procs: 0 procs, 1 number, 2 proc, 3 one -/
abbrev S_look_at_procs_1 (procs : D) : Sl := [some procs, none, none, none]
abbrev G_look_at_procs_1 : GM := gTp 2 (gsCons (gNm 1) (gsCons (gNm 2) (gsNil)))
noncomputable def L_look_at_procs_1 : SM := sSeq (sIf (tOr (tNot (tTru (eCall F_is_tuple (eCons (eVar 2) (eCons (eC (.int 2)) (eNil)))))) (tOr (tNot (tTru (eCall F_is_name (eCons (eIx (eVar 2) (eC (.int 0))) (eNil))))) (tNot (tTru (eIsi "list" (eIx (eVar 2) (eC (.int 1)))))))) (sSeq (sThrow "NoProgram" ["part", "number", "row"] (eCons (eC (.str "procs")) (eCons (eVar 1) (eCons (eC .none) (eNil))))) (sNext)) (sNext)) (sSeq (sIf (tOr (tNot (tBl (eChain (lift2 leP) (lift2 leP) (eC (.int 1)) (eB (lenD) (eCons (eIx (eVar 2) (eC (.int 1))) (eNil))) (eC (.int (8)))))) (tBl (eIn (eIx (eVar 2) (eC (.int 0))) (eComp (iSeq (eSl (eVar 0) none (some (eVar 1)))) (gNm 3) (tYes') (eIx (eVar 3) (eC (.int 0))) [3])))) (sSeq (sThrow "NoProgram" ["part", "number", "row"] (eCons (eC (.str "procs")) (eCons (eVar 1) (eCons (eC .none) (eNil))))) (sNext)) (sNext)) (sNext))
noncomputable def W_look_at_procs_1 (s : Sl) (h : Hs) : Option SR := sWp [1, 2, 3] L_look_at_procs_1 s h
noncomputable def B_look_at_procs : SM := sSeq (sIf (tNot (tBl (eChain (lift2 leP) (lift2 leP) (eC (.int 1)) (eB (lenD) (eCons (eVar 0) (eNil))) (eC (.int (6)))))) (sSeq (sThrow "NoProgram" ["part", "number", "row"] (eCons (eC (.str "procs")) (eCons (eC .none) (eCons (eC .none) (eNil))))) (sNext)) (sNext)) (sSeq (sFor [1, 2, 3] (iP (eCons (eVar 0) eNil) kEnum) (gTp 2 (gsCons (gNm 1) (gsCons (gNm 2) (gsNil)))) (W_look_at_procs_1)) (sNext))
noncomputable def F_look_at_procs : Fn := mkFn 4 B_look_at_procs
/-! worths_of: 0 boxes, 1 name, 2 box -/
abbrev S_worths_of_1 (name : D) : Sl := [none, some name, none]
abbrev G_worths_of_1 : GM := gNm 2
noncomputable def L_worths_of_1 : SM := sSeq (sIf (tAnd (tTru (eIsi "str" (eVar 1))) (tBl (eEq (eIx (eVar 2) (eC (.int 0))) (eVar 1)))) (sSeq (sRet (eIx (eVar 2) (eC (.int 1)))) (sNext)) (sNext)) (sNext)
noncomputable def W_worths_of_1 (s : Sl) (h : Hs) : Option SR := sWp [0, 2] L_worths_of_1 s h
noncomputable def B_worths_of : SM := sSeq (sFor [0, 2] (iSeq (eVar 0)) (gNm 2) (W_worths_of_1)) (sSeq (sRet (eC (.int 0))) (sNext))
noncomputable def F_worths_of : Fn := mkFn 3 B_worths_of
/-! are_tos: 0 thing, 1 end, 2 to -/
noncomputable def B_are_tos : SM := sSeq (sRet (eAnd (eIsi "tuple" (eVar 0)) (eB (b1 allP) (eCons (eComp (iSeq (eVar 0)) (gNm 2) (tYes') (eCall F_is_within (eCons (eVar 2) (eCons (eC (.int 0)) (eCons (eAdd (eVar 1) (eC (.int 1))) (eNil))))) [2]) (eNil))))) (sNext)
noncomputable def F_are_tos : Fn := mkFn 3 B_are_tos
/-! is_row_of_box: 0 row, 1 worths, 2 end, 3 many_hands, 4 to -/
noncomputable def B_is_row_of_box : SM := sSeq (sIf (tBl (eEq (eVar 1) (eC (.int 0)))) (sSeq (sRet (eC (.bool false))) (sNext)) (sNext)) (sSeq (sIf (tBl (eEq (eIx (eVar 0) (eC (.int 0))) (eC (.str "put")))) (sSeq (sRet (eAnd (eEq (eB (lenD) (eCons (eVar 0) (eNil))) (eC (.int 4))) (eAnd (eCall F_is_within (eCons (eIx (eVar 0) (eC (.int 2))) (eCons (eC (.int 0)) (eCons (eVar 1) (eNil))))) (eCall F_is_within (eCons (eIx (eVar 0) (eC (.int 3))) (eCons (eC (.int 0)) (eCons (eAdd (eVar 2) (eC (.int 1))) (eNil)))))))) (sNext)) (sNext)) (sSeq (sIf (tBl (eEq (eIx (eVar 0) (eC (.int 0))) (eC (.str "swap")))) (sSeq (sIf (tOr (tBl (eNe (eB (lenD) (eCons (eVar 0) (eNil))) (eC (.int 5)))) (tOr (tNot (tTru (eCall F_is_within (eCons (eIx (eVar 0) (eC (.int 2))) (eCons (eC (.int 0)) (eCons (eVar 1) (eNil))))))) (tNot (tTru (eCall F_is_within (eCons (eIx (eVar 0) (eC (.int 3))) (eCons (eC (.int 0)) (eCons (eVar 1) (eNil))))))))) (sSeq (sRet (eC (.bool false))) (sNext)) (sNext)) (sSeq (sRet (eCall F_is_within (eCons (eIx (eVar 0) (eC (.int 4))) (eCons (eC (.int 0)) (eCons (eAdd (eVar 2) (eC (.int 1))) (eNil)))))) (sNext))) (sNext)) (sSeq (sIf (tBl (eEq (eIx (eVar 0) (eC (.int 0))) (eC (.str "ask")))) (sSeq (sIf (tOr (tNot (tTru (eCall F_is_tuple (eCons (eIx (eVar 0) (eC (.int 2))) (eCons (eVar 1) (eNil)))))) (tBl (eNe (eB (lenD) (eCons (eVar 0) (eNil))) (eC (.int 3))))) (sSeq (sRet (eC (.bool false))) (sNext)) (sNext)) (sSeq (sRet (eCall F_are_tos (eCons (eB (b1 tupOfP) (eCons (eComp (iSeq (eIx (eVar 0) (eC (.int 2)))) (gNm 4) (tBl (eNisN (eVar 4) (eC .none))) (eVar 4) [4]) (eNil))) (eCons (eVar 2) (eNil))))) (sNext))) (sNext)) (sSeq (sRet (eAnd (eEq (eB (lenD) (eCons (eVar 0) (eNil))) (eC (.int 3))) (eAnd (eGt (eVar 1) (eVar 3)) (eCall F_is_within (eCons (eIx (eVar 0) (eC (.int 2))) (eCons (eC (.int 0)) (eCons (eAdd (eVar 2) (eC (.int 1))) (eNil)))))))) (sNext)))))
noncomputable def F_is_row_of_box : Fn := mkFn 5 B_is_row_of_box
/-! is_row: 0 row, 1 program, 2 end, 3 boxes, 4 procs, 5 hands, 6 named, 7 proc -/
noncomputable def B_is_row : SM := sSeq (sAsg (eVar 1) (gTp 3 (gsCons (gNm 3) (gsCons (gNm 4) (gsCons (gNm 5) (gsNil)))))) (sSeq (sIf (tOr (tNot (tTru (eIsi "tuple" (eVar 0)))) (tOr (tBl (eLt (eB (lenD) (eCons (eVar 0) (eNil))) (eC (.int 2)))) (tNot (tTru (eIsi "str" (eIx (eVar 0) (eC (.int 0)))))))) (sSeq (sRet (eC (.bool false))) (sNext)) (sNext)) (sSeq (sIf (tBl (eEq (eIx (eVar 0) (eC (.int 0))) (eC (.str "any")))) (sSeq (sRet (eAnd (eEq (eB (lenD) (eCons (eVar 0) (eNil))) (eC (.int 2))) (eAnd (eCall F_are_tos (eCons (eIx (eVar 0) (eC (.int 1))) (eCons (eVar 2) (eNil)))) (eChain (lift2 leP) (lift2 leP) (eC (.int 1)) (eB (lenD) (eCons (eIx (eVar 0) (eC (.int 1))) (eNil))) (eC (.int (4))))))) (sNext)) (sNext)) (sSeq (sIf (tBl (eEq (eIx (eVar 0) (eC (.int 0))) (eC (.str "call")))) (sSeq (sAsg (eComp (iSeq (eVar 4)) (gNm 7) (tAnd (tTru (eIsi "str" (eIx (eVar 0) (eC (.int 1))))) (tBl (eEq (eIx (eVar 7) (eC (.int 0))) (eIx (eVar 0) (eC (.int 1)))))) (eIx (eVar 7) (eC (.int 0))) [7]) (gNm 6)) (sSeq (sRet (eAnd (eEq (eB (lenD) (eCons (eVar 0) (eNil))) (eC (.int 3))) (eAnd (eNe (eVar 6) (eLst (eNil))) (eCall F_is_within (eCons (eIx (eVar 0) (eC (.int 2))) (eCons (eC (.int 0)) (eCons (eAdd (eVar 2) (eC (.int 1))) (eNil)))))))) (sNext))) (sNext)) (sSeq (sIf (tOr (tBl (eNin (eIx (eVar 0) (eC (.int 0))) (eTup (eCons (eC (.str "put")) (eCons (eC (.str "swap")) (eCons (eC (.str "ask")) (eCons (eC (.str "take")) (eCons (eC (.str "give")) (eNil))))))))) (tBl (eLt (eB (lenD) (eCons (eVar 0) (eNil))) (eC (.int 3))))) (sSeq (sRet (eC (.bool false))) (sNext)) (sNext)) (sSeq (sRet (eCall F_is_row_of_box (eCons (eVar 0) (eCons (eCall F_worths_of (eCons (eVar 3) (eCons (eIx (eVar 0) (eC (.int 1))) (eNil)))) (eCons (eVar 2) (eCons (eB (lenD) (eCons (eVar 5) (eNil))) (eNil))))))) (sNext))))))
noncomputable def F_is_row : Fn := mkFn 8 B_is_row
/-! look_at_rows: 0 program, 1 number, 2 proc, 3 at, 4 row -/
abbrev S_look_at_rows_1 (program : D) (number : D) (proc : D) : Sl := [some program, some number, some proc, none, none]
abbrev G_look_at_rows_1 : GM := gTp 2 (gsCons (gNm 3) (gsCons (gNm 4) (gsNil)))
noncomputable def L_look_at_rows_1 : SM := sSeq (sIf (tNot (tTru (eCall F_is_row (eCons (eVar 4) (eCons (eVar 0) (eCons (eB (lenD) (eCons (eIx (eVar 2) (eC (.int 1))) (eNil))) (eNil))))))) (sSeq (sThrow "NoProgram" ["part", "number", "row"] (eCons (eC (.str "rows")) (eCons (eVar 1) (eCons (eVar 3) (eNil))))) (sNext)) (sNext)) (sNext)
noncomputable def W_look_at_rows_1 (s : Sl) (h : Hs) : Option SR := sWp [3, 4] L_look_at_rows_1 s h
abbrev S_look_at_rows_2 (program : D) : Sl := [some program, none, none, none, none]
abbrev G_look_at_rows_2 : GM := gTp 2 (gsCons (gNm 1) (gsCons (gNm 2) (gsNil)))
noncomputable def L_look_at_rows_2 : SM := sSeq (sFor [3, 4] (iP (eCons (eIx (eVar 2) (eC (.int 1))) eNil) kEnum) (gTp 2 (gsCons (gNm 3) (gsCons (gNm 4) (gsNil)))) (W_look_at_rows_1)) (sNext)
noncomputable def W_look_at_rows_2 (s : Sl) (h : Hs) : Option SR := sWp [1, 2, 3, 4] L_look_at_rows_2 s h
noncomputable def B_look_at_rows : SM := sSeq (sFor [1, 2, 3, 4] (iP (eCons (eIx (eVar 0) (eC (.int 1))) eNil) kEnum) (gTp 2 (gsCons (gNm 1) (gsCons (gNm 2) (gsNil)))) (W_look_at_rows_2)) (sNext)
noncomputable def F_look_at_rows : Fn := mkFn 5 B_look_at_rows
/-! look_at_hands: 0 hands, 1 procs, 2 names, 3 number, 4 hand, 5 proc, 6 one -/
abbrev S_look_at_hands_1 (hands : D) (names : D) : Sl := [some hands, none, some names, none, none, none, none]
abbrev G_look_at_hands_1 : GM := gTp 2 (gsCons (gNm 3) (gsCons (gNm 4) (gsNil)))
noncomputable def L_look_at_hands_1 : SM := sSeq (sIf (tOr (tNot (tTru (eCall F_is_tuple (eCons (eVar 4) (eCons (eC (.int 2)) (eNil)))))) (tOr (tNot (tTru (eCall F_is_name (eCons (eIx (eVar 4) (eC (.int 0))) (eNil))))) (tOr (tNot (tTru (eCall F_is_name (eCons (eIx (eVar 4) (eC (.int 1))) (eNil))))) (tBl (eNin (eIx (eVar 4) (eC (.int 1))) (eVar 2)))))) (sSeq (sThrow "NoProgram" ["part", "number", "row"] (eCons (eC (.str "hands")) (eCons (eVar 3) (eCons (eC .none) (eNil))))) (sNext)) (sNext)) (sSeq (sIf (tBl (eIn (eIx (eVar 4) (eC (.int 0))) (eComp (iSeq (eSl (eVar 0) none (some (eVar 3)))) (gNm 6) (tYes') (eIx (eVar 6) (eC (.int 0))) [6]))) (sSeq (sThrow "NoProgram" ["part", "number", "row"] (eCons (eC (.str "hands")) (eCons (eVar 3) (eCons (eC .none) (eNil))))) (sNext)) (sNext)) (sNext))
noncomputable def W_look_at_hands_1 (s : Sl) (h : Hs) : Option SR := sWp [1, 3, 4, 5, 6] L_look_at_hands_1 s h
noncomputable def B_look_at_hands : SM := sSeq (sIf (tNot (tBl (eChain (lift2 leP) (lift2 leP) (eC (.int 1)) (eB (lenD) (eCons (eVar 0) (eNil))) (eC (.int (3)))))) (sSeq (sThrow "NoProgram" ["part", "number", "row"] (eCons (eC (.str "hands")) (eCons (eC .none) (eCons (eC .none) (eNil))))) (sNext)) (sNext)) (sSeq (sAsg (eComp (iSeq (eVar 1)) (gNm 5) (tYes') (eIx (eVar 5) (eC (.int 0))) [5]) (gNm 2)) (sSeq (sFor [1, 3, 4, 5, 6] (iP (eCons (eVar 0) eNil) kEnum) (gTp 2 (gsCons (gNm 3) (gsCons (gNm 4) (gsNil)))) (W_look_at_hands_1)) (sNext)))
noncomputable def F_look_at_hands : Fn := mkFn 7 B_look_at_hands
/-! look_at: 0 thing, 1 part -/
noncomputable def B_look_at : SM := sSeq (sIf (tOr (tNot (tTru (eCall F_is_tuple (eCons (eVar 0) (eCons (eC (.int 3)) (eNil)))))) (tNot (tTru (eB (b1 allP) (eCons (eComp (iSeq (eVar 0)) (gNm 1) (tYes') (eIsi "list" (eVar 1)) [1]) (eNil)))))) (sSeq (sThrow "NoProgram" ["part", "number", "row"] (eCons (eC (.str "program")) (eCons (eC .none) (eCons (eC .none) (eNil))))) (sNext)) (sNext)) (sSeq (sExpr (eCall F_look_at_boxes (eCons (eIx (eVar 0) (eC (.int 0))) (eNil)))) (sSeq (sExpr (eCall F_look_at_procs (eCons (eIx (eVar 0) (eC (.int 1))) (eNil)))) (sSeq (sExpr (eCall F_look_at_rows (eCons (eVar 0) (eNil)))) (sSeq (sExpr (eCall F_look_at_hands (eCons (eIx (eVar 0) (eC (.int 2))) (eCons (eIx (eVar 0) (eC (.int 1))) (eNil))))) (sNext)))))
noncomputable def F_look_at : Fn := mkFn 2 B_look_at
/-! _law_cell_at: 0 _law_script, 1 _law_k -/
noncomputable def B__law_cell_at : SM := sSeq (sIf (tBl (eLt (eVar 1) (eB (lenD) (eCons (eVar 0) (eNil))))) (sSeq (sRet (eIx (eVar 0) (eVar 1))) (sNext)) (sNext)) (sSeq (sRet (eC (.int 0))) (sNext))
noncomputable def F__law_cell_at : Fn := mkFn 2 B__law_cell_at
/-! _law_digits: 0 _law_cell, 1 _law_turn, 2 _law_sizes, 3 _law_number, 4 _law_wide, 5 _law_seed, 6 _law_found, 7 _law_k, 8 _law_size -/
abbrev S__law_digits_1 (l_number : D) (l_wide : D) (l_seed : D) (l_found : D) : Sl := [none, none, none, some l_number, some l_wide, some l_seed, some l_found, none, none]
abbrev G__law_digits_1 : GM := gTp 2 (gsCons (gNm 7) (gsCons (gNm 8) (gsNil)))
noncomputable def L__law_digits_1 : SM := sSeq (sIf (tAnd (tTru (eVar 4)) (tBl (eGt (eVar 3) (eC (.int 0))))) (sSeq (sExpr (eBM "list" appendD (eVar 6) (eCons (eMod (eVar 3) (eVar 8)) (eNil)))) (sSeq (sAsg (eFdiv (eVar 3) (eVar 8)) (gNm 3)) (sNext))) (sSeq (sAsg (eMod (ePow (eAdd (eVar 5) (eMul (eC (.int 104729)) (eAdd (eVar 7) (eC (.int 1))))) (eC (.int 2))) (eC (.int 2147483587))) (gNm 5)) (sSeq (sExpr (eBM "list" appendD (eVar 6) (eCons (eMod (eFdiv (eVar 5) (eC (.int 16))) (eVar 8)) (eNil)))) (sNext)))) (sNext)
noncomputable def W__law_digits_1 (s : Sl) (h : Hs) : Option SR := sWp [0, 1, 2, 7, 8] L__law_digits_1 s h
noncomputable def B__law_digits : SM := sSeq (sAsg (eB (b1 absP) (eCons (eVar 0) (eNil))) (gNm 3)) (sSeq (sAsg (eGe (eVar 3) (ePow (eC (.int 10)) (eC (.int 18)))) (gNm 4)) (sSeq (sAsg (eAdd (eMod (eVar 3) (eC (.int 2147483647))) (eMul (eC (.int 7919)) (eVar 1))) (gNm 5)) (sSeq (sAsg (eLstN (eNil)) (gNm 6)) (sSeq (sFor [0, 1, 2, 7, 8] (iP (eCons (eVar 2) eNil) kEnum) (gTp 2 (gsCons (gNm 7) (gsCons (gNm 8) (gsNil)))) (W__law_digits_1)) (sSeq (sRet (eVar 6)) (sNext))))))
noncomputable def F__law_digits : Fn := mkFn 9 B__law_digits
/-! _law_name: 0 _law_number, 1 _law_k, 2 _law_stem, 3 _law_more -/
noncomputable def B__law_name : SM := sSeq (sAsg (eIx (eC (.str "abcdefghijklmnopqrstuvwxyz")) (eMod (eAdd (eVar 0) (eMul (eC (.int 7)) (eVar 1))) (eC (.int 26)))) (gNm 2)) (sSeq (sAsg (eIx (eLst (eCons (eC (.str "")) (eCons (eC (.str "x")) (eCons (eC (.str "zz")) (eCons (eC (.str "qqqqqqq")) (eNil)))))) (eMod (eFdiv (eVar 0) (eC (.int 26))) (eC (.int 4)))) (gNm 3)) (sSeq (sRet (eIx (eLst (eCons (eAdd (eVar 3) (eVar 2)) (eCons (eAdd (eVar 2) (eVar 3)) (eNil)))) (eMod (eFdiv (eVar 0) (eC (.int 104))) (eC (.int 2))))) (sNext)))
noncomputable def F__law_name : Fn := mkFn 4 B__law_name
/-! _law_to_row: 0 _law_d, 1 _law_worths, 2 _law_end, 3 _law_hands, 4 _law_tos, 5 _law_box, 6 _law_one, 7 _law_other, 8 _law_stops, 9 _law_j -/
noncomputable def B__law_to_row : SM := sSeq (sAsg (eComp (iP (eCons (eC (.int 8)) eNil) kRng1) (gNm 9) (tYes') (eMod (eAdd (eIx (eVar 0) (eC (.int 4))) (eMul (eVar 9) (eAdd (eIx (eVar 0) (eC (.int 5))) (eC (.int 1))))) (eAdd (eVar 2) (eC (.int 1)))) [9]) (gNm 4)) (sSeq (sAsg (eMod (eIx (eVar 0) (eC (.int 1))) (eB (lenD) (eCons (eVar 1) (eNil)))) (gNm 5)) (sSeq (sAsg (eMod (eIx (eVar 0) (eC (.int 2))) (eIx (eVar 1) (eVar 5))) (gNm 6)) (sSeq (sAsg (eMod (eIx (eVar 0) (eC (.int 3))) (eIx (eVar 1) (eVar 5))) (gNm 7)) (sSeq (sIf (tBl (eEq (eIx (eVar 0) (eC (.int 0))) (eC (.int 0)))) (sSeq (sRet (eTup (eCons (eC (.str "put")) (eCons (eVar 5) (eCons (eVar 6) (eCons (eIx (eVar 4) (eC (.int 0))) (eNil))))))) (sNext)) (sNext)) (sSeq (sIf (tBl (eEq (eIx (eVar 0) (eC (.int 0))) (eC (.int 1)))) (sSeq (sRet (eTup (eCons (eC (.str "swap")) (eCons (eVar 5) (eCons (eVar 6) (eCons (eVar 7) (eCons (eIx (eVar 4) (eC (.int 0))) (eNil)))))))) (sNext)) (sNext)) (sSeq (sIf (tBl (eLt (eIx (eVar 0) (eC (.int 0))) (eC (.int 4)))) (sSeq (sAsg (eComp (iP (eCons (eC (.int 6)) eNil) kRng1) (gNm 9) (tYes') (eAnd (eEq (eIx (eVar 0) (eC (.int 0))) (eC (.int 3))) (eEq (eMod (eFdiv (eIx (eVar 0) (eC (.int 6))) (eIx (eLst (eCons (eC (.int 1)) (eCons (eC (.int 2)) (eCons (eC (.int 4)) (eCons (eC (.int 8)) (eCons (eC (.int 16)) (eCons (eC (.int 32)) (eNil)))))))) (eVar 9))) (eC (.int 2))) (eC (.int 1)))) [9]) (gNm 8)) (sSeq (sRet (eTup (eCons (eC (.str "ask")) (eCons (eVar 5) (eCons (eB (b1 tupOfP) (eCons (eComp (iP (eCons (eIx (eVar 1) (eVar 5)) eNil) kRng1) (gNm 9) (tYes') (eIx (eLst (eCons (eIx (eVar 4) (eVar 9)) (eCons (eC .none) (eNil)))) (eB (b1 intOfP) (eCons (eIx (eVar 8) (eVar 9)) (eNil)))) [9]) (eNil))) (eNil)))))) (sNext))) (sNext)) (sSeq (sIf (tBl (eEq (eIx (eVar 0) (eC (.int 0))) (eC (.int 4)))) (sSeq (sRet (eTup (eCons (eC (.str "any")) (eCons (eB (b1 tupOfP) (eCons (eSl (eVar 4) none (some (eAdd (eC (.int 1)) (eMod (eIx (eVar 0) (eC (.int 2))) (eC (.int 4)))))) (eNil))) (eNil))))) (sNext)) (sNext)) (sSeq (sIf (tBl (eEq (eIx (eVar 0) (eC (.int 0))) (eC (.int 5)))) (sSeq (sRet (eTup (eCons (eC (.str "call")) (eCons (eIx (eVar 0) (eC (.int 7))) (eCons (eIx (eVar 4) (eC (.int 0))) (eNil)))))) (sNext)) (sNext)) (sSeq (sIf (tBl (eLe (eIx (eVar 1) (eVar 5)) (eVar 3))) (sSeq (sRet (eTup (eCons (eC (.str "put")) (eCons (eVar 5) (eCons (eVar 7) (eCons (eIx (eVar 4) (eC (.int 0))) (eNil))))))) (sNext)) (sNext)) (sSeq (sRet (eTup (eCons (eIx (eLst (eCons (eC (.str "take")) (eCons (eC (.str "give")) (eNil)))) (eSub (eIx (eVar 0) (eC (.int 0))) (eC (.int 6)))) (eCons (eVar 5) (eCons (eIx (eVar 4) (eC (.int 0))) (eNil)))))) (sNext)))))))))))
noncomputable def F__law_to_row : Fn := mkFn 10 B__law_to_row
/-! _law_plan: 0 _law_script, 1 _law_most_procs, 2 _law_most_rows, 3 _law_most_hands, 4 _law_menu, 5 _law_head, 6 _law_worths, 7 _law_firsts, 8 _law_many, 9 _law_hands, 10 _law_procs, 11 _law_k, 12 _law_row, 13 _law_end, 14 _law_j -/
abbrev S__law_plan_1 (l_script : D) (l_most_rows : D) (l_worths : D) (l_firsts : D) (l_many : D) (l_hands : D) (l_procs : D) : Sl := [some l_script, none, some l_most_rows, none, none, none, some l_worths, some l_firsts, some l_many, some l_hands, some l_procs, none, none, none, none]
abbrev G__law_plan_1 : GM := gNm 11
noncomputable def L__law_plan_1 : SM := sSeq (sAsg (eCall F__law_digits (eCons (eCall F__law_cell_at (eCons (eVar 0) (eCons (eAdd (eC (.int 1)) (eVar 11)) (eNil)))) (eCons (eAdd (eC (.int 1)) (eVar 11)) (eCons (eAdd (eLst (eCons (eVar 2) (eNil))) (eMul (eLst (eCons (eC (.int 8)) (eCons (eC (.int 3)) (eCons (eC (.int 6)) (eCons (eC (.int 6)) (eCons (eC (.int 9)) (eCons (eC (.int 8)) (eCons (eC (.int 64)) (eCons (eVar 8) (eNil)))))))))) (eVar 2))) (eNil))))) (gNm 12)) (sSeq (sAsg (eAdd (eC (.int 1)) (eIx (eVar 12) (eC (.int 0)))) (gNm 13)) (sSeq (sExpr (eBM "list" appendD (eVar 10) (eCons (eComp (iP (eCons (eVar 13) eNil) kRng1) (gNm 14) (tYes') (eCall F__law_to_row (eCons (eSl (eVar 12) (some (eAdd (eC (.int 1)) (eMul (eC (.int 8)) (eVar 14)))) (some (eAdd (eC (.int 9)) (eMul (eC (.int 8)) (eVar 14))))) (eCons (eVar 6) (eCons (eVar 13) (eCons (eB (lenD) (eCons (eVar 9) (eNil))) (eNil)))))) [14]) (eNil)))) (sNext)))
noncomputable def W__law_plan_1 (s : Sl) (h : Hs) : Option SR := sWp [1, 3, 4, 5, 11, 12, 13, 14] L__law_plan_1 s h
noncomputable def B__law_plan : SM := sSeq (sAsg (eCall F__law_digits (eCons (eCall F__law_cell_at (eCons (eVar 0) (eCons (eC (.int 0)) (eNil)))) (eCons (eC (.int 0)) (eCons (eLst (eCons (eB (lenD) (eCons (eVar 4) (eNil))) (eCons (eVar 1) (eCons (eVar 3) (eCons (eC (.int 6)) (eCons (eC (.int 6)) (eCons (eC (.int 6)) (eCons (eC (.int 6)) (eCons (eC (.int 6)) (eCons (eC (.int 6)) (eNil))))))))))) (eNil))))) (gNm 5)) (sSeq (sAsg (eIx (eVar 4) (eIx (eVar 5) (eC (.int 0)))) (gNm 6)) (sSeq (sAsg (eComp (iP (eCons (eB (lenD) (eCons (eVar 6) (eNil))) eNil) kRng1) (gNm 11) (tYes') (eMod (eIx (eVar 5) (eAdd (eC (.int 3)) (eVar 11))) (eIx (eVar 6) (eVar 11))) [11]) (gNm 7)) (sSeq (sAsg (eAdd (eC (.int 1)) (eIx (eVar 5) (eC (.int 1)))) (gNm 8)) (sSeq (sAsg (eComp (iP (eCons (eAdd (eC (.int 1)) (eIx (eVar 5) (eC (.int 2)))) eNil) kRng1) (gNm 11) (tYes') (eMod (eIx (eVar 5) (eAdd (eC (.int 6)) (eVar 11))) (eVar 8)) [11]) (gNm 9)) (sSeq (sAsg (eLstN (eNil)) (gNm 10)) (sSeq (sFor [1, 3, 4, 5, 11, 12, 13, 14] (iP (eCons (eVar 8) eNil) kRng1) (gNm 11) (W__law_plan_1)) (sSeq (sRet (eTup (eCons (eVar 6) (eCons (eVar 7) (eCons (eVar 10) (eCons (eVar 9) (eNil))))))) (sNext))))))))
noncomputable def F__law_plan : Fn := mkFn 15 B__law_plan
/-! _law_program: 0 _law_plan_here, 1 _law_number, 2 _law_worths, 3 _law_firsts, 4 _law_procs, 5 _law_hands, 6 _law_boxes, 7 _law_titles, 8 _law_rows, 9 _law_k, 10 _law_proc, 11 _law_built, 12 _law_row -/
abbrev S__law_program_1 (l_number : D) (l_hands : D) (l_boxes : D) (l_titles : D) (l_rows : D) (l_k : D) (l_built : D) : Sl := [none, some l_number, none, none, none, some l_hands, some l_boxes, some l_titles, some l_rows, some l_k, none, some l_built, none]
abbrev G__law_program_1 : GM := gNm 12
noncomputable def L__law_program_1 : SM := sSeq (sIf (tBl (eEq (eIx (eVar 12) (eC (.int 0))) (eC (.str "call")))) (sSeq (sAsg (eTup (eCons (eC (.str "call")) (eCons (eIx (eVar 7) (eIx (eVar 12) (eC (.int 1)))) (eCons (eIx (eVar 12) (eC (.int 2))) (eNil))))) (gNm 12)) (sNext)) (sSeq (sIf (tBl (eNe (eIx (eVar 12) (eC (.int 0))) (eC (.str "any")))) (sSeq (sAsg (eAdd (eTup (eCons (eIx (eVar 12) (eC (.int 0))) (eCons (eIx (eIx (eVar 6) (eIx (eVar 12) (eC (.int 1)))) (eC (.int 0))) (eNil)))) (eSl (eVar 12) (some (eC (.int 2))) none)) (gNm 12)) (sNext)) (sNext)) (sNext))) (sSeq (sExpr (eBM "list" appendD (eVar 11) (eCons (eVar 12) (eNil)))) (sNext))
noncomputable def W__law_program_1 (s : Sl) (h : Hs) : Option SR := sWp [0, 2, 3, 4, 10, 12] L__law_program_1 s h
abbrev S__law_program_2 (l_number : D) (l_hands : D) (l_boxes : D) (l_titles : D) (l_rows : D) : Sl := [none, some l_number, none, none, none, some l_hands, some l_boxes, some l_titles, some l_rows, none, none, none, none]
abbrev G__law_program_2 : GM := gTp 2 (gsCons (gNm 9) (gsCons (gNm 10) (gsNil)))
noncomputable def L__law_program_2 : SM := sSeq (sAsg (eLstN (eNil)) (gNm 11)) (sSeq (sFor [0, 2, 3, 4, 10, 12] (iSeq (eVar 10)) (gNm 12) (W__law_program_1)) (sSeq (sExpr (eBM "list" appendD (eVar 8) (eCons (eTup (eCons (eIx (eVar 7) (eVar 9)) (eCons (eVar 11) (eNil)))) (eNil)))) (sNext)))
noncomputable def W__law_program_2 (s : Sl) (h : Hs) : Option SR := sWp [0, 2, 3, 4, 9, 10, 11, 12] L__law_program_2 s h
noncomputable def B__law_program : SM := sSeq (sAsg (eVar 0) (gTp 4 (gsCons (gNm 2) (gsCons (gNm 3) (gsCons (gNm 4) (gsCons (gNm 5) (gsNil))))))) (sSeq (sAsg (eComp (iP (eCons (eB (lenD) (eCons (eVar 2) (eNil))) eNil) kRng1) (gNm 9) (tYes') (eTup (eCons (eCall F__law_name (eCons (eMod (eVar 1) (eC (.int 208))) (eCons (eVar 9) (eNil)))) (eCons (eIx (eVar 2) (eVar 9)) (eCons (eIx (eVar 3) (eVar 9)) (eNil))))) [9]) (gNm 6)) (sSeq (sAsg (eComp (iP (eCons (eB (lenD) (eCons (eVar 4) (eNil))) eNil) kRng1) (gNm 9) (tYes') (eCall F__law_name (eCons (eMod (eFdiv (eVar 1) (eC (.int 208))) (eC (.int 208))) (eCons (eVar 9) (eNil)))) [9]) (gNm 7)) (sSeq (sAsg (eLstN (eNil)) (gNm 8)) (sSeq (sFor [0, 2, 3, 4, 9, 10, 11, 12] (iP (eCons (eVar 4) eNil) kEnum) (gTp 2 (gsCons (gNm 9) (gsCons (gNm 10) (gsNil)))) (W__law_program_2)) (sSeq (sRet (eTup (eCons (eVar 6) (eCons (eVar 8) (eCons (eComp (iP (eCons (eVar 5) eNil) kEnum) (gTp 2 (gsCons (gNm 9) (gsCons (gNm 10) (gsNil)))) (tYes') (eTup (eCons (eCall F__law_name (eCons (eMod (eFdiv (eVar 1) (eC (.int 43264))) (eC (.int 208))) (eCons (eVar 9) (eNil)))) (eCons (eIx (eVar 7) (eVar 10)) (eNil)))) [9, 10]) (eNil)))))) (sNext))))))
noncomputable def F__law_program : Fn := mkFn 13 B__law_program
/-! law03: 0 _law_script, 1 _law_menu, 2 _law_turn, 3 _law_least, 4 _law_plan_here, 5 _law_program_here, 6 _law_kept -/
/-! first_store: 0 boxes, 1 name, 2 worths, 3 first -/
/-! put_into: 0 store, 1 box, 2 worth -/
/-! settled: 0 ends, 1 pile -/
/-! gone_on: 0 ends, 1 pile, 2 to -/
/-! with_call: 0 pile, 1 to, 2 proc -/
/-! number_by: 0 rows, 1 name, 2 row -/
/-! ends_of: 0 program, 1 name, 2 rows -/
/-! begun: 0 program, 1 piles, 2 name, 3 proc -/
/-! row_at: 0 program, 1 pile, 2 proc, 3 place -/
/-! waits: 0 program, 1 row, 2 holds, 3 hand -/
/-! choices: 0 program, 1 state, 2 hand, 3 store, 4 piles, 5 row -/
/-! done_to_box: 0 program, 1 row, 2 store, 3 hand, 4 box -/
/-! with_pile: 0 piles, 1 hand, 2 pile -/
/-! stepped: 0 program, 1 state, 2 hand, 3 choice, 4 store, 5 piles, 6 pile, 7 row, 8 ends, 9 to -/
/-! _law_begun: 0 _law_plan_here, 1 _law_proc -/
/-! _law_row: 0 _law_plan_here, 1 _law_pile -/
/-! _law_choices: 0 _law_plan_here, 1 _law_state, 2 _law_hand, 3 _law_store, 4 _law_piles, 5 _law_row_here -/
/-! _law_step: 0 _law_plan_here, 1 _law_state, 2 _law_hand, 3 _law_choice, 4 _law_store, 5 _law_piles, 6 _law_row_here, 7 _law_pile, 8 _law_to, 9 _law_holds -/
/-! _law_steps: 0 _law_plan_here, 1 _law_state, 2 _law_found, 3 _law_hand, 4 _law_choice -/
/-! _law_right: 0 _law_plan_here, 1 _law_program_here, 2 _law_state, 3 _law_kept, 4 _law_hand, 5 _law_choice, 6 _law_found -/
/-! law13: 0 _law_script, 1 _law_plan_here, 2 _law_program_here, 3 _law_state, 4 _law_ahead, 5 _law_turn, 6 _law_cell, 7 _law_some, 8 _law_hand, 9 _law_choice -/
/-! _law_told: 0 _law_program_here, 1 _law_state, 2 _law_hand, 3 _law_choice, 4 _law_found, 5 _law_error, 6 e -/
/-! turned_over: 0 program, 1 state, 2 hand, 3 turn, 4 at, 5 number, 6 choice -/
/-! states_by_rounds: 0 program, 1 weaving, 2 found, 3 at, 4 turns, 5 state, 6 hand, 7 turn -/
/-! woven: 0 program, 1 weaving -/
/-! _law_calls: 0 _law_plan_here, 1 _law_number, 2 _law_worths, 3 _law_firsts, 4 _law_procs, 5 _law_hands, 6 _law_found, 7 _law_rows, 8 _law_some, 9 _law_row_here, 10 _law_to, 11 _law_one -/
/-! _law_refused: 0 _law_program_here, 1 _law_state, 2 _law_refused_here, 3 e -/
/-! _law_very_deep: 0 _law_rows, 1 _law_program_here, 2 _law_weaving, 3 _law_state -/
/-! law15: 0 _law_script, 1 _law_plan_here, 2 _law_program_here, 3 _law_state, 4 _law_turn, 5 _law_cell, 6 _law_pick, 7 _law_some, 8 _law_due -/
/-! is_mark: 0 program, 1 thing, 2 hand, 3 proc, 4 place, 5 part -/
/-! look_at_mark: 0 program, 1 mark -/
/-! is_at: 0 state, 1 mark, 2 hand, 3 proc, 4 place -/
/-! comes_to: 0 program, 1 weaving, 2 mark -/
/-! _law_weave: 0 _law_plan_here, 1 _law_cells, 2 _law_most, 3 _law_state, 4 _law_weaving, 5 _law_many, 6 _law_at, 7 _law_turns, 8 _law_hand, 9 _law_d, 10 _law_turn, 11 _law_pick, 12 _law_some -/
/-! _law_is_mark: 0 _law_plan_here, 1 _law_thing_here, 2 _law_one -/
/-! _law_refused_v1: 0 _law_program_here, 1 _law_weaving, 2 _law_thing_here, 3 _law_error, 4 e -/
/-! _law_thing: 0 _law_plan_here, 1 _law_state, 2 _law_d, 3 _law_hand, 4 _law_proc, 5 _law_place, 6 _law_there, 7 _law_some, 8 _law_pile -/
/-! _law_cut_right: 0 _law_plan_here, 1 _law_program_here, 2 _law_weaving, 3 _law_d, 4 _law_at, 5 _law_hand, 6 _law_turns, 7 _law_some, 8 _law_frame, 9 _law_turn, 10 _law_one -/
/-! law18: 0 _law_script, 1 _law_plan_here, 2 _law_program_here, 3 _law_weaving, 4 _law_wrong, 5 _law_k, 6 _law_d, 7 _law_some, 8 _law_state, 9 _law_thing_here, 10 _law_told, 11 _law_due, 12 _law_found, 13 _law_hand, 14 _law_one -/
/-! _law_due: 0 _law_plan_here, 1 _law_weaving, 2 _law_state, 3 _law_number, 4 _law_turns, 5 _law_hand, 6 _law_turn, 7 _law_at, 8 _law_choice -/
/-! _law_told_v1: 0 _law_which, 1 _law_program_here, 2 _law_weaving, 3 _law_found, 4 _law_error, 5 e -/
/-! _law_bent: 0 _law_weaving, 1 _law_d, 2 _law_found, 3 _law_turns, 4 _law_turn, 5 _law_odd, 6 _law_at -/
/-! law17: 0 _law_script, 1 _law_plan_here, 2 _law_program_here, 3 _law_weaving, 4 _law_k, 5 _law_bent_here, 6 _law_state, 7 _law_at, 8 _law_kept -/
/-! in_rounds: 0 program, 1 steps, 2 state, 3 weaving, 4 ahead, 5 number, 6 hand, 7 choice, 8 one -/
/-! _law_drawn: 0 _law_plan_here, 1 _law_cells, 2 _law_state, 3 _law_steps, 4 _law_turn, 5 _law_cell, 6 _law_some, 7 _law_hand, 8 _law_choice -/
/-! _law_laid: 0 _law_plan_here, 1 _law_steps, 2 _law_found, 3 _law_k, 4 _law_hand -/
/-! _law_first_bad: 0 _law_plan_here, 1 _law_steps, 2 _law_state, 3 _law_number, 4 _law_hand, 5 _law_choice -/
/-! _law_apart: 0 _law_weaving, 1 _law_lists, 2 _law_row_here, 3 _law_lengths, 4 _law_k, 5 _law_one -/
/-! _law_told_v2: 0 _law_program_here, 1 _law_steps, 2 _law_error, 3 _law_found, 4 e -/
/-! law24: 0 _law_script, 1 _law_plan_here, 2 _law_program_here, 3 _law_steps, 4 _law_state, 5 _law_kept, 6 _law_found, 7 _law_k, 8 _law_d, 9 _law_at, 10 _law_odd, 11 _law_bent, 12 _law_due, 13 _law_told_here -/
/-! law14: 0 _law_script, 1 _law_plan_here, 2 _law_program_here, 3 _law_state, 4 _law_kept, 5 _law_turn, 6 _law_cell, 7 _law_d, 8 _law_hand, 9 _law_some, 10 _law_odd, 11 _law_choice, 12 _law_due, 13 _law_was -/
/-! choices__T: 0 program, 1 state, 2 hand, 3 store, 4 piles, 5 row -/
/-! _law_plan__T: 0 _law_script, 1 _law_most_procs, 2 _law_most_rows, 3 _law_most_hands, 4 _law_menu, 5 _law_head, 6 _law_worths, 7 _law_firsts, 8 _law_many, 9 _law_hands, 10 _law_procs, 11 _law_k, 12 _law_row_here, 13 _law_end, 14 _law_j -/
/-! _law_program__T: 0 _law_plan_here, 1 _law_number, 2 _law_worths, 3 _law_firsts, 4 _law_procs, 5 _law_hands, 6 _law_boxes, 7 _law_titles, 8 _law_rows, 9 _law_k, 10 _law_proc, 11 _law_built, 12 _law_row_here -/
/-! _law_choices__T: 0 _law_plan_here, 1 _law_state, 2 _law_hand, 3 _law_store, 4 _law_piles, 5 _law_row_here -/
/-! _law_right_v1: 0 _law_plan_here, 1 _law_program_here, 2 _law_state, 3 _law_hand, 4 _law_due, 5 _law_found, 6 _law_one -/
/-! law12: 0 _law_script, 1 _law_plan_here, 2 _law_program_here, 3 _law_kept, 4 _law_state, 5 _law_turn, 6 _law_cell, 7 _law_other, 8 _law_beside, 9 _law_d, 10 _law_hands, 11 _law_some, 12 _law_rows, 13 _law_hand -/
/-! _law_behind: 0 _law_plan_here, 1 _law_weaving, 2 _law_state, 3 _law_turns, 4 _law_hand, 5 _law_turn, 6 _law_choice -/
/-! law16: 0 _law_script, 1 _law_plan_here, 2 _law_program_here, 3 _law_weaving, 4 _law_state, 5 _law_kept, 6 _law_found, 7 _law_many, 8 _law_empty, 9 _law_other, 10 _law_beside, 11 _law_turn, 12 _law_some, 13 _law_one, 14 _law_told, 15 _law_due, 16 _law_hand -/
/-! are_too_many: 0 boxes, 1 rounds, 2 many, 3 number -/
/-! look_over: 0 program, 1 rounds, 2 mark -/
/-! twice: 0 to -/
/-! row_for: 0 program, 1 row, 2 hand, 3 box, 4 to -/
/-! proc_for: 0 program, 1 hand, 2 proc, 3 mark, 4 found, 5 place, 6 row, 7 word -/
/-! first_proc: 0 program, 1 found, 2 hand, 3 name, 4 proc -/
/-! made: 0 program, 1 rounds, 2 mark, 3 procs, 4 hand, 5 proc -/
/-! _law_fits: 0 _law_worths, 1 _law_rounds, 2 _law_many, 3 _law_turn, 4 _law_one -/
/-! _law_told_v3: 0 _law_program_here, 1 _law_rounds, 2 _law_found, 3 _law_error, 4 e -/
/-! law31: 0 _law_script, 1 _law_worths, 2 _law_plan_here, 3 _law_program_here, 4 _law_rounds -/
/-! _law_mark: 0 _law_plan_here, 1 _law_d, 2 _law_hand, 3 _law_proc -/
/-! _law_power: 0 _law_many, 1 _law_times, 2 _law_found, 3 _law_turn -/
/-! _law_most_rounds: 0 _law_plan_here, 1 _law_many, 2 _law_worths, 3 _law_found -/
/-! _law_bad: 0 _law_program_here, 1 _law_d, 2 _law_boxes, 3 _law_procs, 4 _law_hands, 5 _law_some -/
/-! _law_fields: 0 _law_thing, 1 _law_fields_here, 2 e -/
/-! _law_told_v4: 0 _law_program_here, 1 _law_rounds, 2 _law_mark_here, 3 _law_found, 4 _law_error, 5 _law_kinds, 6 e, 7 _law_k -/
/-! _law_due_v1: 0 _law_thing, 1 _law_rounds, 2 _law_mark_here, 3 _law_good, 4 _law_most, 5 _law_fields_here -/
/-! law30: 0 _law_script, 1 _law_menu, 2 _law_plan_here, 3 _law_program_here, 4 _law_most, 5 _law_k, 6 _law_d, 7 _law_thing, 8 _law_good, 9 _law_mark_here, 10 _law_rounds, 11 _law_kept, 12 _law_some -/
/-! made__T: 0 program, 1 rounds, 2 mark, 3 procs, 4 hand, 5 proc -/
/-! _law_twice: 0 _law_to -/
/-! _law_built_row: 0 _law_plan_here, 1 _law_row, 2 _law_hand, 3 _law_worths, 4 _law_to -/
/-! _law_built: 0 _law_plan_here, 1 _law_boxes, 2 _law_rounds, 3 _law_mark_here, 4 _law_hands, 5 _law_rows, 6 _law_hand, 7 _law_proc, 8 _law_procs, 9 _law_old, 10 _law_some, 11 _law_place, 12 _law_row, 13 _law_word -/
/-! _law_built__T: 0 _law_plan_here, 1 _law_boxes, 2 _law_rounds, 3 _law_mark_here, 4 _law_hands, 5 _law_rows, 6 _law_hand, 7 _law_proc, 8 _law_procs, 9 _law_old, 10 _law_some, 11 _law_place, 12 _law_row, 13 _law_word -/
/-! law29: 0 _law_script, 1 _law_menu, 2 _law_plan_here, 3 _law_program_here, 4 _law_kept, 5 _law_k, 6 _law_held, 7 _law_name_here, 8 _law_rows, 9 _law_d, 10 _law_mark_here, 11 _law_rounds, 12 _law_due, 13 _law_found, 14 _law_at -/
/-! _law_whole: 0 _law_thing, 1 _law_low, 2 _law_high -/
/-! _law_is_name: 0 _law_thing, 1 _law_sign -/
/-! _law_boxes_due: 0 _law_boxes, 1 _law_many, 2 _law_taken, 3 _law_number, 4 _law_box, 5 _law_good -/
/-! _law_procs_due: 0 _law_procs, 1 _law_taken, 2 _law_number, 3 _law_proc, 4 _law_good -/
/-! _law_is_row: 0 _law_row, 1 _law_program_here, 2 _law_end, 3 _law_boxes, 4 _law_sizes, 5 _law_worths, 6 _law_good, 7 _law_titles, 8 _law_one, 9 _law_proc, 10 _law_to -/
/-! _law_hands_due: 0 _law_hands, 1 _law_procs, 2 _law_taken, 3 _law_number, 4 _law_hand, 5 _law_good, 6 _law_proc -/
/-! _law_due_v2: 0 _law_thing, 1 _law_found, 2 _law_number, 3 _law_proc, 4 _law_at, 5 _law_row, 6 _law_part -/
/-! _law_told_v5: 0 _law_thing, 1 _law_error, 2 _law_answer, 3 _law_fields, 4 _law_good, 5 e -/
/-! _law_right_v2: 0 _law_thing, 1 _law_kept, 2 _law_due_here -/
/-! _law_odd_things: 0 _law_row, 1 _law_end, 2 _law_some -/
/-! _law_odd_row: 0 _law_row, 1 _law_end, 2 _law_d, 3 _law_odd, 4 _law_at, 5 _law_tos, 6 _law_some -/
/-! _law_bent_v1: 0 _law_program_here, 1 _law_d, 2 _law_boxes, 3 _law_procs, 4 _law_hands, 5 _law_number, 6 _law_name_here, 7 _law_rows, 8 _law_at, 9 _law_bent_here -/
/-! law05: 0 _law_script, 1 _law_menu, 2 _law_plan_here, 3 _law_program_here, 4 _law_k, 5 _law_d, 6 _law_bent_here, 7 _law_other -/
/-! _law_put: 0 _law_program_here, 1 _law_d, 2 _law_boxes, 3 _law_procs, 4 _law_hands, 5 _law_odd, 6 _law_at, 7 _law_rows, 8 _law_some -/
/-! law06: 0 _law_script, 1 _law_menu, 2 _law_plan_here, 3 _law_program_here, 4 _law_row, 5 _law_one, 6 _law_k, 7 _law_d, 8 _law_bent -/
/-! law30_v1: 0 _law_script, 1 _law_menu, 2 _law_plan_here, 3 _law_program_here, 4 _law_most, 5 _law_k, 6 _law_d, 7 _law_thing, 8 _law_good, 9 _law_mark_here, 10 _law_rounds, 11 _law_kept, 12 _law_some -/
/-! _law_kinds: 0 _law_e, 1 _law_kinds_here -/
/-! _law_alone: 0 _law_e, 1 _law_number, 2 _law_k -/
/-! law11: 0 _law_script, 1 _law_numbers, 2 _law_text, 3 _law_program, 4 _law_some, 5 _law_cell, 6 _law_k -/
/-! _law_built__T_v1: 0 _law_plan_here, 1 _law_boxes, 2 _law_rounds, 3 _law_mark_here, 4 _law_hands, 5 _law_rows, 6 _law_hand, 7 _law_proc, 8 _law_procs, 9 _law_old, 10 _law_some, 11 _law_place, 12 _law_row, 13 _law_word -/
/-! law29_v1: 0 _law_script, 1 _law_menu, 2 _law_plan_here, 3 _law_program_here, 4 _law_kept, 5 _law_k, 6 _law_held, 7 _law_name_here, 8 _law_rows, 9 _law_d, 10 _law_mark_here, 11 _law_rounds, 12 _law_due, 13 _law_found, 14 _law_at -/
end Fs
set_option maxHeartbeats 4000000
namespace Vl
open PySem PySem.Spec PyProof.Rows L2
/-! ## calls that work on the caller's own cells -/
def callI (F : Fn) (ds : List D) (h : Hs) : Option ER := match F ds h with
  | some (.rt d h') => some (.ok d h')
  | some (.ex x h') => some (.ex x h')
  | none => none
def eCallI (F : Fn) (a : AM) : EM := eA a fun ds _ h => callI F ds h
section
variable {K : KF} {w : Wd}
end
section
variable {X : Cx} {W : WX} {e : Expr} {es : List Expr} {a : AM} {F : Fn} {f : Addr} {fd : FuncData} {ps : List Str} {k : Nat} {x : Str} {p pos : Pos}
end
/-! ## slices of cells, of data -/
def slX (lo hi : Option Int) (x : D) (h : Hs) : Option D := match lstOf x h with
  | some xs => (unvs (cutP xs lo hi)).map fun ps => .v (.list ps)
  | none => none
def eSlX (f : EM) (lo hi : Option EM) : EM := f.bind fun x => ePart lo fun l => ePart hi fun u => EM.lift (slX l u x)
theorem RepDs.takeN {K : KF} {w : Wd} : ∀ {ds : List D} {vs : List V} (n : Nat), RepDs K w ds vs → RepDs K w (ds.take n) (vs.take n)
  | _, _, 0, _ => by simp [RepDs]
  | [], _, n + 1, h => by
    rw [show _ = [] from h]
    simp [RepDs]
  | d :: ds, _, n + 1, ⟨v, r, e, h1, h2⟩ => ⟨v, r.take n, by rw [e]; rfl, h1, RepDs.takeN n h2⟩
theorem RepDs.dropN {K : KF} {w : Wd} : ∀ {ds : List D} {vs : List V} (n : Nat), RepDs K w ds vs → RepDs K w (ds.drop n) (vs.drop n)
  | _, _, 0, h => h
  | [], _, n + 1, h => by
    rw [show _ = [] from h]
    simp [RepDs]
  | d :: ds, _, n + 1, ⟨v, r, e, h1, h2⟩ => by
    rw [e]
    exact RepDs.dropN n h2
theorem cutD_of {K : KF} {w : Wd} {ds : List D} {vs : List V} (lo hi : Option Int) (r : RepDs K w ds vs) : RepDs K w (cutP ds lo hi) (cutV vs lo hi) := by
  unfold cutP cutV
  rw [r.len]
  exact RepDs.takeN _ (RepDs.dropN _ r)
section
variable {X : Cx} {W : WX} {e : Expr} {lo hi : Option Expr} {f : EM} {ol oh : Option EM} {pos p2 : Pos}
end
@[simp] theorem z_slX (f : EM) (lo hi : Option EM) (s : Sl) (h : Hs) : eSlX f lo hi s h = match f s h with
  | some (.ok x h1) => ePart lo (fun l => ePart hi fun u => EM.lift (slX l u x)) s h1
  | some (.ex x h1) => some (.ex x h1)
  | none => none := rfl
@[simp] theorem y_slX (lo hi : Option Int) (n : Nat) (h : Hs) : slX lo hi (.ref n) h = match h[n]? with
  | some (.lst xs) => (unvs (cutP xs lo hi)).map fun ps => .v (.list ps)
  | _ => none := by
  unfold slX
  show (match lstOf (.ref n) h with
    | some xs => (unvs (cutP xs lo hi)).map fun ps => D.v (.list ps)
    | none => none) = _
  rw [z_lo1]
  cases h[n]? with
  | none => rfl
  | some c => cases c <;> rfl
@[simp] theorem z_callI {F : Fn} {a : AM} {s : Sl} {h : Hs} : eCallI F a s h = match a s h with
  | some (.ok ds h1) => callI F ds h1
  | some (.ex x h1) => some (.ex x h1)
  | none => none := rfl
@[simp] theorem z_callT' {F : Fn} {a : AM} {s : Sl} {h : Hs} : eCallT F a s h = match a s h with
  | some (.ok ds h1) => (match unvs ds with
    | some ps => callT F ps false h1
    | none => (match frzs h1 (dep + 1) ds with
      | some ps => callT F ps true h1
      | none => none))
  | some (.ex x h1) => some (.ex x h1)
  | none => none := rfl
@[simp] theorem z_callF' {F : Fn} {a : AM} {s : Sl} {h : Hs} : eCallF F a s h = match a s h with
  | some (.ok ds h1) => (match frzs h1 (dep + 1) ds with
    | some ps => callF F ps h1
    | none => none)
  | some (.ex x h1) => some (.ex x h1)
  | none => none := rfl
end Vl
set_option maxHeartbeats 0
namespace Fs
open PySem PySem.Spec PyProof.Rows L2 Vl
/-! _law_laid_v1: 0 _law_plan_here, 1 _law_steps, 2 _law_found, 3 _law_k, 4 _law_hand -/
/-! _law_apart_v1: 0 _law_weaving, 1 _law_lists, 2 _law_row_here, 3 _law_lengths, 4 _law_k, 5 _law_one -/
/-! law24_v1: 0 _law_script, 1 _law_plan_here, 2 _law_program_here, 3 _law_steps, 4 _law_state, 5 _law_kept, 6 _law_found, 7 _law_k, 8 _law_d, 9 _law_at, 10 _law_odd, 11 _law_bent, 12 _law_due, 13 _law_told_here -/
end Fs
set_option maxHeartbeats 4000000
namespace Vl
open PySem PySem.Spec PyProof.Rows L2
/-! ## constants of the module that are tuples of texts -/
theorem reps_strs {K : KF} {Fz : Addr → Prop} {H : Hp} : ∀ xs : List Str, RepPs K Fz H (xs.map .str) (xs.map V.str)
  | [] => rfl
  | x :: xs => ⟨_, _, rfl, rfl, reps_strs xs⟩
/-! ## sum of ints -/
def intsP : List PyData → Option (List Int)
  | [] => some []
  | .int i :: r => (intsP r).map (i :: ·)
  | _ => none
def sumP : PyData → Option PyData
  | .list ds => (intsP ds).map fun ns => .int ns.sum
  | _ => none
@[simp] theorem y_sum (xs : List PyData) : sumP (.list xs) = (intsP xs).map fun ns => .int ns.sum := rfl
/-! ## a tuple so many times, once too -/
noncomputable def mulT : PyData → PyData → Option PyData
  | .tuple xs, .int k => if k = 1 then some (.tuple xs) else mulP (.tuple xs) (.int k)
  | p, q => mulP p q
noncomputable def eMulT (f g : EM) : EM := eBin (lift2 mulT) f g
@[simp] theorem z_MulT (f g : EM) (s : Sl) (h : Hs) : eMulT f g s h = eBin (lift2 mulT) f g s h := rfl
@[simp] theorem y_mulT (xs : List PyData) (k : Int) : mulT (.tuple xs) (.int k) = if k = 1 then some (.tuple xs) else mulP (.tuple xs) (.int k) := rfl
end Vl
set_option maxHeartbeats 4000000
namespace Vl
open PySem PySem.Spec PyProof.Rows L2
/-! ## enumerate of a list, a tuple, a text -/
def kEnumS : KI := fun ds h => match ds with
  | [d] => match srcD d h with
    | some q => if q.1.length ≤ sizeLine then some (enumI 0 q.1, q.2) else none
    | none => none
  | _ => none
@[simp] theorem y_enumS0 (xs : List PyData) (h : Hs) : kEnumS [.v (.list xs)] h = if xs.length ≤ sizeLine then some (enumI 0 (xs.map .v), none) else none := by
  simp [kEnumS, srcD]
@[simp] theorem y_enumS1 (xs : List PyData) (h : Hs) : kEnumS [.v (.tuple xs)] h = if xs.length ≤ sizeLine then some (enumI 0 (xs.map .v), none) else none := by
  simp [kEnumS, srcD]
end Vl
set_option maxHeartbeats 0
namespace Fs
open PySem PySem.Spec PyProof.Rows L2 Vl
/-! store_by: 0 boxes, 1 number, 2 found, 3 name, 4 worths, 5 first -/
/-! first_leaf: 0 scroll, 1 boxes, 2 rounds, 3 procs, 4 stores -/
/-! end_of: 0 scroll, 1 proc -/
/-! is_counted: 0 scroll, 1 proc, 2 place -/
/-! with_store: 0 leaf, 1 store, 2 page, 3 found, 4 pages, 5 margins -/
/-! box_moves: 0 row, 1 leaf, 2 rounds, 3 store, 4 holds -/
/-! on_moves: 0 row, 1 leaf, 2 rounds, 3 here, 4 end, 5 page, 6 found, 7 pages, 8 margins, 9 told -/
/-! opened: 0 scroll, 1 leaf, 2 choice, 3 boxes, 4 rounds, 5 procs, 6 page, 7 found, 8 pages, 9 margins, 10 stores, 11 number -/
/-! open_moves: 0 scroll, 1 row, 2 leaf, 3 many, 4 number, 5 choice -/
/-! moves: 0 scroll, 1 proc, 2 place, 3 leaf, 4 row, 5 page, 6 found, 7 pages, 8 margins, 9 choice, 10 to -/
/-! _law_scroll_row: 0 _law_d, 1 _law_worths, 2 _law_end, 3 _law_many, 4 _law_tos, 5 _law_box, 6 _law_one, 7 _law_other, 8 _law_stops, 9 _law_j -/
/-! _law_scroll: 0 _law_script, 1 _law_most_procs, 2 _law_most_rows, 3 _law_menu, 4 _law_head, 5 _law_worths, 6 _law_rounds, 7 _law_letters, 8 _law_boxes, 9 _law_procs, 10 _law_k, 11 _law_row, 12 _law_end, 13 _law_j -/
/-! _law_stores: 0 _law_boxes, 1 _law_found, 2 _law_name, 3 _law_worths, 4 _law_first, 5 _law_longer, 6 _law_worth, 7 _law_store -/
/-! _law_rows_of_stores: 0 _law_boxes, 1 _law_many, 2 _law_found, 3 _law_page, 4 _law_longer, 5 _law_store, 6 _law_some -/
/-! _law_box_moves: 0 _law_row, 1 _law_leaf_here, 2 _law_page, 3 _law_found, 4 _law_pages, 5 _law_margins, 6 _law_store, 7 _law_holds, 8 _law_to -/
/-! _law_moves: 0 _law_scroll_here, 1 _law_proc, 2 _law_place, 3 _law_leaf_here, 4 _law_boxes, 5 _law_rounds, 6 _law_procs, 7 _law_row, 8 _law_end, 9 _law_page, 10 _law_found, 11 _law_pages, 12 _law_margins, 13 _law_good, 14 _law_some, 15 _law_rows, 16 _law_choice, 17 _law_to, 18 _law_one, 19 _law_k -/
/-! _law_leaf: 0 _law_scroll_here, 1 _law_d, 2 _law_boxes, 3 _law_rounds, 4 _law_procs, 5 _law_stores_here, 6 _law_pages, 7 _law_margins, 8 _law_one -/
/-! _law_right_v3: 0 _law_scroll_here, 1 _law_leaf_here, 2 _law_proc, 3 _law_rows, 4 _law_place, 5 _law_row, 6 _law_told, 7 _law_counted, 8 _law_found -/
/-! law23: 0 _law_script, 1 _law_menu, 2 _law_scroll_here, 3 _law_kept, 4 _law_firsts, 5 _law_great, 6 _law_turn, 7 _law_cell, 8 _law_leaf_here, 9 _law_was, 10 _law_rows, 11 _law_name, 12 _law_worths, 13 _law_first, 14 _law_row -/
end Fs
set_option maxHeartbeats 0
namespace Fs
open PySem PySem.Spec PyProof.Rows L2 Vl
/-! ends_in: 0 scroll, 1 proc -/
/-! chosen: 0 scroll, 1 leaf, 2 pile, 3 choice, 4 proc, 5 place, 6 row, 7 one, 8 to, 9 later -/
/-! steps_of: 0 scroll, 1 run, 2 leaf, 3 pile, 4 told, 5 number, 6 choice, 7 behind -/
/-! ran: 0 scroll, 1 run, 2 told, 3 leaf, 4 pile, 5 proc, 6 place, 7 ahead -/
/-! _law_ways: 0 _law_scroll_here, 1 _law_leaf, 2 _law_pile, 3 _law_proc, 4 _law_place, 5 _law_row, 6 _law_found, 7 _law_choice, 8 _law_to, 9 _law_later, 10 _law_left -/
/-! _law_counts: 0 _law_scroll_here, 1 _law_pile, 2 _law_proc, 3 _law_place -/
/-! _law_run: 0 _law_scroll_here, 1 _law_picks, 2 _law_firsts, 3 _law_leaf, 4 _law_pile, 5 _law_run_here, 6 _law_many, 7 _law_pick, 8 _law_some, 9 _law_choice, 10 _law_name, 11 _law_worths, 12 _law_first -/
/-! law25: 0 _law_script, 1 _law_menu, 2 _law_scroll_here, 3 _law_picks, 4 _law_turn, 5 _law_cell, 6 _law_kept, 7 _law_run_here, 8 _law_due, 9 _law_handed, 10 _law_found, 11 _law_many, 12 _law_some, 13 _law_told -/
/-! _law_due_v3: 0 _law_scroll_here, 1 _law_run_here, 2 _law_firsts, 3 _law_leaf, 4 _law_pile, 5 _law_many, 6 _law_at, 7 _law_choice, 8 _law_some, 9 _law_one, 10 _law_name, 11 _law_worths, 12 _law_first -/
/-! _law_told_v6: 0 _law_scroll_here, 1 _law_run_here, 2 _law_found, 3 _law_error, 4 e -/
/-! _law_bent_v2: 0 _law_run_here, 1 _law_d, 2 _law_odd, 3 _law_at -/
/-! law26: 0 _law_script, 1 _law_menu, 2 _law_scroll_here, 3 _law_picks, 4 _law_turn, 5 _law_cell, 6 _law_run_here, 7 _law_k, 8 _law_bent_here, 9 _law_handed -/
end Fs
set_option maxHeartbeats 0
namespace Fs
open PySem PySem.Spec PyProof.Rows L2 Vl
/-! are_stores: 0 thing, 1 boxes, 2 many, 3 store, 4 holds, 5 box -/
/-! is_leaf: 0 scroll, 1 thing, 2 boxes, 3 rounds, 4 procs -/
/-! named_in: 0 deed, 1 book, 2 number, 3 key -/
/-! chosen_v1: 0 scroll, 1 proc, 2 place, 3 leaf, 4 deed, 5 choice, 6 to, 7 later -/
/-! walk_of: 0 scroll, 1 book, 2 number, 3 walks, 4 proc, 5 leaf, 6 deeds, 7 place, 8 counted, 9 many, 10 deed, 11 row, 12 behind, 13 named -/
/-! walks_of: 0 scroll, 1 book, 2 found, 3 number, 4 walk -/
/-! is_way: 0 scroll, 1 thing -/
/-! is_book: 0 scroll, 1 thing, 2 way -/
/-! book_tells: 0 scroll, 1 book -/
/-! unrolled: 0 scroll, 1 book, 2 run, 3 piled, 4 number, 5 at, 6 deeds -/
/-! _law_scroll_v1: 0 _law_calls, 1 _law_more, 2 _law_inner, 3 _law_last, 4 _law_first, 5 _law_second, 6 _law_third, 7 _law_k -/
/-! _law_book: 0 _law_calls, 1 _law_more, 2 _law_inner, 3 _law_last, 4 _law_leaf, 5 _law_book_here -/
/-! _law_kept: 0 _law_scroll_here, 1 _law_book_here, 2 _law_kept_here, 3 _law_some, 4 e -/
/-! _law_right_v4: 0 _law_calls, 1 _law_more, 2 _law_inner, 3 _law_last, 4 _law_scroll_here, 5 _law_book_here, 6 _law_many, 7 _law_small, 8 _law_found, 9 _law_one -/
/-! _law_short_right: 0 _law_scroll_here, 1 _law_rows, 2 _law_book_here, 3 _law_first, 4 _law_k -/
/-! law43: 0 _law_script, 1 _law_calls, 2 _law_more, 3 _law_inner, 4 _law_last, 5 _law_k, 6 _law_cell, 7 _law_d -/
end Fs
set_option maxHeartbeats 0
namespace Fs
open PySem PySem.Spec PyProof.Rows L2 Vl
/-! to_word: 0 to -/
/-! row_text: 0 row, 1 words, 2 part, 3 to -/
/-! written: 0 program, 1 boxes, 2 procs, 3 hands, 4 rows, 5 name, 6 some, 7 worths, 8 first, 9 proc, 10 row -/
/-! _law_menu:  -/
noncomputable def B__law_menu : SM := sSeq (sRet (eLst (eCons (eTup (eCons (eC (.int 2)) (eNil))) (eCons (eTup (eCons (eC (.int 3)) (eNil))) (eCons (eTup (eCons (eC (.int 4)) (eNil))) (eCons (eTup (eCons (eC (.int 5)) (eNil))) (eCons (eTup (eCons (eC (.int 6)) (eNil))) (eCons (eTup (eCons (eC (.int 2)) (eCons (eC (.int 2)) (eNil)))) (eCons (eTup (eCons (eC (.int 2)) (eCons (eC (.int 3)) (eNil)))) (eCons (eTup (eCons (eC (.int 3)) (eCons (eC (.int 2)) (eNil)))) (eCons (eTup (eCons (eC (.int 2)) (eCons (eC (.int 4)) (eNil)))) (eCons (eTup (eCons (eC (.int 4)) (eCons (eC (.int 2)) (eNil)))) (eCons (eTup (eCons (eC (.int 2)) (eCons (eC (.int 2)) (eCons (eC (.int 2)) (eNil))))) (eNil)))))))))))))) (sNext)
noncomputable def F__law_menu : Fn := mkFn 0 B__law_menu
/-! _law_to: 0 _law_to_here -/
noncomputable def B__law_to : SM := sSeq (sIf (tBl (eIsN (eVar 0) (eC .none))) (sSeq (sRet (eC (.str "-"))) (sNext)) (sNext)) (sSeq (sRet (eB (b1 strP) (eCons (eVar 0) (eNil)))) (sNext))
noncomputable def F__law_to : Fn := mkFn 1 B__law_to
/-! _law_words: 0 _law_row, 1 _law_words_here, 2 _law_part, 3 _law_to_here -/
abbrev S__law_words_1 (l_words_here : D) : Sl := [none, some l_words_here, none, none]
abbrev G__law_words_1 : GM := gNm 2
noncomputable def L__law_words_1 : SM := sSeq (sIf (tTru (eIsi "tuple" (eVar 2))) (sSeq (sAsg (eAddN (eVar 1) (eComp (iSeq (eVar 2)) (gNm 3) (tYes') (eCall F__law_to (eCons (eVar 3) (eNil))) [3])) (gNm 1)) (sNext)) (sSeq (sExpr (eBM "list" appendD (eVar 1) (eCons (eB (b1 strP) (eCons (eVar 2) (eNil))) (eNil)))) (sNext))) (sNext)
noncomputable def W__law_words_1 (s : Sl) (h : Hs) : Option SR := sWp [0, 2, 3] L__law_words_1 s h
noncomputable def B__law_words : SM := sSeq (sAsg (eLstN (eCons (eIx (eVar 0) (eC (.int 0))) (eNil))) (gNm 1)) (sSeq (sFor [0, 2, 3] (iSeq (eSl (eVar 0) (some (eC (.int 1))) none)) (gNm 2) (W__law_words_1)) (sSeq (sRet (eBM "str" (liftM joinP) (eC (.str " ")) (eCons (eVar 1) (eNil)))) (sNext)))
noncomputable def F__law_words : Fn := mkFn 4 B__law_words
/-! _law_text: 0 _law_program_here, 1 _law_boxes, 2 _law_procs, 3 _law_hands, 4 _law_rows, 5 _law_name_here, 6 _law_some, 7 _law_worths, 8 _law_first, 9 _law_row, 10 _law_proc -/
abbrev S__law_text_1 (l_hands : D) (l_rows : D) : Sl := [none, none, none, some l_hands, some l_rows, none, none, none, none, none, none]
abbrev G__law_text_1 : GM := gTp 2 (gsCons (gNm 5) (gsCons (gNm 6) (gsNil)))
noncomputable def L__law_text_1 : SM := sSeq (sAsg (eAdd (eAdd (eVar 4) (eLst (eCons (eAdd (eC (.str "proc ")) (eVar 5)) (eNil)))) (eComp (iSeq (eVar 6)) (gNm 9) (tYes') (eCall F__law_words (eCons (eVar 9) (eNil))) [9])) (gNm 4)) (sNext)
noncomputable def W__law_text_1 (s : Sl) (h : Hs) : Option SR := sWp [0, 1, 2, 5, 6, 7, 8, 9, 10] L__law_text_1 s h
noncomputable def B__law_text : SM := sSeq (sAsg (eVar 0) (gTp 3 (gsCons (gNm 1) (gsCons (gNm 2) (gsCons (gNm 3) (gsNil)))))) (sSeq (sAsg (eComp (iSeq (eVar 1)) (gTp 3 (gsCons (gNm 5) (gsCons (gNm 7) (gsCons (gNm 8) (gsNil))))) (tYes') (eAdd (eAdd (eAdd (eAdd (eAdd (eC (.str "box ")) (eVar 5)) (eC (.str " "))) (eB (b1 strP) (eCons (eVar 7) (eNil)))) (eC (.str " "))) (eB (b1 strP) (eCons (eVar 8) (eNil)))) [5, 7, 8]) (gNm 4)) (sSeq (sFor [0, 1, 2, 5, 6, 7, 8, 9, 10] (iSeq (eVar 2)) (gTp 2 (gsCons (gNm 5) (gsCons (gNm 6) (gsNil)))) (W__law_text_1)) (sSeq (sRet (eBM "str" (liftM joinP) (eC (.str "\n")) (eCons (eAdd (eVar 4) (eComp (iSeq (eVar 3)) (gTp 2 (gsCons (gNm 5) (gsCons (gNm 10) (gsNil)))) (tYes') (eAdd (eAdd (eAdd (eC (.str "hand ")) (eVar 5)) (eC (.str " "))) (eVar 10)) [5, 10])) (eNil)))) (sNext))))
noncomputable def F__law_text : Fn := mkFn 11 B__law_text
/-! _law_program_at: 0 _law_script, 1 _law_at, 2 _law_plan_here -/
noncomputable def B__law_program_at : SM := sSeq (sAsg (eCall F__law_plan (eCons (eSl (eVar 0) (some (eVar 1)) (some (eAdd (eVar 1) (eC (.int 7))))) (eCons (eC (.int 6)) (eCons (eC (.int 8)) (eCons (eC (.int 3)) (eCons (eCall F__law_menu eNil) (eNil))))))) (gNm 2)) (sSeq (sRet (eCall F__law_program (eCons (eVar 2) (eCons (eIx (eCall F__law_digits (eCons (eCall F__law_cell_at (eCons (eVar 0) (eCons (eVar 1) (eNil)))) (eCons (eC (.int 11)) (eCons (eLst (eCons (ePow (eC (.int 2)) (eC (.int 40))) (eNil))) (eNil))))) (eC (.int 0))) (eNil))))) (sNext))
noncomputable def F__law_program_at : Fn := mkFn 3 B__law_program_at
/-! _law_program_at__T: 0 _law_script, 1 _law_at, 2 _law_plan_here -/
/-! _law_right_v5: 0 _law_program_here, 1 _law_kept, 2 _law_found -/
/-! law07: 0 _law_script, 1 _law_ahead, 2 _law_at, 3 _law_program_here, 4 _law_kept, 5 _law_one -/
end Fs
set_option maxHeartbeats 4000000
namespace L2
open PySem PySem.Spec PyProof.Rows
section
variable {X : Cx}
end
end L2
namespace Vl
open PySem PySem.Spec PyProof.Rows L2
end Vl
set_option maxHeartbeats 0
namespace Fs
open PySem PySem.Spec PyProof.Rows L2 Vl
/-! store_number: 0 boxes, 1 store, 2 found, 3 times, 4 box, 5 holds -/
/-! guess_of: 0 program, 1 rounds, 2 states, 3 many, 4 choice, 5 number, 6 state -/
/-! work_of: 0 weaving, 1 hand, 2 found, 3 page, 4 number, 5 turns, 6 choice -/
/-! leave_of: 0 program, 1 pile, 2 finds, 3 ends, 4 proc, 5 place -/
/-! led_forth: 0 program, 1 rounds, 2 mark, 3 weaving, 4 states, 5 run, 6 hand, 7 pile -/
/-! _law_kind: 0 _law_error, 1 _law_kinds -/
/-! _law_told_v7: 0 _law_program_here, 1 _law_rounds, 2 _law_mark_here, 3 _law_weaving, 4 _law_found, 5 _law_error, 6 e -/
/-! _law_due_v4: 0 _law_state, 1 _law_weaving, 2 _law_rounds, 3 _law_mark_here, 4 _law_at, 5 _law_pile -/
/-! _law_asked: 0 _law_plan_here, 1 _law_program_here, 2 _law_state, 3 _law_weaving, 4 _law_d, 5 _law_most, 6 _law_mark_here, 7 _law_rounds, 8 _law_woven_by, 9 _law_at, 10 _law_due_here, 11 _law_kept, 12 _law_turn, 13 _law_end, 14 _law_name_here, 15 _law_rows, 16 _law_odd, 17 _law_some, 18 _law_turns -/
/-! law50: 0 _law_script, 1 _law_plan_here, 2 _law_program_here, 3 _law_weaving, 4 _law_state, 5 _law_k, 6 _law_d -/
end Fs
set_option maxHeartbeats 4000000
namespace Vl
open PySem PySem.Spec PyProof.Rows L2
/-! ## x.upper() -/
noncomputable def upperP : PyData → List PyData → Option PyData
  | .str a, [] => if yes (a.length ≤ 5592405) = true then some (.str (PySem.Txt.upper a)) else none
  | _, _ => none
/-! ## [f0, f1, f2][i](e, ..) -/
/-- what a call of f promises -/
def Calls (X : Cx) (E : L2.St → XK) (f : Addr) (sp : Sp) : Prop := PySem.W.keepIn X.K (.ref f) = true ∧ ∀ (pins : List (Addr × Obj)) (σ : L2.St) (H : Hp) (s : Shared) (vs : List V) (us : List Value) (Q : VK),
  Inv X pins σ H s → Vals vs us → sp vs H Q (E σ) → wpAny (model X.prog X.w) X.A (call (.ref f) us) (EP X pins σ Q) X.xe s
section
variable {X : Cx} {W : WX} {e fe ie : Expr} {es : List Expr} {a : AM} {i : EM} {F F0 F1 F2 : Fn} {f f0 f1 f2 : Addr} {fd : FuncData} {ps : List Str} {k n : Nat} {x0 x1 x2 : Str} {p0 p1 p2 lpos spos pos : Pos}
def eCallL (F0 F1 F2 : Fn) (i : EM) (a : AM) : EM := i.bind fun d s h => match d with
  | .v (.int 0) => eCall F0 a s h
  | .v (.int 1) => eCall F1 a s h
  | .v (.int 2) => eCall F2 a s h
  | _ => none
end
@[simp] theorem z_callL0 (F0 F1 F2 : Fn) (i : EM) (a : AM) (s : Sl) (h : Hs) : eCallL F0 F1 F2 i a s h = match i s h with
  | some (.ok (.v (.int j)) h1) => if j = 0 then eCall F0 a s h1 else if j = 1 then eCall F1 a s h1 else if j = 2 then eCall F2 a s h1 else none
  | some (.ex x h1) => some (.ex x h1)
  | _ => none := by
  unfold eCallL EM.bind
  cases i s h with
  | none => rfl
  | some r =>
    cases r with
    | ex x h1 => rfl
    | ok d h1 =>
      simp only
      cases d with
      | v p =>
        cases p with
        | int j =>
          by_cases j0 : j = 0
          · subst j0; rfl
          by_cases j1 : j = 1
          · subst j1; rfl
          by_cases j2 : j = 2
          · subst j2; rfl
          simp only [if_neg j0, if_neg j1, if_neg j2]
          split
          · rename_i e; cases e; exact absurd rfl j0
          · rename_i e; cases e; exact absurd rfl j1
          · rename_i e; cases e; exact absurd rfl j2
          · rfl
        | _ => rfl
      | _ => rfl
/-! ## x != [], x any list -/
def neL : D → D → Hs → Option D := fun x y _ => match x, y with
  | .v (.list xs), .v (.list []) => some (.v (.bool (!xs.isEmpty)))
  | _, _ => none
def eNeL (f g : EM) : EM := eBin neL f g
@[simp] theorem z_neL (f g : EM) (s : Sl) (h : Hs) : eNeL f g s h = eBin neL f g s h := rfl
@[simp] theorem y_neL (xs : List PyData) (h : Hs) : neL (.v (.list xs)) (.v (.list [])) h = some (.v (.bool (!xs.isEmpty))) := rfl
@[simp] theorem y_upper (a : Str) : upperP (.str a) [] = if yes (a.length ≤ 5592405) = true then some (.str (PySem.Txt.upper a)) else none := rfl
end Vl
set_option maxHeartbeats 0
namespace Fs
open PySem PySem.Spec PyProof.Rows L2 Vl
/-! _law_due_v5: 0 _law_thing, 1 _law_found, 2 _law_number, 3 _law_proc, 4 _law_at, 5 _law_row, 6 _law_part -/
/-! _law_right_v6: 0 _law_thing, 1 _law_kept, 2 _law_due_here -/
/-! _law_odd_box: 0 _law_box, 1 _law_d, 2 _law_name_here, 3 _law_worths, 4 _law_first, 5 _law_some -/
/-! _law_odd_proc: 0 _law_proc, 1 _law_d, 2 _law_name_here, 3 _law_rows, 4 _law_some -/
/-! _law_odd_hand: 0 _law_hand, 1 _law_d, 2 _law_name_here, 3 _law_proc, 4 _law_some -/
/-! _law_bent_v3: 0 _law_program_here, 1 _law_d, 2 _law_part, 3 _law_some, 4 _law_at, 5 _law_odd -/
/-! law04: 0 _law_script, 1 _law_menu, 2 _law_plan_here, 3 _law_program_here, 4 _law_k, 5 _law_some, 6 _law_thing, 7 _law_d, 8 _law_boxes -/
end Fs
set_option maxHeartbeats 4000000
namespace Vl
open PySem PySem.Spec PyProof.Rows L2
/-! ## instances of own classes -/
structure OwnC (K : KF) (C : Addr) (c : Str) : Prop where
  cls : Cls K C
  nm : clsN K C = some c
  uniq : ∀ C', clsN K C' = some c → C' = C
/-- a field is put -/
def putD (f : Str) (d : D) : List (Str × D) → List (Str × D)
  | [] => [(f, d)]
  | (g, x) :: r => if g = f then (g, d) :: r else (g, x) :: putD f d r
/-- the fields of an instance of c -/
def insOf (c : Str) (x : D) (h : Hs) : Option (Nat × List (Str × D)) := match x with
  | .ref n => (match h[n]? with
    | some (.ins c' fs) => if c' = c then some (n, fs) else none
    | _ => none)
  | _ => none
def fldC (c f : Str) (x : D) (h : Hs) : Option D := match insOf c x h with
  | some (_, fs) => fs.lookup f
  | none => none
def eFldC (c f : Str) (g : EM) : EM := g.bind fun x => EM.lift (fldC c f x)
section
variable {X : Cx} {W : WX} {e o value : Expr} {es : List Expr} {f m c : Str} {C fa : Addr} {g h : EM} {a : AM} {F : Fn} {fd : FuncData} {ps : List Str} {k : Nat} {x : Str} {p pos pos' apos : Pos}
/-- o.f = value -/
def sFldC (c f : Str) (v o : EM) : SM := sE v fun d => sE o fun x s h => match insOf c x h with
  | some (n, fs) => if fs.length < 1000 then some (.nx s (h.set n (.ins c (putD f d fs)))) else none
  | none => none
/-- o.m(..) works on the caller's own cells -/
def eMethC (c m : Str) (F : Fn) (o : EM) (a : AM) : EM := o.bind fun x s h => match insOf c x h with
  | some (_, fs) => (match fs.lookup m with
    | some _ => none
    | none => eA a (fun ds _ h => callI F (x :: ds) h) s h)
  | none => none
/-- C(..) -/
def eNewC (c : Str) (F : Fn) (a : AM) : EM := eA a fun ds _ h => match callI F (.ref h.length :: ds) (h ++ [.ins c []]) with
  | some (.ok (.v .none) h') => some (.ok (.ref h.length) h')
  | some (.ex x h') => some (.ex x h')
  | _ => none
end
section
variable (c f m : Str) (n : Nat) (h : Hs) (s : Sl) (F : Fn) (g o : EM) (a : AM) (x : D)
@[simp] theorem y_insOf : insOf c (.ref n) h = match h[n]? with
  | some (.ins c' fs) => if c' = c then some (n, fs) else none
  | _ => none := rfl
@[simp] theorem y_fldC : fldC c f x h = match insOf c x h with
  | some (_, fs) => fs.lookup f
  | none => none := rfl
@[simp] theorem z_fldC : eFldC c f g s h = match g s h with
  | some (.ok x h1) => (match fldC c f x h1 with
    | some d => some (.ok d h1)
    | none => none)
  | some (.ex x h1) => some (.ex x h1)
  | none => none := rfl
@[simp] theorem z_sfldC : sFldC c f g o s h = match g s h with
  | some (.ok d h1) => (match o s h1 with
    | some (.ok x h2) => (match insOf c x h2 with
      | some (n, fs) => if fs.length < 1000 then some (.nx s (h2.set n (.ins c (putD f d fs)))) else none
      | none => none)
    | some (.ex x h2) => some (.ex s x h2)
    | none => none)
  | some (.ex x h1) => some (.ex s x h1)
  | none => none := rfl
@[simp] theorem z_methC : eMethC c m F o a s h = match o s h with
  | some (.ok x h1) => (match insOf c x h1 with
    | some (_, fs) => (match fs.lookup m with
      | some _ => none
      | none => (match a s h1 with
        | some (.ok ds h2) => callI F (x :: ds) h2
        | some (.ex x h2) => some (.ex x h2)
        | none => none))
    | none => none)
  | some (.ex x h1) => some (.ex x h1)
  | none => none := by
  unfold eMethC EM.bind eA
  cases o s h with
  | none => rfl
  | some r =>
    cases r with
    | ex x h1 => rfl
    | ok d h1 => rfl
@[simp] theorem z_newC : eNewC c F a s h = match a s h with
  | some (.ok ds h1) => (match callI F (.ref h1.length :: ds) (h1 ++ [.ins c []]) with
    | some (.ok (.v .none) h') => some (.ok (.ref h1.length) h')
    | some (.ex x h') => some (.ex x h')
    | _ => none)
  | some (.ex x h1) => some (.ex x h1)
  | none => none := rfl
@[simp] theorem y_put0 (d : D) : putD f d [] = [(f, d)] := rfl
@[simp] theorem y_put1 (d e : D) (g : Str) (r : List (Str × D)) : putD f d ((g, e) :: r) = if g = f then (g, d) :: r else (g, e) :: putD f d r := rfl
end
end Vl
set_option maxHeartbeats 0
namespace Fs
open PySem PySem.Spec PyProof.Rows L2 Vl
/-! _wall: 0 k -/
/-! Loom__init: 0 self, 1 program, 2 boxes, 3 procs, 4 hands, 5 name, 6 rows -/
/-! Loom__state: 0 self -/
/-! Loom__turn: 0 self -/
/-! Loom__choices: 0 self -/
/-! _law_bad_v1: 0 _law_program_here, 1 _law_d, 2 _law_boxes, 3 _law_procs, 4 _law_hands, 5 _law_name_here, 6 _law_rows, 7 _law_box, 8 _law_some -/
/-! _law_fields_v1: 0 _law_which, 1 _law_thing, 2 _law_error, 3 e -/
/-! law22: 0 _law_script, 1 _law_plan_here, 2 _law_program_here, 3 _law_loom, 4 _law_k, 5 _law_thing, 6 _law_kept, 7 _law_found -/
end Fs
set_option maxHeartbeats 0
namespace Fs
open PySem PySem.Spec PyProof.Rows L2 Vl
/-! Loom__keep: 0 self, 1 now -/
/-! Loom__step: 0 self, 1 choice, 2 state, 3 number, 4 hand, 5 done, 6 later -/
/-! Loom__on: 0 self, 1 state, 2 number, 3 hand, 4 done -/
/-! Loom__undo: 0 self -/
/-! Loom__steps: 0 self -/
/-! Loom__weaving: 0 self, 1 found, 2 number, 3 hand, 4 choice -/
/-! _law_told_v8: 0 _law_loom -/
/-! _law_due_v6: 0 _law_plan_here, 1 _law_deeds, 2 _law_state, 3 _law_many, 4 _law_at, 5 _law_done, 6 _law_weaving, 7 _law_deed_here, 8 _law_hand -/
/-! _law_bare: 0 _law_loom, 1 _law_error, 2 e -/
/-! _law_refused_v2: 0 _law_loom, 1 _law_choice, 2 _law_error, 3 e -/
/-! _law_deed: 0 _law_plan_here, 1 _law_loom, 2 _law_deeds, 3 _law_d, 4 _law_some, 5 _law_odd -/
/-! law20: 0 _law_script, 1 _law_plan_here, 2 _law_program_here, 3 _law_loom, 4 _law_deeds, 5 _law_turn, 6 _law_cell, 7 _law_d -/
end Fs
set_option maxHeartbeats 4000000
namespace Vl
open PySem PySem.Spec PyProof.Rows L2
/-! ## slices of cells, as new cells -/
def eSlN (f : EM) (lo hi : Option EM) : EM := f.bind fun x => ePart lo fun l => ePart hi fun u => fun _ h => match lstOf x h with
  | some xs => some (.ok (.ref h.length) (h ++ [.lst (cutP xs l u)]))
  | none => none
section
variable {X : Cx} {W : WX} {e : Expr} {lo hi : Option Expr} {f : EM} {ol oh : Option EM} {pos p2 : Pos}
theorem se_sliceN (he : SE X W e f) (hl : SO X W lo ol) (hu : SO X W hi oh) : SE X W (.Subscript e (.Slice lo hi none p2) pos) (eSlN f ol oh) :=
  PE.mono' (pe_slice ((sl_list.or sl_tupA).or sl_str) he (so_po hl) (so_po hu)) fun σ H Q ⟨w, sl, eH, ok, hs, h⟩ => by
    subst eH
    refine tI_bind ok hs h fun dx x w1 l1 ok1 hs1 rx h1 => ?_
    refine part_of ok1 hs1 h1 fun i w2 l2 ok2 hs2 h2 => ?_
    refine part_of ok2 hs2 h2 fun j w3 l3 ok3 hs3 h3 => ?_
    cases ex : lstOf dx w3.h with
    | none => simp only [ex] at h3; exact h3.elim
    | some xs =>
      simp only [ex] at h3
      obtain ⟨b, us, rfl, s1, t1⟩ := lstOf_rep ok3 (RepD.mono ok2 l3 dx (RepD.mono ok1 l2 dx rx)) ex
      exact .inl (.inl ⟨b, us, rfl, s1, fun p hp => h3 (w3.newC p (cutP xs i j) (cutV us i j)) (.ref p) (Wd.newC_le hp) (Wd.newC_ok ok3 hp (cutD_of i j t1)) rfl (Wd.newC_rep ok3)⟩)
end
@[simp] theorem z_slN (f : EM) (lo hi : Option EM) (s : Sl) (h : Hs) : eSlN f lo hi s h = match f s h with
  | some (.ok x h1) => ePart lo (fun l => ePart hi fun u => fun _ h => match lstOf x h with
    | some xs => some (.ok (.ref h.length) (h ++ [.lst (cutP xs l u)]))
    | none => none) s h1
  | some (.ex x h1) => some (.ex x h1)
  | none => none := rfl
end Vl
set_option maxHeartbeats 0
namespace Fs
open PySem PySem.Spec PyProof.Rows L2 Vl
/-! Loom__choices_v1: 0 self -/
/-! _law_told_v9: 0 _law_loom -/
/-! law21: 0 _law_script, 1 _law_plan_here, 2 _law_program_here, 3 _law_other, 4 _law_plans, 5 _law_looms, 6 _law_deeds, 7 _law_name_here, 8 _law_rows, 9 _law_turn, 10 _law_cell, 11 _law_d, 12 _law_mine, 13 _law_some, 14 _law_k, 15 _law_found -/
end Fs
set_option maxHeartbeats 4000000
namespace Vl
open PySem PySem.Spec PyProof.Rows L2
/-! ## a list of lists, times an int, as a new cell; lists unpacked -/
def eMulN (f g : EM) : EM := f.bind fun x => g.bind fun y s h => match lstOf x h, y with
  | some xs, .v (.int k) => if 0 ≤ k ∧ k ≤ 1000 ∧ xs.length ≤ 1000 then some (.ok (.ref h.length) (h ++ [.lst (List.replicate k.toNat xs).flatten])) else none
  | _, _ => none
theorem RepDs.rep {K : KF} {w : Wd} {xs : List D} {vs : List V} (r : RepDs K w xs vs) : ∀ n : Nat, RepDs K w (List.replicate n xs).flatten (List.replicate n vs).flatten
  | 0 => rfl
  | n + 1 => by
    rw [List.replicate_succ, List.replicate_succ, List.flatten_cons, List.flatten_cons]
    exact RepDs.app r (RepDs.rep r n)
def gTpL (n : Nat) (g : GsM) : GM := fun d s h => match lstOf d h with
  | some xs => if xs.length = n then g xs s h else none
  | none => none
section
variable {X : Cx} {W : WX} {a b : Expr} {f g : EM} {pos : Pos}
end
section
variable {X : Cx} {es : List Expr} {js : List Nat} {gs : GsM}
end
@[simp] theorem z_mulN (f g : EM) (s : Sl) (h : Hs) : eMulN f g s h = match f s h with
  | some (.ok x h1) => (match g s h1 with
    | some (.ok y h2) => (match lstOf x h2, y with
      | some xs, .v (.int k) => if 0 ≤ k ∧ k ≤ 1000 ∧ xs.length ≤ 1000 then some (.ok (.ref h2.length) (h2 ++ [.lst (List.replicate k.toNat xs).flatten])) else none
      | _, _ => none)
    | some (.ex x h2) => some (.ex x h2)
    | none => none)
  | some (.ex x h1) => some (.ex x h1)
  | none => none := rfl
@[simp] theorem z_gtpl (n : Nat) (g : GsM) (d : D) (s : Sl) (h : Hs) : gTpL n g d s h = match lstOf d h with
  | some xs => if xs.length = n then g xs s h else none
  | none => none := rfl
end Vl
set_option maxHeartbeats 4000000
namespace Vl
open PySem PySem.Spec PyProof.Rows L2
/-! ## two names at once -/
def sPar (i j : Nat) (a : AM) : SM := fun s h => match a s h with
  | some (.ok [d, e] h1) => some (.nx ((s.set i (some d)).set j (some e)) h1)
  | some (.ok _ _) => none
  | some (.ex x h1) => some (.ex s x h1)
  | none => none
section
variable {X : Cx} {W : WX} {a b : Expr} {f : AM} {pos : Pos}
end
@[simp] theorem z_par (i j : Nat) (a : AM) (s : Sl) (h : Hs) : sPar i j a s h = match a s h with
  | some (.ok [d, e] h1) => some (.nx ((s.set i (some d)).set j (some e)) h1)
  | some (.ok _ _) => none
  | some (.ex x h1) => some (.ex s x h1)
  | none => none := rfl
end Vl
set_option maxHeartbeats 0
namespace Fs
open PySem PySem.Spec PyProof.Rows L2 Vl
/-! law19: 0 _law_script, 1 _law_plan_here, 2 _law_program_here, 3 _law_kept, 4 _law_loom, 5 _law_deeds, 6 _law_held, 7 _law_turn, 8 _law_cell, 9 _law_found, 10 _law_due_here, 11 _law_d, 12 _law_told_here, 13 _law_one -/
end Fs
set_option maxHeartbeats 4000000
namespace Vl
open PySem PySem.Spec PyProof.Rows L2
/-! ## a text, times an int -/
def repS (z : Str) (k : Int) : Str := if k = 1 then z else ⟨(List.replicate k.toNat z.cps).foldl (· ++ ·) #[]⟩
def mulS : PyData → PyData → Option PyData
  | .str z, .int k => if 1 ≤ k ∧ k ≤ 1000 ∧ 1 ≤ z.length ∧ z.length ≤ 1000 then some (.str (repS z k)) else none
  | _, _ => none
def eMulS (f g : EM) : EM := eBin (lift2 mulS) f g
@[simp] theorem z_MulS (f g : EM) (s : Sl) (h : Hs) : eMulS f g s h = eBin (lift2 mulS) f g s h := rfl
@[simp] theorem y_mulS (z : Str) (k : Int) : mulS (.str z) (.int k) = if 1 ≤ k ∧ k ≤ 1000 ∧ 1 ≤ z.length ∧ z.length ≤ 1000 then some (.str (repS z k)) else none := rfl
end Vl
set_option maxHeartbeats 0
namespace Fs
open PySem PySem.Spec PyProof.Rows L2 Vl
/-! _law_scroll_row_v1: 0 _law_d, 1 _law_worths, 2 _law_end, 3 _law_many, 4 _law_tos, 5 _law_box, 6 _law_one, 7 _law_other, 8 _law_stops, 9 _law_j -/
/-! _law_scroll_v2: 0 _law_script, 1 _law_most_procs, 2 _law_most_rows, 3 _law_menu_here, 4 _law_head, 5 _law_worths, 6 _law_rounds, 7 _law_boxes, 8 _law_many, 9 _law_procs, 10 _law_k, 11 _law_row, 12 _law_end, 13 _law_j -/
/-! _law_menu_v1:  -/
/-! _law_first: 0 _law_scroll_here, 1 _law_store, 2 _law_name, 3 _law_worths, 4 _law_first_here -/
/-! _law_stores_v1: 0 _law_boxes, 1 _law_stores_here, 2 _law_name, 3 _law_worths, 4 _law_first_here, 5 _law_wider, 6 _law_holds, 7 _law_store -/
/-! _law_guesses: 0 _law_scroll_here, 1 _law_rows, 2 _law_page, 3 _law_wider, 4 _law_store, 5 _law_row -/
/-! _law_box_moves_v1: 0 _law_row, 1 _law_leaf, 2 _law_page, 3 _law_found, 4 _law_pages, 5 _law_margins, 6 _law_holds, 7 _law_store, 8 _law_to -/
/-! _law_moves_v1: 0 _law_scroll_here, 1 _law_proc, 2 _law_place, 3 _law_leaf, 4 _law_row, 5 _law_page, 6 _law_found, 7 _law_pages, 8 _law_margins, 9 _law_end, 10 _law_rows, 11 _law_some, 12 _law_lets, 13 _law_k -/
/-! _law_is_counted: 0 _law_scroll_here, 1 _law_proc, 2 _law_place -/
/-! _law_book_of: 0 _law_scroll_here, 1 _law_picks, 2 _law_leaf, 3 _law_pile, 4 _law_book, 5 _law_pick, 6 _law_proc, 7 _law_place, 8 _law_row, 9 _law_some, 10 _law_choice, 11 _law_to, 12 _law_frame, 13 _law_caller -/
/-! _law_run_v1: 0 _law_scroll_here, 1 _law_picks, 2 _law_leaf, 3 _law_pile, 4 _law_run_here, 5 _law_counted, 6 _law_pick, 7 _law_proc, 8 _law_place, 9 _law_row, 10 _law_some, 11 _law_choice, 12 _law_to -/
/-! _law_right_v7: 0 _law_scroll_here, 1 _law_book, 2 _law_run_here, 3 _law_counted, 4 _law_held, 5 _law_found, 6 _law_told, 7 _law_one -/
/-! law42: 0 _law_script, 1 _law_scroll_here, 2 _law_k, 3 _law_cell, 4 _law_picks, 5 _law_book, 6 _law_run_here, 7 _law_counted, 8 _law_more -/
end Fs
set_option maxHeartbeats 4000000
namespace Vl
open PySem PySem.Spec PyProof.Rows L2 PyProof.V
/-! ## dicts of the module, texts to texts -/
def lookK : List (Str × Str) → Str → Option Str
  | [], _ => none
  | (x, v) :: D, k => if k = x then some v else lookK D k
def datK (D : List (Str × Str)) : List (Str × KTD.Dat) := (D.map fun p => (p.1, PyData.str p.2)).map fun p => (p.1, KTD.Dat.flat p.2)
theorem datK_at (k : Str) : ∀ D : List (Str × Str), KTD.datumAt k (datK D) = (lookK D k).map fun v => KTD.Dat.flat (.str v)
  | [] => rfl
  | (x, v) :: D => by
    show (if decide (k = x) = true then some (KTD.Dat.flat (.str v)) else KTD.datumAt k (datK D)) = _
    rw [datK_at k D, lookK]
    by_cases h : k = x
    · rw [if_pos (decide_eq_true h), if_pos h]; rfl
    · rw [if_neg (by simp [h]), if_neg h]
theorem inK_at (k : Str) (D : List (Str × Str)) : KTD.inKeys k (datK D) = (lookK D k).isSome := by
  rw [← KTD.isSome_datumAt, datK_at, Option.isSome_map]
theorem plainK : ∀ D : List (Str × Str), ((datK D).all fun p => KTD.plain p.2) = true
  | [] => rfl
  | (x, v) :: D => by
    show (KTD.plain (KTD.Dat.flat (.str v)) && (datK D).all fun p => KTD.plain p.2) = true
    rw [plainK D]
    rfl
def kvB : List DictEntry → List (Str × Str) → Bool
  | [], [] => true
  | ⟨_, .str z _, .str y _⟩ :: r, (k, v) :: D => decide (z = k) && decide (y = v) && kvB r D
  | _, _ => false
def dctB (K : KF) (a : Addr) (D : List (Str × Str)) : Bool := !(a == sysModules) && match K.lookup a with
  | some o => decide (o.cls = .type "dict") && o.dict.isNone && o.slots.isEmpty && (match o.data with
    | .dict es _ => kvB es.toList D
    | _ => false)
  | none => false
def GDct (K : KF) (mg : Str → Option Value) (x : Str) (D : List (Str × Str)) : Prop := ∃ a, mg x = some (.ref a) ∧ (a == sysModules) = false ∧ ∃ (o : Obj) (es : Array DictEntry) (ep : Nat), K.lookup a = some o ∧ o.ExactDict ∧ o.data = .dict es ep ∧ KTD.Rows (fun (d : PyData) v => Flat v d) es.toList (D.map fun p => (p.1, PyData.str p.2))
theorem kvB_ok : ∀ {es : List DictEntry} {D : List (Str × Str)}, kvB es D = true → KTD.Rows (fun (d : PyData) v => Flat v d) es (D.map fun p => (p.1, PyData.str p.2))
  | [], [], _ => .nil
  | ⟨hh, .str z t, .str y u⟩ :: r, (k, v) :: D, h => by
    simp only [kvB, Bool.and_eq_true, decide_eq_true_eq] at h
    obtain ⟨⟨rfl, rfl⟩, h⟩ := h
    exact .cons rfl (Flat.str _ _) (kvB_ok h)
  | [], _ :: _, h => by cases h
  | ⟨_, k, v⟩ :: _, [], h => by cases k <;> cases v <;> cases h
  | ⟨_, .none, _⟩ :: _, _ :: _, h => by cases h
  | ⟨_, .bool _, _⟩ :: _, _ :: _, h => by cases h
  | ⟨_, .int _ _, _⟩ :: _, _ :: _, h => by cases h
  | ⟨_, .ref _, _⟩ :: _, _ :: _, h => by cases h
  | ⟨_, .type _, _⟩ :: _, _ :: _, h => by cases h
  | ⟨_, .builtin _, _⟩ :: _, _ :: _, h => by cases h
  | ⟨_, .float _ _, _⟩ :: _, _ :: _, h => by cases h
  | ⟨_, .bytes _ _, _⟩ :: _, _ :: _, h => by cases h
  | ⟨_, .str _ _, .none⟩ :: _, _ :: _, h => by cases h
  | ⟨_, .str _ _, .bool _⟩ :: _, _ :: _, h => by cases h
  | ⟨_, .str _ _, .int _ _⟩ :: _, _ :: _, h => by cases h
  | ⟨_, .str _ _, .ref _⟩ :: _, _ :: _, h => by cases h
  | ⟨_, .str _ _, .type _⟩ :: _, _ :: _, h => by cases h
  | ⟨_, .str _ _, .builtin _⟩ :: _, _ :: _, h => by cases h
  | ⟨_, .str _ _, .float _ _⟩ :: _, _ :: _, h => by cases h
  | ⟨_, .str _ _, .bytes _ _⟩ :: _, _ :: _, h => by cases h
theorem dctB_ok {K : KF} {mg : Str → Option Value} {x : Str} {a : Addr} {D : List (Str × Str)} (hm : mg x = some (.ref a)) (h : dctB K a D = true) : GDct K mg x D := by
  unfold dctB at h
  simp only [Bool.and_eq_true, Bool.not_eq_true'] at h
  obtain ⟨h0, h⟩ := h
  cases e : K.lookup a with
  | none => rw [e] at h; cases h
  | some o =>
    rw [e] at h
    simp only [Bool.and_eq_true, decide_eq_true_eq, Option.isNone_iff_eq_none, Array.isEmpty_iff] at h
    obtain ⟨⟨⟨h1, h2⟩, h3⟩, h4⟩ := h
    split at h4
    · rename_i es ep hd
      exact ⟨a, hm, h0, o, es, ep, e, ⟨h1, h2, h3⟩, hd, kvB_ok h4⟩
    · cases h4
theorem gdct_here {K : KF} {a : Addr} {D : List (Str × Str)} {h : Heap} (KX : K.In h) (h0 : (a == sysModules) = false) (hh : ∃ (o : Obj) (es : Array DictEntry) (ep : Nat), K.lookup a = some o ∧ o.ExactDict ∧ o.data = .dict es ep ∧ KTD.Rows (fun (d : PyData) v => Flat v d) es.toList (D.map fun p => (p.1, PyData.str p.2))) : KTD.Here h h a (datK D) := by
  obtain ⟨o, es, ep, e, ed, hd, hr⟩ := hh
  have T : KTD.TabOf (fun (d : PyData) v => Flat v d) h a (D.map fun p => (p.1, PyData.str p.2)) := ⟨h0, o, es, ep, KX _ _ e, ed, hd, hr⟩
  exact ⟨T.text, fun _ _ e => e⟩
def rInC (a : Addr) (D : List (Str × Str)) (neg : Bool) : R2 := fun x y H Q => ∃ k, x = .str k ∧ y = .ref a ∧ Q (.bl (if neg = true then !(lookK D k).isSome else (lookK D k).isSome)) H
def rAtC (a : Addr) (D : List (Str × Str)) : R2 := fun x y H Q => ∃ k v, x = .ref a ∧ y = .str k ∧ lookK D k = some v ∧ Q (.str v) H
section
variable {X : Cx} {a : Addr} {D : List (Str × Str)}
theorem op_ninC (h0 : (a == sysModules) = false) (hh : ∃ (o : Obj) (es : Array DictEntry) (ep : Nat), X.K.lookup a = some o ∧ o.ExactDict ∧ o.data = .dict es ep ∧ KTD.Rows (fun (d : PyData) v => Flat v d) es.toList (D.map fun p => (p.1, PyData.str p.2))) : OpR X (compareOp .NotIn) (rInC a D true) := by
  intro pins s σ H x y v u Q I rx ry h
  obtain ⟨k, rfl, rfl, q⟩ := h
  obtain ⟨t, rfl⟩ := rx
  cases (show u = Value.ref a from ry)
  refine KTD.notin_text (gdct_here I.kIn h0 hh) ⟨.bl _, H, I.tok _, ?_, q⟩
  show Value.bool _ = Value.bool _
  rw [inK_at]
  rfl
theorem each_of {h : Heap} {k : Str} {P : Value → Prop} {v : Str} : ∀ {D : List (Str × Str)}, lookK D k = some v → (∀ t, P (.str v t)) → KTD.EachL h k P (datK D)
  | [], e, _ => by cases e
  | (x, y) :: D, e, hp => by
    rw [lookK] at e
    by_cases hx : k = x
    · rw [if_pos hx] at e
      cases e
      exact KTD.eachL_hit hx (KTD.opened_str hp)
    · rw [if_neg hx] at e
      exact KTD.eachL_miss hx (each_of e hp)
theorem ix_C (h0 : (a == sysModules) = false) (hh : ∃ (o : Obj) (es : Array DictEntry) (ep : Nat), X.K.lookup a = some o ∧ o.ExactDict ∧ o.data = .dict es ep ∧ KTD.Rows (fun (d : PyData) v => Flat v d) es.toList (D.map fun p => (p.1, PyData.str p.2))) : IxR X (rAtC a D) := by
  intro value slice pins s σ H x y v u Q I rx ry h hs
  obtain ⟨k, z, rfl, rfl, hk, q⟩ := h
  obtain ⟨t, rfl⟩ := ry
  cases (show v = Value.ref a from rx)
  refine KTD.item_textA (gdct_here I.kIn h0 hh) (plainK D) (by rw [inK_at, hk]; rfl) (each_of hk fun t => ⟨.str z, H, I.tok _, ⟨t, rfl⟩, q⟩) hs
end
def eInC (neg : Bool) (D : List (Str × Str)) (f : EM) : EM := f.bind fun d _ h => match d with
  | .v (.str k) => some (.ok (.v (.bool (if neg = true then !(lookK D k).isSome else (lookK D k).isSome))) h)
  | _ => none
def eAtC (D : List (Str × Str)) (f : EM) : EM := f.bind fun d _ h => match d with
  | .v (.str k) => (match lookK D k with
    | some v => some (.ok (.v (.str v)) h)
    | none => none)
  | _ => none
section
variable {X : Cx} {W : WX} {e : Expr} {f : EM} {pos p : Pos} {x : Str} {D : List (Str × Str)}
theorem inC_of {a : Addr} {neg : Bool} {σ : L2.St} {w : Wd} {sl : Sl} {Q : VK} (ok : w.Ok X.K) (hs : SRep X.K w sl σ) (h : WpE X.K X.mg W σ (eInC neg D f sl w.h) w fun _ v w' => Q v w'.H) : tOp (rInC a D neg) (tI X.K X.mg W f) (tC (.ref a)) σ w.H Q := by
  refine tI_bind ok hs h fun dx x w1 l1 ok1 hs1 rx h1 => ?_
  cases dx with
  | v d =>
    cases d with
    | str k => exact ⟨k, rx, rfl, h1 w1 _ (Wd.Le.refl w1) ok1 rfl rfl⟩
    | _ => exact h1.elim
  | _ => exact h1.elim
theorem st_ninC (hg : Gl X x) (h : GDct X.K X.mg x D) (ha : SE X W e f) (hd : (x == ("__debug__" : Str)) = false := by decide) (hm : behindInMarks .NotIn (.Name x p) = false := by with_unfolding_all rfl) : ST X W (.Compare e [.NotIn] [.Name x p] pos) (tBl (eInC true D f)) := by
  obtain ⟨a, hmg, h0, hh⟩ := h
  exact PT.mono' (pt_cmpR (op_ninC h0 hh) ha (pe_glob (v := .ref a) hg hmg rfl hd) hm) fun σ H Q ⟨w, sl, eH, ok, hs, h⟩ => by
    subst eH
    obtain ⟨w', sl', e', ok', hs', h'⟩ := tITbl ok hs h
    rw [← e']
    exact inC_of ok' hs' h'
theorem se_atC (hg : Gl X x) (h : GDct X.K X.mg x D) (ha : SE X W e f) (hs : PlainIx e) (hd : (x == ("__debug__" : Str)) = false := by decide) : SE X W (.Subscript (.Name x p) e pos) (eAtC D f) := by
  obtain ⟨a, hmg, h0, hh⟩ := h
  exact PE.mono' (pe_ix (ix_C h0 hh) (pe_glob (v := .ref a) hg hmg rfl hd) ha hs) fun σ H Q ⟨w, sl, eH, ok, hs, h⟩ => by
    subst eH
    show tI X.K X.mg W f σ w.H fun y H2 => rAtC a D (.ref a) y H2 Q
    refine tI_bind ok hs h fun dx x w1 l1 ok1 hs1 rx h1 => ?_
    cases dx with
    | v d =>
      cases d with
      | str k =>
        cases e : lookK D k with
        | none =>
          simp only [e] at h1
          exact h1.elim
        | some v =>
          simp only [e] at h1
          exact ⟨k, v, rfl, rx, e, h1 w1 _ (Wd.Le.refl w1) ok1 rfl rfl⟩
      | _ => exact h1.elim
    | _ => exact h1.elim
end
@[simp] theorem z_inC (neg : Bool) (D : List (Str × Str)) (f : EM) (s : Sl) (h : Hs) : eInC neg D f s h = match f s h with
  | some (.ok (.v (.str k)) h1) => some (.ok (.v (.bool (if neg = true then !(lookK D k).isSome else (lookK D k).isSome))) h1)
  | some (.ok _ _) => none
  | some (.ex x h1) => some (.ex x h1)
  | none => none := by
  unfold eInC EM.bind
  cases f s h with
  | none => rfl
  | some r =>
    cases r with
    | ex x h1 => rfl
    | ok d h1 =>
      cases d with
      | v p => cases p <;> rfl
      | _ => rfl
@[simp] theorem z_atC (D : List (Str × Str)) (f : EM) (s : Sl) (h : Hs) : eAtC D f s h = match f s h with
  | some (.ok (.v (.str k)) h1) => (match lookK D k with
    | some v => some (.ok (.v (.str v)) h1)
    | none => none)
  | some (.ok _ _) => none
  | some (.ex x h1) => some (.ex x h1)
  | none => none := by
  unfold eAtC EM.bind
  cases f s h with
  | none => rfl
  | some r =>
    cases r with
    | ex x h1 => rfl
    | ok d h1 =>
      cases d with
      | v p => cases p <;> rfl
      | _ => rfl
/-! ## x.split(y) -/
noncomputable def splitP : PyData → List PyData → Option PyData
  | .str a, [.str b] => if yes ((b.length == 0) = false ∧ a.length + 2 ≤ sizeLine) = true then some (.list ((PySem.Txt.split a b).map .str)) else none
  | _, _ => none
theorem mt_splitP {K : KF} : MtP K (fun x xs H Q => ∃ a b, x = .str a ∧ xs = [.str b] ∧ (b.length == 0) = false ∧ a.length + 2 ≤ sizeLine ∧ rNewStrs (Txt.split a b) H Q) splitP := by
  intro w x xs p ps z Q ok rx rs e a
  unfold splitP at e
  split at e
  · rename_i y y2
    obtain ⟨v, r, rfl, r1, r2⟩ := rs
    cases (show r = [] from r2)
    split at e
    · rename_i hc
      rw [yes_iff] at hc
      cases e
      exact ⟨y, y2, rx, by rw [show v = _ from r1], hc.1, hc.2, a.newL ok (reps_strs _)⟩
    · cases e
  · cases e
/-! ## a call that is not reached -/
def eNever : EM := fun _ _ => none
theorem se_never {X : Cx} {W : WX} {e : Expr} : SE X W e eNever := ⟨fun pins s σ H Q I ⟨w, sl, eH, ok, hs, h⟩ => h.elim⟩
@[simp] theorem z_never (s : Sl) (h : Hs) : eNever s h = none := rfl
end Vl
set_option maxHeartbeats 4000000
namespace Vl
open PySem PySem.Spec PyProof.Rows L2
/-! ## isinstance(x, (str, list, tuple)) -/
def isiTs (n : String) : List String → Option Bool
  | [] => some false
  | T :: Ts => match kitB n T with
    | some true => some true
    | some false => isiTs n Ts
    | none => none
theorem isiTs_any {K : KF} (n : String) : ∀ Ts : List String, PySem.W.kitAny K (.type n) (Ts.map Value.type) = isiTs n Ts
  | [] => rfl
  | T :: Ts => by
    rw [List.map_cons, PySem.W.kitAny, isiTs, isiTs_any n Ts]
    rfl
def isiTD (Ts : List String) : D → Hs → Option D := fun d h => match tyN d h with
  | some n => (isiTs n Ts).map fun b => .v (.bool b)
  | none => none
def eIsiT (Ts : List String) (f : EM) : EM := f.bind fun d => EM.lift (isiTD Ts d)
inductive TyA (X : Cx) : List Expr → List String → Prop
  | nil : TyA X [] []
  | cons {x : Str} {p : Pos} {T : String} {es : List Expr} {Ts : List String} : Gl X x → X.mg x = none → bootBuiltins x = some (.type T) → x ≠ "__name__" → (x == ("__debug__" : Str)) = false → starEach (.Name x p :: es) X.env = (false, eval (.Name x p) X.env) :: starEach es X.env → TyA X es Ts → TyA X (.Name x p :: es) (T :: Ts)
theorem TyA.pa {X : Cx} : ∀ {es : List Expr} {Ts : List String}, TyA X es Ts → PA X es (fun _ H Q => Q (Ts.map V.ty) H)
  | _, _, .nil => PA.mono' pa_nil fun σ H Q h => h
  | _, _, .cons hg hm hv hn hd hs r => PA.mono' (pa_cons (pe_bltn (v := .ty _) hg hm hv rfl hn hd) r.pa hs) fun σ H Q h => h
theorem clsV_tys : ∀ Ts : List String, Paired ClsV (Ts.map V.ty) (Ts.map Value.type)
  | [] => .nil
  | T :: Ts => .cons (.ty T) (clsV_tys Ts)
theorem tyX_up {K : KF} {w : Wd} {d : D} {v : V} {n : String} {a : Addr} {o : HO} (ok : w.Ok K) (ha : w.H a = none) (r : RepD K w d v) (h : tyN d w.h = some n) : TyX K (upd w.H a o) v (.type n) := by
  have l : w.Le (w.newT a o) := Wd.newT_le ha
  have ok2 : (w.newT a o).Ok K := Wd.newT_ok ok ha
  exact tyX_of ok2 (RepD.mono ok l d r) h
theorem se_isiT {X : Cx} {W : WX} {e : Expr} {f : EM} {pos p p3 : Pos} {k : Nat} {es : List Expr} {Ts : List String} (he : SE X W e f) (hg : Gl X "isinstance") (hm : X.mg "isinstance" = none) (hc : TyA X es Ts) (hl : Ts.length ≤ 1000 := by decide)
    (hs : starEach (e :: [.Tuple es k p3]) X.env = (false, eval e X.env) :: starEach [.Tuple es k p3] X.env := by rfl) (hs2 : starEach [.Tuple es k p3] X.env = (false, eval (.Tuple es k p3) X.env) :: starEach [] X.env := by rfl) (hpl : (backTo pos (starEach [.Tuple es k p3] X.env)).any (·.1) = false := by rfl) :
    SE X W (.Call (.Name "isinstance" p) [e, .Tuple es k p3] [] pos) (eIsiT Ts f) :=
  PE.mono' (pe_callB call_isiT hg hm (by decide +kernel) (pa_cons he (pa_cons (pe_tup hc.pa) pa_nil hs2) hs) (by decide) (by decide) hs hpl) fun σ H Q ⟨w, sl, eH, ok, hs, h⟩ => by
    subst eH
    refine tI_bind ok hs h fun dx x w1 l1 ok1 hs1 rx h1 => ?_
    obtain ⟨dz, ez, q⟩ := WpE.lift h1
    refine ⟨by rw [List.length_map]; exact k_line hl, fun tp htp => ?_⟩
    unfold isiTD at ez
    cases en : tyN dx w1.h with
    | none => simp [en] at ez
    | some n =>
      simp only [en, Option.map_eq_some_iff] at ez
      obtain ⟨b, eb, rfl⟩ := ez
      exact ⟨x, tp, Ts.map V.ty, .type n, Ts.map Value.type, b, rfl, upd_same, clsV_tys Ts, tyX_up ok1 htp rx en, by rw [isiTs_any]; exact eb, q (w1.newT tp _) (.bl b) (Wd.newT_le htp) (Wd.newT_ok ok1 htp) rfl rfl⟩
@[simp] theorem z_isiT (Ts : List String) (f : EM) (s : Sl) (h : Hs) : eIsiT Ts f s h = match f s h with
  | some (.ok d h1) => (match isiTD Ts d h1 with
    | some z => some (.ok z h1)
    | none => none)
  | some (.ex x h1) => some (.ex x h1)
  | none => none := by
  unfold eIsiT EM.bind EM.lift
  cases f s h with
  | none => rfl
  | some r => cases r <;> rfl
/-! ## int(text) -/
noncomputable def intSP : PyData → Option PyData
  | .str a => match PySem.intText? a with
    | some n => if yes (a.length ≤ 640) = true then some (.int n) else none
    | none => none
  | _ => none
theorem call_intSP {K : KF} : CallP K (fun xs H Q => ∃ a n, xs = [.str a] ∧ PySem.intText? a = some n ∧ a.length ≤ 640 ∧ Q (.int n) H) intSP := by
  intro w x p z Q ok rx e a
  unfold intSP at e
  split at e
  · rename_i y
    split at e
    · rename_i n hn
      split at e
      · rename_i hc
        rw [yes_iff] at hc
        cases e
        exact ⟨y, n, by rw [show x = V.str y from rx], hn, hc, a.here ok rfl⟩
      · cases e
    · cases e
  · cases e
end Vl
set_option maxHeartbeats 0
namespace Fs
open PySem PySem.Spec PyProof.Rows L2 Vl
/-! is_figure: 0 word -/
noncomputable def B_is_figure : SM := sSeq (sRet (eAnd (eEq (eB (lenD) (eCons (eVar 0) (eNil))) (eC (.int 1))) (eIn (eVar 0) (eC (.str "0123456789"))))) (sNext)
noncomputable def F_is_figure : Fn := mkFn 1 B_is_figure
/-! part_in: 0 word, 1 kind -/
noncomputable def B_part_in : SM := sSeq (sIf (tAnd (tBl (eEq (eVar 1) (eC (.str "n")))) (tTru (eCall F_is_name (eCons (eVar 0) (eNil))))) (sSeq (sRet (eVar 0)) (sNext)) (sNext)) (sSeq (sIf (tAnd (tBl (eEq (eVar 1) (eC (.str "f")))) (tTru (eCall F_is_figure (eCons (eVar 0) (eNil))))) (sSeq (sRet (eB (b1 intSP) (eCons (eVar 0) (eNil)))) (sNext)) (sNext)) (sSeq (sRet (eC .none)) (sNext)))
noncomputable def F_part_in : Fn := mkFn 2 B_part_in
/-! parts_in: 0 words, 1 form, 2 parts, 3 word, 4 kind -/
noncomputable def B_parts_in : SM := sSeq (sIf (tBl (eNe (eB (lenD) (eCons (eVar 0) (eNil))) (eB (lenD) (eCons (eVar 1) (eNil))))) (sSeq (sRet (eC .none)) (sNext)) (sNext)) (sSeq (sAsg (eComp (iP (eCons (eVar 0) (eCons (eVar 1) eNil)) kZipS) (gTp 2 (gsCons (gNm 3) (gsCons (gNm 4) (gsNil)))) (tYes') (eCall F_part_in (eCons (eVar 3) (eCons (eVar 4) (eNil)))) [3, 4]) (gNm 2)) (sSeq (sIf (tBl (eIn (eC .none) (eVar 2))) (sSeq (sRet (eC .none)) (sNext)) (sNext)) (sSeq (sRet (eB (b1 tupOfP) (eCons (eVar 2) (eNil)))) (sNext))))
noncomputable def F_parts_in : Fn := mkFn 5 B_parts_in
/-! tos_in: 0 words, 1 blank, 2 word -/
abbrev S_tos_in_1 (words : D) (blank : D) : Sl := [some words, some blank, none]
abbrev G_tos_in_1 : GM := gNm 2
noncomputable def L_tos_in_1 : SM := sSeq (sIf (tAnd (tBl (eNe (eVar 2) (eVar 1))) (tNot (tTru (eCall F_is_figure (eCons (eVar 2) (eNil)))))) (sSeq (sRet (eC .none)) (sNext)) (sNext)) (sNext)
noncomputable def W_tos_in_1 (s : Sl) (h : Hs) : Option SR := sWp [2] L_tos_in_1 s h
noncomputable def B_tos_in : SM := sSeq (sIf (tBl (eEq (eVar 0) (eLst (eNil)))) (sSeq (sRet (eC .none)) (sNext)) (sNext)) (sSeq (sFor [2] (iSeq (eVar 0)) (gNm 2) (W_tos_in_1)) (sSeq (sRet (eB (b1 tupOfP) (eCons (eComp (iSeq (eVar 0)) (gNm 2) (tYes') (eIf (tBl (eEq (eVar 2) (eVar 1))) (eC .none) (eB (b1 intSP) (eCons (eVar 2) (eNil)))) [2]) (eNil)))) (sNext)))
noncomputable def F_tos_in : Fn := mkFn 3 B_tos_in
/-! row_in: 0 words, 1 parts, 2 tos -/
noncomputable def B_row_in : SM := sSeq (sIf (tBl (eEq (eIx (eVar 0) (eC (.int 0))) (eC (.str "any")))) (sSeq (sAsg (eCall F_tos_in (eCons (eSl (eVar 0) (some (eC (.int 1))) none) (eCons (eC .none) (eNil)))) (gNm 2)) (sSeq (sIf (tBl (eIsN (eVar 2) (eC .none))) (sSeq (sRet (eC .none)) (sNext)) (sNext)) (sSeq (sRet (eTup (eCons (eC (.str "any")) (eCons (eVar 2) (eNil))))) (sNext)))) (sNext)) (sSeq (sIf (tBl (eEq (eIx (eVar 0) (eC (.int 0))) (eC (.str "ask")))) (sSeq (sAsg (eCall F_tos_in (eCons (eSl (eVar 0) (some (eC (.int 2))) none) (eCons (eC (.str "-")) (eNil)))) (gNm 2)) (sSeq (sIf (tOr (tBl (eIsN (eVar 2) (eC .none))) (tNot (tTru (eCall F_is_name (eCons (eIx (eVar 0) (eC (.int 1))) (eNil)))))) (sSeq (sRet (eC .none)) (sNext)) (sNext)) (sSeq (sRet (eTup (eCons (eC (.str "ask")) (eCons (eIx (eVar 0) (eC (.int 1))) (eCons (eVar 2) (eNil)))))) (sNext)))) (sNext)) (sSeq (sIf (tBl (eInC true [("box", "nff"), ("proc", "n"), ("put", "nff"), ("swap", "nfff"), ("call", "nf"), ("take", "nf"), ("give", "nf"), ("hand", "nn")] (eIx (eVar 0) (eC (.int 0))))) (sSeq (sRet (eC .none)) (sNext)) (sNext)) (sSeq (sAsg (eCall F_parts_in (eCons (eSl (eVar 0) (some (eC (.int 1))) none) (eCons (eAtC [("box", "nff"), ("proc", "n"), ("put", "nff"), ("swap", "nfff"), ("call", "nf"), ("take", "nf"), ("give", "nf"), ("hand", "nn")] (eIx (eVar 0) (eC (.int 0)))) (eNil)))) (gNm 1)) (sSeq (sIf (tBl (eIsN (eVar 1) (eC .none))) (sSeq (sRet (eC .none)) (sNext)) (sNext)) (sSeq (sRet (eAdd (eTup (eCons (eIx (eVar 0) (eC (.int 0))) (eNil))) (eVar 1))) (sNext))))))
noncomputable def F_row_in : Fn := mkFn 3 B_row_in
/-! fits_behind: 0 word, 1 procs, 2 hands -/
noncomputable def B_fits_behind : SM := sSeq (sIf (tBl (eEq (eVar 0) (eC (.str "box")))) (sSeq (sRet (eAnd (eEq (eVar 1) (eLst (eNil))) (eEq (eVar 2) (eLst (eNil))))) (sNext)) (sNext)) (sSeq (sIf (tBl (eEq (eVar 0) (eC (.str "hand")))) (sSeq (sRet (eC (.bool true))) (sNext)) (sNext)) (sSeq (sIf (tBl (eEq (eVar 0) (eC (.str "proc")))) (sSeq (sRet (eEq (eVar 2) (eLst (eNil)))) (sNext)) (sNext)) (sSeq (sRet (eAnd (eNe (eVar 1) (eLst (eNil))) (eEq (eVar 2) (eLst (eNil))))) (sNext))))
noncomputable def F_fits_behind : Fn := mkFn 3 B_fits_behind
/-! read: 0 text, 1 boxes, 2 procs, 3 hands, 4 number, 5 line, 6 program, 7 row -/
abbrev S_read_1 (boxes : D) (procs : D) (hands : D) : Sl := [none, some boxes, some procs, some hands, none, none, none, none]
abbrev G_read_1 : GM := gTp 2 (gsCons (gNm 4) (gsCons (gNm 5) (gsNil)))
noncomputable def L_read_1 : SM := sSeq (sAsg (eCall F_row_in (eCons (eBM "str" (liftM splitP) (eVar 5) (eCons (eC (.str " ")) (eNil))) (eNil))) (gNm 7)) (sSeq (sIf (tOr (tBl (eIsN (eVar 7) (eC .none))) (tNot (tTru (eCall F_fits_behind (eCons (eIx (eVar 7) (eC (.int 0))) (eCons (eVar 2) (eCons (eVar 3) (eNil)))))))) (sSeq (sThrow "NoText" ["row"] (eCons (eVar 4) (eNil))) (sNext)) (sNext)) (sSeq (sIf (tBl (eEq (eIx (eVar 7) (eC (.int 0))) (eC (.str "box")))) (sSeq (sExpr (eBM "list" appendD (eVar 1) (eCons (eSl (eVar 7) (some (eC (.int 1))) none) (eNil)))) (sNext)) (sSeq (sIf (tBl (eEq (eIx (eVar 7) (eC (.int 0))) (eC (.str "hand")))) (sSeq (sExpr (eBM "list" appendD (eVar 3) (eCons (eSl (eVar 7) (some (eC (.int 1))) none) (eNil)))) (sNext)) (sSeq (sIf (tBl (eEq (eIx (eVar 7) (eC (.int 0))) (eC (.str "proc")))) (sSeq (sExpr (eBM "list" appendD (eVar 2) (eCons (eTup (eCons (eIx (eVar 7) (eC (.int 1))) (eCons (eLstN (eNil)) (eNil)))) (eNil)))) (sNext)) (sSeq (sExpr (eBM "list" appendD (eIx (eIx (eVar 2) (eNeg (eC (.int 1)))) (eC (.int 1))) (eCons (eVar 7) (eNil)))) (sNext))) (sNext))) (sNext))) (sNext)))
noncomputable def W_read_1 (s : Sl) (h : Hs) : Option SR := sWp [0, 4, 5, 6, 7] L_read_1 s h
noncomputable def B_read : SM := sSeq (sIf (tNot (tTru (eIsi "str" (eVar 0)))) (sSeq (sThrow "NoText" ["row"] (eCons (eC (.int 0)) (eNil))) (sNext)) (sNext)) (sSeq (sAsg (eLstN (eNil)) (gNm 1)) (sSeq (sAsg (eLstN (eNil)) (gNm 2)) (sSeq (sAsg (eLstN (eNil)) (gNm 3)) (sSeq (sFor [0, 4, 5, 6, 7] (iP (eCons (eBM "str" (liftM splitP) (eVar 0) (eCons (eC (.str "\n")) (eNil))) eNil) kEnum) (gTp 2 (gsCons (gNm 4) (gsCons (gNm 5) (gsNil)))) (W_read_1)) (sSeq (sAsg (eTup (eCons (eVar 1) (eCons (eVar 2) (eCons (eVar 3) (eNil))))) (gNm 6)) (sSeq (sExpr (eCall F_look_at (eCons (eVar 6) (eNil)))) (sSeq (sRet (eVar 6)) (sNext))))))))
noncomputable def F_read : Fn := mkFn 8 B_read
/-! _law_is__r0: 0 _law_found, 1 _law_due, 2 _law_kind, 3 _law_some, 4 _law_k -/
noncomputable def L__law_is__r0_1 : SM := sSeq (sAsg (eIx (eLst (eCons (eIsi "str" (eVar 0)) (eCons (eIsi "list" (eVar 0)) (eCons (eIsi "tuple" (eVar 0)) (eNil))))) (eVar 2)) (gNm 3)) (sSeq (sIf (tBl (eNe (eVar 3) (eIx (eLst (eCons (eIsi "str" (eVar 1)) (eCons (eIsi "list" (eVar 1)) (eCons (eIsi "tuple" (eVar 1)) (eNil))))) (eVar 2)))) (sSeq (sRet (eC (.bool false))) (sNext)) (sNext)) (sNext))
noncomputable def W__law_is__r0_1 (s : Sl) (h : Hs) : Option SR := sWp [2, 3, 4] L__law_is__r0_1 s h
noncomputable def B__law_is__r0 : SM := sSeq (sIf (tTru (eIsiT ["str", "list", "tuple"] (eVar 1))) (sSeq (sFor [2, 3, 4] (iP (eCons (eC (.int 3)) eNil) kRng1) (gNm 2) (W__law_is__r0_1)) (sSeq (sIf (tOr (tTru (eIsi "str" (eVar 1))) (tBl (eNe (eB (lenD) (eCons (eVar 0) (eNil))) (eB (lenD) (eCons (eVar 1) (eNil)))))) (sSeq (sRet (eEq (eVar 0) (eVar 1))) (sNext)) (sNext)) (sSeq (sRet (eEq (eComp (iP (eCons (eB (lenD) (eCons (eVar 1) (eNil))) eNil) kRng1) (gNm 4) (tNot (tTru (eNever))) (eVar 4) [4]) (eLst (eNil)))) (sNext)))) (sNext)) (sSeq (sIf (tBl (eIsN (eVar 1) (eC .none))) (sSeq (sRet (eIsN (eVar 0) (eC .none))) (sNext)) (sNext)) (sSeq (sRet (eAnd (eIsi "int" (eVar 0)) (eAnd (eNot (eIsi "bool" (eVar 0))) (eEq (eVar 0) (eVar 1))))) (sNext)))
noncomputable def F__law_is__r0 : Fn := mkFn 5 B__law_is__r0
/-! _law_is__r1: 0 _law_found, 1 _law_due, 2 _law_kind, 3 _law_some, 4 _law_k -/
noncomputable def L__law_is__r1_1 : SM := sSeq (sAsg (eIx (eLst (eCons (eIsi "str" (eVar 0)) (eCons (eIsi "list" (eVar 0)) (eCons (eIsi "tuple" (eVar 0)) (eNil))))) (eVar 2)) (gNm 3)) (sSeq (sIf (tBl (eNe (eVar 3) (eIx (eLst (eCons (eIsi "str" (eVar 1)) (eCons (eIsi "list" (eVar 1)) (eCons (eIsi "tuple" (eVar 1)) (eNil))))) (eVar 2)))) (sSeq (sRet (eC (.bool false))) (sNext)) (sNext)) (sNext))
noncomputable def W__law_is__r1_1 (s : Sl) (h : Hs) : Option SR := sWp [2, 3, 4] L__law_is__r1_1 s h
noncomputable def B__law_is__r1 : SM := sSeq (sIf (tTru (eIsiT ["str", "list", "tuple"] (eVar 1))) (sSeq (sFor [2, 3, 4] (iP (eCons (eC (.int 3)) eNil) kRng1) (gNm 2) (W__law_is__r1_1)) (sSeq (sIf (tOr (tTru (eIsi "str" (eVar 1))) (tBl (eNe (eB (lenD) (eCons (eVar 0) (eNil))) (eB (lenD) (eCons (eVar 1) (eNil)))))) (sSeq (sRet (eEq (eVar 0) (eVar 1))) (sNext)) (sNext)) (sSeq (sRet (eEq (eComp (iP (eCons (eB (lenD) (eCons (eVar 1) (eNil))) eNil) kRng1) (gNm 4) (tNot (tTru (eCall F__law_is__r0 (eCons (eIx (eVar 0) (eVar 4)) (eCons (eIx (eVar 1) (eVar 4)) (eNil)))))) (eVar 4) [4]) (eLst (eNil)))) (sNext)))) (sNext)) (sSeq (sIf (tBl (eIsN (eVar 1) (eC .none))) (sSeq (sRet (eIsN (eVar 0) (eC .none))) (sNext)) (sNext)) (sSeq (sRet (eAnd (eIsi "int" (eVar 0)) (eAnd (eNot (eIsi "bool" (eVar 0))) (eEq (eVar 0) (eVar 1))))) (sNext)))
noncomputable def F__law_is__r1 : Fn := mkFn 5 B__law_is__r1
/-! _law_is__r2: 0 _law_found, 1 _law_due, 2 _law_kind, 3 _law_some, 4 _law_k -/
noncomputable def L__law_is__r2_1 : SM := sSeq (sAsg (eIx (eLst (eCons (eIsi "str" (eVar 0)) (eCons (eIsi "list" (eVar 0)) (eCons (eIsi "tuple" (eVar 0)) (eNil))))) (eVar 2)) (gNm 3)) (sSeq (sIf (tBl (eNe (eVar 3) (eIx (eLst (eCons (eIsi "str" (eVar 1)) (eCons (eIsi "list" (eVar 1)) (eCons (eIsi "tuple" (eVar 1)) (eNil))))) (eVar 2)))) (sSeq (sRet (eC (.bool false))) (sNext)) (sNext)) (sNext))
noncomputable def W__law_is__r2_1 (s : Sl) (h : Hs) : Option SR := sWp [2, 3, 4] L__law_is__r2_1 s h
noncomputable def B__law_is__r2 : SM := sSeq (sIf (tTru (eIsiT ["str", "list", "tuple"] (eVar 1))) (sSeq (sFor [2, 3, 4] (iP (eCons (eC (.int 3)) eNil) kRng1) (gNm 2) (W__law_is__r2_1)) (sSeq (sIf (tOr (tTru (eIsi "str" (eVar 1))) (tBl (eNe (eB (lenD) (eCons (eVar 0) (eNil))) (eB (lenD) (eCons (eVar 1) (eNil)))))) (sSeq (sRet (eEq (eVar 0) (eVar 1))) (sNext)) (sNext)) (sSeq (sRet (eEq (eComp (iP (eCons (eB (lenD) (eCons (eVar 1) (eNil))) eNil) kRng1) (gNm 4) (tNot (tTru (eCall F__law_is__r1 (eCons (eIx (eVar 0) (eVar 4)) (eCons (eIx (eVar 1) (eVar 4)) (eNil)))))) (eVar 4) [4]) (eLst (eNil)))) (sNext)))) (sNext)) (sSeq (sIf (tBl (eIsN (eVar 1) (eC .none))) (sSeq (sRet (eIsN (eVar 0) (eC .none))) (sNext)) (sNext)) (sSeq (sRet (eAnd (eIsi "int" (eVar 0)) (eAnd (eNot (eIsi "bool" (eVar 0))) (eEq (eVar 0) (eVar 1))))) (sNext)))
noncomputable def F__law_is__r2 : Fn := mkFn 5 B__law_is__r2
/-! _law_is__r3: 0 _law_found, 1 _law_due, 2 _law_kind, 3 _law_some, 4 _law_k -/
noncomputable def L__law_is__r3_1 : SM := sSeq (sAsg (eIx (eLst (eCons (eIsi "str" (eVar 0)) (eCons (eIsi "list" (eVar 0)) (eCons (eIsi "tuple" (eVar 0)) (eNil))))) (eVar 2)) (gNm 3)) (sSeq (sIf (tBl (eNe (eVar 3) (eIx (eLst (eCons (eIsi "str" (eVar 1)) (eCons (eIsi "list" (eVar 1)) (eCons (eIsi "tuple" (eVar 1)) (eNil))))) (eVar 2)))) (sSeq (sRet (eC (.bool false))) (sNext)) (sNext)) (sNext))
noncomputable def W__law_is__r3_1 (s : Sl) (h : Hs) : Option SR := sWp [2, 3, 4] L__law_is__r3_1 s h
noncomputable def B__law_is__r3 : SM := sSeq (sIf (tTru (eIsiT ["str", "list", "tuple"] (eVar 1))) (sSeq (sFor [2, 3, 4] (iP (eCons (eC (.int 3)) eNil) kRng1) (gNm 2) (W__law_is__r3_1)) (sSeq (sIf (tOr (tTru (eIsi "str" (eVar 1))) (tBl (eNe (eB (lenD) (eCons (eVar 0) (eNil))) (eB (lenD) (eCons (eVar 1) (eNil)))))) (sSeq (sRet (eEq (eVar 0) (eVar 1))) (sNext)) (sNext)) (sSeq (sRet (eEq (eComp (iP (eCons (eB (lenD) (eCons (eVar 1) (eNil))) eNil) kRng1) (gNm 4) (tNot (tTru (eCall F__law_is__r2 (eCons (eIx (eVar 0) (eVar 4)) (eCons (eIx (eVar 1) (eVar 4)) (eNil)))))) (eVar 4) [4]) (eLst (eNil)))) (sNext)))) (sNext)) (sSeq (sIf (tBl (eIsN (eVar 1) (eC .none))) (sSeq (sRet (eIsN (eVar 0) (eC .none))) (sNext)) (sNext)) (sSeq (sRet (eAnd (eIsi "int" (eVar 0)) (eAnd (eNot (eIsi "bool" (eVar 0))) (eEq (eVar 0) (eVar 1))))) (sNext)))
noncomputable def F__law_is__r3 : Fn := mkFn 5 B__law_is__r3
/-! _law_is__r4: 0 _law_found, 1 _law_due, 2 _law_kind, 3 _law_some, 4 _law_k -/
noncomputable def L__law_is__r4_1 : SM := sSeq (sAsg (eIx (eLst (eCons (eIsi "str" (eVar 0)) (eCons (eIsi "list" (eVar 0)) (eCons (eIsi "tuple" (eVar 0)) (eNil))))) (eVar 2)) (gNm 3)) (sSeq (sIf (tBl (eNe (eVar 3) (eIx (eLst (eCons (eIsi "str" (eVar 1)) (eCons (eIsi "list" (eVar 1)) (eCons (eIsi "tuple" (eVar 1)) (eNil))))) (eVar 2)))) (sSeq (sRet (eC (.bool false))) (sNext)) (sNext)) (sNext))
noncomputable def W__law_is__r4_1 (s : Sl) (h : Hs) : Option SR := sWp [2, 3, 4] L__law_is__r4_1 s h
noncomputable def B__law_is__r4 : SM := sSeq (sIf (tTru (eIsiT ["str", "list", "tuple"] (eVar 1))) (sSeq (sFor [2, 3, 4] (iP (eCons (eC (.int 3)) eNil) kRng1) (gNm 2) (W__law_is__r4_1)) (sSeq (sIf (tOr (tTru (eIsi "str" (eVar 1))) (tBl (eNe (eB (lenD) (eCons (eVar 0) (eNil))) (eB (lenD) (eCons (eVar 1) (eNil)))))) (sSeq (sRet (eEq (eVar 0) (eVar 1))) (sNext)) (sNext)) (sSeq (sRet (eEq (eComp (iP (eCons (eB (lenD) (eCons (eVar 1) (eNil))) eNil) kRng1) (gNm 4) (tNot (tTru (eCall F__law_is__r3 (eCons (eIx (eVar 0) (eVar 4)) (eCons (eIx (eVar 1) (eVar 4)) (eNil)))))) (eVar 4) [4]) (eLst (eNil)))) (sNext)))) (sNext)) (sSeq (sIf (tBl (eIsN (eVar 1) (eC .none))) (sSeq (sRet (eIsN (eVar 0) (eC .none))) (sNext)) (sNext)) (sSeq (sRet (eAnd (eIsi "int" (eVar 0)) (eAnd (eNot (eIsi "bool" (eVar 0))) (eEq (eVar 0) (eVar 1))))) (sNext)))
noncomputable def F__law_is__r4 : Fn := mkFn 5 B__law_is__r4
/-! _law_is__r5: 0 _law_found, 1 _law_due, 2 _law_kind, 3 _law_some, 4 _law_k -/
noncomputable def L__law_is__r5_1 : SM := sSeq (sAsg (eIx (eLst (eCons (eIsi "str" (eVar 0)) (eCons (eIsi "list" (eVar 0)) (eCons (eIsi "tuple" (eVar 0)) (eNil))))) (eVar 2)) (gNm 3)) (sSeq (sIf (tBl (eNe (eVar 3) (eIx (eLst (eCons (eIsi "str" (eVar 1)) (eCons (eIsi "list" (eVar 1)) (eCons (eIsi "tuple" (eVar 1)) (eNil))))) (eVar 2)))) (sSeq (sRet (eC (.bool false))) (sNext)) (sNext)) (sNext))
noncomputable def W__law_is__r5_1 (s : Sl) (h : Hs) : Option SR := sWp [2, 3, 4] L__law_is__r5_1 s h
noncomputable def B__law_is__r5 : SM := sSeq (sIf (tTru (eIsiT ["str", "list", "tuple"] (eVar 1))) (sSeq (sFor [2, 3, 4] (iP (eCons (eC (.int 3)) eNil) kRng1) (gNm 2) (W__law_is__r5_1)) (sSeq (sIf (tOr (tTru (eIsi "str" (eVar 1))) (tBl (eNe (eB (lenD) (eCons (eVar 0) (eNil))) (eB (lenD) (eCons (eVar 1) (eNil)))))) (sSeq (sRet (eEq (eVar 0) (eVar 1))) (sNext)) (sNext)) (sSeq (sRet (eEq (eComp (iP (eCons (eB (lenD) (eCons (eVar 1) (eNil))) eNil) kRng1) (gNm 4) (tNot (tTru (eCall F__law_is__r4 (eCons (eIx (eVar 0) (eVar 4)) (eCons (eIx (eVar 1) (eVar 4)) (eNil)))))) (eVar 4) [4]) (eLst (eNil)))) (sNext)))) (sNext)) (sSeq (sIf (tBl (eIsN (eVar 1) (eC .none))) (sSeq (sRet (eIsN (eVar 0) (eC .none))) (sNext)) (sNext)) (sSeq (sRet (eAnd (eIsi "int" (eVar 0)) (eAnd (eNot (eIsi "bool" (eVar 0))) (eEq (eVar 0) (eVar 1))))) (sNext)))
noncomputable def F__law_is__r5 : Fn := mkFn 5 B__law_is__r5
/-! _law_is: 0 _law_found, 1 _law_due, 2 _law_kind, 3 _law_some, 4 _law_k -/
abbrev S__law_is_1 (l_found : D) (l_due : D) : Sl := [some l_found, some l_due, none, none, none]
abbrev G__law_is_1 : GM := gNm 2
noncomputable def L__law_is_1 : SM := sSeq (sAsg (eIx (eLst (eCons (eIsi "str" (eVar 0)) (eCons (eIsi "list" (eVar 0)) (eCons (eIsi "tuple" (eVar 0)) (eNil))))) (eVar 2)) (gNm 3)) (sSeq (sIf (tBl (eNe (eVar 3) (eIx (eLst (eCons (eIsi "str" (eVar 1)) (eCons (eIsi "list" (eVar 1)) (eCons (eIsi "tuple" (eVar 1)) (eNil))))) (eVar 2)))) (sSeq (sRet (eC (.bool false))) (sNext)) (sNext)) (sNext))
noncomputable def W__law_is_1 (s : Sl) (h : Hs) : Option SR := sWp [2, 3, 4] L__law_is_1 s h
noncomputable def B__law_is : SM := sSeq (sIf (tTru (eIsiT ["str", "list", "tuple"] (eVar 1))) (sSeq (sFor [2, 3, 4] (iP (eCons (eC (.int 3)) eNil) kRng1) (gNm 2) (W__law_is_1)) (sSeq (sIf (tOr (tTru (eIsi "str" (eVar 1))) (tBl (eNe (eB (lenD) (eCons (eVar 0) (eNil))) (eB (lenD) (eCons (eVar 1) (eNil)))))) (sSeq (sRet (eEq (eVar 0) (eVar 1))) (sNext)) (sNext)) (sSeq (sRet (eEq (eComp (iP (eCons (eB (lenD) (eCons (eVar 1) (eNil))) eNil) kRng1) (gNm 4) (tNot (tTru (eCall F__law_is__r5 (eCons (eIx (eVar 0) (eVar 4)) (eCons (eIx (eVar 1) (eVar 4)) (eNil)))))) (eVar 4) [4]) (eLst (eNil)))) (sNext)))) (sNext)) (sSeq (sIf (tBl (eIsN (eVar 1) (eC .none))) (sSeq (sRet (eIsN (eVar 0) (eC .none))) (sNext)) (sNext)) (sSeq (sRet (eAnd (eIsi "int" (eVar 0)) (eAnd (eNot (eIsi "bool" (eVar 0))) (eEq (eVar 0) (eVar 1))))) (sNext)))
noncomputable def F__law_is : Fn := mkFn 5 B__law_is
/-! law08: 0 _law_script, 1 _law_ahead, 2 _law_at, 3 _law_due, 4 _law_text_here, 5 _law_found, 6 _law_again -/
abbrev S_law08_1 (l_script : D) (l_ahead : D) : Sl := [some l_script, some l_ahead, none, none, none, none, none]
abbrev G_law08_1 : GM := gNm 2
noncomputable def L_law08_1 : SM := sSeq (sAsg (eCall F__law_program_at (eCons (eVar 0) (eCons (eVar 2) (eNil)))) (gNm 3)) (sSeq (sAsg (eCall F__law_text (eCons (eVar 3) (eNil))) (gNm 4)) (sSeq (sAsg (eCallT F_read (eCons (eVar 4) (eNil))) (gNm 5)) (sSeq (sIf (tNot (tTru (eCall F__law_is (eCons (eVar 5) (eCons (eVar 3) (eNil)))))) (sSeq (sRet (eC (.bool false))) (sNext)) (sNext)) (sSeq (sAsg (eCall F_read (eCons (eVar 4) (eNil))) (gNm 6)) (sSeq (sExpr (eBM "list" appendD (eIx (eVar 5) (eC (.int 0))) (eCons (eTup (eCons (eC (.str "a")) (eCons (eC (.int 2)) (eCons (eC (.int 0)) (eNil))))) (eNil)))) (sSeq (sExpr (eBM "list" appendD (eIx (eIx (eIx (eVar 5) (eC (.int 1))) (eC (.int 0))) (eC (.int 1))) (eCons (eTup (eCons (eC (.str "any")) (eCons (eTup (eCons (eC (.int 0)) (eNil))) (eNil)))) (eNil)))) (sSeq (sIf (tNot (tTru (eCall F__law_is (eCons (eSlN (eIx (eVar 5) (eC (.int 1))) (some (eC (.int 1))) none) (eCons (eSl (eIx (eVar 3) (eC (.int 1))) (some (eC (.int 1))) none) (eNil)))))) (sSeq (sRet (eC (.bool false))) (sNext)) (sNext)) (sSeq (sExpr (eBM "list" clearD (eIx (eVar 5) (eC (.int 2))) eNil)) (sSeq (sIf (tOr (tNot (tTru (eCall F__law_is (eCons (eVar 6) (eCons (eVar 3) (eNil)))))) (tOr (tNot (tTru (eCall F__law_is (eCons (eCall F_read (eCons (eCall F__law_text (eCons (eVar 1) (eNil))) (eNil))) (eCons (eVar 1) (eNil)))))) (tNot (tTru (eCall F__law_is (eCons (eCall F_read (eCons (eVar 4) (eNil))) (eCons (eVar 3) (eNil)))))))) (sSeq (sRet (eC (.bool false))) (sNext)) (sNext)) (sSeq (sAsg (eVar 3) (gNm 1)) (sNext)))))))))))
noncomputable def W_law08_1 (s : Sl) (h : Hs) : Option SR := sWp [2, 3, 4, 5, 6] L_law08_1 s h
noncomputable def B_law08 : SM := sSeq (sAsg (eCall F__law_program_at (eCons (eLst (eCons (eC (.int 7)) (eNil))) (eCons (eC (.int 0)) (eNil)))) (gNm 1)) (sSeq (sFor [2, 3, 4, 5, 6] (iP (eCons (eC (.int 0)) (eCons (eB (max2) (eCons (eC (.int 1)) (eCons (eB (min2) (eCons (eB (lenD) (eCons (eVar 0) (eNil))) (eCons (eC (.int 63)) (eNil)))) (eNil)))) (eCons (eC (.int 7)) eNil))) kRng3) (gNm 2) (W_law08_1)) (sSeq (sRet (eC (.bool true))) (sNext)))
noncomputable def F_law08 : Fn := mkFn 7 B_law08
end Fs
set_option maxHeartbeats 0
namespace G08
open PySem PySem.Spec PyProof.Rows L2 Vl Fs
def top (i : Nat) : Stmt := PySem.Challenge.pw_roundhand_k08_read_again.main.body.getD i (.Pass ⟨0, 0, 0, 0⟩)
abbrev s_is_whole : Stmt := top 3
abbrev s_is_within : Stmt := top 4
abbrev s_is_name : Stmt := top 5
abbrev s_many_stores : Stmt := top 6
abbrev s_is_tuple : Stmt := top 19
abbrev s_is_box : Stmt := top 20
abbrev s_look_at_boxes : Stmt := top 21
abbrev s_look_at_procs : Stmt := top 22
abbrev s_worths_of : Stmt := top 23
abbrev s_are_tos : Stmt := top 24
abbrev s_is_row_of_box : Stmt := top 25
abbrev s_is_row : Stmt := top 26
abbrev s_look_at_rows : Stmt := top 27
abbrev s_look_at_hands : Stmt := top 28
abbrev s_look_at : Stmt := top 29
abbrev s_is_figure : Stmt := top 33
abbrev s_part_in : Stmt := top 34
abbrev s_parts_in : Stmt := top 35
abbrev s_tos_in : Stmt := top 36
abbrev s_row_in : Stmt := top 37
abbrev s_fits_behind : Stmt := top 38
abbrev s_read : Stmt := top 39
abbrev s__law_cell_at : Stmt := top 41
abbrev s__law_digits : Stmt := top 42
abbrev s__law_name : Stmt := top 43
abbrev s__law_to_row : Stmt := top 44
abbrev s__law_plan : Stmt := top 45
abbrev s__law_program : Stmt := top 46
abbrev s__law_menu : Stmt := top 47
abbrev s__law_to : Stmt := top 48
abbrev s__law_words : Stmt := top 49
abbrev s__law_text : Stmt := top 50
abbrev s__law_is : Stmt := top 51
abbrev s__law_program_at : Stmt := top 52
abbrev s_law : Stmt := top 53
abbrev si_NoProgram : Stmt := (clsB (top 9)).getD 0 (.Pass ⟨0, 0, 0, 0⟩)
abbrev NI_NoProgram : List Str := ["self", "part", "number", "row"]
theorem sci_NoProgram : FnScope NI_NoProgram ["self", "part", "number", "row"] (defScope si_NoProgram) := ⟨rfl, rfl, rfl, by decide +kernel, rfl, by decide +kernel, by decide +kernel⟩
abbrev si_NoText : Stmt := (clsB (top 10)).getD 0 (.Pass ⟨0, 0, 0, 0⟩)
abbrev NI_NoText : List Str := ["self", "row"]
theorem sci_NoText : FnScope NI_NoText ["self", "row"] (defScope si_NoText) := ⟨rfl, rfl, rfl, by decide +kernel, rfl, by decide +kernel, by decide +kernel⟩
abbrev FnP (K : KF) (x : Str) (st : Stmt) (f : Addr) (fd : FuncData) : Prop := FunD K x x (defArgs st) (defBody st) (defScope st) [] [] f fd
abbrev N_is_whole : List Str := ["thing"]
theorem sc_is_whole : FnScope N_is_whole ["thing"] (defScope s_is_whole) := ⟨rfl, rfl, rfl, by decide +kernel, rfl, by decide +kernel, by decide +kernel⟩
abbrev N_is_within : List Str := ["thing", "low", "high"]
theorem sc_is_within : FnScope N_is_within ["thing", "low", "high"] (defScope s_is_within) := ⟨rfl, rfl, rfl, by decide +kernel, rfl, by decide +kernel, by decide +kernel⟩
abbrev N_is_name : List Str := ["thing", "sign"]
theorem sc_is_name : FnScope N_is_name ["thing"] (defScope s_is_name) := ⟨rfl, rfl, rfl, by decide +kernel, rfl, by decide +kernel, by decide +kernel⟩
abbrev N_many_stores : List Str := ["boxes", "many", "name", "worths", "first"]
theorem sc_many_stores : FnScope N_many_stores ["boxes"] (defScope s_many_stores) := ⟨rfl, rfl, rfl, by decide +kernel, rfl, by decide +kernel, by decide +kernel⟩
abbrev N_is_tuple : List Str := ["thing", "many"]
theorem sc_is_tuple : FnScope N_is_tuple ["thing", "many"] (defScope s_is_tuple) := ⟨rfl, rfl, rfl, by decide +kernel, rfl, by decide +kernel, by decide +kernel⟩
abbrev N_is_box : List Str := ["thing"]
theorem sc_is_box : FnScope N_is_box ["thing"] (defScope s_is_box) := ⟨rfl, rfl, rfl, by decide +kernel, rfl, by decide +kernel, by decide +kernel⟩
abbrev N_look_at_boxes : List Str := ["boxes", "number", "box", "one"]
theorem sc_look_at_boxes : FnScope N_look_at_boxes ["boxes"] (defScope s_look_at_boxes) := ⟨rfl, rfl, rfl, by decide +kernel, rfl, by decide +kernel, by decide +kernel⟩
abbrev N_look_at_procs : List Str := ["procs", "number", "proc", "one"]
theorem sc_look_at_procs : FnScope N_look_at_procs ["procs"] (defScope s_look_at_procs) := ⟨rfl, rfl, rfl, by decide +kernel, rfl, by decide +kernel, by decide +kernel⟩
abbrev N_worths_of : List Str := ["boxes", "name", "box"]
theorem sc_worths_of : FnScope N_worths_of ["boxes", "name"] (defScope s_worths_of) := ⟨rfl, rfl, rfl, by decide +kernel, rfl, by decide +kernel, by decide +kernel⟩
abbrev N_are_tos : List Str := ["thing", "end", "to"]
theorem sc_are_tos : FnScope N_are_tos ["thing", "end"] (defScope s_are_tos) := ⟨rfl, rfl, rfl, by decide +kernel, rfl, by decide +kernel, by decide +kernel⟩
abbrev N_is_row_of_box : List Str := ["row", "worths", "end", "many_hands", "to"]
theorem sc_is_row_of_box : FnScope N_is_row_of_box ["row", "worths", "end", "many_hands"] (defScope s_is_row_of_box) := ⟨rfl, rfl, rfl, by decide +kernel, rfl, by decide +kernel, by decide +kernel⟩
abbrev N_is_row : List Str := ["row", "program", "end", "boxes", "procs", "hands", "named", "proc"]
theorem sc_is_row : FnScope N_is_row ["row", "program", "end"] (defScope s_is_row) := ⟨rfl, rfl, rfl, by decide +kernel, rfl, by decide +kernel, by decide +kernel⟩
abbrev N_look_at_rows : List Str := ["program", "number", "proc", "at", "row"]
theorem sc_look_at_rows : FnScope N_look_at_rows ["program"] (defScope s_look_at_rows) := ⟨rfl, rfl, rfl, by decide +kernel, rfl, by decide +kernel, by decide +kernel⟩
abbrev N_look_at_hands : List Str := ["hands", "procs", "names", "number", "hand", "proc", "one"]
theorem sc_look_at_hands : FnScope N_look_at_hands ["hands", "procs"] (defScope s_look_at_hands) := ⟨rfl, rfl, rfl, by decide +kernel, rfl, by decide +kernel, by decide +kernel⟩
abbrev N_look_at : List Str := ["thing", "part"]
theorem sc_look_at : FnScope N_look_at ["thing"] (defScope s_look_at) := ⟨rfl, rfl, rfl, by decide +kernel, rfl, by decide +kernel, by decide +kernel⟩
abbrev N_is_figure : List Str := ["word"]
theorem sc_is_figure : FnScope N_is_figure ["word"] (defScope s_is_figure) := ⟨rfl, rfl, rfl, by decide +kernel, rfl, by decide +kernel, by decide +kernel⟩
abbrev N_part_in : List Str := ["word", "kind"]
theorem sc_part_in : FnScope N_part_in ["word", "kind"] (defScope s_part_in) := ⟨rfl, rfl, rfl, by decide +kernel, rfl, by decide +kernel, by decide +kernel⟩
abbrev N_parts_in : List Str := ["words", "form", "parts", "word", "kind"]
theorem sc_parts_in : FnScope N_parts_in ["words", "form"] (defScope s_parts_in) := ⟨rfl, rfl, rfl, by decide +kernel, rfl, by decide +kernel, by decide +kernel⟩
abbrev N_tos_in : List Str := ["words", "blank", "word"]
theorem sc_tos_in : FnScope N_tos_in ["words", "blank"] (defScope s_tos_in) := ⟨rfl, rfl, rfl, by decide +kernel, rfl, by decide +kernel, by decide +kernel⟩
abbrev N_row_in : List Str := ["words", "parts", "tos"]
theorem sc_row_in : FnScope N_row_in ["words"] (defScope s_row_in) := ⟨rfl, rfl, rfl, by decide +kernel, rfl, by decide +kernel, by decide +kernel⟩
abbrev N_fits_behind : List Str := ["word", "procs", "hands"]
theorem sc_fits_behind : FnScope N_fits_behind ["word", "procs", "hands"] (defScope s_fits_behind) := ⟨rfl, rfl, rfl, by decide +kernel, rfl, by decide +kernel, by decide +kernel⟩
abbrev N_read : List Str := ["text", "boxes", "procs", "hands", "number", "line", "program", "row"]
theorem sc_read : FnScope N_read ["text"] (defScope s_read) := ⟨rfl, rfl, rfl, by decide +kernel, rfl, by decide +kernel, by decide +kernel⟩
abbrev N__law_cell_at : List Str := ["_law_script", "_law_k"]
theorem sc__law_cell_at : FnScope N__law_cell_at ["_law_script", "_law_k"] (defScope s__law_cell_at) := ⟨rfl, rfl, rfl, by decide +kernel, rfl, by decide +kernel, by decide +kernel⟩
abbrev N__law_digits : List Str := ["_law_cell", "_law_turn", "_law_sizes", "_law_number", "_law_wide", "_law_seed", "_law_found", "_law_k", "_law_size"]
theorem sc__law_digits : FnScope N__law_digits ["_law_cell", "_law_turn", "_law_sizes"] (defScope s__law_digits) := ⟨rfl, rfl, rfl, by decide +kernel, rfl, by decide +kernel, by decide +kernel⟩
abbrev N__law_name : List Str := ["_law_number", "_law_k", "_law_stem", "_law_more"]
theorem sc__law_name : FnScope N__law_name ["_law_number", "_law_k"] (defScope s__law_name) := ⟨rfl, rfl, rfl, by decide +kernel, rfl, by decide +kernel, by decide +kernel⟩
abbrev N__law_to_row : List Str := ["_law_d", "_law_worths", "_law_end", "_law_hands", "_law_tos", "_law_box", "_law_one", "_law_other", "_law_stops", "_law_j"]
theorem sc__law_to_row : FnScope N__law_to_row ["_law_d", "_law_worths", "_law_end", "_law_hands"] (defScope s__law_to_row) := ⟨rfl, rfl, rfl, by decide +kernel, rfl, by decide +kernel, by decide +kernel⟩
abbrev N__law_plan : List Str := ["_law_script", "_law_most_procs", "_law_most_rows", "_law_most_hands", "_law_menu_here", "_law_head", "_law_worths", "_law_firsts", "_law_many", "_law_hands", "_law_procs", "_law_k", "_law_row", "_law_end", "_law_j"]
theorem sc__law_plan : FnScope N__law_plan ["_law_script", "_law_most_procs", "_law_most_rows", "_law_most_hands", "_law_menu_here"] (defScope s__law_plan) := ⟨rfl, rfl, rfl, by decide +kernel, rfl, by decide +kernel, by decide +kernel⟩
abbrev N__law_program : List Str := ["_law_plan_here", "_law_number", "_law_worths", "_law_firsts", "_law_procs", "_law_hands", "_law_boxes", "_law_titles", "_law_rows", "_law_k", "_law_proc", "_law_built", "_law_row"]
theorem sc__law_program : FnScope N__law_program ["_law_plan_here", "_law_number"] (defScope s__law_program) := ⟨rfl, rfl, rfl, by decide +kernel, rfl, by decide +kernel, by decide +kernel⟩
abbrev N__law_menu : List Str := []
theorem sc__law_menu : FnScope N__law_menu [] (defScope s__law_menu) := ⟨rfl, rfl, rfl, by decide +kernel, rfl, by decide +kernel, by decide +kernel⟩
abbrev N__law_to : List Str := ["_law_to_here"]
theorem sc__law_to : FnScope N__law_to ["_law_to_here"] (defScope s__law_to) := ⟨rfl, rfl, rfl, by decide +kernel, rfl, by decide +kernel, by decide +kernel⟩
abbrev N__law_words : List Str := ["_law_row", "_law_words_here", "_law_part", "_law_to_here"]
theorem sc__law_words : FnScope N__law_words ["_law_row"] (defScope s__law_words) := ⟨rfl, rfl, rfl, by decide +kernel, rfl, by decide +kernel, by decide +kernel⟩
abbrev N__law_text : List Str := ["_law_program_here", "_law_boxes", "_law_procs", "_law_hands", "_law_rows", "_law_name_here", "_law_some", "_law_worths", "_law_first", "_law_row", "_law_proc"]
theorem sc__law_text : FnScope N__law_text ["_law_program_here"] (defScope s__law_text) := ⟨rfl, rfl, rfl, by decide +kernel, rfl, by decide +kernel, by decide +kernel⟩
abbrev N__law_is : List Str := ["_law_found", "_law_due", "_law_kind", "_law_some", "_law_k"]
theorem sc__law_is : FnScope N__law_is ["_law_found", "_law_due"] (defScope s__law_is) := ⟨rfl, rfl, rfl, by decide +kernel, rfl, by decide +kernel, by decide +kernel⟩
abbrev N__law_program_at : List Str := ["_law_script", "_law_at", "_law_plan_here"]
theorem sc__law_program_at : FnScope N__law_program_at ["_law_script", "_law_at"] (defScope s__law_program_at) := ⟨rfl, rfl, rfl, by decide +kernel, rfl, by decide +kernel, by decide +kernel⟩
abbrev N_law : List Str := ["_law_script", "_law_ahead", "_law_at", "_law_due", "_law_text_here", "_law_found", "_law_again"]
theorem sc_law : FnScope N_law ["_law_script"] (defScope s_law) := ⟨rfl, rfl, rfl, by decide +kernel, rfl, by decide +kernel, by decide +kernel⟩
structure Cfg (K : KF) (mg : Str → Option Value) where
  f_is_whole : Addr
  d_is_whole : FuncData
  F_is_whole : FnP K "is_whole" s_is_whole f_is_whole d_is_whole
  g_is_whole : mg "is_whole" = some (.ref f_is_whole)
  f_is_within : Addr
  d_is_within : FuncData
  F_is_within : FnP K "is_within" s_is_within f_is_within d_is_within
  g_is_within : mg "is_within" = some (.ref f_is_within)
  f_is_name : Addr
  d_is_name : FuncData
  F_is_name : FnP K "is_name" s_is_name f_is_name d_is_name
  g_is_name : mg "is_name" = some (.ref f_is_name)
  f_many_stores : Addr
  d_many_stores : FuncData
  F_many_stores : FnP K "many_stores" s_many_stores f_many_stores d_many_stores
  g_many_stores : mg "many_stores" = some (.ref f_many_stores)
  f_is_tuple : Addr
  d_is_tuple : FuncData
  F_is_tuple : FnP K "is_tuple" s_is_tuple f_is_tuple d_is_tuple
  g_is_tuple : mg "is_tuple" = some (.ref f_is_tuple)
  f_is_box : Addr
  d_is_box : FuncData
  F_is_box : FnP K "is_box" s_is_box f_is_box d_is_box
  g_is_box : mg "is_box" = some (.ref f_is_box)
  f_look_at_boxes : Addr
  d_look_at_boxes : FuncData
  F_look_at_boxes : FnP K "look_at_boxes" s_look_at_boxes f_look_at_boxes d_look_at_boxes
  g_look_at_boxes : mg "look_at_boxes" = some (.ref f_look_at_boxes)
  f_look_at_procs : Addr
  d_look_at_procs : FuncData
  F_look_at_procs : FnP K "look_at_procs" s_look_at_procs f_look_at_procs d_look_at_procs
  g_look_at_procs : mg "look_at_procs" = some (.ref f_look_at_procs)
  f_worths_of : Addr
  d_worths_of : FuncData
  F_worths_of : FnP K "worths_of" s_worths_of f_worths_of d_worths_of
  g_worths_of : mg "worths_of" = some (.ref f_worths_of)
  f_are_tos : Addr
  d_are_tos : FuncData
  F_are_tos : FnP K "are_tos" s_are_tos f_are_tos d_are_tos
  g_are_tos : mg "are_tos" = some (.ref f_are_tos)
  f_is_row_of_box : Addr
  d_is_row_of_box : FuncData
  F_is_row_of_box : FnP K "is_row_of_box" s_is_row_of_box f_is_row_of_box d_is_row_of_box
  g_is_row_of_box : mg "is_row_of_box" = some (.ref f_is_row_of_box)
  f_is_row : Addr
  d_is_row : FuncData
  F_is_row : FnP K "is_row" s_is_row f_is_row d_is_row
  g_is_row : mg "is_row" = some (.ref f_is_row)
  f_look_at_rows : Addr
  d_look_at_rows : FuncData
  F_look_at_rows : FnP K "look_at_rows" s_look_at_rows f_look_at_rows d_look_at_rows
  g_look_at_rows : mg "look_at_rows" = some (.ref f_look_at_rows)
  f_look_at_hands : Addr
  d_look_at_hands : FuncData
  F_look_at_hands : FnP K "look_at_hands" s_look_at_hands f_look_at_hands d_look_at_hands
  g_look_at_hands : mg "look_at_hands" = some (.ref f_look_at_hands)
  f_look_at : Addr
  d_look_at : FuncData
  F_look_at : FnP K "look_at" s_look_at f_look_at d_look_at
  g_look_at : mg "look_at" = some (.ref f_look_at)
  f_is_figure : Addr
  d_is_figure : FuncData
  F_is_figure : FnP K "is_figure" s_is_figure f_is_figure d_is_figure
  g_is_figure : mg "is_figure" = some (.ref f_is_figure)
  f_part_in : Addr
  d_part_in : FuncData
  F_part_in : FnP K "part_in" s_part_in f_part_in d_part_in
  g_part_in : mg "part_in" = some (.ref f_part_in)
  f_parts_in : Addr
  d_parts_in : FuncData
  F_parts_in : FnP K "parts_in" s_parts_in f_parts_in d_parts_in
  g_parts_in : mg "parts_in" = some (.ref f_parts_in)
  f_tos_in : Addr
  d_tos_in : FuncData
  F_tos_in : FnP K "tos_in" s_tos_in f_tos_in d_tos_in
  g_tos_in : mg "tos_in" = some (.ref f_tos_in)
  f_row_in : Addr
  d_row_in : FuncData
  F_row_in : FnP K "row_in" s_row_in f_row_in d_row_in
  g_row_in : mg "row_in" = some (.ref f_row_in)
  f_fits_behind : Addr
  d_fits_behind : FuncData
  F_fits_behind : FnP K "fits_behind" s_fits_behind f_fits_behind d_fits_behind
  g_fits_behind : mg "fits_behind" = some (.ref f_fits_behind)
  f_read : Addr
  d_read : FuncData
  F_read : FnP K "read" s_read f_read d_read
  g_read : mg "read" = some (.ref f_read)
  f__law_cell_at : Addr
  d__law_cell_at : FuncData
  F__law_cell_at : FnP K "_law_cell_at" s__law_cell_at f__law_cell_at d__law_cell_at
  g__law_cell_at : mg "_law_cell_at" = some (.ref f__law_cell_at)
  f__law_digits : Addr
  d__law_digits : FuncData
  F__law_digits : FnP K "_law_digits" s__law_digits f__law_digits d__law_digits
  g__law_digits : mg "_law_digits" = some (.ref f__law_digits)
  f__law_name : Addr
  d__law_name : FuncData
  F__law_name : FnP K "_law_name" s__law_name f__law_name d__law_name
  g__law_name : mg "_law_name" = some (.ref f__law_name)
  f__law_to_row : Addr
  d__law_to_row : FuncData
  F__law_to_row : FnP K "_law_to_row" s__law_to_row f__law_to_row d__law_to_row
  g__law_to_row : mg "_law_to_row" = some (.ref f__law_to_row)
  f__law_plan : Addr
  d__law_plan : FuncData
  F__law_plan : FnP K "_law_plan" s__law_plan f__law_plan d__law_plan
  g__law_plan : mg "_law_plan" = some (.ref f__law_plan)
  f__law_program : Addr
  d__law_program : FuncData
  F__law_program : FnP K "_law_program" s__law_program f__law_program d__law_program
  g__law_program : mg "_law_program" = some (.ref f__law_program)
  f__law_menu : Addr
  d__law_menu : FuncData
  F__law_menu : FnP K "_law_menu" s__law_menu f__law_menu d__law_menu
  g__law_menu : mg "_law_menu" = some (.ref f__law_menu)
  f__law_to : Addr
  d__law_to : FuncData
  F__law_to : FnP K "_law_to" s__law_to f__law_to d__law_to
  g__law_to : mg "_law_to" = some (.ref f__law_to)
  f__law_words : Addr
  d__law_words : FuncData
  F__law_words : FnP K "_law_words" s__law_words f__law_words d__law_words
  g__law_words : mg "_law_words" = some (.ref f__law_words)
  f__law_text : Addr
  d__law_text : FuncData
  F__law_text : FnP K "_law_text" s__law_text f__law_text d__law_text
  g__law_text : mg "_law_text" = some (.ref f__law_text)
  f__law_is : Addr
  d__law_is : FuncData
  F__law_is : FnP K "_law_is" s__law_is f__law_is d__law_is
  g__law_is : mg "_law_is" = some (.ref f__law_is)
  f__law_program_at : Addr
  d__law_program_at : FuncData
  F__law_program_at : FnP K "_law_program_at" s__law_program_at f__law_program_at d__law_program_at
  g__law_program_at : mg "_law_program_at" = some (.ref f__law_program_at)
  C_HandError : Addr
  g_HandError : mg "HandError" = some (.ref C_HandError)
  H_HandError : HinC K C_HandError (.type "type")
  C_NoProgram : Addr
  g_NoProgram : mg "NoProgram" = some (.ref C_NoProgram)
  T_NoProgram : OexC K C_NoProgram
  fi_NoProgram : Addr
  di_NoProgram : FuncData
  FI_NoProgram : FunD K "__init__" "NoProgram.__init__" (defArgs si_NoProgram) (defBody si_NoProgram) (defScope si_NoProgram) [] [] fi_NoProgram di_NoProgram
  iC_NoProgram : PySem.W.findIn K (.ref C_NoProgram) "__init__" = some (some (.ref fi_NoProgram))
  tI_NoProgram : PySem.W.typeIn K (.ref fi_NoProgram) = some (.type "function")
  nf_NoProgram : ∀ g ∈ (["part", "number", "row"] : List Str), PySem.W.findIn K (.ref C_NoProgram) g = some none
  C_NoText : Addr
  g_NoText : mg "NoText" = some (.ref C_NoText)
  T_NoText : OexC K C_NoText
  fi_NoText : Addr
  di_NoText : FuncData
  FI_NoText : FunD K "__init__" "NoText.__init__" (defArgs si_NoText) (defBody si_NoText) (defScope si_NoText) [] [] fi_NoText di_NoText
  iC_NoText : PySem.W.findIn K (.ref C_NoText) "__init__" = some (some (.ref fi_NoText))
  tI_NoText : PySem.W.typeIn K (.ref fi_NoText) = some (.type "function")
  nf_NoText : ∀ g ∈ (["row"] : List Str), PySem.W.findIn K (.ref C_NoText) g = some none
  c_FORMS : GDct K mg "FORMS" [("box", "nff"), ("proc", "n"), ("put", "nff"), ("swap", "nfff"), ("call", "nf"), ("take", "nf"), ("give", "nf"), ("hand", "nn")]
  b_abs : mg "abs" = none
  b_all : mg "all" = none
  b_bool : mg "bool" = none
  b_enumerate : mg "enumerate" = none
  b_int : mg "int" = none
  b_isinstance : mg "isinstance" = none
  b_len : mg "len" = none
  b_list : mg "list" = none
  b_max : mg "max" = none
  b_min : mg "min" = none
  b_range : mg "range" = none
  b_str : mg "str" = none
  b_tuple : mg "tuple" = none
  b_zip : mg "zip" = none
  g_FIGURES : ∃ t, mg "FIGURES" = some (.str "0123456789" t)
  g_LETTERS : ∃ t, mg "LETTERS" = some (.str "abcdefghijklmnopqrstuvwxyz" t)
  g_LONGEST : ∃ t, mg "LONGEST" = some (.int (8) t)
  g_MOST_BOXES : ∃ t, mg "MOST_BOXES" = some (.int (3) t)
  g_MOST_HANDS : ∃ t, mg "MOST_HANDS" = some (.int (3) t)
  g_MOST_PROCS : ∃ t, mg "MOST_PROCS" = some (.int (6) t)
  g_MOST_ROWS : ∃ t, mg "MOST_ROWS" = some (.int (8) t)
  g_MOST_STORES : ∃ t, mg "MOST_STORES" = some (.int (8) t)
  g_MOST_WAYS : ∃ t, mg "MOST_WAYS" = some (.int (4) t)
  g_MOST_WORTHS : ∃ t, mg "MOST_WORTHS" = some (.int (6) t)
section
variable {P : Program} {w : World} {K : KF} {mg : Str → Option Value} {base : Heap}
theorem bi_NoProgram (c : Cfg K mg) : Binds K c.di_NoProgram ["self", "part", "number", "row"] [] := c.FI_NoProgram.bindsN fun _ _ _ _ _ _ us hl => match us, hl with | [_, _, _, _], _ => rfl
theorem ok_init_NoProgram (c : Cfg K mg) : FnOk P w K mg base (L2.CX P w) (0 + 1) c.fi_NoProgram c.di_NoProgram ["self", "part", "number", "row"] (spInit c.C_NoProgram ["part", "number", "row"]) :=
  init_ok (m := "no program") c.FI_NoProgram sci_NoProgram c.T_NoProgram rfl (by decide) c.nf_NoProgram fun cdv A outer s H E => ⟨ps_expr (pe_hinit rfl c.g_HandError c.H_HandError (pa_cons (pe_var (i := 0) rfl (.inl rfl)) (pa_cons pe_str pa_nil))), .cons (ps_ost (pe_var (i := 0) rfl (.inl rfl)) (pe_var (i := 1) rfl (.inl rfl))) (.cons (ps_ost (pe_var (i := 0) rfl (.inl rfl)) (pe_var (i := 2) rfl (.inl rfl))) (.cons (ps_ost (pe_var (i := 0) rfl (.inl rfl)) (pe_var (i := 3) rfl (.inl rfl))) (.nil)))⟩
theorem bi_NoText (c : Cfg K mg) : Binds K c.di_NoText ["self", "row"] [] := c.FI_NoText.bindsN fun _ _ _ _ _ _ us hl => match us, hl with | [_, _], _ => rfl
theorem ok_init_NoText (c : Cfg K mg) : FnOk P w K mg base (L2.CX P w) (0 + 1) c.fi_NoText c.di_NoText ["self", "row"] (spInit c.C_NoText ["row"]) :=
  init_ok (m := "no text of a program") c.FI_NoText sci_NoText c.T_NoText rfl (by decide) c.nf_NoText fun cdv A outer s H E => ⟨ps_expr (pe_hinit rfl c.g_HandError c.H_HandError (pa_cons (pe_var (i := 0) rfl (.inl rfl)) (pa_cons pe_str pa_nil))), .cons (ps_ost (pe_var (i := 0) rfl (.inl rfl)) (pe_var (i := 1) rfl (.inl rfl))) (.nil)⟩
theorem b_is_whole (c : Cfg K mg) : Binds K c.d_is_whole ["thing"] [] := c.F_is_whole.bindsN fun _ _ _ _ _ _ us hl => match us, hl with | [_], _ => rfl
theorem ok_is_whole (c : Cfg K mg) : FnG P w K mg base (L2.CX P w) (0 + 1) c.f_is_whole c.d_is_whole ["thing"] (spF K mg 1 F_is_whole) :=
  fn_okG c.F_is_whole sc_is_whole rfl fun cdv A outer s H E hr gd =>
  ss_cons (ss_ret (se_and (se_isi (T := "int") (se_var 0) rfl c.b_isinstance rfl c.b_int (by decide +kernel)) (se_one (se_not (se_isi (T := "bool") (se_var 0) rfl c.b_isinstance rfl c.b_bool (by decide +kernel)))))) (ss_nil)
theorem b_is_within (c : Cfg K mg) : Binds K c.d_is_within ["thing", "low", "high"] [] := c.F_is_within.bindsN fun _ _ _ _ _ _ us hl => match us, hl with | [_, _, _], _ => rfl
theorem ok_is_within (c : Cfg K mg) : FnG P w K mg base (L2.CX P w) (1 + 1) c.f_is_within c.d_is_within ["thing", "low", "high"] (spF K mg 3 F_is_within) :=
  fn_okG c.F_is_within sc_is_within rfl fun cdv A outer s H E hr gd =>
  ss_cons (ss_ret (se_and (se_callG (ok_is_whole c) (takes_of rfl rfl rfl rfl) (hr.mono (by decide)) gd rfl c.g_is_whole c.F_is_whole.kp (b_is_whole c) rfl (sa_cons (se_var 0) (sa_nil)) (al_cons (al_nil))) (se_one (se_chain op_le op_leP.d op_lt op_ltP.d (se_var 1) (se_var 0) (se_var 2))))) (ss_nil)
theorem b_is_name (c : Cfg K mg) : Binds K c.d_is_name ["thing"] [] := c.F_is_name.bindsN fun _ _ _ _ _ _ us hl => match us, hl with | [_], _ => rfl
theorem ok_is_name (c : Cfg K mg) : FnG P w K mg base (L2.CX P w) (0 + 1) c.f_is_name c.d_is_name ["thing"] (spF K mg 1 F_is_name) :=
  fn_okG c.F_is_name sc_is_name rfl fun cdv A outer s H E hr gd =>
  ss_cons (ss_if (st_of (sw_or (st_not (st_tru (se_isi (T := "str") (se_var 0) rfl c.b_isinstance rfl c.b_str (by decide +kernel)))) (sw_or1 (st_not (st_chain op_le op_leP.d op_le op_leP.d (se_int) (se_callB call_len call_lenD rfl c.b_len (by decide +kernel) (sa_cons (se_var 0) (sa_nil))) (se_gInt rfl c.g_LONGEST)))))) (ss_cons (ss_ret (se_bl)) (ss_nil)) (ss_nil)) (ss_cons (ss_ret (se_callB (cr_all rfl) call_allP.d rfl c.b_all (by decide +kernel) (sa_cons (se_comp (own := [("sign", 1)]) rfl sc_is_name.nd (si_seq (se_var 0)) (show BlkOk N_is_name (defScope s_is_name) _ _ from ⟨by rfl, by decide +kernel, by decide +kernel, by decide +kernel, by decide +kernel⟩) (fun _ _ _ _ _ => sg_name (i := 1) sc_is_name.nd rfl (.inl rfl)) (fun _ _ _ _ _ => sts_nil) (fun _ _ _ _ _ => se_in hr (se_var 1) (se_gStr rfl c.g_LETTERS))) (sa_nil)))) (ss_nil))
theorem b_many_stores (c : Cfg K mg) : Binds K c.d_many_stores ["boxes"] [] := c.F_many_stores.bindsN fun _ _ _ _ _ _ us hl => match us, hl with | [_], _ => rfl
theorem ok_many_stores (c : Cfg K mg) : FnG P w K mg base (L2.CX P w) (0 + 1) c.f_many_stores c.d_many_stores ["boxes"] (spF K mg 1 F_many_stores) :=
  fn_okG c.F_many_stores sc_many_stores rfl fun cdv A outer s H E hr gd =>
  ss_cons (ss_set (i := 1) sc_many_stores.nd rfl (.inl rfl) (se_int)) (ss_cons (ss_for (passes_of rfl) rfl (si_seq (se_var 0)) (sg_tup (n := 3) rfl (sgs_cons (sg_name (i := 2) sc_many_stores.nd rfl (.inl rfl)) (sgs_cons (sg_name (i := 3) sc_many_stores.nd rfl (.inl rfl)) (sgs_cons (sg_name (i := 4) sc_many_stores.nd rfl (.inl rfl)) (sgs_nil))))) (sss_wp (ss_cons (ss_set (i := 1) sc_many_stores.nd rfl (.inl rfl) (se_mul (se_var 1) (se_var 3))) (ss_nil)))) (ss_cons (ss_ret (se_var 1)) (ss_nil)))
theorem b_is_tuple (c : Cfg K mg) : Binds K c.d_is_tuple ["thing", "many"] [] := c.F_is_tuple.bindsN fun _ _ _ _ _ _ us hl => match us, hl with | [_, _], _ => rfl
theorem ok_is_tuple (c : Cfg K mg) : FnG P w K mg base (L2.CX P w) (0 + 1) c.f_is_tuple c.d_is_tuple ["thing", "many"] (spF K mg 2 F_is_tuple) :=
  fn_okG c.F_is_tuple sc_is_tuple rfl fun cdv A outer s H E hr gd =>
  ss_cons (ss_ret (se_and (se_isi (T := "tuple") (se_var 0) rfl c.b_isinstance rfl c.b_tuple (by decide +kernel)) (se_one (se_eq hr (se_callB call_len call_lenD rfl c.b_len (by decide +kernel) (sa_cons (se_var 0) (sa_nil))) (se_var 1))))) (ss_nil)
theorem b_is_box (c : Cfg K mg) : Binds K c.d_is_box ["thing"] [] := c.F_is_box.bindsN fun _ _ _ _ _ _ us hl => match us, hl with | [_], _ => rfl
theorem ok_is_box (c : Cfg K mg) : FnG P w K mg base (L2.CX P w) (2 + 1) c.f_is_box c.d_is_box ["thing"] (spF K mg 1 F_is_box) :=
  fn_okG c.F_is_box sc_is_box rfl fun cdv A outer s H E hr gd =>
  ss_cons (ss_if (st_of (sw_or (st_not (st_tru (se_callG (ok_is_tuple c) (takes_of rfl rfl rfl rfl) (hr.mono (by decide)) gd rfl c.g_is_tuple c.F_is_tuple.kp (b_is_tuple c) rfl (sa_cons (se_var 0) (sa_cons (se_int) (sa_nil))) (al_cons (al_cons (al_nil)))))) (sw_or (st_not (st_tru (se_callG (ok_is_name c) (takes_of rfl rfl rfl rfl) (hr.mono (by decide)) gd rfl c.g_is_name c.F_is_name.kp (b_is_name c) rfl (sa_cons (se_idx (se_var 0) (se_int) (fun _ _ => rfl)) (sa_nil)) (al_cons (al_nil))))) (sw_or1 (st_not (st_tru (se_callG (ok_is_within c) (takes_of rfl rfl rfl rfl) (hr.mono (by decide)) gd rfl c.g_is_within c.F_is_within.kp (b_is_within c) rfl (sa_cons (se_idx (se_var 0) (se_int) (fun _ _ => rfl)) (sa_cons (se_int) (sa_cons (se_add (se_gInt rfl c.g_MOST_WORTHS) (se_int)) (sa_nil)))) (al_cons (al_cons (al_cons (al_nil))))))))))) (ss_cons (ss_ret (se_bl)) (ss_nil)) (ss_nil)) (ss_cons (ss_ret (se_callG (ok_is_within c) (takes_of rfl rfl rfl rfl) (hr.mono (by decide)) gd rfl c.g_is_within c.F_is_within.kp (b_is_within c) rfl (sa_cons (se_idx (se_var 0) (se_int) (fun _ _ => rfl)) (sa_cons (se_int) (sa_cons (se_idx (se_var 0) (se_int) (fun _ _ => rfl)) (sa_nil)))) (al_cons (al_cons (al_cons (al_nil)))))) (ss_nil))
theorem b_look_at_boxes (c : Cfg K mg) : Binds K c.d_look_at_boxes ["boxes"] [] := c.F_look_at_boxes.bindsN fun _ _ _ _ _ _ us hl => match us, hl with | [_], _ => rfl
theorem ok_look_at_boxes (c : Cfg K mg) : FnG P w K mg base (L2.CX P w) (3 + 1) c.f_look_at_boxes c.d_look_at_boxes ["boxes"] (spF K mg 1 F_look_at_boxes) :=
  fn_okG c.F_look_at_boxes sc_look_at_boxes rfl fun cdv A outer s H E hr gd =>
  ss_cons (ss_if (st_not (st_chain op_le op_leP.d op_le op_leP.d (se_int) (se_callB call_len call_lenD rfl c.b_len (by decide +kernel) (sa_cons (se_var 0) (sa_nil))) (se_gInt rfl c.g_MOST_BOXES))) (ss_cons (ss_throw c.T_NoProgram c.iC_NoProgram c.tI_NoProgram (ok_init_NoProgram c) (hr.mono (by decide)) (bi_NoProgram c) (takes_of rfl rfl rfl rfl) rfl rfl c.g_NoProgram (sa_cons (se_str) (sa_cons (se_non) (sa_cons (se_non) (sa_nil)))) (al_cons (al_cons (al_cons (al_nil)))) (by decide)) (ss_nil)) (ss_nil)) (ss_cons (ss_for (passes_of rfl) rfl (si_enum rfl c.b_enumerate (se_var 0)) (sg_tup (n := 2) rfl (sgs_cons (sg_name (i := 1) sc_look_at_boxes.nd rfl (.inl rfl)) (sgs_cons (sg_name (i := 2) sc_look_at_boxes.nd rfl (.inl rfl)) (sgs_nil)))) (sss_wp (ss_cons (ss_if (st_of (sw_or (st_not (st_tru (se_callG (ok_is_box c) (takes_of rfl rfl rfl rfl) (hr.mono (by decide)) gd rfl c.g_is_box c.F_is_box.kp (b_is_box c) rfl (sa_cons (se_var 2) (sa_nil)) (al_cons (al_nil))))) (sw_or1 (st_in hr (se_idx (se_var 2) (se_int) (fun _ _ => rfl)) (se_comp (own := [("one", 3)]) rfl sc_look_at_boxes.nd (si_seq (se_slice (se_var 0) (ol := none) rfl (by exact ⟨_, rfl, se_var 1⟩))) (show BlkOk N_look_at_boxes (defScope s_look_at_boxes) _ _ from ⟨by rfl, by decide +kernel, by decide +kernel, by decide +kernel, by decide +kernel⟩) (fun _ _ _ _ _ => sg_name (i := 3) sc_look_at_boxes.nd rfl (.inl rfl)) (fun _ _ _ _ _ => sts_nil) (fun _ _ _ _ _ => se_idx (se_var 3) (se_int) (fun _ _ => rfl))))))) (ss_cons (ss_throw c.T_NoProgram c.iC_NoProgram c.tI_NoProgram (ok_init_NoProgram c) (hr.mono (by decide)) (bi_NoProgram c) (takes_of rfl rfl rfl rfl) rfl rfl c.g_NoProgram (sa_cons (se_str) (sa_cons (se_var 1) (sa_cons (se_non) (sa_nil)))) (al_cons (al_cons (al_cons (al_nil)))) (by decide)) (ss_nil)) (ss_nil)) (ss_cons (ss_if (st_gt (se_callG (ok_many_stores c) (takes_of rfl rfl rfl rfl) (hr.mono (by decide)) gd rfl c.g_many_stores c.F_many_stores.kp (b_many_stores c) rfl (sa_cons (se_slice (se_var 0) (ol := none) rfl (by exact ⟨_, rfl, se_add (se_var 1) (se_int)⟩)) (sa_nil)) (al_cons (al_nil))) (se_gInt rfl c.g_MOST_STORES)) (ss_cons (ss_throw c.T_NoProgram c.iC_NoProgram c.tI_NoProgram (ok_init_NoProgram c) (hr.mono (by decide)) (bi_NoProgram c) (takes_of rfl rfl rfl rfl) rfl rfl c.g_NoProgram (sa_cons (se_str) (sa_cons (se_var 1) (sa_cons (se_non) (sa_nil)))) (al_cons (al_cons (al_cons (al_nil)))) (by decide)) (ss_nil)) (ss_nil)) (ss_nil))))) (ss_nil))
theorem b_look_at_procs (c : Cfg K mg) : Binds K c.d_look_at_procs ["procs"] [] := c.F_look_at_procs.bindsN fun _ _ _ _ _ _ us hl => match us, hl with | [_], _ => rfl
theorem ok_look_at_procs (c : Cfg K mg) : FnG P w K mg base (L2.CX P w) (2 + 1) c.f_look_at_procs c.d_look_at_procs ["procs"] (spF K mg 1 F_look_at_procs) :=
  fn_okG c.F_look_at_procs sc_look_at_procs rfl fun cdv A outer s H E hr gd =>
  ss_cons (ss_if (st_not (st_chain op_le op_leP.d op_le op_leP.d (se_int) (se_callB call_len call_lenD rfl c.b_len (by decide +kernel) (sa_cons (se_var 0) (sa_nil))) (se_gInt rfl c.g_MOST_PROCS))) (ss_cons (ss_throw c.T_NoProgram c.iC_NoProgram c.tI_NoProgram (ok_init_NoProgram c) (hr.mono (by decide)) (bi_NoProgram c) (takes_of rfl rfl rfl rfl) rfl rfl c.g_NoProgram (sa_cons (se_str) (sa_cons (se_non) (sa_cons (se_non) (sa_nil)))) (al_cons (al_cons (al_cons (al_nil)))) (by decide)) (ss_nil)) (ss_nil)) (ss_cons (ss_for (passes_of rfl) rfl (si_enum rfl c.b_enumerate (se_var 0)) (sg_tup (n := 2) rfl (sgs_cons (sg_name (i := 1) sc_look_at_procs.nd rfl (.inl rfl)) (sgs_cons (sg_name (i := 2) sc_look_at_procs.nd rfl (.inl rfl)) (sgs_nil)))) (sss_wp (ss_cons (ss_if (st_of (sw_or (st_not (st_tru (se_callG (ok_is_tuple c) (takes_of rfl rfl rfl rfl) (hr.mono (by decide)) gd rfl c.g_is_tuple c.F_is_tuple.kp (b_is_tuple c) rfl (sa_cons (se_var 2) (sa_cons (se_int) (sa_nil))) (al_cons (al_cons (al_nil)))))) (sw_or (st_not (st_tru (se_callG (ok_is_name c) (takes_of rfl rfl rfl rfl) (hr.mono (by decide)) gd rfl c.g_is_name c.F_is_name.kp (b_is_name c) rfl (sa_cons (se_idx (se_var 2) (se_int) (fun _ _ => rfl)) (sa_nil)) (al_cons (al_nil))))) (sw_or1 (st_not (st_tru (se_isi (T := "list") (se_idx (se_var 2) (se_int) (fun _ _ => rfl)) rfl c.b_isinstance rfl c.b_list (by decide +kernel)))))))) (ss_cons (ss_throw c.T_NoProgram c.iC_NoProgram c.tI_NoProgram (ok_init_NoProgram c) (hr.mono (by decide)) (bi_NoProgram c) (takes_of rfl rfl rfl rfl) rfl rfl c.g_NoProgram (sa_cons (se_str) (sa_cons (se_var 1) (sa_cons (se_non) (sa_nil)))) (al_cons (al_cons (al_cons (al_nil)))) (by decide)) (ss_nil)) (ss_nil)) (ss_cons (ss_if (st_of (sw_or (st_not (st_chain op_le op_leP.d op_le op_leP.d (se_int) (se_callB call_len call_lenD rfl c.b_len (by decide +kernel) (sa_cons (se_idx (se_var 2) (se_int) (fun _ _ => rfl)) (sa_nil))) (se_gInt rfl c.g_MOST_ROWS))) (sw_or1 (st_in hr (se_idx (se_var 2) (se_int) (fun _ _ => rfl)) (se_comp (own := [("one", 3)]) rfl sc_look_at_procs.nd (si_seq (se_slice (se_var 0) (ol := none) rfl (by exact ⟨_, rfl, se_var 1⟩))) (show BlkOk N_look_at_procs (defScope s_look_at_procs) _ _ from ⟨by rfl, by decide +kernel, by decide +kernel, by decide +kernel, by decide +kernel⟩) (fun _ _ _ _ _ => sg_name (i := 3) sc_look_at_procs.nd rfl (.inl rfl)) (fun _ _ _ _ _ => sts_nil) (fun _ _ _ _ _ => se_idx (se_var 3) (se_int) (fun _ _ => rfl))))))) (ss_cons (ss_throw c.T_NoProgram c.iC_NoProgram c.tI_NoProgram (ok_init_NoProgram c) (hr.mono (by decide)) (bi_NoProgram c) (takes_of rfl rfl rfl rfl) rfl rfl c.g_NoProgram (sa_cons (se_str) (sa_cons (se_var 1) (sa_cons (se_non) (sa_nil)))) (al_cons (al_cons (al_cons (al_nil)))) (by decide)) (ss_nil)) (ss_nil)) (ss_nil))))) (ss_nil))
theorem b_worths_of (c : Cfg K mg) : Binds K c.d_worths_of ["boxes", "name"] [] := c.F_worths_of.bindsN fun _ _ _ _ _ _ us hl => match us, hl with | [_, _], _ => rfl
theorem ok_worths_of (c : Cfg K mg) : FnG P w K mg base (L2.CX P w) (0 + 1) c.f_worths_of c.d_worths_of ["boxes", "name"] (spF K mg 2 F_worths_of) :=
  fn_okG c.F_worths_of sc_worths_of rfl fun cdv A outer s H E hr gd =>
  ss_cons (ss_for (passes_of rfl) rfl (si_seq (se_var 0)) (sg_name (i := 2) sc_worths_of.nd rfl (.inl rfl)) (sss_wp (ss_cons (ss_if (st_of (sw_and (st_tru (se_isi (T := "str") (se_var 1) rfl c.b_isinstance rfl c.b_str (by decide +kernel))) (sw_and1 (st_eq hr (se_idx (se_var 2) (se_int) (fun _ _ => rfl)) (se_var 1))))) (ss_cons (ss_ret (se_idx (se_var 2) (se_int) (fun _ _ => rfl))) (ss_nil)) (ss_nil)) (ss_nil)))) (ss_cons (ss_ret (se_int)) (ss_nil))
theorem b_are_tos (c : Cfg K mg) : Binds K c.d_are_tos ["thing", "end"] [] := c.F_are_tos.bindsN fun _ _ _ _ _ _ us hl => match us, hl with | [_, _], _ => rfl
theorem ok_are_tos (c : Cfg K mg) : FnG P w K mg base (L2.CX P w) (2 + 1) c.f_are_tos c.d_are_tos ["thing", "end"] (spF K mg 2 F_are_tos) :=
  fn_okG c.F_are_tos sc_are_tos rfl fun cdv A outer s H E hr gd =>
  ss_cons (ss_ret (se_and (se_isi (T := "tuple") (se_var 0) rfl c.b_isinstance rfl c.b_tuple (by decide +kernel)) (se_one (se_callB (cr_all rfl) call_allP.d rfl c.b_all (by decide +kernel) (sa_cons (se_comp (own := [("to", 2)]) rfl sc_are_tos.nd (si_seq (se_var 0)) (show BlkOk N_are_tos (defScope s_are_tos) _ _ from ⟨by rfl, by decide +kernel, by decide +kernel, by decide +kernel, by decide +kernel⟩) (fun _ _ _ _ _ => sg_name (i := 2) sc_are_tos.nd rfl (.inl rfl)) (fun _ _ _ _ _ => sts_nil) (fun _ _ _ _ _ => se_callG (ok_is_within c) takes0 (hr.mono (by decide)) gd rfl c.g_is_within c.F_is_within.kp (b_is_within c) rfl (sa_cons (se_var 2) (sa_cons (se_int) (sa_cons (se_add (se_var 1) (se_int)) (sa_nil)))) (al_cons (al_cons (al_cons (al_nil)))))) (sa_nil)))))) (ss_nil)
theorem b_is_row_of_box (c : Cfg K mg) : Binds K c.d_is_row_of_box ["row", "worths", "end", "many_hands"] [] := c.F_is_row_of_box.bindsN fun _ _ _ _ _ _ us hl => match us, hl with | [_, _, _, _], _ => rfl
theorem ok_is_row_of_box (c : Cfg K mg) : FnG P w K mg base (L2.CX P w) (3 + 1) c.f_is_row_of_box c.d_is_row_of_box ["row", "worths", "end", "many_hands"] (spF K mg 4 F_is_row_of_box) :=
  fn_okG c.F_is_row_of_box sc_is_row_of_box rfl fun cdv A outer s H E hr gd =>
  ss_cons (ss_if (st_eq hr (se_var 1) (se_int)) (ss_cons (ss_ret (se_bl)) (ss_nil)) (ss_nil)) (ss_cons (ss_if (st_eq hr (se_idx (se_var 0) (se_int) (fun _ _ => rfl)) (se_str)) (ss_cons (ss_ret (se_and (se_eq hr (se_callB call_len call_lenD rfl c.b_len (by decide +kernel) (sa_cons (se_var 0) (sa_nil))) (se_int)) (se_and (se_callG (ok_is_within c) (takes_of rfl rfl rfl rfl) (hr.mono (by decide)) gd rfl c.g_is_within c.F_is_within.kp (b_is_within c) rfl (sa_cons (se_idx (se_var 0) (se_int) (fun _ _ => rfl)) (sa_cons (se_int) (sa_cons (se_var 1) (sa_nil)))) (al_cons (al_cons (al_cons (al_nil))))) (se_one (se_callG (ok_is_within c) (takes_of rfl rfl rfl rfl) (hr.mono (by decide)) gd rfl c.g_is_within c.F_is_within.kp (b_is_within c) rfl (sa_cons (se_idx (se_var 0) (se_int) (fun _ _ => rfl)) (sa_cons (se_int) (sa_cons (se_add (se_var 2) (se_int)) (sa_nil)))) (al_cons (al_cons (al_cons (al_nil))))))))) (ss_nil)) (ss_nil)) (ss_cons (ss_if (st_eq hr (se_idx (se_var 0) (se_int) (fun _ _ => rfl)) (se_str)) (ss_cons (ss_if (st_of (sw_or (st_ne hr (se_callB call_len call_lenD rfl c.b_len (by decide +kernel) (sa_cons (se_var 0) (sa_nil))) (se_int)) (sw_or (st_not (st_tru (se_callG (ok_is_within c) (takes_of rfl rfl rfl rfl) (hr.mono (by decide)) gd rfl c.g_is_within c.F_is_within.kp (b_is_within c) rfl (sa_cons (se_idx (se_var 0) (se_int) (fun _ _ => rfl)) (sa_cons (se_int) (sa_cons (se_var 1) (sa_nil)))) (al_cons (al_cons (al_cons (al_nil))))))) (sw_or1 (st_not (st_tru (se_callG (ok_is_within c) (takes_of rfl rfl rfl rfl) (hr.mono (by decide)) gd rfl c.g_is_within c.F_is_within.kp (b_is_within c) rfl (sa_cons (se_idx (se_var 0) (se_int) (fun _ _ => rfl)) (sa_cons (se_int) (sa_cons (se_var 1) (sa_nil)))) (al_cons (al_cons (al_cons (al_nil))))))))))) (ss_cons (ss_ret (se_bl)) (ss_nil)) (ss_nil)) (ss_cons (ss_ret (se_callG (ok_is_within c) (takes_of rfl rfl rfl rfl) (hr.mono (by decide)) gd rfl c.g_is_within c.F_is_within.kp (b_is_within c) rfl (sa_cons (se_idx (se_var 0) (se_int) (fun _ _ => rfl)) (sa_cons (se_int) (sa_cons (se_add (se_var 2) (se_int)) (sa_nil)))) (al_cons (al_cons (al_cons (al_nil)))))) (ss_nil))) (ss_nil)) (ss_cons (ss_if (st_eq hr (se_idx (se_var 0) (se_int) (fun _ _ => rfl)) (se_str)) (ss_cons (ss_if (st_of (sw_or (st_not (st_tru (se_callG (ok_is_tuple c) (takes_of rfl rfl rfl rfl) (hr.mono (by decide)) gd rfl c.g_is_tuple c.F_is_tuple.kp (b_is_tuple c) rfl (sa_cons (se_idx (se_var 0) (se_int) (fun _ _ => rfl)) (sa_cons (se_var 1) (sa_nil))) (al_cons (al_cons (al_nil)))))) (sw_or1 (st_ne hr (se_callB call_len call_lenD rfl c.b_len (by decide +kernel) (sa_cons (se_var 0) (sa_nil))) (se_int))))) (ss_cons (ss_ret (se_bl)) (ss_nil)) (ss_nil)) (ss_cons (ss_ret (se_callG (ok_are_tos c) (takes_of rfl rfl rfl rfl) (hr.mono (by decide)) gd rfl c.g_are_tos c.F_are_tos.kp (b_are_tos c) rfl (sa_cons (se_callTy call_tuple_of call_tupP.d rfl c.b_tuple (by decide +kernel) (sa_cons (se_comp (own := [("to", 4)]) rfl sc_is_row_of_box.nd (si_seq (se_idx (se_var 0) (se_int) (fun _ _ => rfl))) (show BlkOk N_is_row_of_box (defScope s_is_row_of_box) _ _ from ⟨by rfl, by decide +kernel, by decide +kernel, by decide +kernel, by decide +kernel⟩) (fun _ _ _ _ _ => sg_name (i := 4) sc_is_row_of_box.nd rfl (.inl rfl)) (fun _ _ _ _ _ => sts_one (st_nisN (se_var 4) (se_non))) (fun _ _ _ _ _ => se_var 4)) (sa_nil))) (sa_cons (se_var 2) (sa_nil))) (al_cons (al_cons (al_nil))))) (ss_nil))) (ss_nil)) (ss_cons (ss_ret (se_and (se_eq hr (se_callB call_len call_lenD rfl c.b_len (by decide +kernel) (sa_cons (se_var 0) (sa_nil))) (se_int)) (se_and (se_gt (se_var 1) (se_var 3)) (se_one (se_callG (ok_is_within c) (takes_of rfl rfl rfl rfl) (hr.mono (by decide)) gd rfl c.g_is_within c.F_is_within.kp (b_is_within c) rfl (sa_cons (se_idx (se_var 0) (se_int) (fun _ _ => rfl)) (sa_cons (se_int) (sa_cons (se_add (se_var 2) (se_int)) (sa_nil)))) (al_cons (al_cons (al_cons (al_nil))))))))) (ss_nil)))))
theorem b_is_row (c : Cfg K mg) : Binds K c.d_is_row ["row", "program", "end"] [] := c.F_is_row.bindsN fun _ _ _ _ _ _ us hl => match us, hl with | [_, _, _], _ => rfl
theorem ok_is_row (c : Cfg K mg) : FnG P w K mg base (L2.CX P w) (4 + 1) c.f_is_row c.d_is_row ["row", "program", "end"] (spF K mg 3 F_is_row) :=
  fn_okG c.F_is_row sc_is_row rfl fun cdv A outer s H E hr gd =>
  ss_cons (ss_asg (se_var 1) (sg_tup (n := 3) rfl (sgs_cons (sg_name (i := 3) sc_is_row.nd rfl (.inl rfl)) (sgs_cons (sg_name (i := 4) sc_is_row.nd rfl (.inl rfl)) (sgs_cons (sg_name (i := 5) sc_is_row.nd rfl (.inl rfl)) (sgs_nil)))))) (ss_cons (ss_if (st_of (sw_or (st_not (st_tru (se_isi (T := "tuple") (se_var 0) rfl c.b_isinstance rfl c.b_tuple (by decide +kernel)))) (sw_or (st_lt (se_callB call_len call_lenD rfl c.b_len (by decide +kernel) (sa_cons (se_var 0) (sa_nil))) (se_int)) (sw_or1 (st_not (st_tru (se_isi (T := "str") (se_idx (se_var 0) (se_int) (fun _ _ => rfl)) rfl c.b_isinstance rfl c.b_str (by decide +kernel)))))))) (ss_cons (ss_ret (se_bl)) (ss_nil)) (ss_nil)) (ss_cons (ss_if (st_eq hr (se_idx (se_var 0) (se_int) (fun _ _ => rfl)) (se_str)) (ss_cons (ss_ret (se_and (se_eq hr (se_callB call_len call_lenD rfl c.b_len (by decide +kernel) (sa_cons (se_var 0) (sa_nil))) (se_int)) (se_and (se_callG (ok_are_tos c) (takes_of rfl rfl rfl rfl) (hr.mono (by decide)) gd rfl c.g_are_tos c.F_are_tos.kp (b_are_tos c) rfl (sa_cons (se_idx (se_var 0) (se_int) (fun _ _ => rfl)) (sa_cons (se_var 2) (sa_nil))) (al_cons (al_cons (al_nil)))) (se_one (se_chain op_le op_leP.d op_le op_leP.d (se_int) (se_callB call_len call_lenD rfl c.b_len (by decide +kernel) (sa_cons (se_idx (se_var 0) (se_int) (fun _ _ => rfl)) (sa_nil))) (se_gInt rfl c.g_MOST_WAYS)))))) (ss_nil)) (ss_nil)) (ss_cons (ss_if (st_eq hr (se_idx (se_var 0) (se_int) (fun _ _ => rfl)) (se_str)) (ss_cons (ss_setLc (own := [("proc", 7)]) (i := 6) rfl sc_is_row.nd rfl rfl (sw_true rfl rfl rfl (by decide +kernel)) (si_seq (se_var 4)) (show BlkOk N_is_row (defScope s_is_row) _ _ from ⟨by rfl, by decide +kernel, by decide +kernel, by decide +kernel, by decide +kernel⟩) (fun _ _ _ _ _ => sg_name (i := 7) sc_is_row.nd rfl (.inl rfl)) (fun _ _ _ _ _ => sts_one (st_of (sw_and (st_tru (se_isi (T := "str") (se_idx (se_var 0) (se_int) (fun _ _ => rfl)) rfl c.b_isinstance rfl c.b_str (by decide +kernel))) (sw_and1 (st_eq hr (se_idx (se_var 7) (se_int) (fun _ _ => rfl)) (se_idx (se_var 0) (se_int) (fun _ _ => rfl))))))) (fun _ _ _ _ _ => se_idx (se_var 7) (se_int) (fun _ _ => rfl))) (ss_cons (ss_ret (se_and (se_eq hr (se_callB call_len call_lenD rfl c.b_len (by decide +kernel) (sa_cons (se_var 0) (sa_nil))) (se_int)) (se_and (se_ne hr (se_var 6) (se_lst (sa_nil))) (se_one (se_callG (ok_is_within c) (takes_of rfl rfl rfl rfl) (hr.mono (by decide)) gd rfl c.g_is_within c.F_is_within.kp (b_is_within c) rfl (sa_cons (se_idx (se_var 0) (se_int) (fun _ _ => rfl)) (sa_cons (se_int) (sa_cons (se_add (se_var 2) (se_int)) (sa_nil)))) (al_cons (al_cons (al_cons (al_nil))))))))) (ss_nil))) (ss_nil)) (ss_cons (ss_if (st_of (sw_or (st_nin hr (se_idx (se_var 0) (se_int) (fun _ _ => rfl)) (se_tup (sa_cons (se_str) (sa_cons (se_str) (sa_cons (se_str) (sa_cons (se_str) (sa_cons (se_str) (sa_nil)))))))) (sw_or1 (st_lt (se_callB call_len call_lenD rfl c.b_len (by decide +kernel) (sa_cons (se_var 0) (sa_nil))) (se_int))))) (ss_cons (ss_ret (se_bl)) (ss_nil)) (ss_nil)) (ss_cons (ss_ret (se_callG (ok_is_row_of_box c) (takes_of rfl rfl rfl rfl) (hr.mono (by decide)) gd rfl c.g_is_row_of_box c.F_is_row_of_box.kp (b_is_row_of_box c) rfl (sa_cons (se_var 0) (sa_cons (se_callG (ok_worths_of c) (takes_of rfl rfl rfl rfl) (hr.mono (by decide)) gd rfl c.g_worths_of c.F_worths_of.kp (b_worths_of c) rfl (sa_cons (se_var 3) (sa_cons (se_idx (se_var 0) (se_int) (fun _ _ => rfl)) (sa_nil))) (al_cons (al_cons (al_nil)))) (sa_cons (se_var 2) (sa_cons (se_callB call_len call_lenD rfl c.b_len (by decide +kernel) (sa_cons (se_var 5) (sa_nil))) (sa_nil))))) (al_cons (al_cons (al_cons (al_cons (al_nil))))))) (ss_nil))))))
theorem b_look_at_rows (c : Cfg K mg) : Binds K c.d_look_at_rows ["program"] [] := c.F_look_at_rows.bindsN fun _ _ _ _ _ _ us hl => match us, hl with | [_], _ => rfl
theorem ok_look_at_rows (c : Cfg K mg) : FnG P w K mg base (L2.CX P w) (5 + 1) c.f_look_at_rows c.d_look_at_rows ["program"] (spF K mg 1 F_look_at_rows) :=
  fn_okG c.F_look_at_rows sc_look_at_rows rfl fun cdv A outer s H E hr gd =>
  ss_cons (ss_for (passes_of rfl) rfl (si_enum rfl c.b_enumerate (se_idx (se_var 0) (se_int) (fun _ _ => rfl))) (sg_tup (n := 2) rfl (sgs_cons (sg_name (i := 1) sc_look_at_rows.nd rfl (.inl rfl)) (sgs_cons (sg_name (i := 2) sc_look_at_rows.nd rfl (.inl rfl)) (sgs_nil)))) (sss_wp (ss_cons (ss_for (passes_of rfl) rfl (si_enum rfl c.b_enumerate (se_idx (se_var 2) (se_int) (fun _ _ => rfl))) (sg_tup (n := 2) rfl (sgs_cons (sg_name (i := 3) sc_look_at_rows.nd rfl (.inl rfl)) (sgs_cons (sg_name (i := 4) sc_look_at_rows.nd rfl (.inl rfl)) (sgs_nil)))) (sss_wp (ss_cons (ss_if (st_not (st_tru (se_callG (ok_is_row c) (takes_of rfl rfl rfl rfl) (hr.mono (by decide)) gd rfl c.g_is_row c.F_is_row.kp (b_is_row c) rfl (sa_cons (se_var 4) (sa_cons (se_var 0) (sa_cons (se_callB call_len call_lenD rfl c.b_len (by decide +kernel) (sa_cons (se_idx (se_var 2) (se_int) (fun _ _ => rfl)) (sa_nil))) (sa_nil)))) (al_cons (al_cons (al_cons (al_nil))))))) (ss_cons (ss_throw c.T_NoProgram c.iC_NoProgram c.tI_NoProgram (ok_init_NoProgram c) (hr.mono (by decide)) (bi_NoProgram c) (takes_of rfl rfl rfl rfl) rfl rfl c.g_NoProgram (sa_cons (se_str) (sa_cons (se_var 1) (sa_cons (se_var 3) (sa_nil)))) (al_cons (al_cons (al_cons (al_nil)))) (by decide)) (ss_nil)) (ss_nil)) (ss_nil)))) (ss_nil)))) (ss_nil)
theorem b_look_at_hands (c : Cfg K mg) : Binds K c.d_look_at_hands ["hands", "procs"] [] := c.F_look_at_hands.bindsN fun _ _ _ _ _ _ us hl => match us, hl with | [_, _], _ => rfl
theorem ok_look_at_hands (c : Cfg K mg) : FnG P w K mg base (L2.CX P w) (2 + 1) c.f_look_at_hands c.d_look_at_hands ["hands", "procs"] (spF K mg 2 F_look_at_hands) :=
  fn_okG c.F_look_at_hands sc_look_at_hands rfl fun cdv A outer s H E hr gd =>
  ss_cons (ss_if (st_not (st_chain op_le op_leP.d op_le op_leP.d (se_int) (se_callB call_len call_lenD rfl c.b_len (by decide +kernel) (sa_cons (se_var 0) (sa_nil))) (se_gInt rfl c.g_MOST_HANDS))) (ss_cons (ss_throw c.T_NoProgram c.iC_NoProgram c.tI_NoProgram (ok_init_NoProgram c) (hr.mono (by decide)) (bi_NoProgram c) (takes_of rfl rfl rfl rfl) rfl rfl c.g_NoProgram (sa_cons (se_str) (sa_cons (se_non) (sa_cons (se_non) (sa_nil)))) (al_cons (al_cons (al_cons (al_nil)))) (by decide)) (ss_nil)) (ss_nil)) (ss_cons (ss_setLc (own := [("proc", 5)]) (i := 2) rfl sc_look_at_hands.nd rfl rfl (sw_true rfl rfl rfl (by decide +kernel)) (si_seq (se_var 1)) (show BlkOk N_look_at_hands (defScope s_look_at_hands) _ _ from ⟨by rfl, by decide +kernel, by decide +kernel, by decide +kernel, by decide +kernel⟩) (fun _ _ _ _ _ => sg_name (i := 5) sc_look_at_hands.nd rfl (.inl rfl)) (fun _ _ _ _ _ => sts_nil) (fun _ _ _ _ _ => se_idx (se_var 5) (se_int) (fun _ _ => rfl))) (ss_cons (ss_for (passes_of rfl) rfl (si_enum rfl c.b_enumerate (se_var 0)) (sg_tup (n := 2) rfl (sgs_cons (sg_name (i := 3) sc_look_at_hands.nd rfl (.inl rfl)) (sgs_cons (sg_name (i := 4) sc_look_at_hands.nd rfl (.inl rfl)) (sgs_nil)))) (sss_wp (ss_cons (ss_if (st_of (sw_or (st_not (st_tru (se_callG (ok_is_tuple c) (takes_of rfl rfl rfl rfl) (hr.mono (by decide)) gd rfl c.g_is_tuple c.F_is_tuple.kp (b_is_tuple c) rfl (sa_cons (se_var 4) (sa_cons (se_int) (sa_nil))) (al_cons (al_cons (al_nil)))))) (sw_or (st_not (st_tru (se_callG (ok_is_name c) (takes_of rfl rfl rfl rfl) (hr.mono (by decide)) gd rfl c.g_is_name c.F_is_name.kp (b_is_name c) rfl (sa_cons (se_idx (se_var 4) (se_int) (fun _ _ => rfl)) (sa_nil)) (al_cons (al_nil))))) (sw_or (st_not (st_tru (se_callG (ok_is_name c) (takes_of rfl rfl rfl rfl) (hr.mono (by decide)) gd rfl c.g_is_name c.F_is_name.kp (b_is_name c) rfl (sa_cons (se_idx (se_var 4) (se_int) (fun _ _ => rfl)) (sa_nil)) (al_cons (al_nil))))) (sw_or1 (st_nin hr (se_idx (se_var 4) (se_int) (fun _ _ => rfl)) (se_var 2))))))) (ss_cons (ss_throw c.T_NoProgram c.iC_NoProgram c.tI_NoProgram (ok_init_NoProgram c) (hr.mono (by decide)) (bi_NoProgram c) (takes_of rfl rfl rfl rfl) rfl rfl c.g_NoProgram (sa_cons (se_str) (sa_cons (se_var 3) (sa_cons (se_non) (sa_nil)))) (al_cons (al_cons (al_cons (al_nil)))) (by decide)) (ss_nil)) (ss_nil)) (ss_cons (ss_if (st_in hr (se_idx (se_var 4) (se_int) (fun _ _ => rfl)) (se_comp (own := [("one", 6)]) rfl sc_look_at_hands.nd (si_seq (se_slice (se_var 0) (ol := none) rfl (by exact ⟨_, rfl, se_var 3⟩))) (show BlkOk N_look_at_hands (defScope s_look_at_hands) _ _ from ⟨by rfl, by decide +kernel, by decide +kernel, by decide +kernel, by decide +kernel⟩) (fun _ _ _ _ _ => sg_name (i := 6) sc_look_at_hands.nd rfl (.inl rfl)) (fun _ _ _ _ _ => sts_nil) (fun _ _ _ _ _ => se_idx (se_var 6) (se_int) (fun _ _ => rfl)))) (ss_cons (ss_throw c.T_NoProgram c.iC_NoProgram c.tI_NoProgram (ok_init_NoProgram c) (hr.mono (by decide)) (bi_NoProgram c) (takes_of rfl rfl rfl rfl) rfl rfl c.g_NoProgram (sa_cons (se_str) (sa_cons (se_var 3) (sa_cons (se_non) (sa_nil)))) (al_cons (al_cons (al_cons (al_nil)))) (by decide)) (ss_nil)) (ss_nil)) (ss_nil))))) (ss_nil)))
theorem b_look_at (c : Cfg K mg) : Binds K c.d_look_at ["thing"] [] := c.F_look_at.bindsN fun _ _ _ _ _ _ us hl => match us, hl with | [_], _ => rfl
theorem ok_look_at (c : Cfg K mg) : FnG P w K mg base (L2.CX P w) (6 + 1) c.f_look_at c.d_look_at ["thing"] (spF K mg 1 F_look_at) :=
  fn_okG c.F_look_at sc_look_at rfl fun cdv A outer s H E hr gd =>
  ss_cons (ss_if (st_of (sw_or (st_not (st_tru (se_callG (ok_is_tuple c) (takes_of rfl rfl rfl rfl) (hr.mono (by decide)) gd rfl c.g_is_tuple c.F_is_tuple.kp (b_is_tuple c) rfl (sa_cons (se_var 0) (sa_cons (se_int) (sa_nil))) (al_cons (al_cons (al_nil)))))) (sw_or1 (st_not (st_tru (se_callB (cr_all rfl) call_allP.d rfl c.b_all (by decide +kernel) (sa_cons (se_comp (own := [("part", 1)]) rfl sc_look_at.nd (si_seq (se_var 0)) (show BlkOk N_look_at (defScope s_look_at) _ _ from ⟨by rfl, by decide +kernel, by decide +kernel, by decide +kernel, by decide +kernel⟩) (fun _ _ _ _ _ => sg_name (i := 1) sc_look_at.nd rfl (.inl rfl)) (fun _ _ _ _ _ => sts_nil) (fun _ _ _ _ _ => se_isi (T := "list") (se_var 1) rfl c.b_isinstance rfl c.b_list (by decide +kernel))) (sa_nil)))))))) (ss_cons (ss_throw c.T_NoProgram c.iC_NoProgram c.tI_NoProgram (ok_init_NoProgram c) (hr.mono (by decide)) (bi_NoProgram c) (takes_of rfl rfl rfl rfl) rfl rfl c.g_NoProgram (sa_cons (se_str) (sa_cons (se_non) (sa_cons (se_non) (sa_nil)))) (al_cons (al_cons (al_cons (al_nil)))) (by decide)) (ss_nil)) (ss_nil)) (ss_cons (ss_expr (se_callG (ok_look_at_boxes c) (takes_of rfl rfl rfl rfl) (hr.mono (by decide)) gd rfl c.g_look_at_boxes c.F_look_at_boxes.kp (b_look_at_boxes c) rfl (sa_cons (se_idx (se_var 0) (se_int) (fun _ _ => rfl)) (sa_nil)) (al_cons (al_nil)))) (ss_cons (ss_expr (se_callG (ok_look_at_procs c) (takes_of rfl rfl rfl rfl) (hr.mono (by decide)) gd rfl c.g_look_at_procs c.F_look_at_procs.kp (b_look_at_procs c) rfl (sa_cons (se_idx (se_var 0) (se_int) (fun _ _ => rfl)) (sa_nil)) (al_cons (al_nil)))) (ss_cons (ss_expr (se_callG (ok_look_at_rows c) (takes_of rfl rfl rfl rfl) (hr.mono (by decide)) gd rfl c.g_look_at_rows c.F_look_at_rows.kp (b_look_at_rows c) rfl (sa_cons (se_var 0) (sa_nil)) (al_cons (al_nil)))) (ss_cons (ss_expr (se_callG (ok_look_at_hands c) (takes_of rfl rfl rfl rfl) (hr.mono (by decide)) gd rfl c.g_look_at_hands c.F_look_at_hands.kp (b_look_at_hands c) rfl (sa_cons (se_idx (se_var 0) (se_int) (fun _ _ => rfl)) (sa_cons (se_idx (se_var 0) (se_int) (fun _ _ => rfl)) (sa_nil))) (al_cons (al_cons (al_nil))))) (ss_nil)))))
theorem b_is_figure (c : Cfg K mg) : Binds K c.d_is_figure ["word"] [] := c.F_is_figure.bindsN fun _ _ _ _ _ _ us hl => match us, hl with | [_], _ => rfl
theorem ok_is_figure (c : Cfg K mg) : FnG P w K mg base (L2.CX P w) (0 + 1) c.f_is_figure c.d_is_figure ["word"] (spF K mg 1 F_is_figure) :=
  fn_okG c.F_is_figure sc_is_figure rfl fun cdv A outer s H E hr gd =>
  ss_cons (ss_ret (se_and (se_eq hr (se_callB call_len call_lenD rfl c.b_len (by decide +kernel) (sa_cons (se_var 0) (sa_nil))) (se_int)) (se_one (se_in hr (se_var 0) (se_gStr rfl c.g_FIGURES))))) (ss_nil)
theorem b_part_in (c : Cfg K mg) : Binds K c.d_part_in ["word", "kind"] [] := c.F_part_in.bindsN fun _ _ _ _ _ _ us hl => match us, hl with | [_, _], _ => rfl
theorem ok_part_in (c : Cfg K mg) : FnG P w K mg base (L2.CX P w) (1 + 1) c.f_part_in c.d_part_in ["word", "kind"] (spF K mg 2 F_part_in) :=
  fn_okG c.F_part_in sc_part_in rfl fun cdv A outer s H E hr gd =>
  ss_cons (ss_if (st_of (sw_and (st_eq hr (se_var 1) (se_str)) (sw_and1 (st_tru (se_callG (ok_is_name c) (takes_of rfl rfl rfl rfl) (hr.mono (by decide)) gd rfl c.g_is_name c.F_is_name.kp (b_is_name c) rfl (sa_cons (se_var 0) (sa_nil)) (al_cons (al_nil))))))) (ss_cons (ss_ret (se_var 0)) (ss_nil)) (ss_nil)) (ss_cons (ss_if (st_of (sw_and (st_eq hr (se_var 1) (se_str)) (sw_and1 (st_tru (se_callG (ok_is_figure c) (takes_of rfl rfl rfl rfl) (hr.mono (by decide)) gd rfl c.g_is_figure c.F_is_figure.kp (b_is_figure c) rfl (sa_cons (se_var 0) (sa_nil)) (al_cons (al_nil))))))) (ss_cons (ss_ret (se_callTy call_int_str call_intSP.d rfl c.b_int (by decide +kernel) (sa_cons (se_var 0) (sa_nil)))) (ss_nil)) (ss_nil)) (ss_cons (ss_ret (se_non)) (ss_nil)))
theorem b_parts_in (c : Cfg K mg) : Binds K c.d_parts_in ["words", "form"] [] := c.F_parts_in.bindsN fun _ _ _ _ _ _ us hl => match us, hl with | [_, _], _ => rfl
theorem ok_parts_in (c : Cfg K mg) : FnG P w K mg base (L2.CX P w) (2 + 1) c.f_parts_in c.d_parts_in ["words", "form"] (spF K mg 2 F_parts_in) :=
  fn_okG c.F_parts_in sc_parts_in rfl fun cdv A outer s H E hr gd =>
  ss_cons (ss_if (st_ne hr (se_callB call_len call_lenD rfl c.b_len (by decide +kernel) (sa_cons (se_var 0) (sa_nil))) (se_callB call_len call_lenD rfl c.b_len (by decide +kernel) (sa_cons (se_var 1) (sa_nil)))) (ss_cons (ss_ret (se_non)) (ss_nil)) (ss_nil)) (ss_cons (ss_setLc (own := [("word", 3), ("kind", 4)]) (i := 2) rfl sc_parts_in.nd rfl rfl (sw_true rfl rfl rfl (by decide +kernel)) (si_zipS rfl c.b_zip (se_var 0) (se_var 1)) (show BlkOk N_parts_in (defScope s_parts_in) _ _ from ⟨by rfl, by decide +kernel, by decide +kernel, by decide +kernel, by decide +kernel⟩) (fun _ _ _ _ _ => sg_tup (n := 2) rfl (sgs_cons (sg_name (i := 3) sc_parts_in.nd rfl (.inl rfl)) (sgs_cons (sg_name (i := 4) sc_parts_in.nd rfl (.inl rfl)) (sgs_nil)))) (fun _ _ _ _ _ => sts_nil) (fun _ _ _ _ _ => se_callG (ok_part_in c) takes0 (hr.mono (by decide)) gd rfl c.g_part_in c.F_part_in.kp (b_part_in c) rfl (sa_cons (se_var 3) (sa_cons (se_var 4) (sa_nil))) (al_cons (al_cons (al_nil))))) (ss_cons (ss_if (st_in hr (se_non) (se_var 2)) (ss_cons (ss_ret (se_non)) (ss_nil)) (ss_nil)) (ss_cons (ss_ret (se_callTy call_tuple_of call_tupP.d rfl c.b_tuple (by decide +kernel) (sa_cons (se_var 2) (sa_nil)))) (ss_nil))))
theorem b_tos_in (c : Cfg K mg) : Binds K c.d_tos_in ["words", "blank"] [] := c.F_tos_in.bindsN fun _ _ _ _ _ _ us hl => match us, hl with | [_, _], _ => rfl
theorem ok_tos_in (c : Cfg K mg) : FnG P w K mg base (L2.CX P w) (1 + 1) c.f_tos_in c.d_tos_in ["words", "blank"] (spF K mg 2 F_tos_in) :=
  fn_okG c.F_tos_in sc_tos_in rfl fun cdv A outer s H E hr gd =>
  ss_cons (ss_if (st_eq hr (se_var 0) (se_lst (sa_nil))) (ss_cons (ss_ret (se_non)) (ss_nil)) (ss_nil)) (ss_cons (ss_for (passes_of rfl) rfl (si_seq (se_var 0)) (sg_name (i := 2) sc_tos_in.nd rfl (.inl rfl)) (sss_wp (ss_cons (ss_if (st_of (sw_and (st_ne hr (se_var 2) (se_var 1)) (sw_and1 (st_not (st_tru (se_callG (ok_is_figure c) (takes_of rfl rfl rfl rfl) (hr.mono (by decide)) gd rfl c.g_is_figure c.F_is_figure.kp (b_is_figure c) rfl (sa_cons (se_var 2) (sa_nil)) (al_cons (al_nil)))))))) (ss_cons (ss_ret (se_non)) (ss_nil)) (ss_nil)) (ss_nil)))) (ss_cons (ss_ret (se_callTy call_tuple_of call_tupP.d rfl c.b_tuple (by decide +kernel) (sa_cons (se_comp (own := [("word", 2)]) rfl sc_tos_in.nd (si_seq (se_var 0)) (show BlkOk N_tos_in (defScope s_tos_in) _ _ from ⟨by rfl, by decide +kernel, by decide +kernel, by decide +kernel, by decide +kernel⟩) (fun _ _ _ _ _ => sg_name (i := 2) sc_tos_in.nd rfl (.inl rfl)) (fun _ _ _ _ _ => sts_nil) (fun _ _ _ _ _ => se_if (st_eq hr (se_var 2) (se_var 1)) (se_non) (se_callTy call_int_str call_intSP.d rfl c.b_int (by decide +kernel) (sa_cons (se_var 2) (sa_nil))))) (sa_nil)))) (ss_nil)))
theorem b_row_in (c : Cfg K mg) : Binds K c.d_row_in ["words"] [] := c.F_row_in.bindsN fun _ _ _ _ _ _ us hl => match us, hl with | [_], _ => rfl
theorem ok_row_in (c : Cfg K mg) : FnG P w K mg base (L2.CX P w) (3 + 1) c.f_row_in c.d_row_in ["words"] (spF K mg 1 F_row_in) :=
  fn_okG c.F_row_in sc_row_in rfl fun cdv A outer s H E hr gd =>
  ss_cons (ss_if (st_eq hr (se_idx (se_var 0) (se_int) (fun _ _ => rfl)) (se_str)) (ss_cons (ss_set (i := 2) sc_row_in.nd rfl (.inl rfl) (se_callG (ok_tos_in c) (takes_of rfl rfl rfl rfl) (hr.mono (by decide)) gd rfl c.g_tos_in c.F_tos_in.kp (b_tos_in c) rfl (sa_cons (se_slice (se_var 0) (by exact ⟨_, rfl, se_int⟩) (oh := none) rfl) (sa_cons (se_non) (sa_nil))) (al_cons (al_cons (al_nil))))) (ss_cons (ss_if (st_isN (se_var 2) (se_non)) (ss_cons (ss_ret (se_non)) (ss_nil)) (ss_nil)) (ss_cons (ss_ret (se_tup (sa_cons (se_str) (sa_cons (se_var 2) (sa_nil))))) (ss_nil)))) (ss_nil)) (ss_cons (ss_if (st_eq hr (se_idx (se_var 0) (se_int) (fun _ _ => rfl)) (se_str)) (ss_cons (ss_set (i := 2) sc_row_in.nd rfl (.inl rfl) (se_callG (ok_tos_in c) (takes_of rfl rfl rfl rfl) (hr.mono (by decide)) gd rfl c.g_tos_in c.F_tos_in.kp (b_tos_in c) rfl (sa_cons (se_slice (se_var 0) (by exact ⟨_, rfl, se_int⟩) (oh := none) rfl) (sa_cons (se_str) (sa_nil))) (al_cons (al_cons (al_nil))))) (ss_cons (ss_if (st_of (sw_or (st_isN (se_var 2) (se_non)) (sw_or1 (st_not (st_tru (se_callG (ok_is_name c) (takes_of rfl rfl rfl rfl) (hr.mono (by decide)) gd rfl c.g_is_name c.F_is_name.kp (b_is_name c) rfl (sa_cons (se_idx (se_var 0) (se_int) (fun _ _ => rfl)) (sa_nil)) (al_cons (al_nil)))))))) (ss_cons (ss_ret (se_non)) (ss_nil)) (ss_nil)) (ss_cons (ss_ret (se_tup (sa_cons (se_str) (sa_cons (se_idx (se_var 0) (se_int) (fun _ _ => rfl)) (sa_cons (se_var 2) (sa_nil)))))) (ss_nil)))) (ss_nil)) (ss_cons (ss_if (st_ninC rfl c.c_FORMS (se_idx (se_var 0) (se_int) (fun _ _ => rfl))) (ss_cons (ss_ret (se_non)) (ss_nil)) (ss_nil)) (ss_cons (ss_set (i := 1) sc_row_in.nd rfl (.inl rfl) (se_callG (ok_parts_in c) (takes_of rfl rfl rfl rfl) (hr.mono (by decide)) gd rfl c.g_parts_in c.F_parts_in.kp (b_parts_in c) rfl (sa_cons (se_slice (se_var 0) (by exact ⟨_, rfl, se_int⟩) (oh := none) rfl) (sa_cons (se_atC rfl c.c_FORMS (se_idx (se_var 0) (se_int) (fun _ _ => rfl)) (fun _ _ => rfl)) (sa_nil))) (al_cons (al_cons (al_nil))))) (ss_cons (ss_if (st_isN (se_var 1) (se_non)) (ss_cons (ss_ret (se_non)) (ss_nil)) (ss_nil)) (ss_cons (ss_ret (se_add (se_tup (sa_cons (se_idx (se_var 0) (se_int) (fun _ _ => rfl)) (sa_nil))) (se_var 1))) (ss_nil))))))
theorem b_fits_behind (c : Cfg K mg) : Binds K c.d_fits_behind ["word", "procs", "hands"] [] := c.F_fits_behind.bindsN fun _ _ _ _ _ _ us hl => match us, hl with | [_, _, _], _ => rfl
theorem ok_fits_behind (c : Cfg K mg) : FnG P w K mg base (L2.CX P w) (0 + 1) c.f_fits_behind c.d_fits_behind ["word", "procs", "hands"] (spF K mg 3 F_fits_behind) :=
  fn_okG c.F_fits_behind sc_fits_behind rfl fun cdv A outer s H E hr gd =>
  ss_cons (ss_if (st_eq hr (se_var 0) (se_str)) (ss_cons (ss_ret (se_and (se_eq hr (se_var 1) (se_lst (sa_nil))) (se_one (se_eq hr (se_var 2) (se_lst (sa_nil)))))) (ss_nil)) (ss_nil)) (ss_cons (ss_if (st_eq hr (se_var 0) (se_str)) (ss_cons (ss_ret (se_bl)) (ss_nil)) (ss_nil)) (ss_cons (ss_if (st_eq hr (se_var 0) (se_str)) (ss_cons (ss_ret (se_eq hr (se_var 2) (se_lst (sa_nil)))) (ss_nil)) (ss_nil)) (ss_cons (ss_ret (se_and (se_ne hr (se_var 1) (se_lst (sa_nil))) (se_one (se_eq hr (se_var 2) (se_lst (sa_nil)))))) (ss_nil))))
theorem b_read (c : Cfg K mg) : Binds K c.d_read ["text"] [] := c.F_read.bindsN fun _ _ _ _ _ _ us hl => match us, hl with | [_], _ => rfl
theorem ok_read (c : Cfg K mg) : FnG P w K mg base (L2.CX P w) (7 + 1) c.f_read c.d_read ["text"] (spF K mg 1 F_read) :=
  fn_okG c.F_read sc_read rfl fun cdv A outer s H E hr gd =>
  ss_cons (ss_if (st_not (st_tru (se_isi (T := "str") (se_var 0) rfl c.b_isinstance rfl c.b_str (by decide +kernel)))) (ss_cons (ss_throw c.T_NoText c.iC_NoText c.tI_NoText (ok_init_NoText c) (hr.mono (by decide)) (bi_NoText c) (takes_of rfl rfl rfl rfl) rfl rfl c.g_NoText (sa_cons (se_int) (sa_nil)) (al_cons (al_nil)) (by decide)) (ss_nil)) (ss_nil)) (ss_cons (ss_set (i := 1) sc_read.nd rfl (.inl rfl) (se_lstN (sa_nil))) (ss_cons (ss_set (i := 2) sc_read.nd rfl (.inl rfl) (se_lstN (sa_nil))) (ss_cons (ss_set (i := 3) sc_read.nd rfl (.inl rfl) (se_lstN (sa_nil))) (ss_cons (ss_for (passes_of rfl) rfl (si_enum rfl c.b_enumerate (se_bm (.inr (.inl rfl)) PySem.F.plainAttrs_str PySem.F.slot_str_split PySem.F.type_str_split mt_split mt_splitP.d (se_var 0) (sa_cons (se_str) (sa_nil)))) (sg_tup (n := 2) rfl (sgs_cons (sg_name (i := 4) sc_read.nd rfl (.inl rfl)) (sgs_cons (sg_name (i := 5) sc_read.nd rfl (.inl rfl)) (sgs_nil)))) (sss_wp (ss_cons (ss_set (i := 7) sc_read.nd rfl (.inl rfl) (se_callG (ok_row_in c) (takes_of rfl rfl rfl rfl) (hr.mono (by decide)) gd rfl c.g_row_in c.F_row_in.kp (b_row_in c) rfl (sa_cons (se_bm (.inr (.inl rfl)) PySem.F.plainAttrs_str PySem.F.slot_str_split PySem.F.type_str_split mt_split mt_splitP.d (se_var 5) (sa_cons (se_str) (sa_nil))) (sa_nil)) (al_cons (al_nil)))) (ss_cons (ss_if (st_of (sw_or (st_isN (se_var 7) (se_non)) (sw_or1 (st_not (st_tru (se_callG (ok_fits_behind c) (takes_of rfl rfl rfl rfl) (hr.mono (by decide)) gd rfl c.g_fits_behind c.F_fits_behind.kp (b_fits_behind c) rfl (sa_cons (se_idx (se_var 7) (se_int) (fun _ _ => rfl)) (sa_cons (se_var 2) (sa_cons (se_var 3) (sa_nil)))) (al_cons (al_cons (al_cons (al_nil)))))))))) (ss_cons (ss_throw c.T_NoText c.iC_NoText c.tI_NoText (ok_init_NoText c) (hr.mono (by decide)) (bi_NoText c) (takes_of rfl rfl rfl rfl) rfl rfl c.g_NoText (sa_cons (se_var 4) (sa_nil)) (al_cons (al_nil)) (by decide)) (ss_nil)) (ss_nil)) (ss_cons (ss_if (st_eq hr (se_idx (se_var 7) (se_int) (fun _ _ => rfl)) (se_str)) (ss_cons (ss_expr (se_bm (.inl rfl) PySem.F.plainAttrs_list PySem.F.slot_list_append PySem.F.type_list_append mt_append mt_appendD (se_var 1) (sa_cons (se_slice (se_var 7) (by exact ⟨_, rfl, se_int⟩) (oh := none) rfl) (sa_nil)))) (ss_nil)) (ss_cons (ss_if (st_eq hr (se_idx (se_var 7) (se_int) (fun _ _ => rfl)) (se_str)) (ss_cons (ss_expr (se_bm (.inl rfl) PySem.F.plainAttrs_list PySem.F.slot_list_append PySem.F.type_list_append mt_append mt_appendD (se_var 3) (sa_cons (se_slice (se_var 7) (by exact ⟨_, rfl, se_int⟩) (oh := none) rfl) (sa_nil)))) (ss_nil)) (ss_cons (ss_if (st_eq hr (se_idx (se_var 7) (se_int) (fun _ _ => rfl)) (se_str)) (ss_cons (ss_expr (se_bm (.inl rfl) PySem.F.plainAttrs_list PySem.F.slot_list_append PySem.F.type_list_append mt_append mt_appendD (se_var 2) (sa_cons (se_tup (sa_cons (se_idx (se_var 7) (se_int) (fun _ _ => rfl)) (sa_cons (se_lstN (sa_nil)) (sa_nil)))) (sa_nil)))) (ss_nil)) (ss_cons (ss_expr (se_bm (.inl rfl) PySem.F.plainAttrs_list PySem.F.slot_list_append PySem.F.type_list_append mt_append mt_appendD (se_idx (se_idx (se_var 2) (se_neg (se_int)) (fun _ _ => rfl)) (se_int) (fun _ _ => rfl)) (sa_cons (se_var 7) (sa_nil)))) (ss_nil))) (ss_nil))) (ss_nil))) (ss_nil)))))) (ss_cons (ss_set (i := 6) sc_read.nd rfl (.inl rfl) (se_tup (sa_cons (se_var 1) (sa_cons (se_var 2) (sa_cons (se_var 3) (sa_nil)))))) (ss_cons (ss_expr (se_callG (ok_look_at c) (takes_of rfl rfl rfl rfl) (hr.mono (by decide)) gd rfl c.g_look_at c.F_look_at.kp (b_look_at c) rfl (sa_cons (se_var 6) (sa_nil)) (al_cons (al_nil)))) (ss_cons (ss_ret (se_var 6)) (ss_nil))))))))
theorem b__law_cell_at (c : Cfg K mg) : Binds K c.d__law_cell_at ["_law_script", "_law_k"] [] := c.F__law_cell_at.bindsN fun _ _ _ _ _ _ us hl => match us, hl with | [_, _], _ => rfl
theorem ok__law_cell_at (c : Cfg K mg) : FnG P w K mg base (L2.CX P w) (0 + 1) c.f__law_cell_at c.d__law_cell_at ["_law_script", "_law_k"] (spF K mg 2 F__law_cell_at) :=
  fn_okG c.F__law_cell_at sc__law_cell_at rfl fun cdv A outer s H E hr gd =>
  ss_cons (ss_if (st_lt (se_var 1) (se_callB call_len call_lenD rfl c.b_len (by decide +kernel) (sa_cons (se_var 0) (sa_nil)))) (ss_cons (ss_ret (se_idx (se_var 0) (se_var 1) (fun _ _ => rfl))) (ss_nil)) (ss_nil)) (ss_cons (ss_ret (se_int)) (ss_nil))
theorem b__law_digits (c : Cfg K mg) : Binds K c.d__law_digits ["_law_cell", "_law_turn", "_law_sizes"] [] := c.F__law_digits.bindsN fun _ _ _ _ _ _ us hl => match us, hl with | [_, _, _], _ => rfl
theorem ok__law_digits (c : Cfg K mg) : FnG P w K mg base (L2.CX P w) (0 + 1) c.f__law_digits c.d__law_digits ["_law_cell", "_law_turn", "_law_sizes"] (spF K mg 3 F__law_digits) :=
  fn_okG c.F__law_digits sc__law_digits rfl fun cdv A outer s H E hr gd =>
  ss_cons (ss_set (i := 3) sc__law_digits.nd rfl (.inl rfl) (se_callB call_abs call_absP.d rfl c.b_abs (by decide +kernel) (sa_cons (se_var 0) (sa_nil)))) (ss_cons (ss_set (i := 4) sc__law_digits.nd rfl (.inl rfl) (se_ge (se_var 3) (se_pow (se_int) (se_int)))) (ss_cons (ss_set (i := 5) sc__law_digits.nd rfl (.inl rfl) (se_add (se_mod (se_var 3) (se_int)) (se_mul (se_int) (se_var 1)))) (ss_cons (ss_set (i := 6) sc__law_digits.nd rfl (.inl rfl) (se_lstN (sa_nil))) (ss_cons (ss_for (passes_of rfl) rfl (si_enum rfl c.b_enumerate (se_var 2)) (sg_tup (n := 2) rfl (sgs_cons (sg_name (i := 7) sc__law_digits.nd rfl (.inl rfl)) (sgs_cons (sg_name (i := 8) sc__law_digits.nd rfl (.inl rfl)) (sgs_nil)))) (sss_wp (ss_cons (ss_if (st_of (sw_and (st_tru (se_var 4)) (sw_and1 (st_gt (se_var 3) (se_int))))) (ss_cons (ss_expr (se_bm (.inl rfl) PySem.F.plainAttrs_list PySem.F.slot_list_append PySem.F.type_list_append mt_append mt_appendD (se_var 6) (sa_cons (se_mod (se_var 3) (se_var 8)) (sa_nil)))) (ss_cons (ss_set (i := 3) sc__law_digits.nd rfl (.inl rfl) (se_fdiv (se_var 3) (se_var 8))) (ss_nil))) (ss_cons (ss_set (i := 5) sc__law_digits.nd rfl (.inl rfl) (se_mod (se_pow (se_add (se_var 5) (se_mul (se_int) (se_add (se_var 7) (se_int)))) (se_int)) (se_int))) (ss_cons (ss_expr (se_bm (.inl rfl) PySem.F.plainAttrs_list PySem.F.slot_list_append PySem.F.type_list_append mt_append mt_appendD (se_var 6) (sa_cons (se_mod (se_fdiv (se_var 5) (se_int)) (se_var 8)) (sa_nil)))) (ss_nil)))) (ss_nil)))) (ss_cons (ss_ret (se_var 6)) (ss_nil))))))
theorem b__law_name (c : Cfg K mg) : Binds K c.d__law_name ["_law_number", "_law_k"] [] := c.F__law_name.bindsN fun _ _ _ _ _ _ us hl => match us, hl with | [_, _], _ => rfl
theorem ok__law_name (c : Cfg K mg) : FnG P w K mg base (L2.CX P w) (0 + 1) c.f__law_name c.d__law_name ["_law_number", "_law_k"] (spF K mg 2 F__law_name) :=
  fn_okG c.F__law_name sc__law_name rfl fun cdv A outer s H E hr gd =>
  ss_cons (ss_set (i := 2) sc__law_name.nd rfl (.inl rfl) (se_idx (se_str) (se_mod (se_add (se_var 0) (se_mul (se_int) (se_var 1))) (se_int)) (fun _ _ => rfl))) (ss_cons (ss_set (i := 3) sc__law_name.nd rfl (.inl rfl) (se_idx (se_lst (sa_cons (se_str) (sa_cons (se_str) (sa_cons (se_str) (sa_cons (se_str) (sa_nil)))))) (se_mod (se_fdiv (se_var 0) (se_int)) (se_int)) (fun _ _ => rfl))) (ss_cons (ss_ret (se_idx (se_lst (sa_cons (se_add (se_var 3) (se_var 2)) (sa_cons (se_add (se_var 2) (se_var 3)) (sa_nil)))) (se_mod (se_fdiv (se_var 0) (se_int)) (se_int)) (fun _ _ => rfl))) (ss_nil)))
theorem b__law_to_row (c : Cfg K mg) : Binds K c.d__law_to_row ["_law_d", "_law_worths", "_law_end", "_law_hands"] [] := c.F__law_to_row.bindsN fun _ _ _ _ _ _ us hl => match us, hl with | [_, _, _, _], _ => rfl
theorem ok__law_to_row (c : Cfg K mg) : FnG P w K mg base (L2.CX P w) (0 + 1) c.f__law_to_row c.d__law_to_row ["_law_d", "_law_worths", "_law_end", "_law_hands"] (spF K mg 4 F__law_to_row) :=
  fn_okG c.F__law_to_row sc__law_to_row rfl fun cdv A outer s H E hr gd =>
  ss_cons (ss_set (i := 4) sc__law_to_row.nd rfl (.inr rfl) (se_comp (own := [("_law_j", 9)]) rfl sc__law_to_row.nd (si_rng1 rfl c.b_range (se_int)) (show BlkOk N__law_to_row (defScope s__law_to_row) _ _ from ⟨by rfl, by decide +kernel, by decide +kernel, by decide +kernel, by decide +kernel⟩) (fun _ _ _ _ _ => sg_name (i := 9) sc__law_to_row.nd rfl (.inl rfl)) (fun _ _ _ _ _ => sts_nil) (fun _ _ _ _ _ => se_mod (se_add (se_idx (se_var 0) (se_int) (fun _ _ => rfl)) (se_mul (se_var 9) (se_add (se_idx (se_var 0) (se_int) (fun _ _ => rfl)) (se_int)))) (se_add (se_var 2) (se_int))))) (ss_cons (ss_set (i := 5) sc__law_to_row.nd rfl (.inl rfl) (se_mod (se_idx (se_var 0) (se_int) (fun _ _ => rfl)) (se_callB call_len call_lenD rfl c.b_len (by decide +kernel) (sa_cons (se_var 1) (sa_nil))))) (ss_cons (ss_set (i := 6) sc__law_to_row.nd rfl (.inl rfl) (se_mod (se_idx (se_var 0) (se_int) (fun _ _ => rfl)) (se_idx (se_var 1) (se_var 5) (fun _ _ => rfl)))) (ss_cons (ss_set (i := 7) sc__law_to_row.nd rfl (.inl rfl) (se_mod (se_idx (se_var 0) (se_int) (fun _ _ => rfl)) (se_idx (se_var 1) (se_var 5) (fun _ _ => rfl)))) (ss_cons (ss_if (st_eq hr (se_idx (se_var 0) (se_int) (fun _ _ => rfl)) (se_int)) (ss_cons (ss_ret (se_tup (sa_cons (se_str) (sa_cons (se_var 5) (sa_cons (se_var 6) (sa_cons (se_idx (se_var 4) (se_int) (fun _ _ => rfl)) (sa_nil))))))) (ss_nil)) (ss_nil)) (ss_cons (ss_if (st_eq hr (se_idx (se_var 0) (se_int) (fun _ _ => rfl)) (se_int)) (ss_cons (ss_ret (se_tup (sa_cons (se_str) (sa_cons (se_var 5) (sa_cons (se_var 6) (sa_cons (se_var 7) (sa_cons (se_idx (se_var 4) (se_int) (fun _ _ => rfl)) (sa_nil)))))))) (ss_nil)) (ss_nil)) (ss_cons (ss_if (st_lt (se_idx (se_var 0) (se_int) (fun _ _ => rfl)) (se_int)) (ss_cons (ss_set (i := 8) sc__law_to_row.nd rfl (.inr rfl) (se_comp (own := [("_law_j", 9)]) rfl sc__law_to_row.nd (si_rng1 rfl c.b_range (se_int)) (show BlkOk N__law_to_row (defScope s__law_to_row) _ _ from ⟨by rfl, by decide +kernel, by decide +kernel, by decide +kernel, by decide +kernel⟩) (fun _ _ _ _ _ => sg_name (i := 9) sc__law_to_row.nd rfl (.inl rfl)) (fun _ _ _ _ _ => sts_nil) (fun _ _ _ _ _ => se_and (se_eq hr (se_idx (se_var 0) (se_int) (fun _ _ => rfl)) (se_int)) (se_one (se_eq hr (se_mod (se_fdiv (se_idx (se_var 0) (se_int) (fun _ _ => rfl)) (se_idx (se_lst (sa_cons (se_int) (sa_cons (se_int) (sa_cons (se_int) (sa_cons (se_int) (sa_cons (se_int) (sa_cons (se_int) (sa_nil)))))))) (se_var 9) (fun _ _ => rfl))) (se_int)) (se_int)))))) (ss_cons (ss_ret (se_tup (sa_cons (se_str) (sa_cons (se_var 5) (sa_cons (se_callTy call_tuple_of call_tupP.d rfl c.b_tuple (by decide +kernel) (sa_cons (se_comp (own := [("_law_j", 9)]) rfl sc__law_to_row.nd (si_rng1 rfl c.b_range (se_idx (se_var 1) (se_var 5) (fun _ _ => rfl))) (show BlkOk N__law_to_row (defScope s__law_to_row) _ _ from ⟨by rfl, by decide +kernel, by decide +kernel, by decide +kernel, by decide +kernel⟩) (fun _ _ _ _ _ => sg_name (i := 9) sc__law_to_row.nd rfl (.inl rfl)) (fun _ _ _ _ _ => sts_nil) (fun _ _ _ _ _ => se_idx (se_lst (sa_cons (se_idx (se_var 4) (se_var 9) (fun _ _ => rfl)) (sa_cons (se_non) (sa_nil)))) (se_callTy call_int1 call_intP.d rfl c.b_int (by decide +kernel) (sa_cons (se_idx (se_var 8) (se_var 9) (fun _ _ => rfl)) (sa_nil))) (fun _ _ => rfl))) (sa_nil))) (sa_nil)))))) (ss_nil))) (ss_nil)) (ss_cons (ss_if (st_eq hr (se_idx (se_var 0) (se_int) (fun _ _ => rfl)) (se_int)) (ss_cons (ss_ret (se_tup (sa_cons (se_str) (sa_cons (se_callTy call_tuple_of call_tupP.d rfl c.b_tuple (by decide +kernel) (sa_cons (se_slice (se_var 4) (ol := none) rfl (by exact ⟨_, rfl, se_add (se_int) (se_mod (se_idx (se_var 0) (se_int) (fun _ _ => rfl)) (se_int))⟩)) (sa_nil))) (sa_nil))))) (ss_nil)) (ss_nil)) (ss_cons (ss_if (st_eq hr (se_idx (se_var 0) (se_int) (fun _ _ => rfl)) (se_int)) (ss_cons (ss_ret (se_tup (sa_cons (se_str) (sa_cons (se_idx (se_var 0) (se_int) (fun _ _ => rfl)) (sa_cons (se_idx (se_var 4) (se_int) (fun _ _ => rfl)) (sa_nil)))))) (ss_nil)) (ss_nil)) (ss_cons (ss_if (st_le (se_idx (se_var 1) (se_var 5) (fun _ _ => rfl)) (se_var 3)) (ss_cons (ss_ret (se_tup (sa_cons (se_str) (sa_cons (se_var 5) (sa_cons (se_var 7) (sa_cons (se_idx (se_var 4) (se_int) (fun _ _ => rfl)) (sa_nil))))))) (ss_nil)) (ss_nil)) (ss_cons (ss_ret (se_tup (sa_cons (se_idx (se_lst (sa_cons (se_str) (sa_cons (se_str) (sa_nil)))) (se_sub (se_idx (se_var 0) (se_int) (fun _ _ => rfl)) (se_int)) (fun _ _ => rfl)) (sa_cons (se_var 5) (sa_cons (se_idx (se_var 4) (se_int) (fun _ _ => rfl)) (sa_nil)))))) (ss_nil)))))))))))
theorem b__law_plan (c : Cfg K mg) : Binds K c.d__law_plan ["_law_script", "_law_most_procs", "_law_most_rows", "_law_most_hands", "_law_menu_here"] [] := c.F__law_plan.bindsN fun _ _ _ _ _ _ us hl => match us, hl with | [_, _, _, _, _], _ => rfl
theorem ok__law_plan (c : Cfg K mg) : FnG P w K mg base (L2.CX P w) (1 + 1) c.f__law_plan c.d__law_plan ["_law_script", "_law_most_procs", "_law_most_rows", "_law_most_hands", "_law_menu_here"] (spF K mg 5 F__law_plan) :=
  fn_okG c.F__law_plan sc__law_plan rfl fun cdv A outer s H E hr gd =>
  ss_cons (ss_set (i := 5) sc__law_plan.nd rfl (.inr rfl) (se_callG (ok__law_digits c) (takes_of rfl rfl rfl rfl) (hr.mono (by decide)) gd rfl c.g__law_digits c.F__law_digits.kp (b__law_digits c) rfl (sa_cons (se_callG (ok__law_cell_at c) (takes_of rfl rfl rfl rfl) (hr.mono (by decide)) gd rfl c.g__law_cell_at c.F__law_cell_at.kp (b__law_cell_at c) rfl (sa_cons (se_var 0) (sa_cons (se_int) (sa_nil))) (al_cons (al_cons (al_nil)))) (sa_cons (se_int) (sa_cons (se_lst (sa_cons (se_callB call_len call_lenD rfl c.b_len (by decide +kernel) (sa_cons (se_var 4) (sa_nil))) (sa_cons (se_var 1) (sa_cons (se_var 3) (sa_cons (se_int) (sa_cons (se_int) (sa_cons (se_int) (sa_cons (se_int) (sa_cons (se_int) (sa_cons (se_int) (sa_nil))))))))))) (sa_nil)))) (al_cons (al_cons (al_cons (al_nil)))))) (ss_cons (ss_set (i := 6) sc__law_plan.nd rfl (.inr rfl) (se_idx (se_var 4) (se_idx (se_var 5) (se_int) (fun _ _ => rfl)) (fun _ _ => rfl))) (ss_cons (ss_setLc (own := [("_law_k", 11)]) (i := 7) rfl sc__law_plan.nd rfl rfl (sw_true rfl rfl rfl (by decide +kernel)) (si_rng1 rfl c.b_range (se_callB call_len call_lenD rfl c.b_len (by decide +kernel) (sa_cons (se_var 6) (sa_nil)))) (show BlkOk N__law_plan (defScope s__law_plan) _ _ from ⟨by rfl, by decide +kernel, by decide +kernel, by decide +kernel, by decide +kernel⟩) (fun _ _ _ _ _ => sg_name (i := 11) sc__law_plan.nd rfl (.inl rfl)) (fun _ _ _ _ _ => sts_nil) (fun _ _ _ _ _ => se_mod (se_idx (se_var 5) (se_add (se_int) (se_var 11)) (fun _ _ => rfl)) (se_idx (se_var 6) (se_var 11) (fun _ _ => rfl)))) (ss_cons (ss_set (i := 8) sc__law_plan.nd rfl (.inr rfl) (se_add (se_int) (se_idx (se_var 5) (se_int) (fun _ _ => rfl)))) (ss_cons (ss_set (i := 9) sc__law_plan.nd rfl (.inr rfl) (se_comp (own := [("_law_k", 11)]) rfl sc__law_plan.nd (si_rng1 rfl c.b_range (se_add (se_int) (se_idx (se_var 5) (se_int) (fun _ _ => rfl)))) (show BlkOk N__law_plan (defScope s__law_plan) _ _ from ⟨by rfl, by decide +kernel, by decide +kernel, by decide +kernel, by decide +kernel⟩) (fun _ _ _ _ _ => sg_name (i := 11) sc__law_plan.nd rfl (.inl rfl)) (fun _ _ _ _ _ => sts_nil) (fun _ _ _ _ _ => se_mod (se_idx (se_var 5) (se_add (se_int) (se_var 11)) (fun _ _ => rfl)) (se_var 8)))) (ss_cons (ss_set (i := 10) sc__law_plan.nd rfl (.inl rfl) (se_lstN (sa_nil))) (ss_cons (ss_for (passes_of rfl) rfl (si_rng1 rfl c.b_range (se_var 8)) (sg_name (i := 11) sc__law_plan.nd rfl (.inl rfl)) (sss_wp (ss_cons (ss_set (i := 12) sc__law_plan.nd rfl (.inr rfl) (se_callG (ok__law_digits c) (takes_of rfl rfl rfl rfl) (hr.mono (by decide)) gd rfl c.g__law_digits c.F__law_digits.kp (b__law_digits c) rfl (sa_cons (se_callG (ok__law_cell_at c) (takes_of rfl rfl rfl rfl) (hr.mono (by decide)) gd rfl c.g__law_cell_at c.F__law_cell_at.kp (b__law_cell_at c) rfl (sa_cons (se_var 0) (sa_cons (se_add (se_int) (se_var 11)) (sa_nil))) (al_cons (al_cons (al_nil)))) (sa_cons (se_add (se_int) (se_var 11)) (sa_cons (se_add (se_lst (sa_cons (se_var 2) (sa_nil))) (se_mul (se_lst (sa_cons (se_int) (sa_cons (se_int) (sa_cons (se_int) (sa_cons (se_int) (sa_cons (se_int) (sa_cons (se_int) (sa_cons (se_int) (sa_cons (se_var 8) (sa_nil)))))))))) (se_var 2))) (sa_nil)))) (al_cons (al_cons (al_cons (al_nil)))))) (ss_cons (ss_set (i := 13) sc__law_plan.nd rfl (.inr rfl) (se_add (se_int) (se_idx (se_var 12) (se_int) (fun _ _ => rfl)))) (ss_cons (ss_expr (se_bm (.inl rfl) PySem.F.plainAttrs_list PySem.F.slot_list_append PySem.F.type_list_append mt_append mt_appendD (se_var 10) (sa_cons (se_comp (own := [("_law_j", 14)]) rfl sc__law_plan.nd (si_rng1 rfl c.b_range (se_var 13)) (show BlkOk N__law_plan (defScope s__law_plan) _ _ from ⟨by rfl, by decide +kernel, by decide +kernel, by decide +kernel, by decide +kernel⟩) (fun _ _ _ _ _ => sg_name (i := 14) sc__law_plan.nd rfl (.inl rfl)) (fun _ _ _ _ _ => sts_nil) (fun _ _ _ _ _ => se_callG (ok__law_to_row c) takes0 (hr.mono (by decide)) gd rfl c.g__law_to_row c.F__law_to_row.kp (b__law_to_row c) rfl (sa_cons (se_slice (se_var 12) (by exact ⟨_, rfl, se_add (se_int) (se_mul (se_int) (se_var 14))⟩) (by exact ⟨_, rfl, se_add (se_int) (se_mul (se_int) (se_var 14))⟩)) (sa_cons (se_var 6) (sa_cons (se_var 13) (sa_cons (se_callB call_len call_lenD rfl c.b_len (by decide +kernel) (sa_cons (se_var 9) (sa_nil))) (sa_nil))))) (al_cons (al_cons (al_cons (al_cons (al_nil))))))) (sa_nil)))) (ss_nil)))))) (ss_cons (ss_ret (se_tup (sa_cons (se_var 6) (sa_cons (se_var 7) (sa_cons (se_var 10) (sa_cons (se_var 9) (sa_nil))))))) (ss_nil))))))))
theorem b__law_program (c : Cfg K mg) : Binds K c.d__law_program ["_law_plan_here", "_law_number"] [] := c.F__law_program.bindsN fun _ _ _ _ _ _ us hl => match us, hl with | [_, _], _ => rfl
theorem ok__law_program (c : Cfg K mg) : FnG P w K mg base (L2.CX P w) (1 + 1) c.f__law_program c.d__law_program ["_law_plan_here", "_law_number"] (spF K mg 2 F__law_program) :=
  fn_okG c.F__law_program sc__law_program rfl fun cdv A outer s H E hr gd =>
  ss_cons (ss_asg (se_var 0) (sg_tup (n := 4) rfl (sgs_cons (sg_name (i := 2) sc__law_program.nd rfl (.inr rfl)) (sgs_cons (sg_name (i := 3) sc__law_program.nd rfl (.inr rfl)) (sgs_cons (sg_name (i := 4) sc__law_program.nd rfl (.inl rfl)) (sgs_cons (sg_name (i := 5) sc__law_program.nd rfl (.inl rfl)) (sgs_nil))))))) (ss_cons (ss_setLc (own := [("_law_k", 9)]) (i := 6) rfl sc__law_program.nd rfl rfl (sw_true rfl rfl rfl (by decide +kernel)) (si_rng1 rfl c.b_range (se_callB call_len call_lenD rfl c.b_len (by decide +kernel) (sa_cons (se_var 2) (sa_nil)))) (show BlkOk N__law_program (defScope s__law_program) _ _ from ⟨by rfl, by decide +kernel, by decide +kernel, by decide +kernel, by decide +kernel⟩) (fun _ _ _ _ _ => sg_name (i := 9) sc__law_program.nd rfl (.inl rfl)) (fun _ _ _ _ _ => sts_nil) (fun _ _ _ _ _ => se_tup (sa_cons (se_callG (ok__law_name c) takes0 (hr.mono (by decide)) gd rfl c.g__law_name c.F__law_name.kp (b__law_name c) rfl (sa_cons (se_mod (se_var 1) (se_int)) (sa_cons (se_var 9) (sa_nil))) (al_cons (al_cons (al_nil)))) (sa_cons (se_idx (se_var 2) (se_var 9) (fun _ _ => rfl)) (sa_cons (se_idx (se_var 3) (se_var 9) (fun _ _ => rfl)) (sa_nil)))))) (ss_cons (ss_set (i := 7) sc__law_program.nd rfl (.inr rfl) (se_comp (own := [("_law_k", 9)]) rfl sc__law_program.nd (si_rng1 rfl c.b_range (se_callB call_len call_lenD rfl c.b_len (by decide +kernel) (sa_cons (se_var 4) (sa_nil)))) (show BlkOk N__law_program (defScope s__law_program) _ _ from ⟨by rfl, by decide +kernel, by decide +kernel, by decide +kernel, by decide +kernel⟩) (fun _ _ _ _ _ => sg_name (i := 9) sc__law_program.nd rfl (.inl rfl)) (fun _ _ _ _ _ => sts_nil) (fun _ _ _ _ _ => se_callG (ok__law_name c) takes0 (hr.mono (by decide)) gd rfl c.g__law_name c.F__law_name.kp (b__law_name c) rfl (sa_cons (se_mod (se_fdiv (se_var 1) (se_int)) (se_int)) (sa_cons (se_var 9) (sa_nil))) (al_cons (al_cons (al_nil)))))) (ss_cons (ss_set (i := 8) sc__law_program.nd rfl (.inl rfl) (se_lstN (sa_nil))) (ss_cons (ss_for (passes_of rfl) rfl (si_enum rfl c.b_enumerate (se_var 4)) (sg_tup (n := 2) rfl (sgs_cons (sg_name (i := 9) sc__law_program.nd rfl (.inl rfl)) (sgs_cons (sg_name (i := 10) sc__law_program.nd rfl (.inl rfl)) (sgs_nil)))) (sss_wp (ss_cons (ss_set (i := 11) sc__law_program.nd rfl (.inl rfl) (se_lstN (sa_nil))) (ss_cons (ss_for (passes_of rfl) rfl (si_seq (se_var 10)) (sg_name (i := 12) sc__law_program.nd rfl (.inl rfl)) (sss_wp (ss_cons (ss_if (st_eq hr (se_idx (se_var 12) (se_int) (fun _ _ => rfl)) (se_str)) (ss_cons (ss_set (i := 12) sc__law_program.nd rfl (.inl rfl) (se_tup (sa_cons (se_str) (sa_cons (se_idx (se_var 7) (se_idx (se_var 12) (se_int) (fun _ _ => rfl)) (fun _ _ => rfl)) (sa_cons (se_idx (se_var 12) (se_int) (fun _ _ => rfl)) (sa_nil)))))) (ss_nil)) (ss_cons (ss_if (st_ne hr (se_idx (se_var 12) (se_int) (fun _ _ => rfl)) (se_str)) (ss_cons (ss_set (i := 12) sc__law_program.nd rfl (.inl rfl) (se_add (se_tup (sa_cons (se_idx (se_var 12) (se_int) (fun _ _ => rfl)) (sa_cons (se_idx (se_idx (se_var 6) (se_idx (se_var 12) (se_int) (fun _ _ => rfl)) (fun _ _ => rfl)) (se_int) (fun _ _ => rfl)) (sa_nil)))) (se_slice (se_var 12) (by exact ⟨_, rfl, se_int⟩) (oh := none) rfl))) (ss_nil)) (ss_nil)) (ss_nil))) (ss_cons (ss_expr (se_bm (.inl rfl) PySem.F.plainAttrs_list PySem.F.slot_list_append PySem.F.type_list_append mt_append mt_appendD (se_var 11) (sa_cons (se_var 12) (sa_nil)))) (ss_nil))))) (ss_cons (ss_expr (se_bm (.inl rfl) PySem.F.plainAttrs_list PySem.F.slot_list_append PySem.F.type_list_append mt_append mt_appendD (se_var 8) (sa_cons (se_tup (sa_cons (se_idx (se_var 7) (se_var 9) (fun _ _ => rfl)) (sa_cons (se_var 11) (sa_nil)))) (sa_nil)))) (ss_nil)))))) (ss_cons (ss_ret (se_tup (sa_cons (se_var 6) (sa_cons (se_var 8) (sa_cons (se_comp (own := [("_law_k", 9), ("_law_proc", 10)]) rfl sc__law_program.nd (si_enum rfl c.b_enumerate (se_var 5)) (show BlkOk N__law_program (defScope s__law_program) _ _ from ⟨by rfl, by decide +kernel, by decide +kernel, by decide +kernel, by decide +kernel⟩) (fun _ _ _ _ _ => sg_tup (n := 2) rfl (sgs_cons (sg_name (i := 9) sc__law_program.nd rfl (.inl rfl)) (sgs_cons (sg_name (i := 10) sc__law_program.nd rfl (.inl rfl)) (sgs_nil)))) (fun _ _ _ _ _ => sts_nil) (fun _ _ _ _ _ => se_tup (sa_cons (se_callG (ok__law_name c) takes0 (hr.mono (by decide)) gd rfl c.g__law_name c.F__law_name.kp (b__law_name c) rfl (sa_cons (se_mod (se_fdiv (se_var 1) (se_int)) (se_int)) (sa_cons (se_var 9) (sa_nil))) (al_cons (al_cons (al_nil)))) (sa_cons (se_idx (se_var 7) (se_var 10) (fun _ _ => rfl)) (sa_nil))))) (sa_nil)))))) (ss_nil))))))
theorem b__law_menu (c : Cfg K mg) : Binds K c.d__law_menu [] [] := c.F__law_menu.bindsN fun _ _ _ _ _ _ us hl => match us, hl with | [], _ => rfl
theorem ok__law_menu (c : Cfg K mg) : FnG P w K mg base (L2.CX P w) (0 + 1) c.f__law_menu c.d__law_menu [] (spF K mg 0 F__law_menu) :=
  fn_okG c.F__law_menu sc__law_menu rfl fun cdv A outer s H E hr gd =>
  ss_cons (ss_ret (se_lst (sa_cons (se_tup (sa_cons (se_int) (sa_nil))) (sa_cons (se_tup (sa_cons (se_int) (sa_nil))) (sa_cons (se_tup (sa_cons (se_int) (sa_nil))) (sa_cons (se_tup (sa_cons (se_int) (sa_nil))) (sa_cons (se_tup (sa_cons (se_int) (sa_nil))) (sa_cons (se_tup (sa_cons (se_int) (sa_cons (se_int) (sa_nil)))) (sa_cons (se_tup (sa_cons (se_int) (sa_cons (se_int) (sa_nil)))) (sa_cons (se_tup (sa_cons (se_int) (sa_cons (se_int) (sa_nil)))) (sa_cons (se_tup (sa_cons (se_int) (sa_cons (se_int) (sa_nil)))) (sa_cons (se_tup (sa_cons (se_int) (sa_cons (se_int) (sa_nil)))) (sa_cons (se_tup (sa_cons (se_int) (sa_cons (se_int) (sa_cons (se_int) (sa_nil))))) (sa_nil)))))))))))))) (ss_nil)
theorem b__law_to (c : Cfg K mg) : Binds K c.d__law_to ["_law_to_here"] [] := c.F__law_to.bindsN fun _ _ _ _ _ _ us hl => match us, hl with | [_], _ => rfl
theorem ok__law_to (c : Cfg K mg) : FnG P w K mg base (L2.CX P w) (0 + 1) c.f__law_to c.d__law_to ["_law_to_here"] (spF K mg 1 F__law_to) :=
  fn_okG c.F__law_to sc__law_to rfl fun cdv A outer s H E hr gd =>
  ss_cons (ss_if (st_isN (se_var 0) (se_non)) (ss_cons (ss_ret (se_str)) (ss_nil)) (ss_nil)) (ss_cons (ss_ret (se_callTy call_strA call_strP.d rfl c.b_str (by decide +kernel) (sa_cons (se_var 0) (sa_nil)))) (ss_nil))
theorem b__law_words (c : Cfg K mg) : Binds K c.d__law_words ["_law_row"] [] := c.F__law_words.bindsN fun _ _ _ _ _ _ us hl => match us, hl with | [_], _ => rfl
theorem ok__law_words (c : Cfg K mg) : FnG P w K mg base (L2.CX P w) (1 + 1) c.f__law_words c.d__law_words ["_law_row"] (spF K mg 1 F__law_words) :=
  fn_okG c.F__law_words sc__law_words rfl fun cdv A outer s H E hr gd =>
  ss_cons (ss_set (i := 1) sc__law_words.nd rfl (.inl rfl) (se_lstN (sa_cons (se_idx (se_var 0) (se_int) (fun _ _ => rfl)) (sa_nil)))) (ss_cons (ss_for (passes_of rfl) rfl (si_seq (se_slice (se_var 0) (by exact ⟨_, rfl, se_int⟩) (oh := none) rfl)) (sg_name (i := 2) sc__law_words.nd rfl (.inl rfl)) (sss_wp (ss_cons (ss_if (st_tru (se_isi (T := "tuple") (se_var 2) rfl c.b_isinstance rfl c.b_tuple (by decide +kernel))) (ss_cons (ss_set (i := 1) sc__law_words.nd rfl (.inl rfl) (se_addN (se_var 1) (se_comp (own := [("_law_to_here", 3)]) rfl sc__law_words.nd (si_seq (se_var 2)) (show BlkOk N__law_words (defScope s__law_words) _ _ from ⟨by rfl, by decide +kernel, by decide +kernel, by decide +kernel, by decide +kernel⟩) (fun _ _ _ _ _ => sg_name (i := 3) sc__law_words.nd rfl (.inl rfl)) (fun _ _ _ _ _ => sts_nil) (fun _ _ _ _ _ => se_callG (ok__law_to c) takes0 (hr.mono (by decide)) gd rfl c.g__law_to c.F__law_to.kp (b__law_to c) rfl (sa_cons (se_var 3) (sa_nil)) (al_cons (al_nil)))))) (ss_nil)) (ss_cons (ss_expr (se_bm (.inl rfl) PySem.F.plainAttrs_list PySem.F.slot_list_append PySem.F.type_list_append mt_append mt_appendD (se_var 1) (sa_cons (se_callTy call_strA call_strP.d rfl c.b_str (by decide +kernel) (sa_cons (se_var 2) (sa_nil))) (sa_nil)))) (ss_nil))) (ss_nil)))) (ss_cons (ss_ret (se_bm (.inr (.inl rfl)) PySem.F.plainAttrs_str PySem.F.slot_str_join PySem.F.type_str_join mt_join mt_joinP.d (se_str) (sa_cons (se_var 1) (sa_nil)))) (ss_nil)))
theorem b__law_text (c : Cfg K mg) : Binds K c.d__law_text ["_law_program_here"] [] := c.F__law_text.bindsN fun _ _ _ _ _ _ us hl => match us, hl with | [_], _ => rfl
theorem ok__law_text (c : Cfg K mg) : FnG P w K mg base (L2.CX P w) (2 + 1) c.f__law_text c.d__law_text ["_law_program_here"] (spF K mg 1 F__law_text) :=
  fn_okG c.F__law_text sc__law_text rfl fun cdv A outer s H E hr gd =>
  ss_cons (ss_asg (se_var 0) (sg_tup (n := 3) rfl (sgs_cons (sg_name (i := 1) sc__law_text.nd rfl (.inl rfl)) (sgs_cons (sg_name (i := 2) sc__law_text.nd rfl (.inl rfl)) (sgs_cons (sg_name (i := 3) sc__law_text.nd rfl (.inl rfl)) (sgs_nil)))))) (ss_cons (ss_setLc (own := [("_law_name_here", 5), ("_law_worths", 7), ("_law_first", 8)]) (i := 4) rfl sc__law_text.nd rfl rfl (sw_true rfl rfl rfl (by decide +kernel)) (si_seq (se_var 1)) (show BlkOk N__law_text (defScope s__law_text) _ _ from ⟨by rfl, by decide +kernel, by decide +kernel, by decide +kernel, by decide +kernel⟩) (fun _ _ _ _ _ => sg_tup (n := 3) rfl (sgs_cons (sg_name (i := 5) sc__law_text.nd rfl (.inl rfl)) (sgs_cons (sg_name (i := 7) sc__law_text.nd rfl (.inl rfl)) (sgs_cons (sg_name (i := 8) sc__law_text.nd rfl (.inl rfl)) (sgs_nil))))) (fun _ _ _ _ _ => sts_nil) (fun _ _ _ _ _ => se_add (se_add (se_add (se_add (se_add (se_str) (se_var 5)) (se_str)) (se_callTy call_strA call_strP.d rfl c.b_str (by decide +kernel) (sa_cons (se_var 7) (sa_nil)))) (se_str)) (se_callTy call_strA call_strP.d rfl c.b_str (by decide +kernel) (sa_cons (se_var 8) (sa_nil))))) (ss_cons (ss_for (passes_of rfl) rfl (si_seq (se_var 2)) (sg_tup (n := 2) rfl (sgs_cons (sg_name (i := 5) sc__law_text.nd rfl (.inl rfl)) (sgs_cons (sg_name (i := 6) sc__law_text.nd rfl (.inl rfl)) (sgs_nil)))) (sss_wp (ss_cons (ss_set (i := 4) sc__law_text.nd rfl (.inl rfl) (se_add (se_add (se_var 4) (se_lst (sa_cons (se_add (se_str) (se_var 5)) (sa_nil)))) (se_comp (own := [("_law_row", 9)]) rfl sc__law_text.nd (si_seq (se_var 6)) (show BlkOk N__law_text (defScope s__law_text) _ _ from ⟨by rfl, by decide +kernel, by decide +kernel, by decide +kernel, by decide +kernel⟩) (fun _ _ _ _ _ => sg_name (i := 9) sc__law_text.nd rfl (.inl rfl)) (fun _ _ _ _ _ => sts_nil) (fun _ _ _ _ _ => se_callG (ok__law_words c) takes0 (hr.mono (by decide)) gd rfl c.g__law_words c.F__law_words.kp (b__law_words c) rfl (sa_cons (se_var 9) (sa_nil)) (al_cons (al_nil)))))) (ss_nil)))) (ss_cons (ss_ret (se_bm (.inr (.inl rfl)) PySem.F.plainAttrs_str PySem.F.slot_str_join PySem.F.type_str_join mt_join mt_joinP.d (se_str) (sa_cons (se_add (se_var 4) (se_comp (own := [("_law_name_here", 5), ("_law_proc", 10)]) rfl sc__law_text.nd (si_seq (se_var 3)) (show BlkOk N__law_text (defScope s__law_text) _ _ from ⟨by rfl, by decide +kernel, by decide +kernel, by decide +kernel, by decide +kernel⟩) (fun _ _ _ _ _ => sg_tup (n := 2) rfl (sgs_cons (sg_name (i := 5) sc__law_text.nd rfl (.inl rfl)) (sgs_cons (sg_name (i := 10) sc__law_text.nd rfl (.inl rfl)) (sgs_nil)))) (fun _ _ _ _ _ => sts_nil) (fun _ _ _ _ _ => se_add (se_add (se_add (se_str) (se_var 5)) (se_str)) (se_var 10)))) (sa_nil)))) (ss_nil))))
theorem b__law_is (c : Cfg K mg) : Binds K c.d__law_is ["_law_found", "_law_due"] [] := c.F__law_is.bindsN fun _ _ _ _ _ _ us hl => match us, hl with | [_, _], _ => rfl
theorem ok__law_is__r0 (c : Cfg K mg) : FnG P w K mg base (L2.CX P w) (0 + 1) c.f__law_is c.d__law_is ["_law_found", "_law_due"] (spF K mg 2 F__law_is__r0) :=
  fn_okG c.F__law_is sc__law_is rfl fun cdv A outer s H E hr gd =>
  ss_cons (ss_if (st_tru (se_isiT (se_var 1) rfl c.b_isinstance (.cons rfl c.b_str rfl (by decide) (by decide) rfl (.cons rfl c.b_list rfl (by decide) (by decide) rfl (.cons rfl c.b_tuple rfl (by decide) (by decide) rfl (.nil)))))) (ss_cons (ss_for (passes_of rfl) rfl (si_rng1 rfl c.b_range (se_int)) (sg_name (i := 2) sc__law_is.nd rfl (.inl rfl)) (sss_wp (ss_cons (ss_set (i := 3) sc__law_is.nd rfl (.inl rfl) (se_idx (se_lst (sa_cons (se_isi (T := "str") (se_var 0) rfl c.b_isinstance rfl c.b_str (by decide +kernel)) (sa_cons (se_isi (T := "list") (se_var 0) rfl c.b_isinstance rfl c.b_list (by decide +kernel)) (sa_cons (se_isi (T := "tuple") (se_var 0) rfl c.b_isinstance rfl c.b_tuple (by decide +kernel)) (sa_nil))))) (se_var 2) (fun _ _ => rfl))) (ss_cons (ss_if (st_ne hr (se_var 3) (se_idx (se_lst (sa_cons (se_isi (T := "str") (se_var 1) rfl c.b_isinstance rfl c.b_str (by decide +kernel)) (sa_cons (se_isi (T := "list") (se_var 1) rfl c.b_isinstance rfl c.b_list (by decide +kernel)) (sa_cons (se_isi (T := "tuple") (se_var 1) rfl c.b_isinstance rfl c.b_tuple (by decide +kernel)) (sa_nil))))) (se_var 2) (fun _ _ => rfl))) (ss_cons (ss_ret (se_bl)) (ss_nil)) (ss_nil)) (ss_nil))))) (ss_cons (ss_if (st_of (sw_or (st_tru (se_isi (T := "str") (se_var 1) rfl c.b_isinstance rfl c.b_str (by decide +kernel))) (sw_or1 (st_ne hr (se_callB call_len call_lenD rfl c.b_len (by decide +kernel) (sa_cons (se_var 0) (sa_nil))) (se_callB call_len call_lenD rfl c.b_len (by decide +kernel) (sa_cons (se_var 1) (sa_nil))))))) (ss_cons (ss_ret (se_eq hr (se_var 0) (se_var 1))) (ss_nil)) (ss_nil)) (ss_cons (ss_ret (se_eq hr (se_comp (own := [("_law_k", 4)]) rfl sc__law_is.nd (si_rng1 rfl c.b_range (se_callB call_len call_lenD rfl c.b_len (by decide +kernel) (sa_cons (se_var 1) (sa_nil)))) (show BlkOk N__law_is (defScope s__law_is) _ _ from ⟨by rfl, by decide +kernel, by decide +kernel, by decide +kernel, by decide +kernel⟩) (fun _ _ _ _ _ => sg_name (i := 4) sc__law_is.nd rfl (.inl rfl)) (fun _ _ _ _ _ => sts_one (st_not (st_tru (se_never)))) (fun _ _ _ _ _ => se_var 4)) (se_lst (sa_nil)))) (ss_nil)))) (ss_nil)) (ss_cons (ss_if (st_isN (se_var 1) (se_non)) (ss_cons (ss_ret (se_isN (se_var 0) (se_non))) (ss_nil)) (ss_nil)) (ss_cons (ss_ret (se_and (se_isi (T := "int") (se_var 0) rfl c.b_isinstance rfl c.b_int (by decide +kernel)) (se_and (se_not (se_isi (T := "bool") (se_var 0) rfl c.b_isinstance rfl c.b_bool (by decide +kernel))) (se_one (se_eq hr (se_var 0) (se_var 1)))))) (ss_nil)))
theorem ok__law_is__r1 (c : Cfg K mg) : FnG P w K mg base (L2.CX P w) (1 + 1) c.f__law_is c.d__law_is ["_law_found", "_law_due"] (spF K mg 2 F__law_is__r1) :=
  fn_okG c.F__law_is sc__law_is rfl fun cdv A outer s H E hr gd =>
  ss_cons (ss_if (st_tru (se_isiT (se_var 1) rfl c.b_isinstance (.cons rfl c.b_str rfl (by decide) (by decide) rfl (.cons rfl c.b_list rfl (by decide) (by decide) rfl (.cons rfl c.b_tuple rfl (by decide) (by decide) rfl (.nil)))))) (ss_cons (ss_for (passes_of rfl) rfl (si_rng1 rfl c.b_range (se_int)) (sg_name (i := 2) sc__law_is.nd rfl (.inl rfl)) (sss_wp (ss_cons (ss_set (i := 3) sc__law_is.nd rfl (.inl rfl) (se_idx (se_lst (sa_cons (se_isi (T := "str") (se_var 0) rfl c.b_isinstance rfl c.b_str (by decide +kernel)) (sa_cons (se_isi (T := "list") (se_var 0) rfl c.b_isinstance rfl c.b_list (by decide +kernel)) (sa_cons (se_isi (T := "tuple") (se_var 0) rfl c.b_isinstance rfl c.b_tuple (by decide +kernel)) (sa_nil))))) (se_var 2) (fun _ _ => rfl))) (ss_cons (ss_if (st_ne hr (se_var 3) (se_idx (se_lst (sa_cons (se_isi (T := "str") (se_var 1) rfl c.b_isinstance rfl c.b_str (by decide +kernel)) (sa_cons (se_isi (T := "list") (se_var 1) rfl c.b_isinstance rfl c.b_list (by decide +kernel)) (sa_cons (se_isi (T := "tuple") (se_var 1) rfl c.b_isinstance rfl c.b_tuple (by decide +kernel)) (sa_nil))))) (se_var 2) (fun _ _ => rfl))) (ss_cons (ss_ret (se_bl)) (ss_nil)) (ss_nil)) (ss_nil))))) (ss_cons (ss_if (st_of (sw_or (st_tru (se_isi (T := "str") (se_var 1) rfl c.b_isinstance rfl c.b_str (by decide +kernel))) (sw_or1 (st_ne hr (se_callB call_len call_lenD rfl c.b_len (by decide +kernel) (sa_cons (se_var 0) (sa_nil))) (se_callB call_len call_lenD rfl c.b_len (by decide +kernel) (sa_cons (se_var 1) (sa_nil))))))) (ss_cons (ss_ret (se_eq hr (se_var 0) (se_var 1))) (ss_nil)) (ss_nil)) (ss_cons (ss_ret (se_eq hr (se_comp (own := [("_law_k", 4)]) rfl sc__law_is.nd (si_rng1 rfl c.b_range (se_callB call_len call_lenD rfl c.b_len (by decide +kernel) (sa_cons (se_var 1) (sa_nil)))) (show BlkOk N__law_is (defScope s__law_is) _ _ from ⟨by rfl, by decide +kernel, by decide +kernel, by decide +kernel, by decide +kernel⟩) (fun _ _ _ _ _ => sg_name (i := 4) sc__law_is.nd rfl (.inl rfl)) (fun _ _ _ _ _ => sts_one (st_not (st_tru (se_callG (ok__law_is__r0 c) takes0 (hr.mono (by decide)) gd rfl c.g__law_is c.F__law_is.kp (b__law_is c) rfl (sa_cons (se_idx (se_var 0) (se_var 4) (fun _ _ => rfl)) (sa_cons (se_idx (se_var 1) (se_var 4) (fun _ _ => rfl)) (sa_nil))) (al_cons (al_cons (al_nil))))))) (fun _ _ _ _ _ => se_var 4)) (se_lst (sa_nil)))) (ss_nil)))) (ss_nil)) (ss_cons (ss_if (st_isN (se_var 1) (se_non)) (ss_cons (ss_ret (se_isN (se_var 0) (se_non))) (ss_nil)) (ss_nil)) (ss_cons (ss_ret (se_and (se_isi (T := "int") (se_var 0) rfl c.b_isinstance rfl c.b_int (by decide +kernel)) (se_and (se_not (se_isi (T := "bool") (se_var 0) rfl c.b_isinstance rfl c.b_bool (by decide +kernel))) (se_one (se_eq hr (se_var 0) (se_var 1)))))) (ss_nil)))
theorem ok__law_is__r2 (c : Cfg K mg) : FnG P w K mg base (L2.CX P w) (2 + 1) c.f__law_is c.d__law_is ["_law_found", "_law_due"] (spF K mg 2 F__law_is__r2) :=
  fn_okG c.F__law_is sc__law_is rfl fun cdv A outer s H E hr gd =>
  ss_cons (ss_if (st_tru (se_isiT (se_var 1) rfl c.b_isinstance (.cons rfl c.b_str rfl (by decide) (by decide) rfl (.cons rfl c.b_list rfl (by decide) (by decide) rfl (.cons rfl c.b_tuple rfl (by decide) (by decide) rfl (.nil)))))) (ss_cons (ss_for (passes_of rfl) rfl (si_rng1 rfl c.b_range (se_int)) (sg_name (i := 2) sc__law_is.nd rfl (.inl rfl)) (sss_wp (ss_cons (ss_set (i := 3) sc__law_is.nd rfl (.inl rfl) (se_idx (se_lst (sa_cons (se_isi (T := "str") (se_var 0) rfl c.b_isinstance rfl c.b_str (by decide +kernel)) (sa_cons (se_isi (T := "list") (se_var 0) rfl c.b_isinstance rfl c.b_list (by decide +kernel)) (sa_cons (se_isi (T := "tuple") (se_var 0) rfl c.b_isinstance rfl c.b_tuple (by decide +kernel)) (sa_nil))))) (se_var 2) (fun _ _ => rfl))) (ss_cons (ss_if (st_ne hr (se_var 3) (se_idx (se_lst (sa_cons (se_isi (T := "str") (se_var 1) rfl c.b_isinstance rfl c.b_str (by decide +kernel)) (sa_cons (se_isi (T := "list") (se_var 1) rfl c.b_isinstance rfl c.b_list (by decide +kernel)) (sa_cons (se_isi (T := "tuple") (se_var 1) rfl c.b_isinstance rfl c.b_tuple (by decide +kernel)) (sa_nil))))) (se_var 2) (fun _ _ => rfl))) (ss_cons (ss_ret (se_bl)) (ss_nil)) (ss_nil)) (ss_nil))))) (ss_cons (ss_if (st_of (sw_or (st_tru (se_isi (T := "str") (se_var 1) rfl c.b_isinstance rfl c.b_str (by decide +kernel))) (sw_or1 (st_ne hr (se_callB call_len call_lenD rfl c.b_len (by decide +kernel) (sa_cons (se_var 0) (sa_nil))) (se_callB call_len call_lenD rfl c.b_len (by decide +kernel) (sa_cons (se_var 1) (sa_nil))))))) (ss_cons (ss_ret (se_eq hr (se_var 0) (se_var 1))) (ss_nil)) (ss_nil)) (ss_cons (ss_ret (se_eq hr (se_comp (own := [("_law_k", 4)]) rfl sc__law_is.nd (si_rng1 rfl c.b_range (se_callB call_len call_lenD rfl c.b_len (by decide +kernel) (sa_cons (se_var 1) (sa_nil)))) (show BlkOk N__law_is (defScope s__law_is) _ _ from ⟨by rfl, by decide +kernel, by decide +kernel, by decide +kernel, by decide +kernel⟩) (fun _ _ _ _ _ => sg_name (i := 4) sc__law_is.nd rfl (.inl rfl)) (fun _ _ _ _ _ => sts_one (st_not (st_tru (se_callG (ok__law_is__r1 c) takes0 (hr.mono (by decide)) gd rfl c.g__law_is c.F__law_is.kp (b__law_is c) rfl (sa_cons (se_idx (se_var 0) (se_var 4) (fun _ _ => rfl)) (sa_cons (se_idx (se_var 1) (se_var 4) (fun _ _ => rfl)) (sa_nil))) (al_cons (al_cons (al_nil))))))) (fun _ _ _ _ _ => se_var 4)) (se_lst (sa_nil)))) (ss_nil)))) (ss_nil)) (ss_cons (ss_if (st_isN (se_var 1) (se_non)) (ss_cons (ss_ret (se_isN (se_var 0) (se_non))) (ss_nil)) (ss_nil)) (ss_cons (ss_ret (se_and (se_isi (T := "int") (se_var 0) rfl c.b_isinstance rfl c.b_int (by decide +kernel)) (se_and (se_not (se_isi (T := "bool") (se_var 0) rfl c.b_isinstance rfl c.b_bool (by decide +kernel))) (se_one (se_eq hr (se_var 0) (se_var 1)))))) (ss_nil)))
theorem ok__law_is__r3 (c : Cfg K mg) : FnG P w K mg base (L2.CX P w) (3 + 1) c.f__law_is c.d__law_is ["_law_found", "_law_due"] (spF K mg 2 F__law_is__r3) :=
  fn_okG c.F__law_is sc__law_is rfl fun cdv A outer s H E hr gd =>
  ss_cons (ss_if (st_tru (se_isiT (se_var 1) rfl c.b_isinstance (.cons rfl c.b_str rfl (by decide) (by decide) rfl (.cons rfl c.b_list rfl (by decide) (by decide) rfl (.cons rfl c.b_tuple rfl (by decide) (by decide) rfl (.nil)))))) (ss_cons (ss_for (passes_of rfl) rfl (si_rng1 rfl c.b_range (se_int)) (sg_name (i := 2) sc__law_is.nd rfl (.inl rfl)) (sss_wp (ss_cons (ss_set (i := 3) sc__law_is.nd rfl (.inl rfl) (se_idx (se_lst (sa_cons (se_isi (T := "str") (se_var 0) rfl c.b_isinstance rfl c.b_str (by decide +kernel)) (sa_cons (se_isi (T := "list") (se_var 0) rfl c.b_isinstance rfl c.b_list (by decide +kernel)) (sa_cons (se_isi (T := "tuple") (se_var 0) rfl c.b_isinstance rfl c.b_tuple (by decide +kernel)) (sa_nil))))) (se_var 2) (fun _ _ => rfl))) (ss_cons (ss_if (st_ne hr (se_var 3) (se_idx (se_lst (sa_cons (se_isi (T := "str") (se_var 1) rfl c.b_isinstance rfl c.b_str (by decide +kernel)) (sa_cons (se_isi (T := "list") (se_var 1) rfl c.b_isinstance rfl c.b_list (by decide +kernel)) (sa_cons (se_isi (T := "tuple") (se_var 1) rfl c.b_isinstance rfl c.b_tuple (by decide +kernel)) (sa_nil))))) (se_var 2) (fun _ _ => rfl))) (ss_cons (ss_ret (se_bl)) (ss_nil)) (ss_nil)) (ss_nil))))) (ss_cons (ss_if (st_of (sw_or (st_tru (se_isi (T := "str") (se_var 1) rfl c.b_isinstance rfl c.b_str (by decide +kernel))) (sw_or1 (st_ne hr (se_callB call_len call_lenD rfl c.b_len (by decide +kernel) (sa_cons (se_var 0) (sa_nil))) (se_callB call_len call_lenD rfl c.b_len (by decide +kernel) (sa_cons (se_var 1) (sa_nil))))))) (ss_cons (ss_ret (se_eq hr (se_var 0) (se_var 1))) (ss_nil)) (ss_nil)) (ss_cons (ss_ret (se_eq hr (se_comp (own := [("_law_k", 4)]) rfl sc__law_is.nd (si_rng1 rfl c.b_range (se_callB call_len call_lenD rfl c.b_len (by decide +kernel) (sa_cons (se_var 1) (sa_nil)))) (show BlkOk N__law_is (defScope s__law_is) _ _ from ⟨by rfl, by decide +kernel, by decide +kernel, by decide +kernel, by decide +kernel⟩) (fun _ _ _ _ _ => sg_name (i := 4) sc__law_is.nd rfl (.inl rfl)) (fun _ _ _ _ _ => sts_one (st_not (st_tru (se_callG (ok__law_is__r2 c) takes0 (hr.mono (by decide)) gd rfl c.g__law_is c.F__law_is.kp (b__law_is c) rfl (sa_cons (se_idx (se_var 0) (se_var 4) (fun _ _ => rfl)) (sa_cons (se_idx (se_var 1) (se_var 4) (fun _ _ => rfl)) (sa_nil))) (al_cons (al_cons (al_nil))))))) (fun _ _ _ _ _ => se_var 4)) (se_lst (sa_nil)))) (ss_nil)))) (ss_nil)) (ss_cons (ss_if (st_isN (se_var 1) (se_non)) (ss_cons (ss_ret (se_isN (se_var 0) (se_non))) (ss_nil)) (ss_nil)) (ss_cons (ss_ret (se_and (se_isi (T := "int") (se_var 0) rfl c.b_isinstance rfl c.b_int (by decide +kernel)) (se_and (se_not (se_isi (T := "bool") (se_var 0) rfl c.b_isinstance rfl c.b_bool (by decide +kernel))) (se_one (se_eq hr (se_var 0) (se_var 1)))))) (ss_nil)))
theorem ok__law_is__r4 (c : Cfg K mg) : FnG P w K mg base (L2.CX P w) (4 + 1) c.f__law_is c.d__law_is ["_law_found", "_law_due"] (spF K mg 2 F__law_is__r4) :=
  fn_okG c.F__law_is sc__law_is rfl fun cdv A outer s H E hr gd =>
  ss_cons (ss_if (st_tru (se_isiT (se_var 1) rfl c.b_isinstance (.cons rfl c.b_str rfl (by decide) (by decide) rfl (.cons rfl c.b_list rfl (by decide) (by decide) rfl (.cons rfl c.b_tuple rfl (by decide) (by decide) rfl (.nil)))))) (ss_cons (ss_for (passes_of rfl) rfl (si_rng1 rfl c.b_range (se_int)) (sg_name (i := 2) sc__law_is.nd rfl (.inl rfl)) (sss_wp (ss_cons (ss_set (i := 3) sc__law_is.nd rfl (.inl rfl) (se_idx (se_lst (sa_cons (se_isi (T := "str") (se_var 0) rfl c.b_isinstance rfl c.b_str (by decide +kernel)) (sa_cons (se_isi (T := "list") (se_var 0) rfl c.b_isinstance rfl c.b_list (by decide +kernel)) (sa_cons (se_isi (T := "tuple") (se_var 0) rfl c.b_isinstance rfl c.b_tuple (by decide +kernel)) (sa_nil))))) (se_var 2) (fun _ _ => rfl))) (ss_cons (ss_if (st_ne hr (se_var 3) (se_idx (se_lst (sa_cons (se_isi (T := "str") (se_var 1) rfl c.b_isinstance rfl c.b_str (by decide +kernel)) (sa_cons (se_isi (T := "list") (se_var 1) rfl c.b_isinstance rfl c.b_list (by decide +kernel)) (sa_cons (se_isi (T := "tuple") (se_var 1) rfl c.b_isinstance rfl c.b_tuple (by decide +kernel)) (sa_nil))))) (se_var 2) (fun _ _ => rfl))) (ss_cons (ss_ret (se_bl)) (ss_nil)) (ss_nil)) (ss_nil))))) (ss_cons (ss_if (st_of (sw_or (st_tru (se_isi (T := "str") (se_var 1) rfl c.b_isinstance rfl c.b_str (by decide +kernel))) (sw_or1 (st_ne hr (se_callB call_len call_lenD rfl c.b_len (by decide +kernel) (sa_cons (se_var 0) (sa_nil))) (se_callB call_len call_lenD rfl c.b_len (by decide +kernel) (sa_cons (se_var 1) (sa_nil))))))) (ss_cons (ss_ret (se_eq hr (se_var 0) (se_var 1))) (ss_nil)) (ss_nil)) (ss_cons (ss_ret (se_eq hr (se_comp (own := [("_law_k", 4)]) rfl sc__law_is.nd (si_rng1 rfl c.b_range (se_callB call_len call_lenD rfl c.b_len (by decide +kernel) (sa_cons (se_var 1) (sa_nil)))) (show BlkOk N__law_is (defScope s__law_is) _ _ from ⟨by rfl, by decide +kernel, by decide +kernel, by decide +kernel, by decide +kernel⟩) (fun _ _ _ _ _ => sg_name (i := 4) sc__law_is.nd rfl (.inl rfl)) (fun _ _ _ _ _ => sts_one (st_not (st_tru (se_callG (ok__law_is__r3 c) takes0 (hr.mono (by decide)) gd rfl c.g__law_is c.F__law_is.kp (b__law_is c) rfl (sa_cons (se_idx (se_var 0) (se_var 4) (fun _ _ => rfl)) (sa_cons (se_idx (se_var 1) (se_var 4) (fun _ _ => rfl)) (sa_nil))) (al_cons (al_cons (al_nil))))))) (fun _ _ _ _ _ => se_var 4)) (se_lst (sa_nil)))) (ss_nil)))) (ss_nil)) (ss_cons (ss_if (st_isN (se_var 1) (se_non)) (ss_cons (ss_ret (se_isN (se_var 0) (se_non))) (ss_nil)) (ss_nil)) (ss_cons (ss_ret (se_and (se_isi (T := "int") (se_var 0) rfl c.b_isinstance rfl c.b_int (by decide +kernel)) (se_and (se_not (se_isi (T := "bool") (se_var 0) rfl c.b_isinstance rfl c.b_bool (by decide +kernel))) (se_one (se_eq hr (se_var 0) (se_var 1)))))) (ss_nil)))
theorem ok__law_is__r5 (c : Cfg K mg) : FnG P w K mg base (L2.CX P w) (5 + 1) c.f__law_is c.d__law_is ["_law_found", "_law_due"] (spF K mg 2 F__law_is__r5) :=
  fn_okG c.F__law_is sc__law_is rfl fun cdv A outer s H E hr gd =>
  ss_cons (ss_if (st_tru (se_isiT (se_var 1) rfl c.b_isinstance (.cons rfl c.b_str rfl (by decide) (by decide) rfl (.cons rfl c.b_list rfl (by decide) (by decide) rfl (.cons rfl c.b_tuple rfl (by decide) (by decide) rfl (.nil)))))) (ss_cons (ss_for (passes_of rfl) rfl (si_rng1 rfl c.b_range (se_int)) (sg_name (i := 2) sc__law_is.nd rfl (.inl rfl)) (sss_wp (ss_cons (ss_set (i := 3) sc__law_is.nd rfl (.inl rfl) (se_idx (se_lst (sa_cons (se_isi (T := "str") (se_var 0) rfl c.b_isinstance rfl c.b_str (by decide +kernel)) (sa_cons (se_isi (T := "list") (se_var 0) rfl c.b_isinstance rfl c.b_list (by decide +kernel)) (sa_cons (se_isi (T := "tuple") (se_var 0) rfl c.b_isinstance rfl c.b_tuple (by decide +kernel)) (sa_nil))))) (se_var 2) (fun _ _ => rfl))) (ss_cons (ss_if (st_ne hr (se_var 3) (se_idx (se_lst (sa_cons (se_isi (T := "str") (se_var 1) rfl c.b_isinstance rfl c.b_str (by decide +kernel)) (sa_cons (se_isi (T := "list") (se_var 1) rfl c.b_isinstance rfl c.b_list (by decide +kernel)) (sa_cons (se_isi (T := "tuple") (se_var 1) rfl c.b_isinstance rfl c.b_tuple (by decide +kernel)) (sa_nil))))) (se_var 2) (fun _ _ => rfl))) (ss_cons (ss_ret (se_bl)) (ss_nil)) (ss_nil)) (ss_nil))))) (ss_cons (ss_if (st_of (sw_or (st_tru (se_isi (T := "str") (se_var 1) rfl c.b_isinstance rfl c.b_str (by decide +kernel))) (sw_or1 (st_ne hr (se_callB call_len call_lenD rfl c.b_len (by decide +kernel) (sa_cons (se_var 0) (sa_nil))) (se_callB call_len call_lenD rfl c.b_len (by decide +kernel) (sa_cons (se_var 1) (sa_nil))))))) (ss_cons (ss_ret (se_eq hr (se_var 0) (se_var 1))) (ss_nil)) (ss_nil)) (ss_cons (ss_ret (se_eq hr (se_comp (own := [("_law_k", 4)]) rfl sc__law_is.nd (si_rng1 rfl c.b_range (se_callB call_len call_lenD rfl c.b_len (by decide +kernel) (sa_cons (se_var 1) (sa_nil)))) (show BlkOk N__law_is (defScope s__law_is) _ _ from ⟨by rfl, by decide +kernel, by decide +kernel, by decide +kernel, by decide +kernel⟩) (fun _ _ _ _ _ => sg_name (i := 4) sc__law_is.nd rfl (.inl rfl)) (fun _ _ _ _ _ => sts_one (st_not (st_tru (se_callG (ok__law_is__r4 c) takes0 (hr.mono (by decide)) gd rfl c.g__law_is c.F__law_is.kp (b__law_is c) rfl (sa_cons (se_idx (se_var 0) (se_var 4) (fun _ _ => rfl)) (sa_cons (se_idx (se_var 1) (se_var 4) (fun _ _ => rfl)) (sa_nil))) (al_cons (al_cons (al_nil))))))) (fun _ _ _ _ _ => se_var 4)) (se_lst (sa_nil)))) (ss_nil)))) (ss_nil)) (ss_cons (ss_if (st_isN (se_var 1) (se_non)) (ss_cons (ss_ret (se_isN (se_var 0) (se_non))) (ss_nil)) (ss_nil)) (ss_cons (ss_ret (se_and (se_isi (T := "int") (se_var 0) rfl c.b_isinstance rfl c.b_int (by decide +kernel)) (se_and (se_not (se_isi (T := "bool") (se_var 0) rfl c.b_isinstance rfl c.b_bool (by decide +kernel))) (se_one (se_eq hr (se_var 0) (se_var 1)))))) (ss_nil)))
theorem ok__law_is (c : Cfg K mg) : FnG P w K mg base (L2.CX P w) (6 + 1) c.f__law_is c.d__law_is ["_law_found", "_law_due"] (spF K mg 2 F__law_is) :=
  fn_okG c.F__law_is sc__law_is rfl fun cdv A outer s H E hr gd =>
  ss_cons (ss_if (st_tru (se_isiT (se_var 1) rfl c.b_isinstance (.cons rfl c.b_str rfl (by decide) (by decide) rfl (.cons rfl c.b_list rfl (by decide) (by decide) rfl (.cons rfl c.b_tuple rfl (by decide) (by decide) rfl (.nil)))))) (ss_cons (ss_for (passes_of rfl) rfl (si_rng1 rfl c.b_range (se_int)) (sg_name (i := 2) sc__law_is.nd rfl (.inl rfl)) (sss_wp (ss_cons (ss_set (i := 3) sc__law_is.nd rfl (.inl rfl) (se_idx (se_lst (sa_cons (se_isi (T := "str") (se_var 0) rfl c.b_isinstance rfl c.b_str (by decide +kernel)) (sa_cons (se_isi (T := "list") (se_var 0) rfl c.b_isinstance rfl c.b_list (by decide +kernel)) (sa_cons (se_isi (T := "tuple") (se_var 0) rfl c.b_isinstance rfl c.b_tuple (by decide +kernel)) (sa_nil))))) (se_var 2) (fun _ _ => rfl))) (ss_cons (ss_if (st_ne hr (se_var 3) (se_idx (se_lst (sa_cons (se_isi (T := "str") (se_var 1) rfl c.b_isinstance rfl c.b_str (by decide +kernel)) (sa_cons (se_isi (T := "list") (se_var 1) rfl c.b_isinstance rfl c.b_list (by decide +kernel)) (sa_cons (se_isi (T := "tuple") (se_var 1) rfl c.b_isinstance rfl c.b_tuple (by decide +kernel)) (sa_nil))))) (se_var 2) (fun _ _ => rfl))) (ss_cons (ss_ret (se_bl)) (ss_nil)) (ss_nil)) (ss_nil))))) (ss_cons (ss_if (st_of (sw_or (st_tru (se_isi (T := "str") (se_var 1) rfl c.b_isinstance rfl c.b_str (by decide +kernel))) (sw_or1 (st_ne hr (se_callB call_len call_lenD rfl c.b_len (by decide +kernel) (sa_cons (se_var 0) (sa_nil))) (se_callB call_len call_lenD rfl c.b_len (by decide +kernel) (sa_cons (se_var 1) (sa_nil))))))) (ss_cons (ss_ret (se_eq hr (se_var 0) (se_var 1))) (ss_nil)) (ss_nil)) (ss_cons (ss_ret (se_eq hr (se_comp (own := [("_law_k", 4)]) rfl sc__law_is.nd (si_rng1 rfl c.b_range (se_callB call_len call_lenD rfl c.b_len (by decide +kernel) (sa_cons (se_var 1) (sa_nil)))) (show BlkOk N__law_is (defScope s__law_is) _ _ from ⟨by rfl, by decide +kernel, by decide +kernel, by decide +kernel, by decide +kernel⟩) (fun _ _ _ _ _ => sg_name (i := 4) sc__law_is.nd rfl (.inl rfl)) (fun _ _ _ _ _ => sts_one (st_not (st_tru (se_callG (ok__law_is__r5 c) takes0 (hr.mono (by decide)) gd rfl c.g__law_is c.F__law_is.kp (b__law_is c) rfl (sa_cons (se_idx (se_var 0) (se_var 4) (fun _ _ => rfl)) (sa_cons (se_idx (se_var 1) (se_var 4) (fun _ _ => rfl)) (sa_nil))) (al_cons (al_cons (al_nil))))))) (fun _ _ _ _ _ => se_var 4)) (se_lst (sa_nil)))) (ss_nil)))) (ss_nil)) (ss_cons (ss_if (st_isN (se_var 1) (se_non)) (ss_cons (ss_ret (se_isN (se_var 0) (se_non))) (ss_nil)) (ss_nil)) (ss_cons (ss_ret (se_and (se_isi (T := "int") (se_var 0) rfl c.b_isinstance rfl c.b_int (by decide +kernel)) (se_and (se_not (se_isi (T := "bool") (se_var 0) rfl c.b_isinstance rfl c.b_bool (by decide +kernel))) (se_one (se_eq hr (se_var 0) (se_var 1)))))) (ss_nil)))
theorem b__law_program_at (c : Cfg K mg) : Binds K c.d__law_program_at ["_law_script", "_law_at"] [] := c.F__law_program_at.bindsN fun _ _ _ _ _ _ us hl => match us, hl with | [_, _], _ => rfl
theorem ok__law_program_at (c : Cfg K mg) : FnG P w K mg base (L2.CX P w) (2 + 1) c.f__law_program_at c.d__law_program_at ["_law_script", "_law_at"] (spF K mg 2 F__law_program_at) :=
  fn_okG c.F__law_program_at sc__law_program_at rfl fun cdv A outer s H E hr gd =>
  ss_cons (ss_set (i := 2) sc__law_program_at.nd rfl (.inl rfl) (se_callG (ok__law_plan c) (takes_of rfl rfl rfl rfl) (hr.mono (by decide)) gd rfl c.g__law_plan c.F__law_plan.kp (b__law_plan c) rfl (sa_cons (se_slice (se_var 0) (by exact ⟨_, rfl, se_var 1⟩) (by exact ⟨_, rfl, se_add (se_var 1) (se_int)⟩)) (sa_cons (se_int) (sa_cons (se_int) (sa_cons (se_int) (sa_cons (se_callG0 (ok__law_menu c) (takes_of rfl rfl rfl rfl) (hr.mono (by decide)) gd rfl c.g__law_menu c.F__law_menu.kp (b__law_menu c)) (sa_nil)))))) (al_cons (al_cons (al_cons (al_cons (al_cons (al_nil)))))))) (ss_cons (ss_ret (se_callG (ok__law_program c) (takes_of rfl rfl rfl rfl) (hr.mono (by decide)) gd rfl c.g__law_program c.F__law_program.kp (b__law_program c) rfl (sa_cons (se_var 2) (sa_cons (se_idx (se_callG (ok__law_digits c) (takes_of rfl rfl rfl rfl) (hr.mono (by decide)) gd rfl c.g__law_digits c.F__law_digits.kp (b__law_digits c) rfl (sa_cons (se_callG (ok__law_cell_at c) (takes_of rfl rfl rfl rfl) (hr.mono (by decide)) gd rfl c.g__law_cell_at c.F__law_cell_at.kp (b__law_cell_at c) rfl (sa_cons (se_var 0) (sa_cons (se_var 1) (sa_nil))) (al_cons (al_cons (al_nil)))) (sa_cons (se_int) (sa_cons (se_lst (sa_cons (se_pow (se_int) (se_int)) (sa_nil))) (sa_nil)))) (al_cons (al_cons (al_cons (al_nil))))) (se_int) (fun _ _ => rfl)) (sa_nil))) (al_cons (al_cons (al_nil))))) (ss_nil))
theorem ok_law {f : Addr} {fd : FuncData} (Fd : FnP K "law" s_law f fd) (c : Cfg K mg) : FnG P w K mg base CX0 (8 + 1) f fd ["_law_script"] (fun vs H Q _ => spF K mg 1 F_law08 vs H Q fun _ _ _ => False) :=
  fn_okLG Fd sc_law rfl fun cdv A outer s H E hr gd =>
  ss_cons (ss_set (i := 1) sc_law.nd rfl (.inl rfl) (se_callG (ok__law_program_at c) takes0 (hr.mono (by decide)) gd rfl c.g__law_program_at c.F__law_program_at.kp (b__law_program_at c) rfl (sa_cons (se_lst (sa_cons (se_int) (sa_nil))) (sa_cons (se_int) (sa_nil))) (al_cons (al_cons (al_nil))))) (ss_cons (ss_for (passes_of rfl) rfl (si_rng3 rfl c.b_range (se_int) (se_callB (call_max2 rfl) call_max2D rfl c.b_max (by decide +kernel) (sa_cons (se_int) (sa_cons (se_callB (call_min2 rfl) call_min2D rfl c.b_min (by decide +kernel) (sa_cons (se_callB call_len call_lenD rfl c.b_len (by decide +kernel) (sa_cons (se_var 0) (sa_nil))) (sa_cons (se_int) (sa_nil)))) (sa_nil)))) (se_int)) (sg_name (i := 2) sc_law.nd rfl (.inl rfl)) (sss_wp (ss_cons (ss_set (i := 3) sc_law.nd rfl (.inl rfl) (se_callG (ok__law_program_at c) takes0 (hr.mono (by decide)) gd rfl c.g__law_program_at c.F__law_program_at.kp (b__law_program_at c) rfl (sa_cons (se_var 0) (sa_cons (se_var 2) (sa_nil))) (al_cons (al_cons (al_nil))))) (ss_cons (ss_set (i := 4) sc_law.nd rfl (.inl rfl) (se_callG (ok__law_text c) takes0 (hr.mono (by decide)) gd rfl c.g__law_text c.F__law_text.kp (b__law_text c) rfl (sa_cons (se_var 3) (sa_nil)) (al_cons (al_nil)))) (ss_cons (ss_set (i := 5) sc_law.nd rfl (.inl rfl) (se_callT (ok_read c) takes0 (hr.mono (by decide)) gd rfl c.g_read c.F_read.kp (b_read c) rfl (sa_cons (se_var 4) (sa_nil)) (al_cons (al_nil)))) (ss_cons (ss_if (st_not (st_tru (se_callG (ok__law_is c) takes0 (hr.mono (by decide)) gd rfl c.g__law_is c.F__law_is.kp (b__law_is c) rfl (sa_cons (se_var 5) (sa_cons (se_var 3) (sa_nil))) (al_cons (al_cons (al_nil)))))) (ss_cons (ss_ret (se_bl)) (ss_nil)) (ss_nil)) (ss_cons (ss_set (i := 6) sc_law.nd rfl (.inl rfl) (se_callG (ok_read c) takes0 (hr.mono (by decide)) gd rfl c.g_read c.F_read.kp (b_read c) rfl (sa_cons (se_var 4) (sa_nil)) (al_cons (al_nil)))) (ss_cons (ss_expr (se_bm (.inl rfl) PySem.F.plainAttrs_list PySem.F.slot_list_append PySem.F.type_list_append mt_append mt_appendD (se_idx (se_var 5) (se_int) (fun _ _ => rfl)) (sa_cons (se_tup (sa_cons (se_str) (sa_cons (se_int) (sa_cons (se_int) (sa_nil))))) (sa_nil)))) (ss_cons (ss_expr (se_bm (.inl rfl) PySem.F.plainAttrs_list PySem.F.slot_list_append PySem.F.type_list_append mt_append mt_appendD (se_idx (se_idx (se_idx (se_var 5) (se_int) (fun _ _ => rfl)) (se_int) (fun _ _ => rfl)) (se_int) (fun _ _ => rfl)) (sa_cons (se_tup (sa_cons (se_str) (sa_cons (se_tup (sa_cons (se_int) (sa_nil))) (sa_nil)))) (sa_nil)))) (ss_cons (ss_if (st_not (st_tru (se_callG (ok__law_is c) takes0 (hr.mono (by decide)) gd rfl c.g__law_is c.F__law_is.kp (b__law_is c) rfl (sa_cons (se_sliceN (se_idx (se_var 5) (se_int) (fun _ _ => rfl)) (by exact ⟨_, rfl, se_int⟩) (oh := none) rfl) (sa_cons (se_slice (se_idx (se_var 3) (se_int) (fun _ _ => rfl)) (by exact ⟨_, rfl, se_int⟩) (oh := none) rfl) (sa_nil))) (al_cons (al_cons (al_nil)))))) (ss_cons (ss_ret (se_bl)) (ss_nil)) (ss_nil)) (ss_cons (ss_expr (se_bm0 (.inl rfl) PySem.F.plainAttrs_list PySem.F.slot_list_clear PySem.F.type_list_clear mt_clear mt_clearD (se_idx (se_var 5) (se_int) (fun _ _ => rfl)))) (ss_cons (ss_if (st_of (sw_or (st_not (st_tru (se_callG (ok__law_is c) takes0 (hr.mono (by decide)) gd rfl c.g__law_is c.F__law_is.kp (b__law_is c) rfl (sa_cons (se_var 6) (sa_cons (se_var 3) (sa_nil))) (al_cons (al_cons (al_nil)))))) (sw_or (st_not (st_tru (se_callG (ok__law_is c) takes0 (hr.mono (by decide)) gd rfl c.g__law_is c.F__law_is.kp (b__law_is c) rfl (sa_cons (se_callG (ok_read c) takes0 (hr.mono (by decide)) gd rfl c.g_read c.F_read.kp (b_read c) rfl (sa_cons (se_callG (ok__law_text c) takes0 (hr.mono (by decide)) gd rfl c.g__law_text c.F__law_text.kp (b__law_text c) rfl (sa_cons (se_var 1) (sa_nil)) (al_cons (al_nil))) (sa_nil)) (al_cons (al_nil))) (sa_cons (se_var 1) (sa_nil))) (al_cons (al_cons (al_nil)))))) (sw_or1 (st_not (st_tru (se_callG (ok__law_is c) takes0 (hr.mono (by decide)) gd rfl c.g__law_is c.F__law_is.kp (b__law_is c) rfl (sa_cons (se_callG (ok_read c) takes0 (hr.mono (by decide)) gd rfl c.g_read c.F_read.kp (b_read c) rfl (sa_cons (se_var 4) (sa_nil)) (al_cons (al_nil))) (sa_cons (se_var 3) (sa_nil))) (al_cons (al_cons (al_nil)))))))))) (ss_cons (ss_ret (se_bl)) (ss_nil)) (ss_nil)) (ss_cons (ss_set (i := 1) sc_law.nd rfl (.inl rfl) (se_var 3)) (ss_nil)))))))))))))) (ss_cons (ss_ret (se_bl)) (ss_nil)))
end
abbrev R : PySem.W.OpenRow := PySem.W.OpenLaw.row PySem.Challenge.rw_roundhand_k08_read_again
def dd_is_whole : He.DefD := ⟨("is_whole", none), "is_whole", "is_whole", defArgs s_is_whole, defBody s_is_whole, defScope s_is_whole, [], []⟩
def dd_is_within : He.DefD := ⟨("is_within", none), "is_within", "is_within", defArgs s_is_within, defBody s_is_within, defScope s_is_within, [], []⟩
def dd_is_name : He.DefD := ⟨("is_name", none), "is_name", "is_name", defArgs s_is_name, defBody s_is_name, defScope s_is_name, [], []⟩
def dd_many_stores : He.DefD := ⟨("many_stores", none), "many_stores", "many_stores", defArgs s_many_stores, defBody s_many_stores, defScope s_many_stores, [], []⟩
def dd_is_tuple : He.DefD := ⟨("is_tuple", none), "is_tuple", "is_tuple", defArgs s_is_tuple, defBody s_is_tuple, defScope s_is_tuple, [], []⟩
def dd_is_box : He.DefD := ⟨("is_box", none), "is_box", "is_box", defArgs s_is_box, defBody s_is_box, defScope s_is_box, [], []⟩
def dd_look_at_boxes : He.DefD := ⟨("look_at_boxes", none), "look_at_boxes", "look_at_boxes", defArgs s_look_at_boxes, defBody s_look_at_boxes, defScope s_look_at_boxes, [], []⟩
def dd_look_at_procs : He.DefD := ⟨("look_at_procs", none), "look_at_procs", "look_at_procs", defArgs s_look_at_procs, defBody s_look_at_procs, defScope s_look_at_procs, [], []⟩
def dd_worths_of : He.DefD := ⟨("worths_of", none), "worths_of", "worths_of", defArgs s_worths_of, defBody s_worths_of, defScope s_worths_of, [], []⟩
def dd_are_tos : He.DefD := ⟨("are_tos", none), "are_tos", "are_tos", defArgs s_are_tos, defBody s_are_tos, defScope s_are_tos, [], []⟩
def dd_is_row_of_box : He.DefD := ⟨("is_row_of_box", none), "is_row_of_box", "is_row_of_box", defArgs s_is_row_of_box, defBody s_is_row_of_box, defScope s_is_row_of_box, [], []⟩
def dd_is_row : He.DefD := ⟨("is_row", none), "is_row", "is_row", defArgs s_is_row, defBody s_is_row, defScope s_is_row, [], []⟩
def dd_look_at_rows : He.DefD := ⟨("look_at_rows", none), "look_at_rows", "look_at_rows", defArgs s_look_at_rows, defBody s_look_at_rows, defScope s_look_at_rows, [], []⟩
def dd_look_at_hands : He.DefD := ⟨("look_at_hands", none), "look_at_hands", "look_at_hands", defArgs s_look_at_hands, defBody s_look_at_hands, defScope s_look_at_hands, [], []⟩
def dd_look_at : He.DefD := ⟨("look_at", none), "look_at", "look_at", defArgs s_look_at, defBody s_look_at, defScope s_look_at, [], []⟩
def dd_is_figure : He.DefD := ⟨("is_figure", none), "is_figure", "is_figure", defArgs s_is_figure, defBody s_is_figure, defScope s_is_figure, [], []⟩
def dd_part_in : He.DefD := ⟨("part_in", none), "part_in", "part_in", defArgs s_part_in, defBody s_part_in, defScope s_part_in, [], []⟩
def dd_parts_in : He.DefD := ⟨("parts_in", none), "parts_in", "parts_in", defArgs s_parts_in, defBody s_parts_in, defScope s_parts_in, [], []⟩
def dd_tos_in : He.DefD := ⟨("tos_in", none), "tos_in", "tos_in", defArgs s_tos_in, defBody s_tos_in, defScope s_tos_in, [], []⟩
def dd_row_in : He.DefD := ⟨("row_in", none), "row_in", "row_in", defArgs s_row_in, defBody s_row_in, defScope s_row_in, [], []⟩
def dd_fits_behind : He.DefD := ⟨("fits_behind", none), "fits_behind", "fits_behind", defArgs s_fits_behind, defBody s_fits_behind, defScope s_fits_behind, [], []⟩
def dd_read : He.DefD := ⟨("read", none), "read", "read", defArgs s_read, defBody s_read, defScope s_read, [], []⟩
def dd__law_cell_at : He.DefD := ⟨("_law_cell_at", none), "_law_cell_at", "_law_cell_at", defArgs s__law_cell_at, defBody s__law_cell_at, defScope s__law_cell_at, [], []⟩
def dd__law_digits : He.DefD := ⟨("_law_digits", none), "_law_digits", "_law_digits", defArgs s__law_digits, defBody s__law_digits, defScope s__law_digits, [], []⟩
def dd__law_name : He.DefD := ⟨("_law_name", none), "_law_name", "_law_name", defArgs s__law_name, defBody s__law_name, defScope s__law_name, [], []⟩
def dd__law_to_row : He.DefD := ⟨("_law_to_row", none), "_law_to_row", "_law_to_row", defArgs s__law_to_row, defBody s__law_to_row, defScope s__law_to_row, [], []⟩
def dd__law_plan : He.DefD := ⟨("_law_plan", none), "_law_plan", "_law_plan", defArgs s__law_plan, defBody s__law_plan, defScope s__law_plan, [], []⟩
def dd__law_program : He.DefD := ⟨("_law_program", none), "_law_program", "_law_program", defArgs s__law_program, defBody s__law_program, defScope s__law_program, [], []⟩
def dd__law_menu : He.DefD := ⟨("_law_menu", none), "_law_menu", "_law_menu", defArgs s__law_menu, defBody s__law_menu, defScope s__law_menu, [], []⟩
def dd__law_to : He.DefD := ⟨("_law_to", none), "_law_to", "_law_to", defArgs s__law_to, defBody s__law_to, defScope s__law_to, [], []⟩
def dd__law_words : He.DefD := ⟨("_law_words", none), "_law_words", "_law_words", defArgs s__law_words, defBody s__law_words, defScope s__law_words, [], []⟩
def dd__law_text : He.DefD := ⟨("_law_text", none), "_law_text", "_law_text", defArgs s__law_text, defBody s__law_text, defScope s__law_text, [], []⟩
def dd__law_is : He.DefD := ⟨("_law_is", none), "_law_is", "_law_is", defArgs s__law_is, defBody s__law_is, defScope s__law_is, [], []⟩
def dd__law_program_at : He.DefD := ⟨("_law_program_at", none), "_law_program_at", "_law_program_at", defArgs s__law_program_at, defBody s__law_program_at, defScope s__law_program_at, [], []⟩
def dd_law : He.DefD := ⟨("law", none), "law", "law", defArgs s_law, defBody s_law, defScope s_law, [], []⟩
def di_NoProgram : He.DefD := ⟨("NoProgram", some "__init__"), "__init__", "NoProgram.__init__", defArgs si_NoProgram, defBody si_NoProgram, defScope si_NoProgram, [], []⟩
def di_NoText : He.DefD := ⟨("NoText", some "__init__"), "__init__", "NoText.__init__", defArgs si_NoText, defBody si_NoText, defScope si_NoText, [], []⟩
def fn : List He.DefD := [dd_is_whole, dd_is_within, dd_is_name, dd_many_stores, dd_is_tuple, dd_is_box, dd_look_at_boxes, dd_look_at_procs, dd_worths_of, dd_are_tos, dd_is_row_of_box, dd_is_row, dd_look_at_rows, dd_look_at_hands, dd_look_at, dd_is_figure, dd_part_in, dd_parts_in, dd_tos_in, dd_row_in, dd_fits_behind, dd_read, dd__law_cell_at, dd__law_digits, dd__law_name, dd__law_to_row, dd__law_plan, dd__law_program, dd__law_menu, dd__law_to, dd__law_words, dd__law_text, dd__law_is, dd__law_program_at, dd_law, di_NoProgram, di_NoText]
def fa : List He.Fa := [.glo "is_whole", .glo "is_within", .glo "is_name", .glo "many_stores", .glo "is_tuple", .glo "is_box", .glo "look_at_boxes", .glo "look_at_procs", .glo "worths_of", .glo "are_tos", .glo "is_row_of_box", .glo "is_row", .glo "look_at_rows", .glo "look_at_hands", .glo "look_at", .glo "is_figure", .glo "part_in", .glo "parts_in", .glo "tos_in", .glo "row_in", .glo "fits_behind", .glo "read", .glo "_law_cell_at", .glo "_law_digits", .glo "_law_name", .glo "_law_to_row", .glo "_law_plan", .glo "_law_program", .glo "_law_menu", .glo "_law_to", .glo "_law_words", .glo "_law_text", .glo "_law_is", .glo "_law_program_at", .glo "law", .glo "HandError", .glo "NoProgram", .glo "NoText", .glo "FORMS", .free "abs", .free "all", .free "bool", .free "enumerate", .free "int", .free "isinstance", .free "len", .free "list", .free "max", .free "min", .free "range", .free "str", .free "tuple", .free "zip", .str "FIGURES" "0123456789", .str "LETTERS" "abcdefghijklmnopqrstuvwxyz", .int "LONGEST" (8), .int "MOST_BOXES" (3), .int "MOST_HANDS" (3), .int "MOST_PROCS" (6), .int "MOST_ROWS" (8), .int "MOST_STORES" (8), .int "MOST_WAYS" (4), .int "MOST_WORTHS" (6)]
def ex (K : KF) : Bool := ([dctB K (He.ga K "FORMS") [("box", "nff"), ("proc", "n"), ("put", "nff"), ("swap", "nfff"), ("call", "nf"), ("take", "nf"), ("give", "nf"), ("hand", "nn")], hinB K (He.ga K "HandError"), exB K (He.ga K "NoProgram") (He.ma K (He.ga K "NoProgram") "__init__") ["part", "number", "row"], exB K (He.ga K "NoText") (He.ma K (He.ga K "NoText") "__init__") ["row"]] : List Bool).all id
abbrev hk : PySem.W.Hook := hookV 4 fa fn ex
def ob (s : PySem.W.SharedT) : AlV := obsV 4 fa fn ex (HandSHeadRun.getT s)
theorem ob_eq (s : PySem.W.SharedT) : ob s = hk.obs s.abs := obsV_eq (HandSHeadRun.getT_eq s)
def loose : List Str := (["LETTERS", "LONGEST", "is_whole", "is_within", "is_name", "many_stores", "HandError", "NoProgram", "NoText", "MOST_BOXES", "MOST_WORTHS", "MOST_STORES", "MOST_PROCS", "MOST_ROWS", "MOST_HANDS", "MOST_WAYS", "is_tuple", "is_box", "look_at_boxes", "look_at_procs", "worths_of", "are_tos", "is_row_of_box", "is_row", "look_at_rows", "look_at_hands", "look_at", "FIGURES", "FORMS", "is_figure"] : List Str) ++ (["part_in", "parts_in", "tos_in", "row_in", "fits_behind", "read", "_law_cell_at", "_law_digits", "_law_name", "_law_to_row", "_law_plan", "_law_program", "_law_menu", "_law_to", "_law_words", "_law_text", "_law_is", "_law_program_at"] : List Str)
theorem run (w : World) : HandSHeadRun.RunEq R (PySem.W.view R.prog [53]) hk ob 12000 loose w := by
  refine PySem.W.byRow2 "special-get-raises" (P := fun w => HandSHeadRun.RunEq R (PySem.W.view R.prog [53]) hk ob 12000 loose w) (fun w => ?_) (fun w => ?_) w
  · intro os
    kernel_rfl
  · intro os
    kernel_rfl
theorem cfg {K : KF} {h : Heap} {mg : Str → Option Value} (X : K.In h) (G : h.Ns mainGlobals mg) (c : He.SaysD fa fn K) (cx : ex K = true) : Nonempty (Cfg K mg) := by
  have x0 := List.all_eq_true.mp cx _ (List.mem_of_getElem? (i := 0) rfl)
  have x1 := List.all_eq_true.mp cx _ (List.mem_of_getElem? (i := 1) rfl)
  have x2 := List.all_eq_true.mp cx _ (List.mem_of_getElem? (i := 2) rfl)
  have x3 := List.all_eq_true.mp cx _ (List.mem_of_getElem? (i := 3) rfl)
  obtain ⟨d0, F0⟩ := c.def_ 0 (d := dd_is_whole) rfl
  obtain ⟨d1, F1⟩ := c.def_ 1 (d := dd_is_within) rfl
  obtain ⟨d2, F2⟩ := c.def_ 2 (d := dd_is_name) rfl
  obtain ⟨d3, F3⟩ := c.def_ 3 (d := dd_many_stores) rfl
  obtain ⟨d4, F4⟩ := c.def_ 4 (d := dd_is_tuple) rfl
  obtain ⟨d5, F5⟩ := c.def_ 5 (d := dd_is_box) rfl
  obtain ⟨d6, F6⟩ := c.def_ 6 (d := dd_look_at_boxes) rfl
  obtain ⟨d7, F7⟩ := c.def_ 7 (d := dd_look_at_procs) rfl
  obtain ⟨d8, F8⟩ := c.def_ 8 (d := dd_worths_of) rfl
  obtain ⟨d9, F9⟩ := c.def_ 9 (d := dd_are_tos) rfl
  obtain ⟨d10, F10⟩ := c.def_ 10 (d := dd_is_row_of_box) rfl
  obtain ⟨d11, F11⟩ := c.def_ 11 (d := dd_is_row) rfl
  obtain ⟨d12, F12⟩ := c.def_ 12 (d := dd_look_at_rows) rfl
  obtain ⟨d13, F13⟩ := c.def_ 13 (d := dd_look_at_hands) rfl
  obtain ⟨d14, F14⟩ := c.def_ 14 (d := dd_look_at) rfl
  obtain ⟨d15, F15⟩ := c.def_ 15 (d := dd_is_figure) rfl
  obtain ⟨d16, F16⟩ := c.def_ 16 (d := dd_part_in) rfl
  obtain ⟨d17, F17⟩ := c.def_ 17 (d := dd_parts_in) rfl
  obtain ⟨d18, F18⟩ := c.def_ 18 (d := dd_tos_in) rfl
  obtain ⟨d19, F19⟩ := c.def_ 19 (d := dd_row_in) rfl
  obtain ⟨d20, F20⟩ := c.def_ 20 (d := dd_fits_behind) rfl
  obtain ⟨d21, F21⟩ := c.def_ 21 (d := dd_read) rfl
  obtain ⟨d22, F22⟩ := c.def_ 22 (d := dd__law_cell_at) rfl
  obtain ⟨d23, F23⟩ := c.def_ 23 (d := dd__law_digits) rfl
  obtain ⟨d24, F24⟩ := c.def_ 24 (d := dd__law_name) rfl
  obtain ⟨d25, F25⟩ := c.def_ 25 (d := dd__law_to_row) rfl
  obtain ⟨d26, F26⟩ := c.def_ 26 (d := dd__law_plan) rfl
  obtain ⟨d27, F27⟩ := c.def_ 27 (d := dd__law_program) rfl
  obtain ⟨d28, F28⟩ := c.def_ 28 (d := dd__law_menu) rfl
  obtain ⟨d29, F29⟩ := c.def_ 29 (d := dd__law_to) rfl
  obtain ⟨d30, F30⟩ := c.def_ 30 (d := dd__law_words) rfl
  obtain ⟨d31, F31⟩ := c.def_ 31 (d := dd__law_text) rfl
  obtain ⟨d32, F32⟩ := c.def_ 32 (d := dd__law_is) rfl
  obtain ⟨d33, F33⟩ := c.def_ 33 (d := dd__law_program_at) rfl
  obtain ⟨y2a, y2b, y2c, y2d⟩ := exB_ok x2
  obtain ⟨e2, E2⟩ := c.def_ 35 (d := di_NoProgram) rfl
  obtain ⟨y3a, y3b, y3c, y3d⟩ := exB_ok x3
  obtain ⟨e3, E3⟩ := c.def_ 36 (d := di_NoText) rfl
  exact ⟨⟨_, d0, F0, (He.glo_ok X G (c.fact 0 (f := .glo "is_whole") rfl)), _, d1, F1, (He.glo_ok X G (c.fact 1 (f := .glo "is_within") rfl)), _, d2, F2, (He.glo_ok X G (c.fact 2 (f := .glo "is_name") rfl)), _, d3, F3, (He.glo_ok X G (c.fact 3 (f := .glo "many_stores") rfl)), _, d4, F4, (He.glo_ok X G (c.fact 4 (f := .glo "is_tuple") rfl)), _, d5, F5, (He.glo_ok X G (c.fact 5 (f := .glo "is_box") rfl)), _, d6, F6, (He.glo_ok X G (c.fact 6 (f := .glo "look_at_boxes") rfl)), _, d7, F7, (He.glo_ok X G (c.fact 7 (f := .glo "look_at_procs") rfl)), _, d8, F8, (He.glo_ok X G (c.fact 8 (f := .glo "worths_of") rfl)), _, d9, F9, (He.glo_ok X G (c.fact 9 (f := .glo "are_tos") rfl)), _, d10, F10, (He.glo_ok X G (c.fact 10 (f := .glo "is_row_of_box") rfl)), _, d11, F11, (He.glo_ok X G (c.fact 11 (f := .glo "is_row") rfl)), _, d12, F12, (He.glo_ok X G (c.fact 12 (f := .glo "look_at_rows") rfl)), _, d13, F13, (He.glo_ok X G (c.fact 13 (f := .glo "look_at_hands") rfl)), _, d14, F14, (He.glo_ok X G (c.fact 14 (f := .glo "look_at") rfl)), _, d15, F15, (He.glo_ok X G (c.fact 15 (f := .glo "is_figure") rfl)), _, d16, F16, (He.glo_ok X G (c.fact 16 (f := .glo "part_in") rfl)), _, d17, F17, (He.glo_ok X G (c.fact 17 (f := .glo "parts_in") rfl)), _, d18, F18, (He.glo_ok X G (c.fact 18 (f := .glo "tos_in") rfl)), _, d19, F19, (He.glo_ok X G (c.fact 19 (f := .glo "row_in") rfl)), _, d20, F20, (He.glo_ok X G (c.fact 20 (f := .glo "fits_behind") rfl)), _, d21, F21, (He.glo_ok X G (c.fact 21 (f := .glo "read") rfl)), _, d22, F22, (He.glo_ok X G (c.fact 22 (f := .glo "_law_cell_at") rfl)), _, d23, F23, (He.glo_ok X G (c.fact 23 (f := .glo "_law_digits") rfl)), _, d24, F24, (He.glo_ok X G (c.fact 24 (f := .glo "_law_name") rfl)), _, d25, F25, (He.glo_ok X G (c.fact 25 (f := .glo "_law_to_row") rfl)), _, d26, F26, (He.glo_ok X G (c.fact 26 (f := .glo "_law_plan") rfl)), _, d27, F27, (He.glo_ok X G (c.fact 27 (f := .glo "_law_program") rfl)), _, d28, F28, (He.glo_ok X G (c.fact 28 (f := .glo "_law_menu") rfl)), _, d29, F29, (He.glo_ok X G (c.fact 29 (f := .glo "_law_to") rfl)), _, d30, F30, (He.glo_ok X G (c.fact 30 (f := .glo "_law_words") rfl)), _, d31, F31, (He.glo_ok X G (c.fact 31 (f := .glo "_law_text") rfl)), _, d32, F32, (He.glo_ok X G (c.fact 32 (f := .glo "_law_is") rfl)), _, d33, F33, (He.glo_ok X G (c.fact 33 (f := .glo "_law_program_at") rfl)), _, (He.glo_ok X G (c.fact 35 (f := .glo "HandError") rfl)), (hinB_ok x1), _, (He.glo_ok X G (c.fact 36 (f := .glo "NoProgram") rfl)), y2a, _, e2, E2, y2b, y2c, y2d, _, (He.glo_ok X G (c.fact 37 (f := .glo "NoText") rfl)), y3a, _, e3, E3, y3b, y3c, y3d, (dctB_ok (He.glo_ok X G (c.fact 38 (f := .glo "FORMS") rfl)) x0), (He.free_ok X G (c.fact 39 (f := .free "abs") rfl)), (He.free_ok X G (c.fact 40 (f := .free "all") rfl)), (He.free_ok X G (c.fact 41 (f := .free "bool") rfl)), (He.free_ok X G (c.fact 42 (f := .free "enumerate") rfl)), (He.free_ok X G (c.fact 43 (f := .free "int") rfl)), (He.free_ok X G (c.fact 44 (f := .free "isinstance") rfl)), (He.free_ok X G (c.fact 45 (f := .free "len") rfl)), (He.free_ok X G (c.fact 46 (f := .free "list") rfl)), (He.free_ok X G (c.fact 47 (f := .free "max") rfl)), (He.free_ok X G (c.fact 48 (f := .free "min") rfl)), (He.free_ok X G (c.fact 49 (f := .free "range") rfl)), (He.free_ok X G (c.fact 50 (f := .free "str") rfl)), (He.free_ok X G (c.fact 51 (f := .free "tuple") rfl)), (He.free_ok X G (c.fact 52 (f := .free "zip") rfl)), (He.str_ok X G (c.fact 53 (f := .str "FIGURES" "0123456789") rfl)), (He.str_ok X G (c.fact 54 (f := .str "LETTERS" "abcdefghijklmnopqrstuvwxyz") rfl)), (He.int_ok X G (c.fact 55 (f := .int "LONGEST" (8)) rfl)), (He.int_ok X G (c.fact 56 (f := .int "MOST_BOXES" (3)) rfl)), (He.int_ok X G (c.fact 57 (f := .int "MOST_HANDS" (3)) rfl)), (He.int_ok X G (c.fact 58 (f := .int "MOST_PROCS" (6)) rfl)), (He.int_ok X G (c.fact 59 (f := .int "MOST_ROWS" (8)) rfl)), (He.int_ok X G (c.fact 60 (f := .int "MOST_STORES" (8)) rfl)), (He.int_ok X G (c.fact 61 (f := .int "MOST_WAYS" (4)) rfl)), (He.int_ok X G (c.fact 62 (f := .int "MOST_WORTHS" (6)) rfl))⟩⟩
theorem facts {P : Program} {w : World} {K : KF} {h : Heap} {mg : Str → Option Value} {f : Addr} (X : K.In h) (G : h.Ns mainGlobals mg) (hfa : mg ("law" : Str) = some (.ref f)) (c : He.SaysD fa fn K) (cx : ex K = true) :
    ∃ fd : FuncData, (∀ (s : Shared) (v : Value), BindsTo s fd ⟨[v], []⟩ [("_law_script", v)]) ∧ ∀ base : Heap, K.In base → base.Ns mainGlobals mg → FnG P w K mg base CX0 9 f fd ["_law_script"] (fun vs H Q _ => spF K mg 1 F_law08 vs H Q fun _ _ _ => False) := by
  obtain ⟨fd, F⟩ := c.def_ 34 (d := dd_law) rfl
  obtain ⟨cf⟩ := cfg X G c cx
  have e := hfa.symm.trans (He.glo_ok X G (c.fact 34 (f := .glo "law") rfl))
  cases e
  have b := FunD.bindsA (ps := ["_law_script"]) F fun _ _ _ _ _ _ us hl => match us, hl with | [_], _ => rfl
  exact ⟨fd, fun s v => b s [v] rfl, fun base _ _ => ok_law F cf⟩
end G08
open PySem PySem.W PySem.Calls PyProof.Rows
theorem G08.holds_of (H : ∀ ns : List Int, ns.length ≤ 63 → ∃ h', Fs.F_law08 [.v (.list (ns.map .int))] [] = some (.rt (.v (.bool true)) h')) : PySem.Challenge.rw_roundhand_k08_read_again.Holds := by
  w_on; o_law
  refine HandSHeadRun.head_any (r := OpenLaw.row PySem.Challenge.rw_roundhand_k08_read_again) (q := view (OpenLaw.row PySem.Challenge.rw_roundhand_k08_read_again).prog [53]) (H := G08.hk) (ob := G08.ob) (M := 12000) (loose := G08.loose) (d := HandSHeadRun.topDef (OpenLaw.row PySem.Challenge.rw_roundhand_k08_read_again).prog 53) (kwd := []) G08.ob_eq
    (by kernel_rfl) (fun s => by kernel_rfl) G08.run (by kernel_rfl) (by kernel_rfl) (by kernel_rfl) (by rfl) (by first | assumption | decide +kernel) (by decide +kernel) ⟨rfl, rfl, rfl, rfl, rfl, by decide +kernel⟩ ?hw ?hc
  case hw => w_witness2
  case hc =>
    refine Vl.walk_G (l := PySem.Challenge.rw_roundhand_k08_read_again) (n := 63) (k := 9) (x := "_law_script") rfl (by decide) (by kernel_rfl) ⟨rfl, by decide, by decide⟩ ?F
    intro w mg fa h Y G hmg0
    obtain ⟨K, KX, c, cx⟩ := Y
    have hmg : mg ("law" : PySem.Str) = some (.ref fa) := by
      have e : (HandSHeadRun.topDef (OpenLaw.row PySem.Challenge.rw_roundhand_k08_read_again).prog 53).name = ("law" : PySem.Str) := by kernel_rfl
      rw [← e]
      exact hmg0
    obtain ⟨fd, hb, hF⟩ := G08.facts (P := (PySem.Challenge.rw_roundhand_k08_read_again).prog) (w := w) KX G hmg c cx
    exact ⟨K, fd, (fun vs H Q _ => Vl.spF K mg 1 Fs.F_law08 vs H Q fun _ _ _ => False), KX, hb, fun Hp a ns hl _ hS => Vl.law_sp hS (H ns hl), hF⟩
set_option maxHeartbeats 4000000
namespace Fs
open PySem PySem.Spec PyProof.Rows L2 Vl
/-! ## digits -/
/-- within the sizes -/
def Dig : List Int → List Int → Prop
  | [], [] => True
  | s :: ss, d :: ds => (0 ≤ d ∧ d < s) ∧ Dig ss ds
  | _, _ => False
theorem Dig.snoc : ∀ {ss ds : List Int} {s d : Int}, Dig ss ds → 0 ≤ d → d < s → Dig (ss ++ [s]) (ds ++ [d])
  | [], [], _, _, _, h1, h2 => ⟨⟨h1, h2⟩, trivial⟩
  | [], _ :: _, _, _, h, _, _ => h.elim
  | _ :: _, [], _, _, h, _, _ => h.elim
  | _ :: _, _ :: _, _, _, h, h1, h2 => ⟨h.1, Dig.snoc h.2 h1 h2⟩
theorem Dig.len : ∀ {ss ds : List Int}, Dig ss ds → ds.length = ss.length
  | [], [], _ => rfl
  | [], _ :: _, h => h.elim
  | _ :: _, [], h => h.elim
  | _ :: _, _ :: _, h => by rw [List.length_cons, List.length_cons, Dig.len h.2]
theorem Dig.at : ∀ {ss ds : List Int} {i : Nat} {s : Int}, Dig ss ds → ss[i]? = some s → ∃ d, ds[i]? = some d ∧ 0 ≤ d ∧ d < s
  | [], [], i, _, _, h => by simp at h
  | [], _ :: _, _, _, h, _ => h.elim
  | _ :: _, [], _, _, h, _ => h.elim
  | s :: ss, d :: ds, 0, _, h, e => by
    cases e
    exact ⟨d, rfl, h.1⟩
  | s :: ss, d :: ds, i + 1, t, h, e => Dig.at (i := i) h.2 (by simpa using e)
theorem Dig.drop : ∀ (n : Nat) {ss ds : List Int}, Dig ss ds → Dig (ss.drop n) (ds.drop n)
  | 0, _, _, h => h
  | n + 1, [], [], _ => trivial
  | n + 1, [], _ :: _, h => h.elim
  | n + 1, _ :: _, [], h => h.elim
  | n + 1, _ :: _, _ :: _, h => Dig.drop n h.2
theorem Dig.all {B : Int} : ∀ {ss ds : List Int}, Dig ss ds → (∀ s ∈ ss, s ≤ B) → ∀ d ∈ ds, 0 ≤ d ∧ d < B
  | [], [], _, _, _, hd => by cases hd
  | [], _ :: _, h, _, _, _ => h.elim
  | _ :: _, [], h, _, _, _ => h.elim
  | s :: ss, d :: ds, h, hs, x, hx => by
    rcases List.mem_cons.mp hx with e | e
    · subst e
      have := hs s List.mem_cons_self
      exact ⟨h.1.1, Int.lt_of_lt_of_le h.1.2 this⟩
    · exact Dig.all h.2 (fun t ht => hs t (List.mem_cons_of_mem _ ht)) x e
theorem dig_step {num seed s : Int} {k : Nat} {wide : Bool} {ds : List D} (hs : 0 < s) (hs2 : s < 1073741824) (h0 : 0 ≤ num) (h1 : 0 ≤ seed) (h2 : seed < 4294967296) (hk : k < 1000) (hd : ds.length ≤ 1000) :
    ∃ num' seed' d : Int, 0 ≤ num' ∧ 0 ≤ seed' ∧ seed' < 4294967296 ∧ 0 ≤ d ∧ d < s ∧
      W__law_digits_1 [none, none, none, some (.v (.int num)), some (.v (.bool wide)), some (.v (.int seed)), some (.ref 0), some (.v (.int k)), some (.v (.int s))] [.lst ds] =
      some (.nx (S__law_digits_1 (.v (.int num')) (.v (.bool wide)) (.v (.int seed')) (.ref 0)) [.lst (ds ++ [.v (.int d)])]) := by
  have hl : ds.length < sizeLine := lt_line (by omega)
  by_cases hw : wide = true ∧ 0 < num
  · obtain ⟨rfl, hn⟩ := hw
    refine ⟨num / s, seed, num % s, Int.ediv_nonneg h0 (by omega), h1, h2, Int.emod_nonneg _ (by omega), Int.emod_lt_of_pos _ hs, ?_⟩
    have hc : cdiv s = true := by
      exact cdivI hs hs2
    simp [W__law_digits_1, L__law_digits_1, hn, hs, hl, hc]
  · have hp : cpow (seed + 104729 * ((k : Int) + 1)) 2 = true := by
      exact cpowI (by decide) (by decide) (by omega)
    have hm : cmul 104729 ((k : Int) + 1) = true := cmulL (by decide) (by decide)
    refine ⟨num, (seed + 104729 * ((k : Int) + 1)) ^ 2 % 2147483587, (seed + 104729 * ((k : Int) + 1)) ^ 2 % 2147483587 / 16 % s, h0, Int.emod_nonneg _ (by decide), Int.lt_trans (Int.emod_lt_of_pos _ (by decide)) (by decide), Int.emod_nonneg _ (by omega), Int.emod_lt_of_pos _ hs, ?_⟩
    have hd : cdiv 16 = true := cdivI (by decide) (by decide)
    cases wide with
    | false => simp [W__law_digits_1, L__law_digits_1, hm, hp, hd, hl, hs]
    | true =>
      have hn : ¬ 0 < num := fun z => hw ⟨rfl, z⟩
      simp [W__law_digits_1, L__law_digits_1, hn, hm, hp, hd, hl, hs]
theorem dig_loop {wide : Bool} : ∀ {sizes : List Int} {k : Nat} {num seed : Int} {pre : List Int} {ds : List Int}, (∀ s ∈ sizes, 0 < s ∧ s < 1073741824) → k + sizes.length ≤ 1000 → 0 ≤ num → 0 ≤ seed → seed < 4294967296 → Dig pre ds → ds.length = k →
    ∃ n' s' es, forL none G__law_digits_1 W__law_digits_1 (enumI k ((sizes.map PyData.int).map .v)) (S__law_digits_1 (.v (.int num)) (.v (.bool wide)) (.v (.int seed)) (.ref 0)) [.lst ((ds.map PyData.int).map .v)] =
      some (.nx (S__law_digits_1 n' (.v (.bool wide)) s' (.ref 0)) [.lst ((es.map PyData.int).map .v)]) ∧ Dig (pre ++ sizes) es
  | [], k, num, seed, pre, ds, _, _, _, _, _, hd, _ => ⟨_, _, ds, by rw [List.map_nil, List.map_nil, enumI, forL, if_pos (show gok none _ from trivial)], by rw [List.append_nil]; exact hd⟩
  | s :: r, k, num, seed, pre, ds, hs, hk, h0, h1, h2, hd, hl => by
    rw [List.length_cons] at hk
    obtain ⟨p1, p2⟩ := hs s List.mem_cons_self
    obtain ⟨num', seed', d, q0, q1, q2, q3, q4, e⟩ := dig_step (k := k) (wide := wide) (ds := (ds.map PyData.int).map .v) p1 p2 h0 h1 h2 (by omega) (by rw [List.length_map, List.length_map]; omega)
    obtain ⟨n', s', es, e3, e5⟩ := dig_loop (wide := wide) (sizes := r) (k := k + 1) (num := num') (seed := seed') (pre := pre ++ [s]) (ds := ds ++ [d]) (fun x hx => hs x (List.mem_cons_of_mem _ hx)) (by omega) q0 q1 q2 (Dig.snoc hd q3 q4) (by rw [List.length_append, hl]; rfl)
    refine ⟨n', s', es, ?_, by rw [List.append_assoc] at e5; exact e5⟩
    rw [List.map_cons, List.map_cons, enumI, forL, if_pos (show gok none _ from trivial)]
    rw [List.map_append, List.map_append] at e3
    simp [-List.map_map, e]
    exact e3
theorem dig_call {cell turn : Int} {sizes : List Int} {h : Hs} (hs : ∀ s ∈ sizes, 0 < s ∧ s < 1073741824) (hl : sizes.length ≤ 1000) (h0 : 0 ≤ turn) (h1 : turn ≤ 1000) :
    ∃ es : List Int, callR F__law_digits [.int cell, .int turn, .list (sizes.map .int)] false h = some (.ok (.v (.list (es.map .int))) h) ∧ Dig sizes es := by
  have hn : 0 ≤ (if cell < 0 then -cell else cell) := by split <;> omega
  generalize hN : (if cell < 0 then -cell else cell) = num at hn
  have hp : cpow 10 18 = true := cpowI (by decide) (by decide) (by decide)
  have hm : cmul 7919 turn = true := cmulL (by decide) (by decide)
  have q1 : 0 ≤ num % 2147483647 := Int.emod_nonneg _ (by decide)
  have q2 : num % 2147483647 < 2147483647 := Int.emod_lt_of_pos _ (by decide)
  obtain ⟨n', s', es, e3, e5⟩ := dig_loop (wide := decide (1000000000000000000 ≤ num)) (sizes := sizes) (k := 0) (num := num) (seed := num % 2147483647 + 7919 * turn) (pre := []) (ds := []) hs (by omega) hn (by omega) (by omega) trivial rfl
  refine ⟨es, callR_rt (h' := [.lst ((es.map PyData.int).map .v)]) (d := .ref 0) ?_ ?_, e5⟩
  · unfold F__law_digits mkFn B__law_digits
    simp [-List.map_map] at e3
    simp [-List.map_map, hN, hp, hm, e3]
  · show frz _ (11 + 1) (.ref 0) = _
    rw [y_frz1]
    simp only [List.getElem?_cons_zero]
    rw [y_frzs]
    rfl
end Fs
set_option maxHeartbeats 4000000
namespace Fs
open PySem PySem.Spec PyProof.Rows L2 Vl
/-! ## things of moderate size -/
def Dt : Nat → PyData → Prop
  | _, .none => True
  | _, .bool _ => True
  | _, .int _ => True
  | _, .str z => Tx 100000 z
  | _, .dict _ => True
  | 0, .list _ => False
  | 0, .tuple _ => False
  | n + 1, .list xs => xs.length ≤ 100000 ∧ ∀ x ∈ xs, Dt n x
  | n + 1, .tuple xs => xs.length ≤ 100000 ∧ ∀ x ∈ xs, Dt n x
theorem Dt.str {n : Nat} {z : Str} (h : Dt n (.str z)) : Tx 100000 z := by
  cases n <;> exact h
theorem Dt.list {n : Nat} {xs : List PyData} (h : Dt n (.list xs)) : ∃ m, n = m + 1 ∧ xs.length ≤ 100000 ∧ ∀ x ∈ xs, Dt m x := by
  cases n with
  | zero => exact h.elim
  | succ n => exact ⟨n, rfl, h⟩
theorem Dt.tuple {n : Nat} {xs : List PyData} (h : Dt n (.tuple xs)) : ∃ m, n = m + 1 ∧ xs.length ≤ 100000 ∧ ∀ x ∈ xs, Dt m x := by
  cases n with
  | zero => exact h.elim
  | succ n => exact ⟨n, rfl, h⟩
/-! ## the program's small tests, of any thing -/
abbrev abc : Str := Str.ofString "abcdefghijklmnopqrstuvwxyz"
def isName (z : Str) : Bool := decide (1 ≤ z.length) && decide (z.length ≤ 8) && z.cps.toList.all (fun c => decide (c ∈ abc.cps.toList))
def isNm : PyData → Bool
  | .str z => isName z
  | _ => false
def isInt : PyData → Bool
  | .int _ => true
  | _ => false
def isIn (lo hi : Int) : PyData → Bool
  | .int i => decide (lo ≤ i) && decide (i < hi)
  | _ => false
def isTup (n : Int) : PyData → Bool
  | .tuple xs => decide ((xs.length : Int) = n)
  | _ => false
theorem callR_b {F : Fn} {ps : List PyData} {h h' : Hs} {b : Bool} (e : F (ps.map .v) [] = some (.rt (.v (.bool b)) h')) : callR F ps false h = some (.ok (.v (.bool b)) h) := callR_rt e (frz_v _ _ _)
theorem callR_v {F : Fn} {ps : List PyData} {h h' : Hs} {b : PyData} (e : F (ps.map .v) [] = some (.rt (.v b) h')) : callR F ps false h = some (.ok (.v b) h) := callR_rt e (frz_v _ _ _)
@[simp] theorem is_whole_ok (d : PyData) (h : Hs) : callR F_is_whole [d] false h = some (.ok (.v (.bool (isInt d))) h) := by
  refine callR_b (h' := []) ?_
  cases d <;> simp [F_is_whole, mkFn, B_is_whole, isInt]
@[simp] theorem is_within_ok (d : PyData) (lo hi : Int) (h : Hs) : callR F_is_within [d, .int lo, .int hi] false h = some (.ok (.v (.bool (isIn lo hi d))) h) := by
  refine callR_b (h' := []) ?_
  cases d with
  | int i =>
    by_cases h1 : lo ≤ i <;> simp [F_is_within, mkFn, B_is_within, is_whole_ok, isInt, isIn, h1]
  | _ => simp [F_is_within, mkFn, B_is_within, is_whole_ok, isInt, isIn]
theorem is_name_ok {n : Nat} {d : PyData} (hd : Dt n d) (h : Hs) : callR F_is_name [d] false h = some (.ok (.v (.bool (isNm d))) h) := by
  refine callR_b (h' := []) ?_
  cases d with
  | str z =>
    have hz := hd.str.line
    have hc : compL none (gNm 1) tYes' (eIn (eVar 1) (eC (.str abc))) (signsD z) [some (.v (.str z)), none] [] = some (((z.cps.toList.filter fun _ => true).map fun c => .bool (decide (c ∈ abc.cps.toList))).map .v, []) := by
      refine compSigns z _ _ _ _ _ fun c => ⟨_, rfl, rfl, fun _ => ?_⟩
      simp [ngt]
    by_cases h1 : 1 ≤ z.length
    · have h1' : 1 ≤ (z.length : Int) := by omega
      by_cases h2 : z.length ≤ 8
      · have h2' : (z.length : Int) ≤ 8 := by omega
        simp [F_is_name, mkFn, B_is_name, isNm, isName, hz, hc, bools_map, h1, h2, h1', h2']
      · have h2' : ¬ (z.length : Int) ≤ 8 := by omega
        simp [F_is_name, mkFn, B_is_name, isNm, isName, hz, h1, h2, h1', h2']
    · have h1' : ¬ 1 ≤ (z.length : Int) := by omega
      simp [F_is_name, mkFn, B_is_name, isNm, isName, hz, h1, h1']
  | _ => simp [F_is_name, mkFn, B_is_name, isNm]
theorem eqD_int {neg : Bool} {i j : Int} {h : Hs} : eqD neg (.v (.int i)) (.v (.int j)) h = some (.v (.bool (if neg = true then !decide (i = j) else decide (i = j)))) := by
  rw [eqD_v (sh_int (n := 0) i).shaped (sh_int (n := 0) j).shaped]
  simp [PyData.eqv]
  rfl
@[simp] theorem is_tuple_ok (d : PyData) (n : Int) (h : Hs) : callR F_is_tuple [d, .int n] false h = some (.ok (.v (.bool (isTup n d))) h) := by
  refine callR_b (h' := []) ?_
  cases d <;> simp [F_is_tuple, mkFn, B_is_tuple, isTup, eqD_int]
theorem len3 {α : Type} {xs : List α} (h : xs.length = 3) : ∃ a b c, xs = [a, b, c] := by
  match xs, h with
  | [a, b, c], _ => exact ⟨a, b, c, rfl⟩
theorem len2 {α : Type} {xs : List α} (h : xs.length = 2) : ∃ a b, xs = [a, b] := by
  match xs, h with
  | [a, b], _ => exact ⟨a, b, rfl⟩
theorem atI_nat {α : Type} {xs : List α} {k : Nat} {x : α} (h : xs[k]? = some x) : atI xs (k : Int) = some x := by
  obtain ⟨hl, _⟩ := List.getElem?_eq_some_iff.mp h
  obtain ⟨y, e1, _, e2⟩ := atI_in (xs := xs) (i := k) (by omega) (by omega)
  rw [Int.toNat_natCast, h] at e2
  cases e2
  exact e1
@[simp] theorem at0 {α : Type} (a : α) (r : List α) : atI (a :: r) 0 = some a := atI_nat (k := 0) rfl
@[simp] theorem at1 {α : Type} (a b : α) (r : List α) : atI (a :: b :: r) 1 = some b := atI_nat (k := 1) rfl
@[simp] theorem at2 {α : Type} (a b c : α) (r : List α) : atI (a :: b :: c :: r) 2 = some c := atI_nat (k := 2) rfl
@[simp] theorem at3 {α : Type} (a b c d : α) (r : List α) : atI (a :: b :: c :: d :: r) 3 = some d := atI_nat (k := 3) rfl
@[simp] theorem at4 {α : Type} (a b c d e : α) (r : List α) : atI (a :: b :: c :: d :: e :: r) 4 = some e := atI_nat (k := 4) rfl
/-- a box -/
def isBx : PyData → Bool
  | .tuple [n, .int w, f] => isNm n && decide (2 ≤ w) && decide (w < 7) && isIn 0 w f
  | _ => false
theorem is_box_ok {n : Nat} {d : PyData} (hd : Dt n d) (h : Hs) : callR F_is_box [d] false h = some (.ok (.v (.bool (isBx d))) h) := by
  refine callR_b (h' := []) ?_
  cases d with
  | tuple xs =>
    obtain ⟨m, rfl, hl, hx⟩ := hd.tuple
    by_cases h3 : xs.length = 3
    · obtain ⟨a, b, c, rfl⟩ := len3 h3
      have ha := is_name_ok (hx a (by simp))
      cases b with
      | int w => 
        cases hn : isNm a <;> by_cases h1 : 2 ≤ w <;> by_cases h2 : w < 7 <;> simp [F_is_box, mkFn, B_is_box, ha, isTup, isIn, isBx, hn, h1, h2]
      | _ => cases hn : isNm a <;> simp [F_is_box, mkFn, B_is_box, ha, isTup, isIn, isBx, hn]
    · have : isBx (.tuple xs) = false := by
        unfold isBx
        split
        · rename_i e
          cases e
          exact absurd rfl h3
        · rfl
      have h3' : ¬ (xs.length : Int) = 3 := by omega
      simp [F_is_box, mkFn, B_is_box, isTup, this, h3']
  | _ => simp [F_is_box, mkFn, B_is_box, isTup, isBx]
/-- a call that is left by a refusal, its fields data -/
theorem callR_x {F : Fn} {ps : List PyData} {h h' : Hs} {c : Str} {fs : List (Str × PyData)} (e : F (ps.map .v) [] = some (.ex ⟨c, fs.map fun f => (f.1, .v f.2)⟩ h')) : callR F ps false h = some (.ex ⟨c, fs.map fun f => (f.1, .v f.2)⟩ h) := by
  unfold callR
  rw [e]
  have e1 : (fs.map fun f => (f.1, D.v f.2)).map (·.2) = (fs.map (·.2)).map D.v := by simp [Function.comp_def]
  have e2 : (fs.map fun f => (f.1, D.v f.2)).map (·.1) = fs.map (·.1) := by simp [Function.comp_def]
  simp only [e1, e2, y_frzs, Bool.false_and, Bool.false_eq_true, if_false]
  congr 3
  clear e e1 e2
  induction fs with
  | nil => rfl
  | cons f r ih =>
    simp only [List.map_cons, List.zip_cons_cons]
    rw [ih]
/-! ## boxes -/
def nmOf : PyData → Str
  | .tuple (.str z :: _) => z
  | _ => ⟨#[]⟩
def woOf : PyData → Int
  | .tuple (_ :: .int w :: _) => w
  | _ => 1
theorem isBx_shape {d : PyData} (h : isBx d = true) : ∃ z w f, d = .tuple [.str z, .int w, .int f] ∧ isName z = true ∧ 2 ≤ w ∧ w < 7 ∧ 0 ≤ f ∧ f < w := by
  unfold isBx at h
  split at h
  · rename_i n w f
    simp only [Bool.and_eq_true, decide_eq_true_eq] at h
    obtain ⟨⟨⟨h1, h2⟩, h3⟩, h4⟩ := h
    cases n with
    | str z =>
      cases f with
      | int f =>
        simp only [isIn, Bool.and_eq_true, decide_eq_true_eq] at h4
        exact ⟨z, w, f, rfl, h1, h2, h3, h4.1, h4.2⟩
      | _ => cases h4
    | _ => cases h1
  · cases h
def prodW : List PyData → Int
  | [] => 1
  | b :: r => woOf b * prodW r
theorem prodW_app (a b : List PyData) : prodW (a ++ b) = prodW a * prodW b := by
  induction a with
  | nil => simp [prodW]
  | cons x r ih => rw [List.cons_append, prodW, prodW, ih, Int.mul_assoc]
theorem many_loop {h : Hs} : ∀ (bs : List PyData) (m : Int), (∀ b ∈ bs, isBx b = true) → forL none G_many_stores_1 W_many_stores_1 (bs.map .v) (S_many_stores_1 (.v (.int m))) h = some (.nx (S_many_stores_1 (.v (.int (m * prodW bs)))) h)
  | [], m, _ => by simp [forL, gok, prodW]
  | b :: r, m, hb => by
    obtain ⟨z, w, f, rfl, _, h2, h3, _⟩ := isBx_shape (hb b List.mem_cons_self)
    have ih := many_loop (h := h) r (m * w) fun x hx => hb x (List.mem_cons_of_mem _ hx)
    have hc : cmul m w = true := by
      exact cmulR (by omega) (by omega)
    simp [forL, gok, W_many_stores_1, L_many_stores_1, hc, ih, prodW, woOf, Int.mul_assoc]
theorem many_stores_ok {bs : List PyData} (hb : ∀ b ∈ bs, isBx b = true) (h : Hs) : callR F_many_stores [.list bs] false h = some (.ok (.v (.int (prodW bs))) h) := by
  refine callR_v (h' := []) ?_
  have e := many_loop (h := []) bs 1 hb
  simp only [Int.one_mul] at e
  simp [F_many_stores, mkFn, B_many_stores, e]
theorem cut_pre {α : Type} (a b : List α) : cutP (a ++ b) none (some (a.length : Int)) = a := by
  unfold cutP
  rw [HT.sIx_nat, HT.sIx_none]
  simp
theorem inP_list {neg : Bool} {x : PyData} {ys : List PyData} : inP neg x (.list ys) = if (SeqAt.shaped x && SeqAt.shaped (.list ys)) = true then some (.bool (ngt neg (ys.any fun z => PyData.eqv z x))) else none := by
  cases x <;> rfl
theorem inP_tuple {neg : Bool} {x : PyData} {ys : List PyData} : inP neg x (.tuple ys) = if (isFlat x && ys.all isFlat) = true then some (.bool (ngt neg (ys.any fun z => PyData.eqv z x))) else none := by
  cases x <;> rfl
theorem inS {neg : Bool} {z : Str} {l : List Str} (hz : okS z) (hl : ∀ y ∈ l, okS y) : inP neg (.str z) (.list (l.map .str)) = some (.bool (ngt neg (decide (z ∈ l)))) := by
  have h1 : SeqAt.shaped (.str z) = true := (sh_str (n := 0) hz).shaped
  have h2 : SeqAt.shaped (.list (l.map .str)) = true := (sh_list (n := 0) (xs := l.map .str) fun x hx => by
    obtain ⟨y, hy, rfl⟩ := List.mem_map.mp hx
    exact sh_str (hl y hy)).shaped
  rw [inP_list, h1, h2]
  simp only [Bool.and_self, if_true, List.any_map]
  congr 3
  rw [Bool.eq_iff_iff, List.any_eq_true, decide_eq_true_eq]
  constructor
  · rintro ⟨x, hx, e⟩
    have e : x = z := by simpa [PyData.eqv] using e
    exact e ▸ hx
  · intro h
    exact ⟨z, h, by simp [PyData.eqv]⟩
theorem isName_ok {z : Str} (h : isName z = true) : Tx 8 z := by
  unfold isName at h
  simp only [Bool.and_eq_true, decide_eq_true_eq, List.all_eq_true] at h
  refine ⟨fun c hc => ?_, h.1.2⟩
  have := h.2 c hc
  have ok : ∀ c ∈ abc.cps.toList, c < 0x110000 := by decide +kernel
  exact ok c this
def bxDue : List PyData → List PyData → Option Nat
  | _, [] => none
  | pre, b :: r => if isBx b = false ∨ nmOf b ∈ pre.map nmOf ∨ 8 < prodW (pre ++ [b]) then some pre.length else bxDue (pre ++ [b]) r
abbrev noProg (p : Str) (n r : PyData) : Ex := ⟨"NoProgram", [("row", .v r), ("number", .v n), ("part", .v (.str p))]⟩
theorem callR_np {F : Fn} {ps : List PyData} {h h' : Hs} {p : Str} {n r : PyData} (e : F (ps.map .v) [] = some (.ex (noProg p n r) h')) : callR F ps false h = some (.ex (noProg p n r) h) := callR_x (fs := [("row", r), ("number", n), ("part", .str p)]) e
theorem boxes_loop {n : Nat} {all : List PyData} {h : Hs} (hl : all.length ≤ 1000) : ∀ (r pre : List PyData), all = pre ++ r → (∀ b ∈ pre, isBx b = true) → (∀ b ∈ r, Dt n b) →
    (bxDue pre r = none → forL none G_look_at_boxes_1 W_look_at_boxes_1 (enumI pre.length (r.map .v)) (S_look_at_boxes_1 (.v (.list all))) h = some (.nx (S_look_at_boxes_1 (.v (.list all))) h)) ∧
    (∀ k, bxDue pre r = some k → ∃ s, forL none G_look_at_boxes_1 W_look_at_boxes_1 (enumI pre.length (r.map .v)) (S_look_at_boxes_1 (.v (.list all))) h = some (.ex s (noProg "boxes" (.int k) .none) h))
  | [], pre, _, _, _ => ⟨fun _ => by simp [forL, gok, enumI], fun k e => by cases e⟩
  | b :: r, pre, ea, hp, hd => by
    have ih := boxes_loop (n := n) (h := h) hl r (pre ++ [b]) (by rw [ea, List.append_assoc]; rfl)
    have hb := is_box_ok (hd b List.mem_cons_self)
    have e1 : cutP all none (some (pre.length : Int)) = pre := by rw [ea]; exact cut_pre pre (b :: r)
    have e2 : cutP all none (some ((pre.length : Int) + 1)) = pre ++ [b] := by
      have := cut_pre (pre ++ [b]) r
      rw [List.length_append, List.append_assoc] at this
      rw [ea]
      exact this
    have step : isBx b = true → ∃ z w f, b = .tuple [.str z, .int w, .int f] ∧ okS z ∧ compL none (gNm 3) tYes' (eIx (eVar 3) (eC (.int 0))) (pre.map .v) [some (.v (.list all)), some (.v (.int pre.length)), some (.v b), none] h = some ((pre.map nmOf).map (fun z => .v (.str z)), h) := fun hx => by
      obtain ⟨z, w, f, rfl, hz, _⟩ := isBx_shape hx
      refine ⟨z, w, f, rfl, (isName_ok hz).1, ?_⟩
      rw [compMap pre D.v (gNm 3) _ (fun b => .str (nmOf b)) fun c hc => ⟨_, rfl, ?_⟩, List.map_map]
      · rfl
      · obtain ⟨z', w', f', rfl, _⟩ := isBx_shape (hp c hc)
        simp [nmOf]
    unfold bxDue
    cases hx : isBx b with
    | false =>
      refine ⟨fun e => by simp at e, fun k e => ?_⟩
      simp at e
      subst e
      exact ⟨_, by
        simp [forL, gok, enumI, W_look_at_boxes_1, L_look_at_boxes_1, hb, hx, sThrow]
        rfl⟩
    | true =>
      obtain ⟨z, w, f, eb, hz, hc⟩ := step hx
      have hin : inP false (.str z) (.list ((pre.map nmOf).map .str)) = some (.bool (decide (z ∈ pre.map nmOf))) := inS hz fun y hy => by
        obtain ⟨c, hc, rfl⟩ := List.mem_map.mp hy
        obtain ⟨z', w', f', rfl, h', _⟩ := isBx_shape (hp c hc)
        exact (isName_ok h').1
      have hpb : ∀ c ∈ pre ++ [b], isBx c = true := fun c hc => by
        rcases List.mem_append.mp hc with hc | hc
        · exact hp c hc
        · rw [List.mem_singleton.mp hc]
          exact hx
      have hm := many_stores_ok hpb
      have ih := ih hpb fun c hc => hd c (List.mem_cons_of_mem _ hc)
      have en : nmOf b = z := by rw [eb]; rfl
      have ei : ixD (.v b) (.v (.int 0)) h = some (.v (.str z)) := by rw [eb]; simp
      by_cases hn : z ∈ pre.map nmOf
      · refine ⟨fun e => (by simp only [en, hn, true_or, or_true, if_true] at e; cases e), fun k e => ?_⟩
        simp only [en, hn, true_or, or_true, if_true, Option.some.injEq] at e
        subst e
        exact ⟨_, by
          simp [-List.map_map, -List.mem_map, forL, gok, enumI, W_look_at_boxes_1, L_look_at_boxes_1, hb, hx, sThrow, ei, e1, hc, hin, hn, ngt]
          rfl⟩
      · by_cases hp8 : 8 < prodW (pre ++ [b])
        · refine ⟨fun e => (by simp only [hp8, or_true, if_true] at e; cases e), fun k e => ?_⟩
          simp only [hp8, or_true, if_true, Option.some.injEq] at e
          subst e
          exact ⟨_, by
            simp [-List.map_map, -List.mem_map, forL, gok, enumI, W_look_at_boxes_1, L_look_at_boxes_1, hb, hx, sThrow, ei, e1, e2, hc, hin, hn, ngt, hm, hp8]
            rfl⟩
        · have st : W_look_at_boxes_1 [some (.v (.list all)), some (.v (.int pre.length)), some (.v b), none] h = some (.nx (S_look_at_boxes_1 (.v (.list all))) h) := by
            simp [-List.map_map, -List.mem_map, W_look_at_boxes_1, L_look_at_boxes_1, hb, hx, sThrow, ei, e1, e2, hc, hin, hn, ngt, hm, hp8]
          simp only [en, hn, hp8, Bool.true_eq_false, false_or, if_false]
          rw [List.length_append] at ih
          simp [-List.map_map, forL, gok, enumI, st]
          simpa using ih
theorem boxes_ok {n : Nat} {bs : List PyData} (hd : ∀ b ∈ bs, Dt n b) (hl : bs.length ≤ 100000) (h : Hs) : callR F_look_at_boxes [.list bs] false h =
    (if 1 ≤ bs.length ∧ bs.length ≤ 3 then (match bxDue [] bs with
      | none => some (.ok (.v .none) h)
      | some k => some (.ex (noProg "boxes" (.int k) .none) h)) else some (.ex (noProg "boxes" .none .none) h)) := by
  by_cases h1 : 1 ≤ bs.length
  · have h1' : 1 ≤ (bs.length : Int) := by omega
    by_cases h3 : bs.length ≤ 3
    · have h3' : (bs.length : Int) ≤ 3 := by omega
      obtain ⟨a1, a2⟩ := boxes_loop (all := bs) (h := []) (by omega) bs [] rfl (by simp) hd
      rw [if_pos ⟨h1, h3⟩]
      cases e : bxDue [] bs with
      | none =>
        refine callR_v (h' := []) ?_
        have := a1 e
        rw [List.length_nil] at this
        simp [F_look_at_boxes, mkFn, B_look_at_boxes, h1', h3', this]
      | some k =>
        obtain ⟨s, hs⟩ := a2 k e
        rw [List.length_nil] at hs
        refine callR_np (h' := []) ?_
        simp [F_look_at_boxes, mkFn, B_look_at_boxes, h1', h3', hs]
    · have h3' : ¬ (bs.length : Int) ≤ 3 := by omega
      rw [if_neg (fun z => h3 z.2)]
      refine callR_np (h' := []) ?_
      simp [F_look_at_boxes, mkFn, B_look_at_boxes, h1', h3', sThrow]
  · have h1' : ¬ 1 ≤ (bs.length : Int) := by omega
    rw [if_neg (fun z => h1 z.1)]
    refine callR_np (h' := []) ?_
    simp [F_look_at_boxes, mkFn, B_look_at_boxes, h1', sThrow]
end Fs
set_option maxHeartbeats 4000000
namespace Fs
open PySem PySem.Spec PyProof.Rows L2 Vl
theorem eqD_s {neg : Bool} {a b : Str} {h : Hs} : eqD neg (.v (.str a)) (.v (.str b)) h = some (.v (.bool (if neg = true then !decide (a = b) else decide (a = b)))) := by
  rw [eqD_str]
  rfl
/-! ## procedures -/
def isPr : PyData → Bool
  | .tuple [n, .list _] => isNm n
  | _ => false
def rwOf : PyData → List PyData
  | .tuple [_, .list r] => r
  | _ => []
def prDue : List PyData → List PyData → Option Nat
  | _, [] => none
  | pre, p :: r => if isPr p = false ∨ (rwOf p).length < 1 ∨ 8 < (rwOf p).length ∨ nmOf p ∈ pre.map nmOf then some pre.length else prDue (pre ++ [p]) r
theorem isPr_shape {d : PyData} (h : isPr d = true) : ∃ z r, d = .tuple [.str z, .list r] ∧ isName z = true := by
  unfold isPr at h
  split at h
  · rename_i n r
    cases n with
    | str z => exact ⟨z, r, rfl, h⟩
    | _ => cases h
  · cases h
theorem names_comp {s0 : Sl} {h : Hs} {i : Nat} {l : List PyData} (hs : i < s0.length) (hl : ∀ d ∈ l, ∃ z r, d = .tuple (.str z :: r)) : compL none (gNm i) tYes' (eIx (eVar i) (eC (.int 0))) (l.map .v) s0 h = some (((l.map nmOf).map .str).map .v, h) := by
  rw [compMap l D.v (gNm i) _ (fun b => .str (nmOf b)) fun c hc => ⟨_, rfl, ?_⟩, List.map_map, List.map_map]
  · rfl
  · obtain ⟨z, r, rfl⟩ := hl c hc
    simp [nmOf, hs]
theorem procs_loop {n : Nat} {all : List PyData} {h : Hs} (hl : all.length ≤ 1000) : ∀ (r pre : List PyData), all = pre ++ r → (∀ b ∈ pre, isPr b = true) → (∀ b ∈ r, Dt n b) →
    (prDue pre r = none → forL none G_look_at_procs_1 W_look_at_procs_1 (enumI pre.length (r.map .v)) (S_look_at_procs_1 (.v (.list all))) h = some (.nx (S_look_at_procs_1 (.v (.list all))) h)) ∧
    (∀ k, prDue pre r = some k → ∃ s, forL none G_look_at_procs_1 W_look_at_procs_1 (enumI pre.length (r.map .v)) (S_look_at_procs_1 (.v (.list all))) h = some (.ex s (noProg "procs" (.int k) .none) h))
  | [], pre, _, _, _ => ⟨fun _ => by simp [forL, gok, enumI], fun k e => by cases e⟩
  | b :: r, pre, ea, hp, hd => by
    have ih := procs_loop (n := n) (h := h) hl r (pre ++ [b]) (by rw [ea, List.append_assoc]; rfl)
    have hb := hd b List.mem_cons_self
    have e1 : cutP all none (some (pre.length : Int)) = pre := by rw [ea]; exact cut_pre pre (b :: r)
    have hpre : ∀ d ∈ pre, ∃ z r, d = .tuple (.str z :: r) := fun d hd => by
      obtain ⟨z, r, rfl, _⟩ := isPr_shape (hp d hd)
      exact ⟨z, _, rfl⟩
    unfold prDue
    cases hx : isPr b with
    | false =>
      refine ⟨fun e => by simp at e, fun k e => ?_⟩
      simp at e
      subst e
      cases b with
      | tuple xs =>
        by_cases h2 : xs.length = 2
        · obtain ⟨x, y, rfl⟩ := len2 h2
          obtain ⟨m, rfl, _, hxs⟩ := hb.tuple
          have hn := is_name_ok (hxs x (by simp)) h
          cases ex : isNm x with
          | false =>
            exact ⟨_, by
              simp [forL, gok, enumI, W_look_at_procs_1, L_look_at_procs_1, isTup, hn, ex, sThrow]
              rfl⟩
          | true =>
            cases y with
            | list r =>
              simp [isPr, ex] at hx
            | _ =>
              exact ⟨_, by
                simp [forL, gok, enumI, W_look_at_procs_1, L_look_at_procs_1, isTup, hn, ex, sThrow]
                rfl⟩
        · have h2' : ¬ (xs.length : Int) = 2 := by omega
          exact ⟨_, by
            simp [forL, gok, enumI, W_look_at_procs_1, L_look_at_procs_1, isTup, h2', sThrow]
            rfl⟩
      | _ =>
        exact ⟨_, by
          simp [forL, gok, enumI, W_look_at_procs_1, L_look_at_procs_1, isTup, sThrow]
          rfl⟩
    | true =>
      obtain ⟨z, rs, rfl, hz⟩ := isPr_shape hx
      obtain ⟨m, rfl, _, hxs⟩ := hb.tuple
      have hn := is_name_ok (hxs (.str z) (by simp)) h
      have hnz : isNm (.str z) = true := hz
      have hc := names_comp (h := h) (i := 3) (s0 := [some (.v (.list all)), some (.v (.int pre.length)), some (.v (.tuple [.str z, .list rs])), none]) (by simp) hpre
      have hin : inP false (.str z) (.list ((pre.map nmOf).map .str)) = some (.bool (ngt false (decide (z ∈ pre.map nmOf)))) := inS (isName_ok hz).1 fun y hy => by
        obtain ⟨c, hc, rfl⟩ := List.mem_map.mp hy
        obtain ⟨z', r', rfl, h'⟩ := isPr_shape (hp c hc)
        exact (isName_ok h').1
      have hpb : ∀ c ∈ pre ++ [.tuple [.str z, .list rs]], isPr c = true := fun c hc => by
        rcases List.mem_append.mp hc with hc | hc
        · exact hp c hc
        · rw [List.mem_singleton.mp hc]
          exact hx
      have ih := ih hpb fun c hc => hd c (List.mem_cons_of_mem _ hc)
      have en : nmOf (.tuple [.str z, .list rs]) = z := rfl
      have er : rwOf (.tuple [.str z, .list rs]) = rs := rfl
      rw [en, er]
      by_cases g1 : 1 ≤ rs.length
      · have g1' : 1 ≤ (rs.length : Int) := by omega
        by_cases g2 : rs.length ≤ 8
        · have g2' : (rs.length : Int) ≤ 8 := by omega
          by_cases g3 : z ∈ pre.map nmOf
          · refine ⟨fun e => (by simp only [g3, or_true, if_true] at e; cases e), fun k e => ?_⟩
            simp only [g3, or_true, if_true, Option.some.injEq] at e
            subst e
            exact ⟨_, by
              simp [-List.map_map, -List.mem_map, forL, gok, enumI, W_look_at_procs_1, L_look_at_procs_1, isTup, hn, hnz, g1', g2', g3, e1, hc, hin, ngt, sThrow]
              rfl⟩
          · have st : W_look_at_procs_1 [some (.v (.list all)), some (.v (.int pre.length)), some (.v (.tuple [.str z, .list rs])), none] h = some (.nx (S_look_at_procs_1 (.v (.list all))) h) := by
              simp [-List.map_map, -List.mem_map, W_look_at_procs_1, L_look_at_procs_1, isTup, hn, hnz, g1', g2', g3, e1, hc, hin, ngt, sThrow]
            have n1 : ¬ rs.length < 1 := by omega
            have n2 : ¬ 8 < rs.length := by omega
            simp only [n1, n2, g3, Bool.true_eq_false, false_or, if_false]
            rw [List.length_append] at ih
            simp [-List.map_map, forL, gok, enumI, st]
            simpa using ih
        · have g2' : ¬ (rs.length : Int) ≤ 8 := by omega
          have n2 : 8 < rs.length := by omega
          refine ⟨fun e => (by simp only [n2, true_or, or_true, if_true] at e; cases e), fun k e => ?_⟩
          simp only [n2, true_or, or_true, if_true, Option.some.injEq] at e
          subst e
          exact ⟨_, by
            simp [-List.map_map, -List.mem_map, forL, gok, enumI, W_look_at_procs_1, L_look_at_procs_1, isTup, hn, hnz, g1', g2', sThrow]
            rfl⟩
      · have g1' : ¬ 1 ≤ (rs.length : Int) := by omega
        have n1 : rs.length < 1 := by omega
        refine ⟨fun e => (by simp only [n1, true_or, or_true, if_true] at e; cases e), fun k e => ?_⟩
        simp only [n1, true_or, or_true, if_true, Option.some.injEq] at e
        subst e
        exact ⟨_, by
          simp [-List.map_map, -List.mem_map, forL, gok, enumI, W_look_at_procs_1, L_look_at_procs_1, isTup, hn, hnz, g1', sThrow]
          rfl⟩
theorem procs_ok {n : Nat} {bs : List PyData} (hd : ∀ b ∈ bs, Dt n b) (h : Hs) : callR F_look_at_procs [.list bs] false h =
    (if 1 ≤ bs.length ∧ bs.length ≤ 6 then (match prDue [] bs with
      | none => some (.ok (.v .none) h)
      | some k => some (.ex (noProg "procs" (.int k) .none) h)) else some (.ex (noProg "procs" .none .none) h)) := by
  by_cases h1 : 1 ≤ bs.length
  · have h1' : 1 ≤ (bs.length : Int) := by omega
    by_cases h3 : bs.length ≤ 6
    · have h3' : (bs.length : Int) ≤ 6 := by omega
      obtain ⟨a1, a2⟩ := procs_loop (all := bs) (h := []) (by omega) bs [] rfl (by simp) hd
      rw [if_pos ⟨h1, h3⟩]
      cases e : prDue [] bs with
      | none =>
        refine callR_v (h' := []) ?_
        have := a1 e
        rw [List.length_nil] at this
        simp [F_look_at_procs, mkFn, B_look_at_procs, h1', h3', this]
      | some k =>
        obtain ⟨s, hs⟩ := a2 k e
        rw [List.length_nil] at hs
        refine callR_np (h' := []) ?_
        simp [F_look_at_procs, mkFn, B_look_at_procs, h1', h3', hs]
    · have h3' : ¬ (bs.length : Int) ≤ 6 := by omega
      rw [if_neg (fun z => h3 z.2)]
      refine callR_np (h' := []) ?_
      simp [F_look_at_procs, mkFn, B_look_at_procs, h1', h3', sThrow]
  · have h1' : ¬ 1 ≤ (bs.length : Int) := by omega
    rw [if_neg (fun z => h1 z.1)]
    refine callR_np (h' := []) ?_
    simp [F_look_at_procs, mkFn, B_look_at_procs, h1', sThrow]
end Fs
set_option maxHeartbeats 4000000
namespace Fs
open PySem PySem.Spec PyProof.Rows L2 Vl
theorem _root_.Vl.Sh.shaped' {n : Nat} {d : PyData} (h : Sh n d) (hn : n ≤ 64) : SeqAt.shaped d = true := Sh.shaped h hn
/-! ## rows -/
theorem names_pr {bs : List PyData} (hb : ∀ b ∈ bs, isPr b = true) : ∀ d ∈ bs, ∃ z r, d = .tuple (.str z :: r) := fun d hd => by
  obtain ⟨z, w, rfl, _⟩ := isPr_shape (hb d hd)
  exact ⟨z, _, rfl⟩
def woAt : List PyData → Str → Int
  | [], _ => 0
  | b :: r, z => if nmOf b = z then woOf b else woAt r z
theorem worths_loop {z : Str} {h : Hs} : ∀ (bs : List PyData), (∀ b ∈ bs, isBx b = true) →
    (z ∉ bs.map nmOf ∧ forL none G_worths_of_1 W_worths_of_1 (bs.map .v) (S_worths_of_1 (.v (.str z))) h = some (.nx (S_worths_of_1 (.v (.str z))) h)) ∨
    (z ∈ bs.map nmOf ∧ forL none G_worths_of_1 W_worths_of_1 (bs.map .v) (S_worths_of_1 (.v (.str z))) h = some (.rt (.v (.int (woAt bs z))) h))
  | [], _ => .inl ⟨by simp, by simp [forL, gok]⟩
  | b :: r, hb => by
    obtain ⟨n, w, f, rfl, _⟩ := isBx_shape (hb b List.mem_cons_self)
    have ih := worths_loop (z := z) (h := h) r fun x hx => hb x (List.mem_cons_of_mem _ hx)
    by_cases e : n = z
    · subst e
      exact .inr ⟨by simp [nmOf], by simp [forL, gok, W_worths_of_1, L_worths_of_1, eqD_s, woAt, nmOf, woOf]⟩
    · have st : W_worths_of_1 [none, some (.v (.str z)), some (.v (.tuple [.str n, .int w, .int f]))] h = some (.nx (S_worths_of_1 (.v (.str z))) h) := by
        simp [W_worths_of_1, L_worths_of_1, eqD_s, e]
      rcases ih with ⟨h1, h2⟩ | ⟨h1, h2⟩
      · refine .inl ⟨?_, ?_⟩
        · rw [List.map_cons, List.mem_cons, not_or]
          exact ⟨fun q => e q.symm, h1⟩
        · simp [forL, gok, st, h2]
      · refine .inr ⟨List.mem_cons_of_mem _ h1, ?_⟩
        simp [forL, gok, st, h2, woAt, nmOf, e]
theorem woAt_none : ∀ {bs : List PyData} {z : Str}, z ∉ bs.map nmOf → woAt bs z = 0
  | [], _, _ => rfl
  | b :: r, z, h => by
    rw [List.map_cons, List.mem_cons, not_or] at h
    rw [woAt, if_neg fun e => h.1 e.symm]
    exact woAt_none h.2
theorem worths_str {bs : List PyData} (hb : ∀ b ∈ bs, isBx b = true) (z : Str) (h : Hs) : callR F_worths_of [.list bs, .str z] false h = some (.ok (.v (.int (woAt bs z))) h) := by
  refine callR_v (h' := []) ?_
  rcases worths_loop (z := z) (h := []) bs hb with ⟨h1, h2⟩ | ⟨h1, h2⟩
  · simp [F_worths_of, mkFn, B_worths_of, h2, woAt_none h1]
  · simp [F_worths_of, mkFn, B_worths_of, h2]
theorem worths_else {bs : List PyData} {d : PyData} (hd : ∀ z, d ≠ .str z) (h : Hs) : callR F_worths_of [.list bs, d] false h = some (.ok (.v (.int 0)) h) := by
  refine callR_v (h' := []) ?_
  have hi : isiD "str" (.v d) [] = some (.v (.bool false)) := by
    cases d with
    | str z => exact absurd rfl (hd z)
    | _ => simp
  have e : ∀ bs : List PyData, forL none G_worths_of_1 W_worths_of_1 (bs.map .v) (S_worths_of_1 (.v d)) [] = some (.nx (S_worths_of_1 (.v d)) []) := fun bs => by
    induction bs with
    | nil => simp [forL, gok]
    | cons b r ih =>
      have st : W_worths_of_1 [none, some (.v d), some (.v b)] [] = some (.nx (S_worths_of_1 (.v d)) []) := by simp [W_worths_of_1, L_worths_of_1, hi]
      simp [forL, gok, st, ih]
  simp [F_worths_of, mkFn, B_worths_of, e]
def isTos (e : Int) : PyData → Bool
  | .tuple xs => xs.all (isIn 0 (e + 1))
  | _ => false
theorem are_tos_ok (d : PyData) (e : Int) (h : Hs) : callR F_are_tos [d, .int e] false h = some (.ok (.v (.bool (isTos e d))) h) := by
  refine callR_b (h' := []) ?_
  cases d with
  | tuple xs =>
    have hc : compL none (gNm 2) tYes' (eCall F_is_within (eCons (eVar 2) (eCons (eC (.int 0)) (eCons (eAdd (eVar 1) (eC (.int 1))) eNil)))) (xs.map .v) [some (.v (.tuple xs)), some (.v (.int e)), none] [] = some (xs.map (fun c => .v (.bool (isIn 0 (e + 1) c))), []) :=
      compMap xs D.v (gNm 2) _ (fun c => .bool (isIn 0 (e + 1) c)) fun c _ => ⟨_, rfl, by simp⟩
    simp [F_are_tos, mkFn, B_are_tos, hc, isTos, bools_map, Function.comp_def]
  | _ => simp [F_are_tos, mkFn, B_are_tos, isTos]
/-- a row that names a box, behind its first word: the worths of the box, the end, how many hands -/
def rowB (s : Str) (w e nh : Int) : List PyData → Bool
  | r => if w = 0 then false else if s = "put" then (match r with
      | [x, t] => isIn 0 w x && isIn 0 (e + 1) t
      | _ => false)
    else if s = "swap" then (match r with
      | [x, y, t] => isIn 0 w x && isIn 0 w y && isIn 0 (e + 1) t
      | _ => false)
    else if s = "ask" then (match r with
      | [.tuple ts] => decide ((ts.length : Int) = w) && (ts.filter fun t => !(isNoneD (.v t))).all (isIn 0 (e + 1))
      | _ => false)
    else (match r with
      | [t] => decide (nh < w) && isIn 0 (e + 1) t
      | _ => false)
theorem row_box_ok (s : Str) (a b : PyData) (r : List PyData) (hr : r.length ≤ 100000) (w e nh : Int) (h : Hs) : callR F_is_row_of_box [.tuple (.str s :: a :: b :: r), .int w, .int e, .int nh] false h = some (.ok (.v (.bool (rowB s w e nh (b :: r)))) h) := by
  refine callR_b (h' := []) ?_
  by_cases h0 : w = 0
  · simp [F_is_row_of_box, mkFn, B_is_row_of_box, eqD_int, h0, rowB]
  by_cases h1 : s = "put"
  · match r with
    | [] => simp [F_is_row_of_box, mkFn, B_is_row_of_box, eqD_int, eqD_s, h0, h1, rowB]
    | [t] =>
      cases q : isIn 0 w b <;> simp [F_is_row_of_box, mkFn, B_is_row_of_box, eqD_int, eqD_s, h0, h1, rowB, q]
    | t :: u :: v =>
      have hl : ¬ ((v.length : Int) + 1 + 1 + 1 + 1 + 1 = 4) := by omega
      simp [F_is_row_of_box, mkFn, B_is_row_of_box, eqD_int, eqD_s, h0, h1, rowB, hl]
  by_cases h2 : s = "swap"
  · match r with
    | [] => simp [F_is_row_of_box, mkFn, B_is_row_of_box, eqD_int, eqD_s, h0, h1, eq_true h2, rowB]
    | [t] => simp [F_is_row_of_box, mkFn, B_is_row_of_box, eqD_int, eqD_s, h0, h1, eq_true h2, rowB]
    | [t, u] =>
      cases q : isIn 0 w b <;> cases q2 : isIn 0 w t <;> simp [F_is_row_of_box, mkFn, B_is_row_of_box, eqD_int, eqD_s, h0, h1, eq_true h2, rowB, q, q2]
    | t :: u :: v :: x =>
      have hl : ¬ ((x.length : Int) + 1 + 1 + 1 + 1 + 1 + 1 = 5) := by omega
      simp [F_is_row_of_box, mkFn, B_is_row_of_box, eqD_int, eqD_s, h0, h1, eq_true h2, rowB, hl]
  by_cases h3 : s = "ask"
  · cases b with
    | tuple ts =>
      by_cases hw : (ts.length : Int) = w
      · match r with
        | [] =>
          have hc : compL none (gNm 4) (tBl (eNisN (eVar 4) (eC .none))) (eVar 4) (ts.map .v) [some (.v (.tuple (.str s :: a :: [.tuple ts]))), some (.v (.int w)), some (.v (.int e)), some (.v (.int nh)), none] [] = some (((ts.filter fun t => !(isNoneD (.v t))).map id).map .v, []) :=
            compData ts D.v (gNm 4) _ _ (fun t => !(isNoneD (.v t))) id fun c _ => ⟨_, rfl, by simp [ngt], fun _ => by simp⟩
          rw [List.map_id] at hc
          have hat := are_tos_ok (.tuple (ts.filter fun t => !(isNoneD (.v t)))) e
          simp [F_is_row_of_box, mkFn, B_is_row_of_box, eqD_int, eqD_s, h0, h1, h2, rowB, isTup, hw, eq_true h3] at hc ⊢
          simp [hc, hat, isTos]
        | t :: u =>
          have hl : ¬ ((u.length : Int) + 1 + 1 + 1 + 1 = 3) := by omega
          simp [F_is_row_of_box, mkFn, B_is_row_of_box, eqD_int, eqD_s, h0, h1, h2, eq_true h3, rowB, isTup, hw, hl]
      · match r with
        | [] => simp [F_is_row_of_box, mkFn, B_is_row_of_box, eqD_int, eqD_s, h0, h1, h2, eq_true h3, rowB, isTup, hw]
        | t :: u => simp [F_is_row_of_box, mkFn, B_is_row_of_box, eqD_int, eqD_s, h0, h1, h2, eq_true h3, rowB, isTup, hw]
    | _ =>
      match r with
      | [] => simp [F_is_row_of_box, mkFn, B_is_row_of_box, eqD_int, eqD_s, h0, h1, h2, eq_true h3, rowB, isTup]
      | t :: u => simp [F_is_row_of_box, mkFn, B_is_row_of_box, eqD_int, eqD_s, h0, h1, h2, eq_true h3, rowB, isTup]
  · match r with
    | [] =>
      by_cases hn : nh < w <;> simp [F_is_row_of_box, mkFn, B_is_row_of_box, eqD_int, eqD_s, h0, h1, h2, h3, rowB, hn]
    | t :: u =>
      have hl : ¬ ((u.length : Int) + 1 + 1 + 1 + 1 = 3) := by omega
      simp [F_is_row_of_box, mkFn, B_is_row_of_box, eqD_int, eqD_s, h0, h1, h2, h3, rowB, hl]
/-- a row, by the boxes, the procedures, how many hands, the end -/
def rowOk (bs ps : List PyData) (nh e : Int) : PyData → Bool
  | .tuple (.str s :: a :: r) =>
    if s = "any" then r.isEmpty && isTos e a && (match a with
      | .tuple ts => decide (1 ≤ ts.length) && decide (ts.length ≤ 4)
      | _ => false)
    else if s = "call" then (match a, r with
      | .str z, [t] => decide (z ∈ ps.map nmOf) && isIn 0 (e + 1) t
      | _, _ => false)
    else if s ∈ (["put", "swap", "ask", "take", "give"] : List Str) then (match a, r with
      | .str z, b :: r => rowB s (woAt bs z) e nh (b :: r)
      | _, _ => false)
    else false
  | _ => false
theorem inT {neg : Bool} {z : Str} {l : List Str} : inP neg (.str z) (.tuple (l.map .str)) = some (.bool (ngt neg (decide (z ∈ l)))) := by
  have h2 : (l.map PyData.str).all isFlat = true := by
    rw [List.all_map, List.all_eq_true]
    intro x _
    rfl
  rw [inP_tuple, h2]
  simp only [isFlat, Bool.and_self, if_true, List.any_map]
  congr 3
  rw [Bool.eq_iff_iff, List.any_eq_true, decide_eq_true_eq]
  constructor
  · rintro ⟨x, hx, e⟩
    have e : x = z := by simpa [PyData.eqv] using e
    exact e ▸ hx
  · intro h
    exact ⟨z, h, by simp [PyData.eqv]⟩
theorem eq_nil {neg : Bool} {ys : List PyData} {n : Nat} (hn : n ≤ 63) (hy : ∀ y ∈ ys, Sh n y) (h : Hs) : eqD neg (.v (.list ys)) (.v (.list [])) h = some (.v (.bool (ngt neg ys.isEmpty))) := by
  rw [eqD_v ((sh_list hy).shaped' (by omega)) (sh_list (n := 0) (xs := []) (by simp)).shaped]
  cases ys <;> cases neg <;> simp [PyData.eqv, PyData.eqvAll, ngt]
theorem row_ok {n : Nat} {bs ps hs : List PyData} (hb : ∀ b ∈ bs, isBx b = true) (hp : ∀ b ∈ ps, isPr b = true) {row : PyData} (hd : Dt n row) (e : Int) (h : Hs) :
    callR F_is_row [row, .tuple [.list bs, .list ps, .list hs], .int e] false h = some (.ok (.v (.bool (rowOk bs ps hs.length e row))) h) := by
  refine callR_b (h' := []) ?_
  cases row with
  | tuple xs =>
    match xs with
    | [] => simp [F_is_row, mkFn, B_is_row, rowOk]
    | [a] => simp [F_is_row, mkFn, B_is_row, rowOk]
    | s :: a :: r =>
      have hl : ¬ ((r.length : Int) + 1 + 1 < 2) := by omega
      cases s with
      | str s =>
        by_cases h1 : s = "any"
        · have hat := are_tos_ok a e
          match r with
          | [] =>
            cases a with
            | tuple ts =>
              cases q : isTos e (.tuple ts) with
              | false => simp [F_is_row, mkFn, B_is_row, rowOk, eqD_s, eqD_int, h1, hat, q]
              | true =>
                by_cases g : 1 ≤ ts.length
                · have g' : 1 ≤ (ts.length : Int) := by omega
                  simp [F_is_row, mkFn, B_is_row, rowOk, eqD_s, eqD_int, h1, hat, q, g, g']
                  omega
                · have g' : ¬ 1 ≤ (ts.length : Int) := by omega
                  simp [F_is_row, mkFn, B_is_row, rowOk, eqD_s, eqD_int, h1, hat, q, g, g']
            | _ => simp [F_is_row, mkFn, B_is_row, rowOk, eqD_s, eqD_int, h1, hat, isTos]
          | t :: u =>
            have hl2 : ¬ ((u.length : Int) + 1 + 1 + 1 = 2) := by omega
            have hl3 : ¬ ((u.length : Int) + 1 + 1 + 1 < 2) := by omega
            simp [F_is_row, mkFn, B_is_row, rowOk, eqD_s, eqD_int, h1, hl2, hl3]
        by_cases h2 : s = "call"
        · have hc : ∀ z, a = .str z → ∀ sl : Sl, sl.length = 8 → sl[0]? = some (some (.v (.tuple (.str s :: a :: r)))) → compL none (gNm 7) (tAnd (tTru (eIsi "str" (eIx (eVar 0) (eC (.int 1))))) (tBl (eEq (eIx (eVar 7) (eC (.int 0))) (eIx (eVar 0) (eC (.int 1)))))) (eIx (eVar 7) (eC (.int 0))) (ps.map .v) sl [] =
              some ((((ps.filter fun p => decide (nmOf p = z)).map fun p => .str (nmOf p)).map .v), []) := fun z ea sl hsl h0 => by
            refine compData ps D.v (gNm 7) _ _ (fun p => decide (nmOf p = z)) (fun p => .str (nmOf p)) fun c hc => ?_
            obtain ⟨z', r', rfl, _⟩ := isPr_shape (hp c hc)
            subst ea
            have h0' : (sl.set 7 (some (.v (.tuple [.str z', .list r']))))[0]? = some (some (.v (.tuple (.str s :: .str z :: r)))) := by
              rw [List.getElem?_set_ne (by decide)]
              exact h0
            have h7 : (sl.set 7 (some (.v (.tuple [.str z', .list r']))))[7]? = some (some (.v (.tuple [.str z', .list r']))) := by
              rw [List.getElem?_set_self (by omega)]
            exact ⟨_, rfl, by simp [h0', h7, eqD_s, nmOf] <;> rfl, fun _ => by simp [h7, nmOf]⟩
          have hcn : ∀ z, a = .str z → ∀ sl : Sl, sl.length = 8 → sl[0]? = some (some (.v (.tuple (.str s :: a :: r)))) → ∃ ys : List PyData, (ys = [] ↔ z ∉ ps.map nmOf) ∧ (∀ y ∈ ys, ∃ v, y = .str v ∧ okS v) ∧ compL none (gNm 7) (tAnd (tTru (eIsi "str" (eIx (eVar 0) (eC (.int 1))))) (tBl (eEq (eIx (eVar 7) (eC (.int 0))) (eIx (eVar 0) (eC (.int 1)))))) (eIx (eVar 7) (eC (.int 0))) (ps.map .v) sl [] = some (ys.map .v, []) := fun z ea sl hsl h0 => by
            refine ⟨_, ?_, ?_, hc z ea sl hsl h0⟩
            · rw [List.map_eq_nil_iff, List.filter_eq_nil_iff]
              constructor
              · intro q hm
                obtain ⟨p, hp', e⟩ := List.mem_map.mp hm
                exact q p hp' (by simpa using e)
              · intro q p hp' e
                exact q (List.mem_map.mpr ⟨p, hp', by simpa using e⟩)
            · intro y hy
              obtain ⟨p, hp', rfl⟩ := List.mem_map.mp hy
              obtain ⟨z', r', rfl, h'⟩ := isPr_shape (hp p (List.mem_filter.mp hp').1)
              exact ⟨_, rfl, (isName_ok h').1⟩
          have hce : (∀ z, a ≠ .str z) → ∀ sl : Sl, sl.length = 8 → sl[0]? = some (some (.v (.tuple (.str s :: a :: r)))) → compL none (gNm 7) (tAnd (tTru (eIsi "str" (eIx (eVar 0) (eC (.int 1))))) (tBl (eEq (eIx (eVar 7) (eC (.int 0))) (eIx (eVar 0) (eC (.int 1)))))) (eIx (eVar 7) (eC (.int 0))) (ps.map .v) sl [] = some ([], []) := fun ea sl hsl h0 => by
            have := compData (s := sl) (h := []) ps D.v (gNm 7) (tAnd (tTru (eIsi "str" (eIx (eVar 0) (eC (.int 1))))) (tBl (eEq (eIx (eVar 7) (eC (.int 0))) (eIx (eVar 0) (eC (.int 1)))))) (eIx (eVar 7) (eC (.int 0))) (fun p => false) (fun p => .str (nmOf p)) fun c hc => by
              have h0' : (sl.set 7 (some (.v c)))[0]? = some (some (.v (.tuple (.str s :: a :: r)))) := by
                rw [List.getElem?_set_ne (by decide)]
                exact h0
              have hi : isiD "str" (.v a) [] = some (.v (.bool false)) := by
                cases a with
                | str z => exact absurd rfl (ea z)
                | _ => simp
              exact ⟨_, rfl, by simp [h0', hi], fun z => by cases z⟩
            rw [List.filter_eq_nil_iff.mpr (by simp)] at this
            simpa using this
          have hsh : ∀ {ys : List PyData}, (∀ y ∈ ys, ∃ v, y = .str v ∧ okS v) → ∀ y ∈ ys, Sh 0 y := fun hy y h => by
            obtain ⟨v, rfl, hv⟩ := hy y h
            exact sh_str hv
          cases a with
          | str z =>
            obtain ⟨ys, y1, y2, y3⟩ := hcn z rfl [some (.v (.tuple (.str s :: .str z :: r))), some (.v (.tuple [.list bs, .list ps, .list hs])), some (.v (.int e)), some (.v (.list bs)), some (.v (.list ps)), some (.v (.list hs)), none, none] rfl rfl
            have hq := eq_nil (neg := true) (by decide) (hsh y2) []
            have hz : z ∈ ps.map nmOf ↔ ys.isEmpty = false := by
              rw [List.isEmpty_eq_false_iff, ne_eq, y1, Decidable.not_not]
            rcases r with _ | ⟨t, _ | ⟨u, v⟩⟩
            · simp [-List.mem_map, F_is_row, mkFn, B_is_row, rowOk, eqD_s, eqD_int, h1, eq_true h2, y3, hq]
            · cases q : ys.isEmpty with
              | true =>
                have hz' : ¬ z ∈ ps.map nmOf := by rw [hz, q]; decide
                simp [-List.mem_map, F_is_row, mkFn, B_is_row, rowOk, eqD_s, eqD_int, h1, eq_true h2, y3, hq, q, ngt, hz']
              | false =>
                have hz' : z ∈ ps.map nmOf := by rw [hz, q]
                simp [-List.mem_map, F_is_row, mkFn, B_is_row, rowOk, eqD_s, eqD_int, h1, eq_true h2, y3, hq, q, ngt, hz']
            · have g1 : ¬ ((v.length : Int) + 1 + 1 + 1 + 1 < 2) := by omega
              have g2 : ¬ ((v.length : Int) + 1 + 1 + 1 + 1 = 3) := by omega
              simp [-List.mem_map, F_is_row, mkFn, B_is_row, rowOk, eqD_s, eqD_int, h1, eq_true h2, g1, g2, y3, hq]
          | _ =>
            have y3 := hce (fun z e => by cases e) [some (.v (.tuple (.str s :: _ :: r))), some (.v (.tuple [.list bs, .list ps, .list hs])), some (.v (.int e)), some (.v (.list bs)), some (.v (.list ps)), some (.v (.list hs)), none, none] rfl rfl
            have hq := eq_nil (neg := true) (ys := []) (n := 0) (by decide) (by simp) []
            rcases r with _ | ⟨t, _ | ⟨u, v⟩⟩
            · simp [-List.mem_map, F_is_row, mkFn, B_is_row, rowOk, eqD_s, eqD_int, h1, eq_true h2, y3, hq]
            · simp [-List.mem_map, F_is_row, mkFn, B_is_row, rowOk, eqD_s, eqD_int, h1, eq_true h2, y3, hq, ngt]
            · have g1 : ¬ ((v.length : Int) + 1 + 1 + 1 + 1 < 2) := by omega
              have g2 : ¬ ((v.length : Int) + 1 + 1 + 1 + 1 = 3) := by omega
              simp [-List.mem_map, F_is_row, mkFn, B_is_row, rowOk, eqD_s, eqD_int, h1, eq_true h2, g1, g2, y3, hq]
        · have h5 : inP true (.str s) (.tuple [.str "put", .str "swap", .str "ask", .str "take", .str "give"]) = some (.bool (!decide (s ∈ (["put", "swap", "ask", "take", "give"] : List Str)))) :=
            inT (neg := true) (z := s) (l := ["put", "swap", "ask", "take", "give"])
          by_cases h3 : s ∈ (["put", "swap", "ask", "take", "give"] : List Str)
          · rcases r with _ | ⟨b, r⟩
            · cases a <;> simp [-List.mem_cons, F_is_row, mkFn, B_is_row, rowOk, eqD_s, eqD_int, h1, h2, h5, h3]
            · have hl3 : ¬ ((r.length : Int) + 1 + 1 + 1 < 2) := by omega
              have hl4 : ¬ ((r.length : Int) + 1 + 1 + 1 < 3) := by omega
              obtain ⟨m, rfl, hlen, hxs⟩ := hd.tuple
              have hb' := fun w => row_box_ok s a b r (by simp only [List.length_cons] at hlen; omega) w e hs.length []
              cases a with
              | str z =>
                have hw := worths_str hb z []
                simp [-List.mem_cons, F_is_row, mkFn, B_is_row, rowOk, eqD_s, eqD_int, h1, h2, hl3, hl4, h5, h3, hw, hb']
              | _ =>
                simp [-List.mem_cons, F_is_row, mkFn, B_is_row, rowOk, eqD_s, eqD_int, h1, h2, hl3, hl4, h5, h3, worths_else, hb', rowB]
          · simp [-List.mem_cons, F_is_row, mkFn, B_is_row, rowOk, eqD_s, eqD_int, h1, h2, hl, h5, h3]
      | _ => simp [F_is_row, mkFn, B_is_row, rowOk, hl]
  | _ => simp [F_is_row, mkFn, B_is_row, rowOk]
end Fs
set_option maxHeartbeats 4000000
namespace Fs
open PySem PySem.Spec PyProof.Rows L2 Vl
def rwDue (bs ps : List PyData) (nh e : Int) : Nat → List PyData → Option Nat
  | _, [] => none
  | k, x :: r => if rowOk bs ps nh e x = true then rwDue bs ps nh e (k + 1) r else some k
def rowsDue (bs ps : List PyData) (nh : Int) : Nat → List PyData → Option (Nat × Nat)
  | _, [] => none
  | k, p :: r => match rwDue bs ps nh (rwOf p).length 0 (rwOf p) with
    | some j => some (k, j)
    | none => rowsDue bs ps nh (k + 1) r
section
variable {n : Nat} {bs ps hs : List PyData} (hb : ∀ b ∈ bs, isBx b = true) (hp : ∀ b ∈ ps, isPr b = true) {h : Hs}
include hb hp
theorem rows_loop1 {number : D} {z : Str} {rows : List PyData} : ∀ (r : List PyData) (k : Nat), (∀ x ∈ r, Dt n x) →
    (rwDue bs ps hs.length rows.length k r = none → forL none G_look_at_rows_1 W_look_at_rows_1 (enumI k (r.map .v)) (S_look_at_rows_1 (.v (.tuple [.list bs, .list ps, .list hs])) number (.v (.tuple [.str z, .list rows]))) h =
      some (.nx (S_look_at_rows_1 (.v (.tuple [.list bs, .list ps, .list hs])) number (.v (.tuple [.str z, .list rows]))) h)) ∧
    (∀ i m, number = .v (.int m) → rwDue bs ps hs.length rows.length k r = some i → ∃ s, forL none G_look_at_rows_1 W_look_at_rows_1 (enumI k (r.map .v)) (S_look_at_rows_1 (.v (.tuple [.list bs, .list ps, .list hs])) number (.v (.tuple [.str z, .list rows]))) h =
      some (.ex s (noProg "rows" (.int m) (.int i)) h))
  | [], k, _ => ⟨fun _ => by simp [forL, gok, enumI], fun _ _ _ e => by cases e⟩
  | x :: r, k, hd => by
    have ih := rows_loop1 (number := number) (z := z) (rows := rows) r (k + 1) fun y hy => hd y (List.mem_cons_of_mem _ hy)
    have hr := row_ok (hs := hs) hb hp (hd x List.mem_cons_self) rows.length h
    unfold rwDue
    cases q : rowOk bs ps hs.length rows.length x with
    | true =>
      have st : W_look_at_rows_1 [some (.v (.tuple [.list bs, .list ps, .list hs])), some number, some (.v (.tuple [.str z, .list rows])), some (.v (.int k)), some (.v x)] h =
          some (.nx (S_look_at_rows_1 (.v (.tuple [.list bs, .list ps, .list hs])) number (.v (.tuple [.str z, .list rows]))) h) := by
        simp [W_look_at_rows_1, L_look_at_rows_1, hr, q]
      simpa [-List.map_map, forL, gok, enumI, st] using ih
    | false =>
      refine ⟨fun e => by simp at e, fun i m hm e => ?_⟩
      simp at e
      subst e hm
      exact ⟨_, by
        simp [-List.map_map, forL, gok, enumI, W_look_at_rows_1, L_look_at_rows_1, hr, q, sThrow]
        rfl⟩
theorem rows_loop2 : ∀ (r : List PyData) (k : Nat), (∀ p ∈ r, isPr p = true ∧ Dt n p) →
    (rowsDue bs ps hs.length k r = none → forL none G_look_at_rows_2 W_look_at_rows_2 (enumI k (r.map .v)) (S_look_at_rows_2 (.v (.tuple [.list bs, .list ps, .list hs]))) h = some (.nx (S_look_at_rows_2 (.v (.tuple [.list bs, .list ps, .list hs]))) h)) ∧
    (∀ i j, rowsDue bs ps hs.length k r = some (i, j) → ∃ s, forL none G_look_at_rows_2 W_look_at_rows_2 (enumI k (r.map .v)) (S_look_at_rows_2 (.v (.tuple [.list bs, .list ps, .list hs]))) h = some (.ex s (noProg "rows" (.int i) (.int j)) h))
  | [], k, _ => ⟨fun _ => by simp [forL, gok, enumI], fun _ _ e => by cases e⟩
  | p :: r, k, hd => by
    have ih := rows_loop2 r (k + 1) fun y hy => hd y (List.mem_cons_of_mem _ hy)
    obtain ⟨hpr, hdp⟩ := hd p List.mem_cons_self
    obtain ⟨z, rows, rfl, _⟩ := isPr_shape hpr
    obtain ⟨m, rfl, _, hx⟩ := hdp.tuple
    obtain ⟨m2, rfl, _, hx2⟩ := (hx (.list rows) (by simp)).list
    obtain ⟨a1, a2⟩ := rows_loop1 (h := h) (hs := hs) (n := m2) hb hp (number := .v (.int k)) (z := z) (rows := rows) rows 0 hx2
    have er : rwOf (.tuple [.str z, .list rows]) = rows := rfl
    unfold rowsDue
    rw [er]
    cases q : rwDue bs ps hs.length rows.length 0 rows with
    | none =>
      have a1 := a1 q
      have st : W_look_at_rows_2 [some (.v (.tuple [.list bs, .list ps, .list hs])), some (.v (.int k)), some (.v (.tuple [.str z, .list rows])), none, none] h = some (.nx (S_look_at_rows_2 (.v (.tuple [.list bs, .list ps, .list hs]))) h) := by
        simp [W_look_at_rows_2, L_look_at_rows_2, a1]
      simpa [-List.map_map, forL, gok, enumI, st] using ih
    | some j =>
      obtain ⟨s, a2⟩ := a2 j k rfl q
      refine ⟨fun e => by simp at e, fun i j' e => ?_⟩
      simp at e
      obtain ⟨rfl, rfl⟩ := e
      exact ⟨_, by
        simp [-List.map_map, forL, gok, enumI, W_look_at_rows_2, L_look_at_rows_2, a2]
        rfl⟩
theorem rows_ok (hd : ∀ p ∈ ps, Dt n p) : callR F_look_at_rows [.tuple [.list bs, .list ps, .list hs]] false h = (match rowsDue bs ps hs.length 0 ps with
    | none => some (.ok (.v .none) h)
    | some (i, j) => some (.ex (noProg "rows" (.int i) (.int j)) h)) := by
  obtain ⟨a1, a2⟩ := rows_loop2 (n := n) (h := []) (hs := hs) hb hp ps 0 fun p h => ⟨hp p h, hd p h⟩
  cases q : rowsDue bs ps hs.length 0 ps with
  | none =>
    have a1 := a1 q
    refine callR_v (h' := []) ?_
    simp [F_look_at_rows, mkFn, B_look_at_rows, a1]
  | some ij =>
    obtain ⟨i, j⟩ := ij
    obtain ⟨s, a2⟩ := a2 i j q
    refine callR_np (h' := []) ?_
    simp [F_look_at_rows, mkFn, B_look_at_rows, a2]
end
/-! ## hands -/
def hnDue (ps : List PyData) : List PyData → List PyData → Option Nat
  | _, [] => none
  | pre, x :: r => (match x with
    | .tuple [.str a, .str b] => if isName a = true ∧ isName b = true ∧ b ∈ ps.map nmOf ∧ a ∉ pre.map nmOf then hnDue ps (pre ++ [x]) r else some pre.length
    | _ => some pre.length)
def isHn : PyData → Bool
  | .tuple [.str a, .str _] => isName a
  | _ => false
theorem isHn_shape {d : PyData} (h : isHn d = true) : ∃ z y, d = .tuple [.str z, .str y] ∧ isName z = true := by
  unfold isHn at h
  split at h
  · rename_i a b
    exact ⟨a, b, rfl, h⟩
  · cases h
theorem hands_loop {n : Nat} {ps all : List PyData} (hp : ∀ b ∈ ps, isPr b = true) {h : Hs} : ∀ (r pre : List PyData), all = pre ++ r → (∀ b ∈ pre, isHn b = true) → (∀ b ∈ r, Dt n b) →
    (hnDue ps pre r = none → forL none G_look_at_hands_1 W_look_at_hands_1 (enumI pre.length (r.map .v)) (S_look_at_hands_1 (.v (.list all)) (.v (.list ((ps.map nmOf).map .str)))) h = some (.nx (S_look_at_hands_1 (.v (.list all)) (.v (.list ((ps.map nmOf).map .str)))) h)) ∧
    (∀ k, hnDue ps pre r = some k → ∃ s, forL none G_look_at_hands_1 W_look_at_hands_1 (enumI pre.length (r.map .v)) (S_look_at_hands_1 (.v (.list all)) (.v (.list ((ps.map nmOf).map .str)))) h = some (.ex s (noProg "hands" (.int k) .none) h))
  | [], pre, _, _, _ => ⟨fun _ => by simp [forL, gok, enumI], fun k e => by cases e⟩
  | x :: r, pre, ea, hpre, hd => by
    have ih := hands_loop (n := n) (all := all) hp (h := h) r (pre ++ [x]) (by rw [ea, List.append_assoc]; rfl)
    have hx := hd x List.mem_cons_self
    have e1 : cutP all none (some (pre.length : Int)) = pre := by rw [ea]; exact cut_pre pre (x :: r)
    have bad : hnDue ps pre (x :: r) = some pre.length → (∃ s, W_look_at_hands_1 [some (.v (.list all)), none, some (.v (.list ((ps.map nmOf).map .str))), some (.v (.int pre.length)), some (.v x), none, none] h = some (.ex s (noProg "hands" (.int pre.length) .none) h)) →
        (hnDue ps pre (x :: r) = none → forL none G_look_at_hands_1 W_look_at_hands_1 (enumI pre.length ((x :: r).map .v)) (S_look_at_hands_1 (.v (.list all)) (.v (.list ((ps.map nmOf).map .str)))) h = some (.nx (S_look_at_hands_1 (.v (.list all)) (.v (.list ((ps.map nmOf).map .str)))) h)) ∧
        (∀ k, hnDue ps pre (x :: r) = some k → ∃ s, forL none G_look_at_hands_1 W_look_at_hands_1 (enumI pre.length ((x :: r).map .v)) (S_look_at_hands_1 (.v (.list all)) (.v (.list ((ps.map nmOf).map .str)))) h = some (.ex s (noProg "hands" (.int k) .none) h)) := fun e ⟨s, hs⟩ => by
      refine ⟨fun z => (by rw [e] at z; cases z), fun k z => ?_⟩
      rw [e] at z
      cases z
      exact ⟨s, by simp [-List.map_map, forL, gok, enumI, hs]⟩
    cases x with
    | tuple xs =>
      by_cases h2 : xs.length = 2
      · obtain ⟨a, b, rfl⟩ := len2 h2
        obtain ⟨m, rfl, _, hxs⟩ := hx.tuple
        have hna := is_name_ok (hxs a (by simp)) h
        have hnb := is_name_ok (hxs b (by simp)) h
        cases qa : isNm a with
        | false =>
          refine bad ?_ ⟨_, by
            simp [-List.map_map, W_look_at_hands_1, L_look_at_hands_1, isTup, hna, qa, sThrow]
            rfl⟩
          cases a with
          | str a =>
            have qa : isName a = false := qa
            cases b <;> simp [hnDue, qa]
          | _ => rfl
        | true =>
          cases qb : isNm b with
          | false =>
            refine bad ?_ ⟨_, by
              simp [-List.map_map, W_look_at_hands_1, L_look_at_hands_1, isTup, hna, qa, hnb, qb, sThrow]
              rfl⟩
            cases b with
            | str b =>
              have qb : isName b = false := qb
              cases a <;> simp [hnDue, qb]
            | _ => cases a <;> rfl
          | true =>
            cases a with
            | str a =>
              cases b with
              | str b =>
                have qa' : isName a = true := qa
                have qb' : isName b = true := qb
                have okp : ∀ y ∈ ps.map nmOf, okS y := fun y hy => by
                  obtain ⟨c, hc, rfl⟩ := List.mem_map.mp hy
                  obtain ⟨z', r', rfl, h'⟩ := isPr_shape (hp c hc)
                  exact (isName_ok h').1
                have okq : ∀ y ∈ pre.map nmOf, okS y := fun y hy => by
                  obtain ⟨c, hc, rfl⟩ := List.mem_map.mp hy
                  obtain ⟨z', r', rfl, h'⟩ := isHn_shape (hpre c hc)
                  exact (isName_ok h').1
                have hin1 := inS (neg := true) (isName_ok qb').1 okp
                have hin2 := inS (neg := false) (isName_ok qa').1 okq
                have hc := names_comp (h := h) (i := 6) (s0 := [some (.v (.list all)), none, some (.v (.list ((ps.map nmOf).map .str))), some (.v (.int pre.length)), some (.v (.tuple [.str a, .str b])), none, none]) (by simp) (l := pre) fun d hd => by
                  obtain ⟨z, r, rfl, _⟩ := isHn_shape (hpre d hd)
                  exact ⟨z, _, rfl⟩
                by_cases g1 : b ∈ ps.map nmOf
                · by_cases g2 : a ∈ pre.map nmOf
                  · refine bad (by simp only [hnDue, qa', qb', g1, g2, not_true, and_false, if_false]) ⟨_, by
                      simp [-List.map_map, -List.mem_map, W_look_at_hands_1, L_look_at_hands_1, isTup, hna, qa, hnb, qb, sThrow, hin1, hin2, g1, g2, ngt, e1, hc]
                      rfl⟩
                  · have st : W_look_at_hands_1 [some (.v (.list all)), none, some (.v (.list ((ps.map nmOf).map .str))), some (.v (.int pre.length)), some (.v (.tuple [.str a, .str b])), none, none] h =
                        some (.nx (S_look_at_hands_1 (.v (.list all)) (.v (.list ((ps.map nmOf).map .str)))) h) := by
                      simp [-List.map_map, -List.mem_map, W_look_at_hands_1, L_look_at_hands_1, isTup, hna, qa, hnb, qb, sThrow, hin1, hin2, g1, g2, ngt, e1, hc]
                    have ih := ih (fun c hc => by
                      rcases List.mem_append.mp hc with hc | hc
                      · exact hpre c hc
                      · rw [List.mem_singleton.mp hc]
                        exact qa') fun c hc => hd c (List.mem_cons_of_mem _ hc)
                    have eq : hnDue ps pre (.tuple [.str a, .str b] :: r) = hnDue ps (pre ++ [.tuple [.str a, .str b]]) r := by
                      simp only [hnDue, qa', qb', g1, g2, not_false_eq_true, and_self, if_true]
                    rw [eq]
                    rw [List.length_append] at ih
                    simpa [-List.map_map, forL, gok, enumI, st] using ih
                · refine bad (by simp only [hnDue, g1, false_and, and_false, if_false]) ⟨_, by
                    simp [-List.map_map, -List.mem_map, W_look_at_hands_1, L_look_at_hands_1, isTup, hna, qa, hnb, qb, sThrow, hin1, g1, ngt]
                    rfl⟩
              | _ => cases qb
            | _ => cases qa
      · have h2' : ¬ (xs.length : Int) = 2 := by omega
        refine bad ?_ ⟨_, by
          simp [-List.map_map, W_look_at_hands_1, L_look_at_hands_1, isTup, h2', sThrow]
          rfl⟩
        unfold hnDue
        split
        · rename_i e
          cases e
          exact absurd rfl h2
        · rfl
    | _ =>
      exact bad rfl ⟨_, by
        simp [-List.map_map, W_look_at_hands_1, L_look_at_hands_1, isTup, sThrow]
        rfl⟩
theorem hands_ok {n : Nat} {ps hs : List PyData} (hp : ∀ b ∈ ps, isPr b = true) (hd : ∀ b ∈ hs, Dt n b) (h : Hs) : callR F_look_at_hands [.list hs, .list ps] false h =
    (if 1 ≤ hs.length ∧ hs.length ≤ 3 then (match hnDue ps [] hs with
      | none => some (.ok (.v .none) h)
      | some k => some (.ex (noProg "hands" (.int k) .none) h)) else some (.ex (noProg "hands" .none .none) h)) := by
  have hc := names_comp (h := []) (i := 5) (s0 := [some (.v (.list hs)), some (.v (.list ps)), none, none, none, none, none]) (by simp) (names_pr hp)
  by_cases h1 : 1 ≤ hs.length
  · have h1' : 1 ≤ (hs.length : Int) := by omega
    by_cases h3 : hs.length ≤ 3
    · have h3' : (hs.length : Int) ≤ 3 := by omega
      obtain ⟨a1, a2⟩ := hands_loop (n := n) (all := hs) hp (h := []) hs [] rfl (by simp) hd
      rw [if_pos ⟨h1, h3⟩]
      cases e : hnDue ps [] hs with
      | none =>
        refine callR_v (h' := []) ?_
        have := a1 e
        rw [List.length_nil] at this
        simp [-List.map_map, F_look_at_hands, mkFn, B_look_at_hands, h1', h3', hc, this]
      | some k =>
        obtain ⟨s, hs⟩ := a2 k e
        rw [List.length_nil] at hs
        refine callR_np (h' := []) ?_
        simp [-List.map_map, F_look_at_hands, mkFn, B_look_at_hands, h1', h3', hc, hs]
    · have h3' : ¬ (hs.length : Int) ≤ 3 := by omega
      rw [if_neg (fun z => h3 z.2)]
      refine callR_np (h' := []) ?_
      simp [F_look_at_hands, mkFn, B_look_at_hands, h1', h3', sThrow]
  · have h1' : ¬ 1 ≤ (hs.length : Int) := by omega
    rw [if_neg (fun z => h1 z.1)]
    refine callR_np (h' := []) ?_
    simp [F_look_at_hands, mkFn, B_look_at_hands, h1', sThrow]
/-! ## look_at -/
/-- what is amiss first, of any thing: the part, the number, the row -/
def due : PyData → Option (Str × PyData × PyData)
  | .tuple [.list bs, .list ps, .list hs] =>
    if 1 ≤ bs.length ∧ bs.length ≤ 3 then (match bxDue [] bs with
      | some k => some ("boxes", .int k, .none)
      | none => if 1 ≤ ps.length ∧ ps.length ≤ 6 then (match prDue [] ps with
        | some k => some ("procs", .int k, .none)
        | none => (match rowsDue bs ps hs.length 0 ps with
          | some (i, j) => some ("rows", .int i, .int j)
          | none => if 1 ≤ hs.length ∧ hs.length ≤ 3 then (match hnDue ps [] hs with
            | some k => some ("hands", .int k, .none)
            | none => none) else some ("hands", .none, .none))) else some ("procs", .none, .none)) else some ("boxes", .none, .none)
  | _ => some ("program", .none, .none)
theorem bxDue_all : ∀ (r pre : List PyData), bxDue pre r = none → ∀ b ∈ r, isBx b = true
  | [], _, _, b, hb => by cases hb
  | x :: r, pre, e, b, hb => by
    unfold bxDue at e
    split at e
    · cases e
    · rename_i q
      rcases List.mem_cons.mp hb with rfl | hb
      · exact (Bool.not_eq_false _).mp fun z => q (.inl z)
      · exact bxDue_all r _ e b hb
theorem prDue_all : ∀ (r pre : List PyData), prDue pre r = none → ∀ b ∈ r, isPr b = true
  | [], _, _, b, hb => by cases hb
  | x :: r, pre, e, b, hb => by
    unfold prDue at e
    split at e
    · cases e
    · rename_i q
      rcases List.mem_cons.mp hb with rfl | hb
      · exact (Bool.not_eq_false _).mp fun z => q (.inl z)
      · exact prDue_all r _ e b hb
def isLst : PyData → Bool
  | .list _ => true
  | _ => false
theorem isi_lst (d : PyData) (h : Hs) : isiD "list" (.v d) h = some (.v (.bool (isLst d))) := by
  cases d <;> simp [isLst]
theorem len3' {α : Type} {xs : List α} : xs.length = 3 ∨ ¬ (xs.length : Int) = 3 := by omega
theorem look_at_ok {n : Nat} {d : PyData} (hd : Dt n d) (h : Hs) : callR F_look_at [d] false h = (match due d with
    | none => some (.ok (.v .none) h)
    | some (p, k, r) => some (.ex (noProg p k r) h)) := by
  cases d with
  | tuple xs =>
    rcases len3' (xs := xs) with h3 | h3
    · obtain ⟨a, b, c, rfl⟩ := len3 h3
      obtain ⟨m, rfl, _, hx⟩ := hd.tuple
      have hcomp : compL none (gNm 1) tYes' (eIsi "list" (eVar 1)) [.v a, .v b, .v c] [some (.v (.tuple [a, b, c])), none] [] = some ([.v (.bool (isLst a)), .v (.bool (isLst b)), .v (.bool (isLst c))], []) :=
        compMap (s := [some (.v (.tuple [a, b, c])), none]) (h := []) [a, b, c] D.v (gNm 1) (eIsi "list" (eVar 1)) (fun d => .bool (isLst d)) fun d _ => ⟨_, rfl, by simp [isi_lst]⟩
      by_cases hl : (∃ bs, a = .list bs) ∧ (∃ ps, b = .list ps) ∧ (∃ hs, c = .list hs)
      · obtain ⟨⟨bs, rfl⟩, ⟨ps, rfl⟩, ⟨hs, rfl⟩⟩ := hl
        obtain ⟨m1, rfl, hl1, hx1⟩ := (hx (.list bs) (by simp)).list
        obtain ⟨m2, e2, hl2, hx2⟩ := (hx (.list ps) (by simp)).list
        cases e2
        obtain ⟨m3, e3, hl3, hx3⟩ := (hx (.list hs) (by simp)).list
        cases e3
        have o1 := boxes_ok hx1 hl1 []
        by_cases g1 : 1 ≤ bs.length ∧ bs.length ≤ 3
        · rw [if_pos g1] at o1
          simp only [due, if_pos g1]
          cases q1 : bxDue [] bs with
          | some k =>
            rw [q1] at o1
            refine callR_np (h' := []) ?_
            simp [F_look_at, mkFn, B_look_at, isTup, hcomp, isLst, bools, o1]
          | none =>
            rw [q1] at o1
            have hb := bxDue_all bs [] q1
            have o2 := procs_ok hx2 []
            by_cases g2 : 1 ≤ ps.length ∧ ps.length ≤ 6
            · simp only [if_pos g2] at o2 ⊢
              cases q2 : prDue [] ps with
              | some k =>
                rw [q2] at o2
                refine callR_np (h' := []) ?_
                simp [F_look_at, mkFn, B_look_at, isTup, hcomp, isLst, bools, o1, o2]
              | none =>
                rw [q2] at o2
                have hp := prDue_all ps [] q2
                have o3 := rows_ok (hs := hs) hb hp (h := []) hx2
                cases q3 : rowsDue bs ps hs.length 0 ps with
                | some ij =>
                  obtain ⟨i, j⟩ := ij
                  rw [q3] at o3
                  refine callR_np (h' := []) ?_
                  simp [F_look_at, mkFn, B_look_at, isTup, hcomp, isLst, bools, o1, o2, o3]
                | none =>
                  rw [q3] at o3
                  have o4 := hands_ok hp hx3 []
                  by_cases g4 : 1 ≤ hs.length ∧ hs.length ≤ 3
                  · simp only [if_pos g4] at o4 ⊢
                    cases q4 : hnDue ps [] hs with
                    | some k =>
                      rw [q4] at o4
                      refine callR_np (h' := []) ?_
                      simp [F_look_at, mkFn, B_look_at, isTup, hcomp, isLst, bools, o1, o2, o3, o4]
                    | none =>
                      rw [q4] at o4
                      refine callR_v (h' := []) ?_
                      simp [F_look_at, mkFn, B_look_at, isTup, hcomp, isLst, bools, o1, o2, o3, o4]
                  · simp only [if_neg g4] at o4 ⊢
                    refine callR_np (h' := []) ?_
                    simp [F_look_at, mkFn, B_look_at, isTup, hcomp, isLst, bools, o1, o2, o3, o4]
            · simp only [if_neg g2] at o2 ⊢
              refine callR_np (h' := []) ?_
              simp [F_look_at, mkFn, B_look_at, isTup, hcomp, isLst, bools, o1, o2]
        · rw [if_neg g1] at o1
          simp only [due, if_neg g1]
          refine callR_np (h' := []) ?_
          simp [F_look_at, mkFn, B_look_at, isTup, hcomp, isLst, bools, o1]
      · have ed : due (.tuple [a, b, c]) = some (("program" : Str), PyData.none, PyData.none) := by
          unfold due
          split
          · rename_i e
            cases e
            exact absurd ⟨⟨_, rfl⟩, ⟨_, rfl⟩, ⟨_, rfl⟩⟩ hl
          · rfl
        rw [ed]
        refine callR_np (h' := []) ?_
        cases a <;> cases b <;> cases c <;> first | exact absurd ⟨⟨_, rfl⟩, ⟨_, rfl⟩, ⟨_, rfl⟩⟩ hl | simp [F_look_at, mkFn, B_look_at, isTup, hcomp, isLst, bools, sThrow]
    · have ed : due (.tuple xs) = some (("program" : Str), PyData.none, PyData.none) := by
        unfold due
        split
        · rename_i e
          cases e
          exact absurd rfl h3
        · rfl
      rw [ed]
      refine callR_np (h' := []) ?_
      simp [F_look_at, mkFn, B_look_at, isTup, h3, sThrow]
  | _ =>
    refine callR_np (h' := []) ?_
    simp [F_look_at, mkFn, B_look_at, isTup, sThrow]
end Fs
set_option maxHeartbeats 4000000
namespace Fs
open PySem PySem.Spec PyProof.Rows L2 Vl
@[simp] theorem at5 {α : Type} (a b c d e f : α) (r : List α) : atI (a :: b :: c :: d :: e :: f :: r) 5 = some f := atI_nat (k := 5) rfl
@[simp] theorem at6 {α : Type} (a b c d e f g : α) (r : List α) : atI (a :: b :: c :: d :: e :: f :: g :: r) 6 = some g := atI_nat (k := 6) rfl
@[simp] theorem at7 {α : Type} (a b c d e f g i : α) (r : List α) : atI (a :: b :: c :: d :: e :: f :: g :: i :: r) 7 = some i := atI_nat (k := 7) rfl
theorem rng1 {n : Int} {h : Hs} (h0 : 0 ≤ n) (h1 : n ≤ 1000000) : kRng1 [.v (.int n)] h = some ((List.range n.toNat).map fun k : Nat => D.v (.int (k : Int)), none) := by
  unfold kRng1 inLine
  have e1 : yes (-(2 ^ 62) ≤ n ∧ n < 2 ^ 62) = true := yes_of ⟨by omega, by omega⟩
  have e2 : yes (n ≤ 10000000) = true := yes_of (by omega)
  simp only [e1, e2, Bool.and_self, if_true]
  unfold rngItems
  simp
/-! ## programs, typed: what names a box and what names a procedure are left open -/
inductive Row (β κ : Type) where
  | put (b : β) (w t : Int)
  | swap (b : β) (x y t : Int)
  | ask (b : β) (ts : List (Option Int))
  | any (ts : List Int)
  | call (p : κ) (t : Int)
  | take (b : β) (t : Int)
  | give (b : β) (t : Int)
def oint : Option Int → PyData
  | none => .none
  | some i => .int i
def rowP {β κ : Type} (f : β → PyData) (g : κ → PyData) : Row β κ → PyData
  | .put b w t => .tuple [.str "put", f b, .int w, .int t]
  | .swap b x y t => .tuple [.str "swap", f b, .int x, .int y, .int t]
  | .ask b ts => .tuple [.str "ask", f b, .tuple (ts.map oint)]
  | .any ts => .tuple [.str "any", .tuple (ts.map .int)]
  | .call p t => .tuple [.str "call", g p, .int t]
  | .take b t => .tuple [.str "take", f b, .int t]
  | .give b t => .tuple [.str "give", f b, .int t]
def Row.map {β κ β' κ' : Type} (f : β → β') (g : κ → κ') : Row β κ → Row β' κ'
  | .put b w t => .put (f b) w t
  | .swap b x y t => .swap (f b) x y t
  | .ask b ts => .ask (f b) ts
  | .any ts => .any ts
  | .call p t => .call (g p) t
  | .take b t => .take (f b) t
  | .give b t => .give (f b) t
abbrev RowI := Row Int Int
abbrev rowI : RowI → PyData := rowP .int .int
/-- a place -/
def ToOk (e t : Int) : Prop := 0 ≤ t ∧ t ≤ e
/-- a row by numbers: the boxes' worths, how many procedures, the end, how many hands -/
def RowOk (ws : List Int) (np e nh : Int) : RowI → Prop
  | .put b w t => ∃ k : Nat, b = k ∧ ∃ m, ws[k]? = some m ∧ 0 ≤ w ∧ w < m ∧ ToOk e t
  | .swap b x y t => ∃ k : Nat, b = k ∧ ∃ m, ws[k]? = some m ∧ 0 ≤ x ∧ x < m ∧ 0 ≤ y ∧ y < m ∧ ToOk e t
  | .ask b ts => ∃ k : Nat, b = k ∧ ∃ m, ws[k]? = some m ∧ (ts.length : Int) = m ∧ ∀ t ∈ ts, ∀ i, t = some i → ToOk e i
  | .any ts => 1 ≤ ts.length ∧ ts.length ≤ 4 ∧ ∀ t ∈ ts, ToOk e t
  | .call p t => 0 ≤ p ∧ p < np ∧ ToOk e t
  | .take b t => ∃ k : Nat, b = k ∧ ∃ m, ws[k]? = some m ∧ nh < m ∧ ToOk e t
  | .give b t => ∃ k : Nat, b = k ∧ ∃ m, ws[k]? = some m ∧ nh < m ∧ ToOk e t
/-- worths of boxes -/
def WsOk (ws : List Int) : Prop := 1 ≤ ws.length ∧ ws.length ≤ 3 ∧ ∀ w ∈ ws, 2 ≤ w ∧ w ≤ 6
theorem dig8 {s0 s1 s2 s3 s4 s5 s6 s7 : Int} {es : List Int} (h : Dig [s0, s1, s2, s3, s4, s5, s6, s7] es) : ∃ d0 d1 d2 d3 d4 d5 d6 d7, es = [d0, d1, d2, d3, d4, d5, d6, d7] ∧ (0 ≤ d0 ∧ d0 < s0) ∧ (0 ≤ d1 ∧ d1 < s1) ∧ (0 ≤ d2 ∧ d2 < s2) ∧ (0 ≤ d3 ∧ d3 < s3) ∧ (0 ≤ d4 ∧ d4 < s4) ∧ (0 ≤ d5 ∧ d5 < s5) ∧ (0 ≤ d6 ∧ d6 < s6) ∧ (0 ≤ d7 ∧ d7 < s7) := by
  match es, h with
  | [d0, d1, d2, d3, d4, d5, d6, d7], h => exact ⟨d0, d1, d2, d3, d4, d5, d6, d7, rfl, h.1, h.2.1, h.2.2.1, h.2.2.2.1, h.2.2.2.2.1, h.2.2.2.2.2.1, h.2.2.2.2.2.2.1, h.2.2.2.2.2.2.2.1⟩
theorem tos_comp {d0 d1 d2 d3 d4 d5 d6 d7 e : Int} (h4 : 0 ≤ d4 ∧ d4 < 9) (h5 : 0 ≤ d5 ∧ d5 < 8) (he : 1 ≤ e ∧ e ≤ 1000) : ∃ tos : List Int, tos.length = 8 ∧ (∀ t ∈ tos, ToOk e t) ∧ ∀ sl : Sl, sl.length = 10 → sl[0]? = some (some (.v (.list ([d0, d1, d2, d3, d4, d5, d6, d7].map .int)))) → sl[2]? = some (some (.v (.int e))) →
      compL none (gNm 9) tYes' (eMod (eAdd (eIx (eVar 0) (eC (.int 4))) (eMul (eVar 9) (eAdd (eIx (eVar 0) (eC (.int 5))) (eC (.int 1))))) (eAdd (eVar 2) (eC (.int 1)))) ((List.range 8).map fun k : Nat => D.v (.int (k : Int))) sl [] = some ((tos.map .int).map .v, []) := by
  have hpos : 0 < e + 1 := by omega
  refine ⟨(List.range 8).map fun k : Nat => (d4 + k * (d5 + 1)) % (e + 1), by simp, fun t ht => ?_, fun sl hl e0 e2 => ?_⟩
  · obtain ⟨k, _, rfl⟩ := List.mem_map.mp ht
    have := Int.emod_nonneg (d4 + k * (d5 + 1)) (b := e + 1) (by omega)
    have := Int.emod_lt_of_pos (d4 + k * (d5 + 1)) hpos
    exact ⟨by omega, by omega⟩
  · rw [compMap (List.range 8) _ (gNm 9) _ (fun k : Nat => .int ((d4 + k * (d5 + 1)) % (e + 1))) fun k hk => ⟨_, rfl, ?_⟩]
    · rw [List.map_map, List.map_map]
      rfl
    · have hk' : k < 8 := List.mem_range.mp hk
      have hm : cmul (k : Int) (d5 + 1) = true := cmulL (by omega) (by omega)
      have g0 : (sl.set 9 (some (.v (.int (k : Int)))))[0]? = some (some (.v (.list ([d0, d1, d2, d3, d4, d5, d6, d7].map .int)))) := by
        rw [List.getElem?_set_ne (by decide)]
        exact e0
      have g2 : (sl.set 9 (some (.v (.int (k : Int)))))[2]? = some (some (.v (.int e))) := by
        rw [List.getElem?_set_ne (by decide)]
        exact e2
      have g9 : (sl.set 9 (some (.v (.int (k : Int)))))[9]? = some (some (.v (.int (k : Int)))) := by
        rw [List.getElem?_set_self (by omega)]
      simp [g0, g2, g9, hm, hpos]
theorem cut_take {α : Type} (xs : List α) {k : Int} (h : 0 ≤ k) : cutP xs none (some k) = xs.take k.toNat := by
  obtain ⟨n, rfl⟩ := Int.eq_ofNat_of_zero_le h
  unfold cutP
  rw [HT.sIx_nat, HT.sIx_none, List.drop_zero, Int.toNat_natCast, Nat.sub_zero]
  rcases Nat.le_total n xs.length with h | h
  · rw [Nat.min_eq_left h]
  · rw [Nat.min_eq_right h, List.take_of_length_le (Nat.le_refl _), List.take_of_length_le h]
theorem stops_comp {d0 d1 d2 d3 d4 d5 d6 d7 : Int} (h0 : d0 = 2 ∨ d0 = 3) : ∃ bs : List Bool, bs.length = 6 ∧ ∀ sl : Sl, sl.length = 10 → sl[0]? = some (some (.v (.list ([d0, d1, d2, d3, d4, d5, d6, d7].map .int)))) →
      compL none (gNm 9) tYes' (eAnd (eEq (eIx (eVar 0) (eC (.int 0))) (eC (.int 3))) (eEq (eMod (eFdiv (eIx (eVar 0) (eC (.int 6))) (eIx (eLst (eCons (eC (.int 1)) (eCons (eC (.int 2)) (eCons (eC (.int 4)) (eCons (eC (.int 8)) (eCons (eC (.int 16)) (eCons (eC (.int 32)) eNil))))))) (eVar 9))) (eC (.int 2))) (eC (.int 1))))
        ((List.range 6).map fun k : Nat => D.v (.int (k : Int))) sl [] = some ((bs.map .bool).map .v, []) := by
  refine ⟨(List.range 6).map fun k : Nat => decide (d0 = 3) && decide (d6 / 2 ^ k % 2 = 1), by simp, fun sl hl e0 => ?_⟩
  rw [compMap (List.range 6) _ (gNm 9) _ (fun k : Nat => .bool (decide (d0 = 3) && decide (d6 / 2 ^ k % 2 = 1))) fun k hk => ⟨_, rfl, ?_⟩]
  · rw [List.map_map, List.map_map]
    rfl
  · have hk' : k < 6 := List.mem_range.mp hk
    have g0 : (sl.set 9 (some (.v (.int (k : Int)))))[0]? = some (some (.v (.list ([d0, d1, d2, d3, d4, d5, d6, d7].map .int)))) := by
      rw [List.getElem?_set_ne (by decide)]
      exact e0
    have g9 : ∀ x, (sl.set 9 x)[9]? = some x := fun x => by
      rw [List.getElem?_set_self (by omega)]
    have c1 : ∀ j : Int, 0 < j → j < 1000 → cdiv j = true := fun j h1 h2 => cdivI h1 (by omega)
    rcases h0 with rfl | rfl
    · simp [g0, g9, e0, eqD_int]
    · have ek : k = 0 ∨ k = 1 ∨ k = 2 ∨ k = 3 ∨ k = 4 ∨ k = 5 := by omega
      rcases ek with rfl | rfl | rfl | rfl | rfl | rfl <;> simp [g0, g9, e0, eqD_int, c1]
theorem asks_comp {bs : List Bool} {tos : List Int} {e w : Int} (hb : bs.length = 6) (ht : tos.length = 8) (hw : 2 ≤ w ∧ w ≤ 6) (hto : ∀ t ∈ tos, ToOk e t) :
    ∃ ts : List (Option Int), (ts.length : Int) = w ∧ (∀ t ∈ ts, ∀ i, t = some i → ToOk e i) ∧ ∀ sl : Sl, sl.length = 10 → sl[4]? = some (some (.v (.list (tos.map .int)))) → sl[8]? = some (some (.v (.list (bs.map .bool)))) →
      compL none (gNm 9) tYes' (eIx (eLst (eCons (eIx (eVar 4) (eVar 9)) (eCons (eC .none) eNil))) (eB (b1 intOfP) (eCons (eIx (eVar 8) (eVar 9)) eNil))) ((List.range w.toNat).map fun k : Nat => D.v (.int (k : Int))) sl [] = some ((ts.map oint).map .v, []) := by
  refine ⟨(List.range w.toNat).map fun k : Nat => if bs.getD k false = true then none else some (tos.getD k 0), by simp; omega, fun t h i e1 => ?_, fun sl hl e4 e8 => ?_⟩
  · obtain ⟨k, hk, rfl⟩ := List.mem_map.mp h
    have hk' : k < w.toNat := List.mem_range.mp hk
    have hkl : k < tos.length := by omega
    split at e1
    · cases e1
    · cases e1
      rw [List.getD_eq_getElem?_getD, List.getElem?_eq_getElem hkl]
      exact hto _ (List.getElem_mem hkl)
  · rw [compMap (List.range w.toNat) _ (gNm 9) _ (fun k : Nat => oint (if bs.getD k false = true then none else some (tos.getD k 0))) fun k hk => ⟨_, rfl, ?_⟩]
    · rw [List.map_map, List.map_map]
      rfl
    · have hk' : k < w.toNat := List.mem_range.mp hk
      have hkl : k < tos.length := by omega
      have hkb : k < bs.length := by omega
      have g4 : (sl.set 9 (some (.v (.int (k : Int)))))[4]? = some (some (.v (.list (tos.map .int)))) := by
        rw [List.getElem?_set_ne (by decide)]
        exact e4
      have g8 : (sl.set 9 (some (.v (.int (k : Int)))))[8]? = some (some (.v (.list (bs.map .bool)))) := by
        rw [List.getElem?_set_ne (by decide)]
        exact e8
      have g9 : (sl.set 9 (some (.v (.int (k : Int)))))[9]? = some (some (.v (.int (k : Int)))) := by
        rw [List.getElem?_set_self (by omega)]
      have i1 : atI tos (k : Int) = some tos[k] := atI_nat (List.getElem?_eq_getElem hkl)
      have i2 : atI bs (k : Int) = some bs[k] := atI_nat (List.getElem?_eq_getElem hkb)
      have j1 : tos.getD k 0 = tos[k] := by rw [List.getD_eq_getElem?_getD, List.getElem?_eq_getElem hkl]; rfl
      have j2 : bs.getD k false = bs[k] := by rw [List.getD_eq_getElem?_getD, List.getElem?_eq_getElem hkb]; rfl
      rw [j1, j2]
      cases hq : bs[k] <;> simp [g4, g8, g9, i1, i2, hq, oint, intOfP]
theorem to_row_ok {es ws : List Int} {m e nh : Int} (hd : Dig [8, 3, 6, 6, 9, 8, 64, m] es) (hw : WsOk ws) (he : 1 ≤ e ∧ e ≤ 1000) (hh : 0 ≤ nh ∧ nh ≤ 100) (h : Hs) :
    ∃ r : RowI, callR F__law_to_row [.list (es.map .int), .tuple (ws.map .int), .int e, .int nh] false h = some (.ok (.v (rowI r)) h) ∧ RowOk ws m e nh r := by
  obtain ⟨d0, d1, d2, d3, d4, d5, d6, d7, rfl, h0, h1, h2, h3, h4, h5, h6, h7⟩ := dig8 hd
  obtain ⟨w1, w2, w3⟩ := hw
  have hb0 : 0 ≤ d1 % (ws.length : Int) := Int.emod_nonneg _ (by omega)
  have hb1 : d1 % (ws.length : Int) < ws.length := Int.emod_lt_of_pos _ (by omega)
  obtain ⟨w, hwat, hwm, hwk⟩ := atI_in (xs := ws) hb0 hb1
  have hwb := w3 w hwm
  have hwl : 0 < ws.length := by omega
  generalize hB : d1 % (ws.length : Int) = box at hb0 hb1 hwat hwk
  have hbk : box = (box.toNat : Int) := by omega
  have ho0 : 0 ≤ d2 % w := Int.emod_nonneg _ (by omega)
  have ho1 : d2 % w < w := Int.emod_lt_of_pos _ (by omega)
  have hp0 : 0 ≤ d3 % w := Int.emod_nonneg _ (by omega)
  have hp1 : d3 % w < w := Int.emod_lt_of_pos _ (by omega)
  have hw0 : 0 < w := by omega
  generalize hO : d2 % w = one at ho0 ho1
  generalize hP : d3 % w = other at hp0 hp1
  obtain ⟨tos, htl, hto, htc⟩ := tos_comp (d0 := d0) (d1 := d1) (d2 := d2) (d3 := d3) (d6 := d6) (d7 := d7) h4 h5 he
  obtain ⟨t0, t1, t2, t3, t4, t5, t6, t7, rfl⟩ : ∃ t0 t1 t2 t3 t4 t5 t6 t7, tos = [t0, t1, t2, t3, t4, t5, t6, t7] := by
    match tos, htl with
    | [t0, t1, t2, t3, t4, t5, t6, t7], _ => exact ⟨_, _, _, _, _, _, _, _, rfl⟩
  have k0 := hto t0 (by simp)
  have c0 := htc [some (.v (.list ([d0, d1, d2, d3, d4, d5, d6, d7].map .int))), some (.v (.tuple (ws.map .int))), some (.v (.int e)), some (.v (.int nh)), none, none, none, none, none, none] rfl rfl rfl
  have r8 : kRng1 [.v (.int 8)] [] = _ := rng1 (n := 8) (by decide) (by decide)
  have hz : ∀ r : RowI, F__law_to_row [.v (.list ([d0, d1, d2, d3, d4, d5, d6, d7].map .int)), .v (.tuple (ws.map .int)), .v (.int e), .v (.int nh)] [] = some (.rt (.v (rowI r)) []) → callR F__law_to_row [.list ([d0, d1, d2, d3, d4, d5, d6, d7].map .int), .tuple (ws.map .int), .int e, .int nh] false h = some (.ok (.v (rowI r)) h) := fun r e => callR_v (h' := []) e
  have ex : d0 = 0 ∨ d0 = 1 ∨ d0 = 2 ∨ d0 = 3 ∨ d0 = 4 ∨ d0 = 5 ∨ d0 = 6 ∨ d0 = 7 := by omega
  have pre := (eqD_int (neg := false) (i := d0) (j := 0) (h := []))
  have r6 : kRng1 [.v (.int 6)] [] = _ := rng1 (n := 6) (by decide) (by decide)
  have rw_ : kRng1 [.v (.int w)] [] = _ := rng1 (n := w) (by omega) (by omega)
  simp [-List.map_map] at c0 r8 r6 rw_
  rcases ex with rfl | rfl | rfl | rfl | rfl | rfl | rfl | rfl
  · refine ⟨.put box one t0, hz _ ?_, box.toNat, hbk, w, hwk, ho0, ho1, k0⟩
    simp [-List.map_map, F__law_to_row, mkFn, B__law_to_row, c0, r8, hwl, hB, hwat, hw0, hO, hP, eqD_int, rowI, rowP]
  · refine ⟨.swap box one other t0, hz _ ?_, box.toNat, hbk, w, hwk, ho0, ho1, hp0, hp1, k0⟩
    simp [-List.map_map, F__law_to_row, mkFn, B__law_to_row, c0, r8, hwl, hB, hwat, hw0, hO, hP, eqD_int, rowI, rowP]
  · obtain ⟨bs, b1, b2⟩ := stops_comp (d0 := 2) (d1 := d1) (d2 := d2) (d3 := d3) (d4 := d4) (d5 := d5) (d6 := d6) (d7 := d7) (.inl rfl)
    obtain ⟨ts, a1, a2, a3⟩ := asks_comp (bs := bs) (tos := [t0, t1, t2, t3, t4, t5, t6, t7]) (e := e) b1 rfl hwb hto
    refine ⟨.ask box ts, hz _ ?_, box.toNat, hbk, w, hwk, a1, a2⟩
    have b2 := fun a4 a5 a6 a7 => b2 [some (.v (.list ([2, d1, d2, d3, d4, d5, d6, d7].map .int))), some (.v (.tuple (ws.map .int))), some (.v (.int e)), some (.v (.int nh)), a4, a5, a6, a7, none, none] rfl rfl
    have a3 := fun a0 a1 a2 a3' a5 a6 a7 => a3 [a0, a1, a2, a3', some (.v (.list ([t0, t1, t2, t3, t4, t5, t6, t7].map .int))), a5, a6, a7, some (.v (.list (bs.map .bool))), none] rfl rfl rfl
    simp [-List.map_map] at b2 a3
    simp [-List.map_map, F__law_to_row, mkFn, B__law_to_row, c0, r8, r6, rw_, b2, a3, hwl, hB, hwat, hw0, hO, hP, eqD_int, rowI, rowP]
  · obtain ⟨bs, b1, b2⟩ := stops_comp (d0 := 3) (d1 := d1) (d2 := d2) (d3 := d3) (d4 := d4) (d5 := d5) (d6 := d6) (d7 := d7) (.inr rfl)
    obtain ⟨ts, a1, a2, a3⟩ := asks_comp (bs := bs) (tos := [t0, t1, t2, t3, t4, t5, t6, t7]) (e := e) b1 rfl hwb hto
    refine ⟨.ask box ts, hz _ ?_, box.toNat, hbk, w, hwk, a1, a2⟩
    have b2 := fun a4 a5 a6 a7 => b2 [some (.v (.list ([3, d1, d2, d3, d4, d5, d6, d7].map .int))), some (.v (.tuple (ws.map .int))), some (.v (.int e)), some (.v (.int nh)), a4, a5, a6, a7, none, none] rfl rfl
    have a3 := fun a0 a1 a2 a3' a5 a6 a7 => a3 [a0, a1, a2, a3', some (.v (.list ([t0, t1, t2, t3, t4, t5, t6, t7].map .int))), a5, a6, a7, some (.v (.list (bs.map .bool))), none] rfl rfl rfl
    simp [-List.map_map] at b2 a3
    simp [-List.map_map, F__law_to_row, mkFn, B__law_to_row, c0, r8, r6, rw_, b2, a3, hwl, hB, hwat, hw0, hO, hP, eqD_int, rowI, rowP]
  · have c1 : ([t0, t1, t2, t3, t4, t5, t6, t7].take (1 + d2 % 4).toNat).length = (1 + d2 % 4).toNat := by
      rw [List.length_take]
      simp
      omega
    have hc := cut_take ([t0, t1, t2, t3, t4, t5, t6, t7].map PyData.int) (k := 1 + d2 % 4) (by omega)
    rw [← List.map_take] at hc
    refine ⟨.any ([t0, t1, t2, t3, t4, t5, t6, t7].take (1 + d2 % 4).toNat), hz _ ?_, by rw [c1]; omega, by rw [c1]; omega, fun t ht => hto t (List.mem_of_mem_take ht)⟩
    generalize [t0, t1, t2, t3, t4, t5, t6, t7].take (1 + d2 % 4).toNat = tk at hc
    simp [-List.map_map] at hc
    simp [-List.map_map, F__law_to_row, mkFn, B__law_to_row, c0, r8, hwl, hB, hwat, hw0, hO, hP, eqD_int, rowI, rowP, hc]
  · refine ⟨.call d7 t0, hz _ ?_, h7.1, h7.2, k0⟩
    simp [-List.map_map, F__law_to_row, mkFn, B__law_to_row, c0, r8, hwl, hB, hwat, hw0, hO, hP, eqD_int, rowI, rowP]
  all_goals
    by_cases hle : w ≤ nh
    · refine ⟨.put box other t0, hz _ ?_, box.toNat, hbk, w, hwk, hp0, hp1, k0⟩
      simp [-List.map_map, F__law_to_row, mkFn, B__law_to_row, c0, r8, hwl, hB, hwat, hw0, hO, hP, eqD_int, rowI, rowP, hle]
  · refine ⟨.take box t0, hz _ ?_, box.toNat, hbk, w, hwk, by omega, k0⟩
    simp [-List.map_map, F__law_to_row, mkFn, B__law_to_row, c0, r8, hwl, hB, hwat, hw0, hO, hP, eqD_int, rowI, rowP, hle]
  · refine ⟨.give box t0, hz _ ?_, box.toNat, hbk, w, hwk, by omega, k0⟩
    simp [-List.map_map, F__law_to_row, mkFn, B__law_to_row, c0, r8, hwl, hB, hwat, hw0, hO, hP, eqD_int, rowI, rowP, hle]
end Fs
set_option maxHeartbeats 4000000
namespace Fs
open PySem PySem.Spec PyProof.Rows L2 Vl
theorem frz_mix {h : Hs} {n : Nat} {xs : List D} : frz h (n + 1) (.mix xs) = (frzs h n xs).map .tuple := rfl
theorem frz_ref {h : Hs} {n k : Nat} {xs : List D} (e : h[k]? = some (.lst xs)) : frz h (n + 1) (.ref k) = (frzs h n xs).map .list := by
  rw [y_frz1, e]
theorem frzs_cons {h : Hs} {n : Nat} {d : D} {ds : List D} : frzs h (n + 1) (d :: ds) = match frz h n d, frzs h (n + 1) ds with
  | some p, some ps => some (p :: ps)
  | _, _ => none := rfl
theorem frzs_nil {h : Hs} {n : Nat} : frzs h (n + 1) [] = some [] := rfl
theorem compTyp {α β : Type} {s : Sl} {h : Hs} (rep : β → PyData) (P : β → Prop) (i : α → D) (gm : GM) (f : EM) : ∀ (l : List α), (∀ c ∈ l, ∃ s1 b, gm (i c) s h = some s1 ∧ f s1 h = some (.ok (.v (rep b)) h) ∧ P b) →
    ∃ bs : List β, compL none gm tYes' f (l.map i) s h = some ((bs.map rep).map .v, h) ∧ bs.length = l.length ∧ ∀ b ∈ bs, P b
  | [], _ => ⟨[], by simp [compL, gok], rfl, by simp⟩
  | c :: r, H => by
    obtain ⟨bs, e1, e2, e3⟩ := compTyp rep P i gm f r fun z hz => H z (List.mem_cons_of_mem _ hz)
    obtain ⟨s1, b, g1, g2, g3⟩ := H c List.mem_cons_self
    refine ⟨b :: bs, ?_, by rw [List.length_cons, List.length_cons, e2], fun x hx => ?_⟩
    · rw [List.map_cons, compL, if_pos (show gok none h from trivial)]
      simp only [g1, z_yes, g2, e1, if_true]
      rfl
    · rcases List.mem_cons.mp hx with rfl | hx
      · exact g3
      · exact e3 x hx
/-! ## the cells of a script -/
theorem cell_ok (ns : List Int) (k : Int) (hk : 0 ≤ k) (h : Hs) : ∃ c : Int, callR F__law_cell_at [.list (ns.map .int), .int k] false h = some (.ok (.v (.int c)) h) := by
  by_cases hl : k < ns.length
  · obtain ⟨x, e, _⟩ := atI_in (xs := ns) hk hl
    exact ⟨x, callR_v (h' := []) (by simp [F__law_cell_at, mkFn, B__law_cell_at, hl, e])⟩
  · exact ⟨0, callR_v (h' := []) (by simp [F__law_cell_at, mkFn, B__law_cell_at, hl])⟩
/-! ## plans -/
structure Plan where
  ws : List Int
  fs : List Int
  ps : List (List RowI)
  hs : List Int
def planP (p : Plan) : PyData := .tuple [.tuple (p.ws.map .int), .list (p.fs.map .int), .list (p.ps.map fun r => .list (r.map rowI)), .list (p.hs.map .int)]
structure Plan.Ok (p : Plan) (mp mr mh : Nat) : Prop where
  ws : WsOk p.ws
  fl : p.fs.length = p.ws.length
  fs : ∀ (k : Nat) f w, p.fs[k]? = some f → p.ws[k]? = some w → 0 ≤ f ∧ f < w
  pl : 1 ≤ p.ps.length ∧ p.ps.length ≤ mp
  ps : ∀ r ∈ p.ps, 1 ≤ r.length ∧ r.length ≤ mr ∧ ∀ x ∈ r, RowOk p.ws p.ps.length r.length p.hs.length x
  hl : 1 ≤ p.hs.length ∧ p.hs.length ≤ mh
  hs : ∀ x ∈ p.hs, 0 ≤ x ∧ x < p.ps.length
theorem Dig.take : ∀ (n : Nat) {ss ds : List Int}, Dig ss ds → Dig (ss.take n) (ds.take n)
  | 0, _, _, _ => by simp [Dig]
  | n + 1, [], [], _ => trivial
  | n + 1, [], _ :: _, h => h.elim
  | n + 1, _ :: _, [], h => h.elim
  | n + 1, _ :: _, _ :: _, h => ⟨h.1, Dig.take n h.2⟩
theorem cut_mid {α : Type} (xs : List α) {j k : Nat} (h : k ≤ xs.length) : cutP xs (some (j : Int)) (some (k : Int)) = (xs.drop j).take (k - j) := by
  unfold cutP
  rw [HT.sIx_nat, HT.sIx_nat, Nat.min_eq_left h]
  rcases Nat.le_total j xs.length with g | g
  · rw [Nat.min_eq_left g]
  · rw [Nat.min_eq_right g, List.drop_length, List.drop_eq_nil_of_le g]
    simp
theorem rep_drop {l : List Int} {n j : Nat} (hj : j < n) : (((List.replicate n l).flatten.drop (l.length * j)).take l.length) = l := by
  induction j generalizing n with
  | zero =>
    obtain ⟨m, rfl⟩ : ∃ m, n = m + 1 := ⟨n - 1, by omega⟩
    simp [List.replicate_succ]
  | succ j ih =>
    obtain ⟨m, rfl⟩ : ∃ m, n = m + 1 := ⟨n - 1, by omega⟩
    rw [List.replicate_succ, List.flatten_cons, Nat.mul_succ, Nat.add_comm, ← List.drop_drop, List.drop_left]
    exact ih (by omega)
theorem plan_turn {ns ws fs hs : List Int} {mr np nh : Nat} {D0 : List D} {k : Int} (hk : 0 ≤ k ∧ k ≤ 100) (hmr : 1 ≤ mr ∧ mr ≤ 100) (hnp : 1 ≤ np ∧ np ≤ 100) (hw : WsOk ws) (hh : hs.length ≤ 100) (hD : D0.length ≤ 1000) :
    ∃ r : List RowI, 1 ≤ r.length ∧ r.length ≤ mr ∧ (∀ x ∈ r, RowOk ws np r.length hs.length x) ∧
      W__law_plan_1 [some (.v (.list (ns.map .int))), none, some (.v (.int mr)), none, none, none, some (.v (.tuple (ws.map .int))), some (.v (.list (fs.map .int))), some (.v (.int np)), some (.v (.list (hs.map .int))), some (.ref 0), some (.v (.int k)), none, none, none] [.lst D0] =
      some (.nx (S__law_plan_1 (.v (.list (ns.map .int))) (.v (.int mr)) (.v (.tuple (ws.map .int))) (.v (.list (fs.map .int))) (.v (.int np)) (.v (.list (hs.map .int))) (.ref 0)) [.lst (D0 ++ [.v (.list (r.map rowI))])]) := by
  obtain ⟨c, hc⟩ := cell_ok ns (1 + k) (by omega) [.lst D0]
  have hsz : ([(mr : Int)] ++ (List.replicate mr [8, 3, 6, 6, 9, 8, 64, (np : Int)]).flatten).length = 1 + 8 * mr := by
    simp [List.length_flatten]
    omega
  obtain ⟨es, he, hd⟩ := dig_call (cell := c) (turn := 1 + k) (sizes := [(mr : Int)] ++ (List.replicate mr [8, 3, 6, 6, 9, 8, 64, (np : Int)]).flatten) (h := [.lst D0]) (fun s hs => by
    rcases List.mem_append.mp hs with h | h
    · rw [List.mem_singleton.mp h]
      omega
    · obtain ⟨l, hl, h⟩ := List.mem_flatten.mp h
      rw [(List.mem_replicate.mp hl).2] at h
      simp only [List.mem_cons, List.not_mem_nil, or_false] at h
      omega) (by rw [hsz]; omega) (by omega) (by omega)
  have hel : es.length = 1 + 8 * mr := by rw [hd.len, hsz]
  cases es with
  | nil =>
    rw [List.length_nil] at hel
    omega
  | cons e0 er =>
    have h0 : 0 ≤ e0 ∧ e0 < mr := hd.1
    have hdr : Dig (List.replicate mr [8, 3, 6, 6, 9, 8, 64, (np : Int)]).flatten er := hd.2
    have hmul : mulP (.list [.int 8, .int 3, .int 6, .int 6, .int 9, .int 8, .int 64, .int np]) (.int mr) = some (.list ((List.replicate mr [8, 3, 6, 6, 9, 8, 64, (np : Int)]).flatten.map .int)) := by
      have hg : yes (-(2 ^ 63) ≤ (mr : Int) ∧ (mr : Int) < 2 ^ 63 ∧ [PyData.int 8, .int 3, .int 6, .int 6, .int 9, .int 8, .int 64, .int np].length * (mr : Int).toNat ≤ sizeLine) = true :=
        yes_of ⟨by omega, by omega, ten_line' (by simp; omega)⟩
      rw [y_mul1, if_pos hg, List.map_flatten, List.map_replicate]
      simp
    have hend : ∃ n : Nat, 1 + e0 = n ∧ 1 ≤ n ∧ n ≤ mr := ⟨(1 + e0).toNat, by omega, by omega, by omega⟩
    obtain ⟨n, hn, hn1, hn2⟩ := hend
    have hrng : kRng1 [.v (.int (n : Int))] [.lst D0] = _ := rng1 (n := n) (by omega) (by omega)
    rw [Int.toNat_natCast] at hrng
    obtain ⟨rs, r1, r2, r3⟩ := compTyp (s := [some (.v (.list (ns.map .int))), none, some (.v (.int mr)), none, none, none, some (.v (.tuple (ws.map .int))), some (.v (.list (fs.map .int))), some (.v (.int np)), some (.v (.list (hs.map .int))), some (.ref 0), some (.v (.int k)), some (.v (.list ((e0 :: er).map .int))), some (.v (.int n)), none]) (h := [.lst D0]) rowI (RowOk ws np n hs.length) (fun j : Nat => .v (.int (j : Int))) (gNm 14)
      (eCall F__law_to_row (eCons (eSl (eVar 12) (some (eAdd (eC (.int 1)) (eMul (eC (.int 8)) (eVar 14)))) (some (eAdd (eC (.int 9)) (eMul (eC (.int 8)) (eVar 14))))) (eCons (eVar 6) (eCons (eVar 13) (eCons (eB lenD (eCons (eVar 9) eNil)) eNil))))) (List.range n) fun j hj => by
        have hj' : j < n := List.mem_range.mp hj
        have hdig : Dig [8, 3, 6, 6, 9, 8, 64, (np : Int)] ((er.drop (8 * j)).take 8) := by
          have := Dig.take 8 (Dig.drop (8 * j) hdr)
          have q : ((List.replicate mr [8, 3, 6, 6, 9, 8, 64, (np : Int)]).flatten.drop (8 * j)).take 8 = [8, 3, 6, 6, 9, 8, 64, (np : Int)] := rep_drop (l := [8, 3, 6, 6, 9, 8, 64, (np : Int)]) (n := mr) (j := j) (by omega)
          rw [q] at this
          exact this
        obtain ⟨r, hr, hrok⟩ := to_row_ok (e := (n : Int)) (nh := (hs.length : Int)) hdig hw (by omega) (by omega) [.lst D0]
        have hcut : cutP (PyData.int e0 :: er.map PyData.int) (some (1 + 8 * (j : Int))) (some (9 + 8 * (j : Int))) = (((er.drop (8 * j)).take 8).map .int) := by
          have e1 : (1 + 8 * (j : Int)) = ((1 + 8 * j : Nat) : Int) := by omega
          have e2 : (9 + 8 * (j : Int)) = ((9 + 8 * j : Nat) : Int) := by omega
          rw [e1, e2, cut_mid _ (by simp only [List.length_cons, List.length_map] at hel ⊢; omega), show 9 + 8 * j - (1 + 8 * j) = 8 by omega, Nat.add_comm 1, List.drop_succ_cons, ← List.map_drop, ← List.map_take]
        have hm : cmul 8 (j : Int) = true := cmulL (by decide) (by decide)
        exact ⟨_, r, rfl, by simp [-List.map_take, -List.map_drop, hm, hcut, hr], hrok⟩
    rw [List.length_range] at r2
    refine ⟨rs, by omega, by omega, by rw [r2]; exact r3, ?_⟩
    have hx : ∀ (xs : List PyData), xs.length ≤ 1000 → (xs.length ≤ sizeLine) = True := fun xs h => sz (by omega)
    have hdl : D0.length < sizeLine := lt_line (by omega)
    have hl1 : (List.replicate mr [8, 3, 6, 6, 9, 8, 64, (np : Int)]).flatten.length + 1 ≤ sizeLine := ten_line' (by
      rw [List.length_append, List.length_singleton] at hsz
      omega)
    have he' : callR F__law_digits [.int c, .int (1 + k), .list (.int mr :: (List.replicate mr [8, 3, 6, 6, 9, 8, 64, (np : Int)]).flatten.map .int)] false [.lst D0] = some (.ok (.v (.list (.int e0 :: er.map .int))) [.lst D0]) := he
    clear hd hdr hsz he
    generalize (List.replicate mr [8, 3, 6, 6, 9, 8, 64, (np : Int)]).flatten = FL at hmul hl1 he'
    have hl2 : 1 + FL.length ≤ sizeLine := by omega
    simp [-List.map_map] at r1 hrng
    simp [-List.map_map, W__law_plan_1, L__law_plan_1, hc, hmul, hl2, he', hn, hrng, r1, hdl]
end Fs
set_option maxHeartbeats 4000000
namespace Fs
open PySem PySem.Spec PyProof.Rows L2 Vl
theorem plan_loop {ns ws fs hs : List Int} {mr np nh : Nat} (hmr : 1 ≤ mr ∧ mr ≤ 100) (hnp : 1 ≤ np ∧ np ≤ 100) (hw : WsOk ws) (hh : hs.length ≤ 100) : ∀ (n k : Nat) (acc : List (List RowI)), k + n ≤ 100 → acc.length = k →
    ∃ rs : List (List RowI), rs.length = n ∧ (∀ r ∈ rs, 1 ≤ r.length ∧ r.length ≤ mr ∧ ∀ x ∈ r, RowOk ws np r.length hs.length x) ∧
      forL none G__law_plan_1 W__law_plan_1 ((List.range' k n).map fun k : Nat => D.v (.int (k : Int))) (S__law_plan_1 (.v (.list (ns.map .int))) (.v (.int mr)) (.v (.tuple (ws.map .int))) (.v (.list (fs.map .int))) (.v (.int np)) (.v (.list (hs.map .int))) (.ref 0)) [.lst ((acc.map fun r => PyData.list (r.map rowI)).map .v)] =
      some (.nx (S__law_plan_1 (.v (.list (ns.map .int))) (.v (.int mr)) (.v (.tuple (ws.map .int))) (.v (.list (fs.map .int))) (.v (.int np)) (.v (.list (hs.map .int))) (.ref 0)) [.lst (((acc ++ rs).map fun r => PyData.list (r.map rowI)).map .v)])
  | 0, k, acc, _, _ => ⟨[], rfl, by simp, by simp [forL, gok]⟩
  | n + 1, k, acc, h1, h2 => by
    obtain ⟨r, r1, r2, r3, r4⟩ := plan_turn (ns := ns) (fs := fs) (nh := nh) (D0 := (acc.map fun r => PyData.list (r.map rowI)).map .v) (k := (k : Int)) (by omega) hmr hnp hw hh (by rw [List.length_map, List.length_map]; omega)
    obtain ⟨rs, q1, q2, q3⟩ := plan_loop (ns := ns) (fs := fs) (nh := nh) hmr hnp hw hh n (k + 1) (acc ++ [r]) (by omega) (by rw [List.length_append, h2]; rfl)
    refine ⟨r :: rs, by rw [List.length_cons, q1], fun x hx => ?_, ?_⟩
    · rcases List.mem_cons.mp hx with rfl | hx
      · exact ⟨r1, r2, r3⟩
      · exact q2 x hx
    · rw [List.range'_succ, List.map_cons, forL, if_pos (show gok none _ from trivial)]
      simp only [z_gnm, S__law_plan_1, List.set_cons_succ, List.set_cons_zero]
      rw [r4]
      simp only
      have e : ((acc.map fun r => PyData.list (r.map rowI)).map D.v ++ [D.v (.list (r.map rowI))]) = (((acc ++ [r]).map fun r => PyData.list (r.map rowI)).map D.v) := by
        rw [List.map_append, List.map_append]
        rfl
      rw [e, q3, List.append_assoc]
      rfl
theorem dig9' {s0 s1 s2 s3 s4 s5 s6 s7 s8 : Int} {es : List Int} (h : Dig [s0, s1, s2, s3, s4, s5, s6, s7, s8] es) : ∃ d0 d1 d2 d3 d4 d5 d6 d7 d8, es = [d0, d1, d2, d3, d4, d5, d6, d7, d8] ∧ (0 ≤ d0 ∧ d0 < s0) ∧ (0 ≤ d1 ∧ d1 < s1) ∧ (0 ≤ d2 ∧ d2 < s2) ∧ (0 ≤ d3 ∧ d3 < s3) ∧ (0 ≤ d4 ∧ d4 < s4) ∧ (0 ≤ d5 ∧ d5 < s5) ∧ (0 ≤ d6 ∧ d6 < s6) ∧ (0 ≤ d7 ∧ d7 < s7) ∧ (0 ≤ d8 ∧ d8 < s8) := by
  match es, h with
  | [d0, d1, d2, d3, d4, d5, d6, d7, d8], h => exact ⟨d0, d1, d2, d3, d4, d5, d6, d7, d8, rfl, h.1, h.2.1, h.2.2.1, h.2.2.2.1, h.2.2.2.2.1, h.2.2.2.2.2.1, h.2.2.2.2.2.2.1, h.2.2.2.2.2.2.2.1, h.2.2.2.2.2.2.2.2.1⟩
theorem frz_ref0 {h : Hs} {ps : List PyData} {n k : Nat} (e : h[k]? = some (.lst (ps.map .v))) : frz h (n + 2) (.ref k) = some (.list ps) := by
  rw [y_frz1, e]
  simp only [y_frzs]
  rfl
theorem plan_ok {ns : List Int} {menu : List (List Int)} {mp mr mh : Nat} (hm : ∀ ws ∈ menu, WsOk ws) (hml : 1 ≤ menu.length ∧ menu.length ≤ 100) (hp : 1 ≤ mp ∧ mp ≤ 50) (hr : 1 ≤ mr ∧ mr ≤ 100) (hh : 1 ≤ mh ∧ mh ≤ 3) (h : Hs) :
    ∃ p : Plan, p.Ok mp mr mh ∧ p.ws ∈ menu ∧ callR F__law_plan [.list (ns.map .int), .int mp, .int mr, .int mh, .list (menu.map fun ws => .tuple (ws.map .int))] false h = some (.ok (.v (planP p)) h) := by
  obtain ⟨c, hc⟩ := cell_ok ns 0 (by decide) []
  obtain ⟨es, he, hd⟩ := dig_call (cell := c) (turn := 0) (sizes := [(menu.length : Int), mp, mh, 6, 6, 6, 6, 6, 6]) (h := []) (fun s hs => by
    simp only [List.mem_cons, List.not_mem_nil, or_false] at hs
    omega) (by simp) (by decide) (by decide)
  obtain ⟨d0, d1, d2, d3, d4, d5, d6, d7, d8, rfl, h0, h1, h2, h3, h4, h5, h6, h7, h8⟩ := dig9' hd
  obtain ⟨ws, hws, hwm, _⟩ := atI_in (xs := menu) h0.1 h0.2
  have hw := hm ws hwm
  obtain ⟨w1, w2, w3⟩ := hw
  -- the firsts
  have hr1 : kRng1 [.v (.int (ws.length : Int))] [] = _ := rng1 (by omega) (by omega)
  rw [Int.toNat_natCast] at hr1
  have hfs : ∃ fs : List Int, fs.length = ws.length ∧ (∀ (k : Nat) f w, fs[k]? = some f → ws[k]? = some w → 0 ≤ f ∧ f < w) ∧ ∀ sl : Sl, sl.length = 15 → sl[5]? = some (some (.v (.list ([d0, d1, d2, d3, d4, d5, d6, d7, d8].map .int)))) → sl[6]? = some (some (.v (.tuple (ws.map .int)))) →
      compL none (gNm 11) tYes' (eMod (eIx (eVar 5) (eAdd (eC (.int 3)) (eVar 11))) (eIx (eVar 6) (eVar 11))) ((List.range ws.length).map fun k : Nat => D.v (.int (k : Int))) sl [] = some ((fs.map .int).map .v, []) := by
    refine ⟨(List.range ws.length).map fun k : Nat => ([d3, d4, d5].getD k 0) % (ws.getD k 1), by simp, fun k f w e1 e2 => ?_, fun sl hl e5 e6 => ?_⟩
    · obtain ⟨hk, _⟩ := List.getElem?_eq_some_iff.mp e2
      rw [List.getElem?_map, List.getElem?_range hk] at e1
      simp only [Option.map_some, Option.some.injEq] at e1
      rw [List.getD_eq_getElem?_getD, List.getD_eq_getElem?_getD, e2] at e1
      have hwp := w3 w (List.mem_of_getElem? e2)
      simp only [Option.getD_some] at e1
      subst e1
      exact ⟨Int.emod_nonneg _ (by omega), Int.emod_lt_of_pos _ (by omega)⟩
    · rw [compMap (List.range ws.length) _ (gNm 11) _ (fun k : Nat => .int (([d3, d4, d5].getD k 0) % (ws.getD k 1))) fun k hk => ⟨_, rfl, ?_⟩]
      · rw [List.map_map, List.map_map]
        rfl
      · have hk' : k < ws.length := List.mem_range.mp hk
        have g5 : ∀ x, (sl.set 11 x)[5]? = some (some (.v (.list ([d0, d1, d2, d3, d4, d5, d6, d7, d8].map .int)))) := fun x => by
          rw [List.getElem?_set_ne (by decide)]
          exact e5
        have g6 : ∀ x, (sl.set 11 x)[6]? = some (some (.v (.tuple (ws.map .int)))) := fun x => by
          rw [List.getElem?_set_ne (by decide)]
          exact e6
        have g11 : ∀ x, (sl.set 11 x)[11]? = some x := fun x => by
          rw [List.getElem?_set_self (by omega)]
        have i1 : atI ws (k : Int) = some ws[k] := atI_nat (List.getElem?_eq_getElem hk')
        have i2 : atI [d0, d1, d2, d3, d4, d5, d6, d7, d8] (3 + (k : Int)) = some ([d3, d4, d5].getD k 0) := by
          have ek : k = 0 ∨ k = 1 ∨ k = 2 := by omega
          have : (3 + (k : Int)) = ((3 + k : Nat) : Int) := by omega
          rw [this]
          refine atI_nat ?_
          rcases ek with rfl | rfl | rfl <;> rfl
        have j1 : ws.getD k 1 = ws[k] := by rw [List.getD_eq_getElem?_getD, List.getElem?_eq_getElem hk']; rfl
        have hp : 0 < ws[k] := by
          have := w3 ws[k] (List.getElem_mem hk')
          omega
        have i2' : atI ([d0, d1, d2, d3, d4, d5, d6, d7, d8].map PyData.int) (3 + (k : Int)) = some (.int ([d3, d4, d5].getD k 0)) := by
          rw [atI_map, i2]
          rfl
        simp only [List.map_cons, List.map_nil] at i2' g5
        rw [j1]
        simp [g5, g6, g11, e5, e6, i1, i2', hp]
  obtain ⟨fs, f1, f2, f3⟩ := hfs
  -- the hands
  obtain ⟨np, hnp, np1, np2⟩ : ∃ n : Nat, 1 + d1 = n ∧ 1 ≤ n ∧ n ≤ mp := ⟨(1 + d1).toNat, by omega, by omega, by omega⟩
  obtain ⟨nh, hnh, nh1, nh2⟩ : ∃ n : Nat, 1 + d2 = n ∧ 1 ≤ n ∧ n ≤ mh := ⟨(1 + d2).toNat, by omega, by omega, by omega⟩
  have hr2 : kRng1 [.v (.int (nh : Int))] [] = _ := rng1 (by omega) (by omega)
  rw [Int.toNat_natCast] at hr2
  have hhs : ∃ hs : List Int, hs.length = nh ∧ (∀ x ∈ hs, 0 ≤ x ∧ x < np) ∧ ∀ sl : Sl, sl.length = 15 → sl[5]? = some (some (.v (.list ([d0, d1, d2, d3, d4, d5, d6, d7, d8].map .int)))) → sl[8]? = some (some (.v (.int np))) →
      compL none (gNm 11) tYes' (eMod (eIx (eVar 5) (eAdd (eC (.int 6)) (eVar 11))) (eVar 8)) ((List.range nh).map fun k : Nat => D.v (.int (k : Int))) sl [] = some ((hs.map .int).map .v, []) := by
    refine ⟨(List.range nh).map fun k : Nat => ([d6, d7, d8].getD k 0) % np, by simp, fun x hx => ?_, fun sl hl e5 e8 => ?_⟩
    · obtain ⟨k, _, rfl⟩ := List.mem_map.mp hx
      exact ⟨Int.emod_nonneg _ (by omega), Int.emod_lt_of_pos _ (by omega)⟩
    · rw [compMap (List.range nh) _ (gNm 11) _ (fun k : Nat => .int (([d6, d7, d8].getD k 0) % np)) fun k hk => ⟨_, rfl, ?_⟩]
      · rw [List.map_map, List.map_map]
        rfl
      · have hk' : k < nh := List.mem_range.mp hk
        have g5 : ∀ x, (sl.set 11 x)[5]? = some (some (.v (.list ([d0, d1, d2, d3, d4, d5, d6, d7, d8].map .int)))) := fun x => by
          rw [List.getElem?_set_ne (by decide)]
          exact e5
        have g8 : ∀ x, (sl.set 11 x)[8]? = some (some (.v (.int np))) := fun x => by
          rw [List.getElem?_set_ne (by decide)]
          exact e8
        have g11 : ∀ x, (sl.set 11 x)[11]? = some x := fun x => by
          rw [List.getElem?_set_self (by omega)]
        have i2 : atI [d0, d1, d2, d3, d4, d5, d6, d7, d8] (6 + (k : Int)) = some ([d6, d7, d8].getD k 0) := by
          have ek : k = 0 ∨ k = 1 ∨ k = 2 := by omega
          have : (6 + (k : Int)) = ((6 + k : Nat) : Int) := by omega
          rw [this]
          refine atI_nat ?_
          rcases ek with rfl | rfl | rfl <;> rfl
        have i2' : atI ([d0, d1, d2, d3, d4, d5, d6, d7, d8].map PyData.int) (6 + (k : Int)) = some (.int ([d6, d7, d8].getD k 0)) := by
          rw [atI_map, i2]
          rfl
        simp only [List.map_cons, List.map_nil] at i2' g5
        have hp : 0 < np := by omega
        simp [g5, g8, g11, e5, e8, i2', hp]
  obtain ⟨hs, s1, s2, s3⟩ := hhs
  have hr3 : kRng1 [.v (.int (np : Int))] [.lst []] = _ := rng1 (by omega) (by omega)
  rw [Int.toNat_natCast, List.range_eq_range'] at hr3
  obtain ⟨rs, r1, r2, r3⟩ := plan_loop (ns := ns) (fs := fs) (nh := nh) (np := np) hr (by omega) ⟨w1, w2, w3⟩ (hs := hs) (by omega) np 0 [] (by omega) rfl
  refine ⟨⟨ws, fs, rs, hs⟩, ⟨⟨w1, w2, w3⟩, f1, f2, by simp only [r1]; omega, by simp only [r1]; exact r2, by simp only [s1]; omega, by simp only [r1]; exact s2⟩, hwm, ?_⟩
  refine callR_rt (h' := [.lst ((rs.map fun r => PyData.list (r.map rowI)).map .v)]) (d := .mix [.v (.tuple (ws.map .int)), .v (.list (fs.map .int)), .ref 0, .v (.list (hs.map .int))]) ?_ ?_
  · have f3 := fun a0 a1 a2 a3 a4 a7 a8 a9 a10 a12 a13 a14 => f3 [a0, a1, a2, a3, a4, some (.v (.list ([d0, d1, d2, d3, d4, d5, d6, d7, d8].map .int))), some (.v (.tuple (ws.map .int))), a7, a8, a9, a10, none, a12, a13, a14] rfl rfl rfl
    have s3 := fun a0 a1 a2 a3 a4 a6 a7 a9 a10 a12 a13 a14 => s3 [a0, a1, a2, a3, a4, some (.v (.list ([d0, d1, d2, d3, d4, d5, d6, d7, d8].map .int))), a6, a7, some (.v (.int np)), a9, a10, none, a12, a13, a14] rfl rfl rfl
    simp only [List.map_nil, List.nil_append, S__law_plan_1] at r3
    have he' : callR F__law_digits [.int c, .int 0, .list [.int menu.length, .int mp, .int mh, .int 6, .int 6, .int 6, .int 6, .int 6, .int 6]] false [] = some (.ok (.v (.list ([d0, d1, d2, d3, d4, d5, d6, d7, d8].map .int))) []) := he
    have hwa : atI (menu.map fun ws => PyData.tuple (ws.map .int)) d0 = some (.tuple (ws.map .int)) := by
      rw [atI_map, hws]
      rfl
    simp [-List.map_map] at f3 s3 he'
    simp [-List.map_map, F__law_plan, mkFn, B__law_plan, hc, he', hwa, hr1, f3, hnp, hnh, hr2, s3, hr3, r3]
  · rw [planP]
    show frz _ (11 + 1) _ = _
    rw [frz_mix, frzs_cons, frzs_cons, frzs_cons, frzs_cons, frzs_nil, frz_v, frz_v, frz_v, frz_ref (xs := (rs.map fun r => PyData.list (r.map rowI)).map .v) rfl, y_frzs]
    rfl
end Fs
set_option maxHeartbeats 4000000
namespace Fs
open PySem PySem.Spec PyProof.Rows L2 Vl
/-! ## names -/
def stemC (n : Int) (k : Nat) : Nat := (abc.cps.toList[((n + 7 * (k : Int)) % 26).toNat]?).getD 0
def moreS (n : Int) : Str := if n / 26 % 4 = 0 then "" else if n / 26 % 4 = 1 then "x" else if n / 26 % 4 = 2 then "zz" else "qqqqqqq"
def nameF (n : Int) (k : Nat) : Str := if n / 104 % 2 = 0 then moreS n ++ ⟨#[stemC n k]⟩ else ⟨#[stemC n k]⟩ ++ moreS n
theorem abc_tl : abc.cps.toList = (List.range 26).map (97 + ·) := by decide +kernel
theorem stem_eq (n : Int) (k : Nat) : stemC n k = 97 + ((n + 7 * (k : Int)) % 26).toNat := by
  have h0 : 0 ≤ (n + 7 * (k : Int)) % 26 := Int.emod_nonneg _ (by decide)
  have h1 : (n + 7 * (k : Int)) % 26 < 26 := Int.emod_lt_of_pos _ (by decide)
  unfold stemC
  rw [abc_tl, List.getElem?_map, List.getElem?_range (by omega)]
  rfl
theorem more_tl (n : Int) : (moreS n).cps.toList = [] ∨ (moreS n).cps.toList = [120] ∨ (moreS n).cps.toList = [122, 122] ∨ (moreS n).cps.toList = [113, 113, 113, 113, 113, 113, 113] := by
  unfold moreS
  split
  · exact .inl (by decide +kernel)
  · split
    · exact .inr (.inl (by decide +kernel))
    · split
      · exact .inr (.inr (.inl (by decide +kernel)))
      · exact .inr (.inr (.inr (by decide +kernel)))
theorem name_tl (n : Int) (k : Nat) : (nameF n k).cps.toList = (moreS n).cps.toList ++ [stemC n k] ∨ (nameF n k).cps.toList = [stemC n k] ++ (moreS n).cps.toList := by
  unfold nameF
  split
  · exact .inl (tl_app _ _)
  · exact .inr (tl_app _ _)
theorem name_is (n : Int) (k : Nat) : isName (nameF n k) = true := by
  have hs : stemC n k ∈ abc.cps.toList := by
    rw [stem_eq, abc_tl]
    have h0 : 0 ≤ (n + 7 * (k : Int)) % 26 := Int.emod_nonneg _ (by decide)
    have h1 : (n + 7 * (k : Int)) % 26 < 26 := Int.emod_lt_of_pos _ (by decide)
    exact List.mem_map.mpr ⟨_, List.mem_range.mpr (by omega), rfl⟩
  have hm : ∀ c ∈ (moreS n).cps.toList, c ∈ abc.cps.toList := by
    rcases more_tl n with e | e | e | e <;> rw [e] <;> decide +kernel
  have hl : (moreS n).cps.toList.length ≤ 7 := by
    rcases more_tl n with e | e | e | e <;> rw [e] <;> decide
  have key : ∀ z : Str, (∀ c ∈ z.cps.toList, c ∈ abc.cps.toList) → 1 ≤ z.cps.toList.length → z.cps.toList.length ≤ 8 → isName z = true := fun z h1 h2 h3 => by
    unfold isName
    rw [← len_tl]
    simp only [Bool.and_eq_true, decide_eq_true_eq, List.all_eq_true]
    exact ⟨⟨h2, h3⟩, h1⟩
  rcases name_tl n k with e | e
  · refine key _ (fun c hc => ?_) ?_ ?_ <;> rw [e] at *
    · rcases List.mem_append.mp hc with h | h
      · exact hm c h
      · rw [List.mem_singleton.mp h]
        exact hs
    · simp
    · simp
      omega
  · refine key _ (fun c hc => ?_) ?_ ?_ <;> rw [e] at *
    · rcases List.mem_append.mp hc with h | h
      · rw [List.mem_singleton.mp h]
        exact hs
      · exact hm c h
    · simp
    · simp
      omega
theorem name_inj {n : Int} {j k : Nat} (hj : j < 26) (hk : k < 26) (e : nameF n j = nameF n k) : j = k := by
  have es : stemC n j = stemC n k := by
    unfold nameF at e
    have e := congrArg (fun z : Str => z.cps.toList) e
    split at e
    · simp only [tl_app] at e
      have := List.append_cancel_left e
      simpa using this
    · simp only [tl_app] at e
      have := List.append_cancel_right e
      simpa using this
  rw [stem_eq, stem_eq] at es
  have h0 : 0 ≤ (n + 7 * (k : Int)) % 26 := Int.emod_nonneg _ (by decide)
  have h1 : 0 ≤ (n + 7 * (j : Int)) % 26 := Int.emod_nonneg _ (by decide)
  omega
theorem name_ok {n : Int} {k : Nat} (h0 : 0 ≤ n) (h1 : n < 208) (hk : k < 26) (h : Hs) : callR F__law_name [.int n, .int (k : Int)] false h = some (.ok (.v (.str (nameF n k))) h) := by
  refine callR_v (h' := []) ?_
  have a0 : 0 ≤ (n + 7 * (k : Int)) % 26 := Int.emod_nonneg _ (by decide)
  have a1 : (n + 7 * (k : Int)) % 26 < 26 := Int.emod_lt_of_pos _ (by decide)
  have hl : abc.cps.toList.length = 26 := by decide +kernel
  have hs : atI abc.cps.toList ((n + 7 * (k : Int)) % 26) = some (stemC n k) := by
    obtain ⟨x, e1, e2, e3⟩ := atI_in (xs := abc.cps.toList) a0 (by rw [hl]; exact a1)
    rw [e1]
    unfold stemC
    rw [e3]
    rfl
  have hal : abc.length ≤ sizeLine := ten_line' (by decide +kernel)
  have c1 : cmul 7 (k : Int) = true := cmulL (by decide) (by decide)
  have c2 : cdiv 26 = true := cdivI (by decide) (by decide)
  have c3 : cdiv 104 = true := cdivI (by decide) (by decide)
  have hm : atI [PyData.str "", .str "x", .str "zz", .str "qqqqqqq"] (n / 26 % 4) = some (.str (moreS n)) := by
    have e : n / 26 % 4 = 0 ∨ n / 26 % 4 = 1 ∨ n / 26 % 4 = 2 ∨ n / 26 % 4 = 3 := by omega
    unfold moreS
    rcases e with e | e | e | e <;> rw [e] <;> simp
  have hlm : (moreS n).length ≤ 7 := by
    rw [← len_tl]
    rcases more_tl n with e | e | e | e <;> rw [e] <;> decide
  have hls : (⟨#[stemC n k]⟩ : Str).length = 1 := rfl
  have g1 : (moreS n).length + (⟨#[stemC n k]⟩ : Str).length ≤ sizeLine := ten_line' (by rw [hls]; omega)
  have g2 : (⟨#[stemC n k]⟩ : Str).length + (moreS n).length ≤ sizeLine := ten_line' (by rw [hls]; omega)
  have hq : atI [PyData.str (moreS n ++ ⟨#[stemC n k]⟩), .str (⟨#[stemC n k]⟩ ++ moreS n)] (n / 104 % 2) = some (.str (nameF n k)) := by
    have e : n / 104 % 2 = 0 ∨ n / 104 % 2 = 1 := by omega
    unfold nameF
    rcases e with e | e <;> rw [e] <;> simp
  simp [F__law_name, mkFn, B__law_name, c1, c2, c3, hs, hal, hm, g1, g2, hq]
end Fs
set_option maxHeartbeats 4000000
namespace Fs
open PySem PySem.Spec PyProof.Rows L2 Vl
/-! ## programs of a plan, by names -/
abbrev RowS := Row Str Str
abbrev rowS : RowS → PyData := rowP .str .str
structure Names where
  b : Nat → Str
  t : Nat → Str
  h : Nat → Str
def Names.of (number : Int) : Names := ⟨nameF (number % 208), nameF (number / 208 % 208), nameF (number / 43264 % 208)⟩
/-- the names of boxes, of procedures, of hands are names, and unlike -/
structure Names.Ok (m : Names) : Prop where
  b : ∀ k, isName (m.b k) = true
  t : ∀ k, isName (m.t k) = true
  h : ∀ k, isName (m.h k) = true
  bi : ∀ j k, j < 26 → k < 26 → m.b j = m.b k → j = k
  ti : ∀ j k, j < 26 → k < 26 → m.t j = m.t k → j = k
  hi : ∀ j k, j < 26 → k < 26 → m.h j = m.h k → j = k
theorem Names.of_ok (n : Int) : (Names.of n).Ok := ⟨fun k => name_is _ k, fun k => name_is _ k, fun k => name_is _ k, fun _ _ h1 h2 e => name_inj h1 h2 e, fun _ _ h1 h2 e => name_inj h1 h2 e, fun _ _ h1 h2 e => name_inj h1 h2 e⟩
/-- a row by names -/
def Names.row (m : Names) : RowI → RowS := Row.map (fun b => m.b b.toNat) (fun q => m.t q.toNat)
def boxP (m : Names) (p : Plan) (k : Nat) : PyData := .tuple [.str (m.b k), .int (p.ws.getD k 1), .int (p.fs.getD k 0)]
def boxesP (m : Names) (p : Plan) : List PyData := (List.range p.ws.length).map (boxP m p)
def procP (m : Names) (k : Nat) (r : List RowI) : PyData := .tuple [.str (m.t k), .list (r.map fun x => rowS (m.row x))]
def procsP (m : Names) : Nat → List (List RowI) → List PyData
  | _, [] => []
  | k, r :: rs => procP m k r :: procsP m (k + 1) rs
def handsP (m : Names) : Nat → List Int → List PyData
  | _, [] => []
  | k, x :: r => .tuple [.str (m.h k), .str (m.t x.toNat)] :: handsP m (k + 1) r
def progP (m : Names) (p : Plan) : PyData := .tuple [.list (boxesP m p), .list (procsP m 0 p.ps), .list (handsP m 0 p.hs)]
theorem procs_len (m : Names) : ∀ (k : Nat) (rs : List (List RowI)), (procsP m k rs).length = rs.length
  | _, [] => rfl
  | k, r :: rs => by rw [procsP, List.length_cons, List.length_cons, procs_len m]
theorem hands_len (m : Names) : ∀ (k : Nat) (rs : List Int), (handsP m k rs).length = rs.length
  | _, [] => rfl
  | k, r :: rs => by rw [handsP, List.length_cons, List.length_cons, hands_len m]
theorem boxes_len (m : Names) (p : Plan) : (boxesP m p).length = p.ws.length := by simp [boxesP]
theorem boxes_at (m : Names) (p : Plan) {k : Nat} (h : k < p.ws.length) : (boxesP m p)[k]? = some (boxP m p k) := by
  unfold boxesP
  rw [List.getElem?_map, List.getElem?_range h]
  rfl
def titlesP (m : Names) (n : Nat) : List PyData := (List.range n).map fun k => .str (m.t k)
theorem titles_at (m : Names) {n k : Nat} (h : k < n) : (titlesP m n)[k]? = some (.str (m.t k)) := by
  unfold titlesP
  rw [List.getElem?_map, List.getElem?_range h]
  rfl
/-- one row, written by names -/
theorem prow_turn {m : Names} {p : Plan} {mp mr mh : Nat} (ok : p.Ok mp mr mh) {e : Int} {x : RowI} (hx : RowOk p.ws p.ps.length e p.hs.length x) {a1 a5 a9 : D} {hp : Hs} {n0 n : Nat} {ys : List D} (hn : hp[n]? = some (.lst ys)) (hy : ys.length ≤ 1000) :
    W__law_program_1 [none, some a1, none, none, none, some a5, some (.v (.list (boxesP m p))), some (.v (.list (titlesP m p.ps.length))), some (.ref n0), some a9, none, some (.ref n), some (.v (rowI x))] hp =
      some (.nx (S__law_program_1 a1 a5 (.v (.list (boxesP m p))) (.v (.list (titlesP m p.ps.length))) (.ref n0) a9 (.ref n)) (hp.set n (.lst (ys ++ [.v (rowS (m.row x))])))) := by
  have hy' : ys.length < sizeLine := lt_line (by omega)
  have key : ∀ (s : Str) (b t : Int) (r : List PyData), s ≠ "call" → s ≠ "any" → (∃ k : Nat, b = k ∧ ∃ w, p.ws[k]? = some w) → r.length ≤ 100 → 
      W__law_program_1 [none, some a1, none, none, none, some a5, some (.v (.list (boxesP m p))), some (.v (.list (titlesP m p.ps.length))), some (.ref n0), some a9, none, some (.ref n), some (.v (.tuple (.str s :: .int b :: r)))] hp =
      some (.nx (S__law_program_1 a1 a5 (.v (.list (boxesP m p))) (.v (.list (titlesP m p.ps.length))) (.ref n0) a9 (.ref n)) (hp.set n (.lst (ys ++ [.v (.tuple (.str s :: .str (m.b b.toNat) :: r))])))) := by
    intro s b t r h1 h2 ⟨k, hk, w, hw⟩ hr
    subst hk
    obtain ⟨hkl, _⟩ := List.getElem?_eq_some_iff.mp hw
    have hb : atI (boxesP m p) (k : Int) = some (boxP m p k) := atI_nat (boxes_at m p hkl)
    have hc : cutP (PyData.str s :: .int (k : Int) :: r) (some 2) none = r := by
      have := cut_mid (PyData.str s :: .int (k : Int) :: r) (j := 2) (k := r.length + 2) (by simp)
      unfold cutP at this ⊢
      rw [HT.sIx_nat] at this
      rw [HT.sIx_none]
      simp at this ⊢
      exact this
    have hz : r.length + 1 + 1 ≤ sizeLine := ten_line' (by omega)
    have hz2 : 1 + 1 + r.length ≤ sizeLine := ten_line' (by omega)
    simp [W__law_program_1, L__law_program_1, eqD_s, h1, h2, hb, boxP, hc, hz, hz2, hn, hy']
  cases x with
  | put b w t =>
    obtain ⟨k, hk, m', hm, _⟩ := hx
    exact key "put" b t [.int w, .int t] (by decide) (by decide) ⟨k, hk, m', hm⟩ (by simp)
  | swap b w y t =>
    obtain ⟨k, hk, m', hm, _⟩ := hx
    exact key "swap" b t [.int w, .int y, .int t] (by decide) (by decide) ⟨k, hk, m', hm⟩ (by simp)
  | ask b ts =>
    obtain ⟨k, hk, m', hm, _⟩ := hx
    exact key "ask" b 0 [.tuple (ts.map oint)] (by decide) (by decide) ⟨k, hk, m', hm⟩ (by simp)
  | take b t =>
    obtain ⟨k, hk, m', hm, _⟩ := hx
    exact key "take" b t [.int t] (by decide) (by decide) ⟨k, hk, m', hm⟩ (by simp)
  | give b t =>
    obtain ⟨k, hk, m', hm, _⟩ := hx
    exact key "give" b t [.int t] (by decide) (by decide) ⟨k, hk, m', hm⟩ (by simp)
  | any ts =>
    have h1 : ¬ (Str.ofString "any" = Str.ofString "call") := by decide
    simp [W__law_program_1, L__law_program_1, eqD_s, rowP, h1, hn, hy', Names.row, Row.map]
  | call q t =>
    obtain ⟨q0, q1, _⟩ := hx
    have hb : atI (titlesP m p.ps.length) q = some (.str (m.t q.toNat)) := by
      have : q = (q.toNat : Int) := by omega
      rw [this]
      exact atI_nat (titles_at m (by omega))
    simp [W__law_program_1, L__law_program_1, eqD_s, rowP, hb, hn, hy', Names.row, Row.map]
theorem prow_loop {m : Names} {p : Plan} {mp mr mh : Nat} (ok : p.Ok mp mr mh) {e : Int} {a1 a5 a9 : D} {n0 n : Nat} : ∀ (xs : List RowI) (acc : List RowS) (hp : Hs), (∀ x ∈ xs, RowOk p.ws p.ps.length e p.hs.length x) → n < hp.length → hp[n]? = some (.lst ((acc.map rowS).map .v)) → acc.length + xs.length ≤ 1000 →
    forL none G__law_program_1 W__law_program_1 ((xs.map rowI).map .v) (S__law_program_1 a1 a5 (.v (.list (boxesP m p))) (.v (.list (titlesP m p.ps.length))) (.ref n0) a9 (.ref n)) hp =
      some (.nx (S__law_program_1 a1 a5 (.v (.list (boxesP m p))) (.v (.list (titlesP m p.ps.length))) (.ref n0) a9 (.ref n)) (hp.set n (.lst (((acc ++ xs.map m.row).map rowS).map .v))))
  | [], acc, hp, _, hl, hn, _ => by
    have e : hp.set n (.lst ((acc.map rowS).map .v)) = hp := by
      apply List.ext_getElem?
      intro j
      by_cases hj : n = j
      · subst hj
        rw [List.getElem?_set_self hl, hn]
      · rw [List.getElem?_set_ne hj]
    simp only [List.map_nil, List.append_nil, e]
    simp [forL, gok]
  | x :: xs, acc, hp, hx, hl, hn, hb => by
    rw [List.length_cons] at hb
    have st := prow_turn (m := m) ok (hx x List.mem_cons_self) (a1 := a1) (a5 := a5) (a9 := a9) (n0 := n0) hn (by rw [List.length_map, List.length_map]; omega)
    have ih := prow_loop (m := m) ok (e := e) (a1 := a1) (a5 := a5) (a9 := a9) (n0 := n0) xs (acc ++ [m.row x]) (hp.set n (.lst (((acc ++ [m.row x]).map rowS).map .v))) (fun y hy => hx y (List.mem_cons_of_mem _ hy)) (by rw [List.length_set]; exact hl) (by rw [List.getElem?_set_self hl]) (by rw [List.length_append, List.length_singleton]; omega)
    rw [List.map_cons, List.map_cons, forL, if_pos (show gok none _ from trivial)]
    simp only [z_gnm, S__law_program_1, List.set_cons_succ, List.set_cons_zero]
    rw [st]
    simp only
    rw [List.map_append, List.map_append] at ih
    rw [List.set_set, List.append_assoc] at ih
    simpa [-List.map_map, List.map_append] using ih
theorem set_last {α : Type} (l : List α) (a b : α) : (l ++ [a]).set l.length b = l ++ [b] := by
  rw [List.set_append_right _ _ (Nat.le_refl _), Nat.sub_self]
  rfl
/-- what the cells hold behind k procedures -/
def progH (m : Names) : List (List RowI) → List Cell
  | [] => []
  | r :: rs => .lst (((r.map m.row).map rowS).map .v) :: progH m rs
def progR (m : Names) : List (List RowI) → Nat → List D
  | [], _ => []
  | r :: rs, k => .mix [.v (.str (m.t k)), .ref (k + 1)] :: progR m rs (k + 1)
theorem prog_loop {m : Names} {p : Plan} {mp mr mh : Nat} (ok : p.Ok mp mr mh) (hmr : mr ≤ 100) (hmp : mp ≤ 100) {a1 a5 : D} : ∀ (rs : List (List RowI)) (k : Nat) (R : List D) (C : List Cell), (∀ r ∈ rs, 1 ≤ r.length ∧ r.length ≤ mr ∧ ∀ x ∈ r, RowOk p.ws p.ps.length r.length p.hs.length x) → k + rs.length = p.ps.length → C.length = k → R.length = k →
    forL none G__law_program_2 W__law_program_2 (enumI k ((rs.map fun r => PyData.list (r.map rowI)).map .v)) (S__law_program_2 a1 a5 (.v (.list (boxesP m p))) (.v (.list (titlesP m p.ps.length))) (.ref 0)) (.lst R :: C) =
      some (.nx (S__law_program_2 a1 a5 (.v (.list (boxesP m p))) (.v (.list (titlesP m p.ps.length))) (.ref 0)) (.lst (R ++ progR m rs k) :: (C ++ progH m rs)))
  | [], k, R, C, _, _, _, _ => by simp [forL, gok, enumI, progR, progH]
  | r :: rs, k, R, C, hr, hk, hC, hR => by
    rw [List.length_cons] at hk
    have hpl := ok.pl.2
    obtain ⟨r1, r2, r3⟩ := hr r List.mem_cons_self
    have lp := prow_loop (m := m) ok (e := r.length) (a1 := a1) (a5 := a5) (a9 := .v (.int k)) (n0 := 0) (n := k + 1) r [] (.lst R :: (C ++ [.lst []])) r3 (by simp [hC]) (by
      rw [List.getElem?_cons_succ, List.getElem?_append_right (by omega), hC, Nat.sub_self]
      rfl) (by simp; omega)
    rw [List.set_cons_succ, ← hC, set_last] at lp
    simp only [hC, List.nil_append] at lp
    have ht : atI (titlesP m p.ps.length) (k : Int) = some (.str (m.t k)) := atI_nat (titles_at m (by omega))
    have ih := prog_loop (m := m) ok hmr hmp (a1 := a1) (a5 := a5) rs (k + 1) (R ++ [.mix [.v (.str (m.t k)), .ref (k + 1)]]) (C ++ [.lst (((r.map m.row).map rowS).map .v)]) (fun x hx => hr x (List.mem_cons_of_mem _ hx)) (by omega) (by simp [hC]) (by simp [hR])
    have hR' : R.length < sizeLine := lt_line (by omega)
    have st : W__law_program_2 [none, some a1, none, none, none, some a5, some (.v (.list (boxesP m p))), some (.v (.list (titlesP m p.ps.length))), some (.ref 0), some (.v (.int k)), some (.v (.list (r.map rowI))), none, none] (.lst R :: C) =
        some (.nx (S__law_program_2 a1 a5 (.v (.list (boxesP m p))) (.v (.list (titlesP m p.ps.length))) (.ref 0)) (.lst (R ++ [.mix [.v (.str (m.t k)), .ref (k + 1)]]) :: (C ++ [.lst (((r.map m.row).map rowS).map .v)]))) := by
      simp [-List.map_map, W__law_program_2, L__law_program_2, hC, lp, ht, hR']
    rw [List.append_assoc, List.append_assoc] at ih
    simpa [-List.map_map, forL, gok, enumI, st, progR, progH] using ih
theorem progH_at (m : Names) : ∀ (rs : List (List RowI)) (j : Nat) (r : List RowI), rs[j]? = some r → (progH m rs)[j]? = some (.lst (((r.map m.row).map rowS).map .v))
  | [], j, r, h => by simp at h
  | x :: rs, 0, r, h => by
    cases h
    rfl
  | x :: rs, j + 1, r, h => progH_at m rs j r (by simpa using h)
theorem prog_frz (m : Names) {hp : Hs} {n : Nat} : ∀ (rs : List (List RowI)) (k : Nat), (∀ j r, rs[j]? = some r → hp[k + 1 + j]? = some (.lst (((r.map m.row).map rowS).map .v))) → frzs hp (n + 5) (progR m rs k) = some (procsP m k rs)
  | [], _, _ => rfl
  | r :: rs, k, H => by
    have ih := prog_frz m (hp := hp) (n := n) rs (k + 1) fun j x hx => by
      have := H (j + 1) x (by simpa using hx)
      rw [show k + 1 + (j + 1) = k + 1 + 1 + j by omega] at this
      exact this
    have h0 := H 0 r rfl
    rw [Nat.add_zero] at h0
    rw [progR, frzs_cons, ih, frz_mix, frzs_cons, frzs_cons, frzs_nil, frz_v, frz_ref h0, y_frzs]
    simp [procsP, procP]
theorem hands_comp {m : Names} {number : Int} (hn : 0 ≤ number) (hm : m = Names.of number) {np : Nat} {hp : Hs} {sl : Sl} (hl : sl.length = 13) (h1 : sl[1]? = some (some (.v (.int number)))) (h7 : sl[7]? = some (some (.v (.list (titlesP m np))))) :
    ∀ (hs : List Int) (k : Nat), (∀ x ∈ hs, 0 ≤ x ∧ x < np) → k + hs.length ≤ 26 →
    compL none (gTp 2 (gsCons (gNm 9) (gsCons (gNm 10) gsNil))) tYes' (eTup (eCons (eCall F__law_name (eCons (eMod (eFdiv (eVar 1) (eC (.int 43264))) (eC (.int 208))) (eCons (eVar 9) eNil))) (eCons (eIx (eVar 7) (eVar 10)) eNil))) (enumI k ((hs.map .int).map .v)) sl hp = some ((handsP m k hs).map .v, hp)
  | [], k, _, _ => by simp [compL, gok, enumI, handsP]
  | x :: hs, k, hx, hk => by
    rw [List.length_cons] at hk
    have ih := hands_comp hn hm (np := np) (hp := hp) hl h1 h7 hs (k + 1) (fun y hy => hx y (List.mem_cons_of_mem _ hy)) (by omega)
    obtain ⟨x0, x1⟩ := hx x List.mem_cons_self
    have g1 : ∀ a b, ((sl.set 9 a).set 10 b)[1]? = some (some (.v (.int number))) := fun a b => by
      rw [List.getElem?_set_ne (by decide), List.getElem?_set_ne (by decide)]
      exact h1
    have g7 : ∀ a b, ((sl.set 9 a).set 10 b)[7]? = some (some (.v (.list (titlesP m np)))) := fun a b => by
      rw [List.getElem?_set_ne (by decide), List.getElem?_set_ne (by decide)]
      exact h7
    have g9 : ∀ a b, ((sl.set 9 a).set 10 b)[9]? = some a := fun a b => by
      rw [List.getElem?_set_ne (by decide), List.getElem?_set_self (by omega)]
    have g10 : ∀ a b, ((sl.set 9 a).set 10 b)[10]? = some b := fun a b => by
      rw [List.getElem?_set_self (by rw [List.length_set]; omega)]
    have c1 : cdiv 43264 = true := cdivI (by decide) (by decide)
    have q0 : 0 ≤ number / 43264 % 208 := Int.emod_nonneg _ (by decide)
    have q1 : number / 43264 % 208 < 208 := Int.emod_lt_of_pos _ (by decide)
    have nm := name_ok (n := number / 43264 % 208) (k := k) q0 q1 (by omega) hp
    have ht : atI (titlesP m np) x = some (.str (m.t x.toNat)) := by
      have : x = (x.toNat : Int) := by omega
      rw [this]
      exact atI_nat (titles_at m (by omega))
    have em : m.h k = nameF (number / 43264 % 208) k := by rw [hm]; rfl
    rw [List.map_cons, List.map_cons, enumI, compL, if_pos (show gok none _ from trivial)]
    simp [-List.map_map, g1, g7, g9, g10, h1, h7, c1, nm, ht, ih, handsP, em]
theorem program_ok {p : Plan} {mp mr mh : Nat} (ok : p.Ok mp mr mh) (hmr : mr ≤ 100) (hmp : mp ≤ 20) (hmh : mh ≤ 20) {number : Int} (hn : 0 ≤ number) (h : Hs) :
    callR F__law_program [planP p, .int number] false h = some (.ok (.v (progP (Names.of number) p)) h) := by
  obtain ⟨w1, w2, w3⟩ := ok.ws
  have hpl := ok.pl
  have hhl := ok.hl
  generalize hm : Names.of number = m
  have q0 : 0 ≤ number % 208 := Int.emod_nonneg _ (by decide)
  have q1 : number % 208 < 208 := Int.emod_lt_of_pos _ (by decide)
  have r0 : 0 ≤ number / 208 % 208 := Int.emod_nonneg _ (by decide)
  have r1 : number / 208 % 208 < 208 := Int.emod_lt_of_pos _ (by decide)
  have k1 : kRng1 [.v (.int (p.ws.length : Int))] [] = _ := rng1 (by omega) (by omega)
  have k2 : kRng1 [.v (.int (p.ps.length : Int))] [] = _ := rng1 (by omega) (by omega)
  rw [Int.toNat_natCast] at k1 k2
  have cb : compL none (gNm 9) tYes' (eTup (eCons (eCall F__law_name (eCons (eMod (eVar 1) (eC (.int 208))) (eCons (eVar 9) eNil))) (eCons (eIx (eVar 2) (eVar 9)) (eCons (eIx (eVar 3) (eVar 9)) eNil)))) ((List.range p.ws.length).map fun k : Nat => D.v (.int (k : Int)))
      [some (.v (planP p)), some (.v (.int number)), some (.v (.tuple (p.ws.map .int))), some (.v (.list (p.fs.map .int))), some (.v (.list (p.ps.map fun r => .list (r.map rowI)))), some (.v (.list (p.hs.map .int))), none, none, none, none, none, none, none] [] = some ((boxesP m p).map .v, []) := by
    rw [compMap (List.range p.ws.length) _ (gNm 9) _ (boxP m p) fun k hk => ⟨_, rfl, ?_⟩]
    · unfold boxesP
      rw [List.map_map]
      rfl
    · have hk' : k < p.ws.length := List.mem_range.mp hk
      have hk2 : k < p.fs.length := by rw [ok.fl]; exact hk'
      have i1 : atI p.ws (k : Int) = some (p.ws.getD k 1) := atI_nat (by rw [List.getD_eq_getElem?_getD, List.getElem?_eq_getElem hk']; rfl)
      have i2 : atI p.fs (k : Int) = some (p.fs.getD k 0) := atI_nat (by rw [List.getD_eq_getElem?_getD, List.getElem?_eq_getElem hk2]; rfl)
      have nm := name_ok (n := number % 208) (k := k) q0 q1 (by omega) []
      have em : m.b k = nameF (number % 208) k := by rw [← hm]; rfl
      simp [nm, i1, i2, boxP, em]
  have ct : compL none (gNm 9) tYes' (eCall F__law_name (eCons (eMod (eFdiv (eVar 1) (eC (.int 208))) (eC (.int 208))) (eCons (eVar 9) eNil))) ((List.range p.ps.length).map fun k : Nat => D.v (.int (k : Int)))
      [some (.v (planP p)), some (.v (.int number)), some (.v (.tuple (p.ws.map .int))), some (.v (.list (p.fs.map .int))), some (.v (.list (p.ps.map fun r => .list (r.map rowI)))), some (.v (.list (p.hs.map .int))), some (.v (.list (boxesP m p))), none, none, none, none, none, none] [] = some ((titlesP m p.ps.length).map .v, []) := by
    rw [compMap (List.range p.ps.length) _ (gNm 9) _ (fun k => .str (m.t k)) fun k hk => ⟨_, rfl, ?_⟩]
    · unfold titlesP
      rw [List.map_map]
      rfl
    · have hk' : k < p.ps.length := List.mem_range.mp hk
      have c1 : cdiv 208 = true := cdivI (by decide) (by decide)
      have nm := name_ok (n := number / 208 % 208) (k := k) r0 r1 (by omega) []
      have em : m.t k = nameF (number / 208 % 208) k := by rw [← hm]; rfl
      simp [nm, em, c1]
  have lp := prog_loop (m := m) ok hmr (by omega) (a1 := .v (.int number)) (a5 := .v (.list (p.hs.map .int))) p.ps 0 [] [] ok.ps (by omega) rfl rfl
  have ch := hands_comp (m := m) hn hm.symm (np := p.ps.length) (hp := .lst (progR m p.ps 0) :: progH m p.ps) (sl := [none, some (.v (.int number)), none, none, none, some (.v (.list (p.hs.map .int))), some (.v (.list (boxesP m p))), some (.v (.list (titlesP m p.ps.length))), some (.ref 0), none, none, none, none]) rfl rfl rfl p.hs 0 ok.hs (by omega)
  refine callR_rt (h' := .lst (progR m p.ps 0) :: progH m p.ps) (d := .mix [.v (.list (boxesP m p)), .ref 0, .v (.list (handsP m 0 p.hs))]) ?_ ?_
  · simp only [List.nil_append, S__law_program_2] at lp
    have ep : planP p = .tuple [.tuple (p.ws.map .int), .list (p.fs.map .int), .list (p.ps.map fun r => .list (r.map rowI)), .list (p.hs.map .int)] := rfl
    rw [ep] at cb ct ⊢
    simp [-List.map_map, F__law_program, mkFn, B__law_program, k1, cb, k2, ct, lp, ch]
  · show frz _ (11 + 1) _ = _
    rw [frz_mix, frzs_cons, frzs_cons, frzs_cons, frzs_nil, frz_v, frz_v, frz_ref (xs := progR m p.ps 0) rfl, prog_frz (n := 4) m p.ps 0 (fun j r e => by
      rw [Nat.zero_add, Nat.add_comm 1, List.getElem?_cons_succ]
      exact progH_at m p.ps j r e)]
    rfl
end Fs
set_option maxHeartbeats 4000000
namespace Fs
open PySem PySem.Spec PyProof.Rows L2 Vl
/-! ## what repr takes -/
def Rp (k b : Nat) (d : PyData) : Prop := d.canLay0 = true ∧ d.showable = true ∧ d.depth ≤ k ∧ d.shown.length ≤ b
theorem Rp.mono {k k' b b' : Nat} {d : PyData} (h : Rp k b d) (hk : k ≤ k') (hb : b ≤ b') : Rp k' b' d := ⟨h.1, h.2.1, Nat.le_trans h.2.2.1 hk, Nat.le_trans h.2.2.2 hb⟩
theorem shownAll_eq : ∀ xs : List PyData, PyData.shownAll xs = xs.map PyData.shown
  | [] => rfl
  | x :: xs => by rw [PyData.shownAll, shownAll_eq xs]; rfl
/-! ## a plan's program: its size, and that it is one -/
theorem WsOk.small {ws : List Int} (h : WsOk ws) : ∀ w ∈ ws, 2 ≤ w ∧ w ≤ 6 := h.2.2
end Fs
set_option maxHeartbeats 4000000
namespace Fs
open PySem PySem.Spec PyProof.Rows L2 Vl
theorem reprChar_pos (q c : Nat) : 1 ≤ (PySem.Builtin.Str.reprChar q c).length := by
  unfold PySem.Builtin.Str.reprChar
  repeat' split
  all_goals simp
theorem reprText_ge (x : Str) : x.length ≤ (reprText x).length := by
  rw [← reprLen_eq]
  have key : ∀ (l : List Nat) (n : Nat), n + l.length ≤ l.foldl (fun n c => n + (PySem.Builtin.Str.reprChar (PySem.reprQuote x) c).length) n := fun l => by
    induction l with
    | nil => exact fun n => Nat.le_refl _
    | cons c r ih =>
      intro n
      have := ih (n + (PySem.Builtin.Str.reprChar (PySem.reprQuote x) c).length)
      have := reprChar_pos (PySem.reprQuote x) c
      rw [List.foldl_cons, List.length_cons]
      omega
  have := key x.cps.toList 2
  rw [← Array.foldl_toList]
  rw [len_tl] at this
  omega
theorem okS_of {z : Str} (h : (PyData.str z).canLay0 = true) : okS z := by
  intro c hc
  have h : z.cps.all (· < 0x110000) = true := h
  rw [← Array.all_toList, List.all_eq_true] at h
  exact of_decide_eq_true (h c hc)
theorem piled_len : ∀ ts : List Str, 2 * ts.length ≤ piled ts ∧ ∀ t ∈ ts, t.length + 2 ≤ piled ts
  | [] => ⟨Nat.zero_le _, fun t h => by cases h⟩
  | t :: ts => by
    obtain ⟨h1, h2⟩ := piled_len ts
    rw [piled_cons, List.length_cons]
    refine ⟨by omega, fun x hx => ?_⟩
    rcases List.mem_cons.mp hx with rfl | hx
    · omega
    · have := h2 x hx
      omega
theorem list_text_ge (ts : List Str) : ts.length ≤ (listText ts).length ∧ ∀ t ∈ ts, t.length ≤ (listText ts).length := by
  refine ⟨?_, fun t h => listText_mem_le h⟩
  obtain ⟨h1, _, _⟩ := textFrom_len ts 0 "["
  unfold listText
  rw [strLen_append]
  have e1 : (Str.ofString "[").length = 1 := rfl
  have e2 : (Str.ofString "]").length = 1 := rfl
  rw [if_neg (by decide)] at h1
  omega
theorem tuple_text_ge (ts : List Str) : ts.length ≤ (tupleText ts).length + 2 ∧ ∀ t ∈ ts, t.length ≤ (tupleText ts).length := by
  unfold tupleText
  rw [strLen_append, strLen_append]
  by_cases he : ts = []
  · subst he
    exact ⟨Nat.zero_le _, fun t h => by cases h⟩
  · have := join_length_add ts he
    obtain ⟨h1, h2⟩ := piled_len ts
    refine ⟨by omega, fun t ht => ?_⟩
    have := h2 t ht
    omega
mutual
theorem rp_dt : ∀ {k b : Nat} {d : PyData}, Rp k b d → b ≤ 90000 → Dt k d
  | k, b, .none, _, _ => by cases k <;> trivial
  | k, b, .bool _, _, _ => by cases k <;> trivial
  | k, b, .int _, _, _ => by cases k <;> trivial
  | k, b, .dict _, _, _ => by cases k <;> trivial
  | k, b, .str z, h, hb => by
    have h1 : Tx 100000 z := ⟨okS_of h.1, by
      have := h.2.2.2
      have h3 : (reprText z).length ≤ b := this
      have := reprText_ge z
      omega⟩
    cases k <;> exact h1
  | 0, b, .list xs, h, _ => absurd h.2.2.1 (by simp [PyData.depth])
  | 0, b, .tuple xs, h, _ => absurd h.2.2.1 (by simp [PyData.depth])
  | k + 1, b, .list xs, h, hb => by
    obtain ⟨h1, h2⟩ := list_text_ge (PyData.shownAll xs)
    have h3 : (listText (PyData.shownAll xs)).length ≤ b := h.2.2.2
    rw [shownAll_eq] at h1 h2 h3
    refine ⟨by rw [List.length_map] at h1; omega, fun x hx => ?_⟩
    exact rp_dts (b := b) h.1 h.2.1 (Nat.le_of_succ_le_succ h.2.2.1) (fun y hy => Nat.le_trans (h2 _ (List.mem_map_of_mem hy)) h3) hb x hx
  | k + 1, b, .tuple xs, h, hb => by
    obtain ⟨h1, h2⟩ := tuple_text_ge (PyData.shownAll xs)
    have h3 : (tupleText (PyData.shownAll xs)).length ≤ b := h.2.2.2
    rw [shownAll_eq] at h1 h2 h3
    refine ⟨by rw [List.length_map] at h1; omega, fun x hx => ?_⟩
    exact rp_dts (b := b) h.1 h.2.1 (Nat.le_of_succ_le_succ h.2.2.1) (fun y hy => Nat.le_trans (h2 _ (List.mem_map_of_mem hy)) h3) hb x hx
theorem rp_dts : ∀ {k b : Nat} {xs : List PyData}, PyData.canLayAll0 xs = true → PyData.showableAll xs = true → PyData.depthAll xs ≤ k → (∀ x ∈ xs, x.shown.length ≤ b) → b ≤ 90000 → ∀ x ∈ xs, Dt k x
  | k, b, [], _, _, _, _, _, x, hx => by cases hx
  | k, b, y :: ys, h1, h2, h3, h4, hb, x, hx => by
    rw [PyData.canLayAll0, Bool.and_eq_true] at h1
    rw [PyData.showableAll, Bool.and_eq_true] at h2
    rw [PyData.depthAll] at h3
    have h3' := Nat.max_le.mp h3
    rcases List.mem_cons.mp hx with e | hx
    · rw [e]
      exact rp_dt ⟨h1.1, h2.1, h3'.1, h4 y List.mem_cons_self⟩ hb
    · exact rp_dts h1.2 h2.2 h3'.2 (fun z hz => h4 z (List.mem_cons_of_mem _ hz)) hb x hx
end
end Fs
set_option maxHeartbeats 4000000
namespace Fs
open PySem PySem.Spec PyProof.Rows L2 Vl
theorem procs_at (m : Names) : ∀ (rs : List (List RowI)) (k j : Nat) (r : List RowI), rs[j]? = some r → (procsP m k rs)[j]? = some (procP m (k + j) r)
  | [], _, _, _, h => by simp at h
  | x :: rs, k, 0, r, h => by
    cases h
    rfl
  | x :: rs, k, j + 1, r, h => by
    have := procs_at m rs (k + 1) j r (by simpa using h)
    rw [procsP, List.getElem?_cons_succ, this, show k + 1 + j = k + (j + 1) by omega]
theorem procs_mem (m : Names) {rs : List (List RowI)} {k : Nat} {x : PyData} (h : x ∈ procsP m k rs) : ∃ j r, rs[j]? = some r ∧ x = procP m (k + j) r := by
  obtain ⟨j, hj, e⟩ := List.getElem_of_mem h
  rw [procs_len] at hj
  have h1 := List.getElem?_eq_getElem hj
  have h2 := procs_at m rs k j _ h1
  rw [List.getElem?_eq_getElem (by rw [procs_len]; exact hj), e] at h2
  exact ⟨j, _, h1, Option.some.inj h2⟩
theorem hands_at (m : Names) : ∀ (rs : List Int) (k j : Nat) (x : Int), rs[j]? = some x → (handsP m k rs)[j]? = some (.tuple [.str (m.h (k + j)), .str (m.t x.toNat)])
  | [], _, _, _, h => by simp at h
  | x :: rs, k, 0, r, h => by
    cases h
    rfl
  | x :: rs, k, j + 1, r, h => by
    have := hands_at m rs (k + 1) j r (by simpa using h)
    rw [handsP, List.getElem?_cons_succ, this, show k + 1 + j = k + (j + 1) by omega]
theorem hands_mem (m : Names) {rs : List Int} {k : Nat} {x : PyData} (h : x ∈ handsP m k rs) : ∃ j r, rs[j]? = some r ∧ x = .tuple [.str (m.h (k + j)), .str (m.t r.toNat)] := by
  obtain ⟨j, hj, e⟩ := List.getElem_of_mem h
  rw [hands_len] at hj
  have h1 := List.getElem?_eq_getElem hj
  have h2 := hands_at m rs k j _ h1
  rw [List.getElem?_eq_getElem (by rw [hands_len]; exact hj), e] at h2
  exact ⟨j, _, h1, Option.some.inj h2⟩
end Fs
set_option maxHeartbeats 4000000
namespace Fs
open PySem PySem.Spec PyProof.Rows L2 Vl
/-! ## a program of a plan is whole -/
theorem prodW_pos : ∀ {bs : List PyData}, (∀ b ∈ bs, isBx b = true) → 1 ≤ prodW bs
  | [], _ => by simp [prodW]
  | b :: r, h => by
    obtain ⟨z, w, f, rfl, _, h2, _⟩ := isBx_shape (h b List.mem_cons_self)
    have ih := prodW_pos (bs := r) fun c hc => h c (List.mem_cons_of_mem _ hc)
    have := Int.mul_le_mul h2 ih (by decide) (by omega)
    simp only [prodW, woOf]
    omega
theorem bxDue_none : ∀ (r pre : List PyData), (∀ b ∈ pre ++ r, isBx b = true) → ((pre ++ r).map nmOf).Nodup → prodW (pre ++ r) ≤ 8 → bxDue pre r = none
  | [], _, _, _, _ => rfl
  | b :: r, pre, h, hn, hp => by
    have e : pre ++ b :: r = (pre ++ [b]) ++ r := by simp
    have h1 : isBx b = true := h b (by simp)
    have h2 : nmOf b ∉ pre.map nmOf := by
      rw [List.map_append, List.nodup_append] at hn
      intro hc
      exact hn.2.2 _ hc _ (by simp) rfl
    have h3 : ¬ 8 < prodW (pre ++ [b]) := by
      rw [e, prodW_app] at hp
      have q1 := prodW_pos (bs := pre ++ [b]) fun c hc => h c (by rw [e]; exact List.mem_append_left _ hc)
      have q2 := prodW_pos (bs := r) fun c hc => h c (by rw [e]; exact List.mem_append_right _ hc)
      have := Int.mul_le_mul (Int.le_refl (prodW (pre ++ [b]))) q2 (by decide) (by omega)
      omega
    have ih := bxDue_none r (pre ++ [b]) (by rw [← e]; exact h) (by rw [← e]; exact hn) (by rw [← e]; exact hp)
    rw [bxDue, if_neg (by simp only [h1, h2, h3]; simp)]
    exact ih
theorem prDue_none : ∀ (r pre : List PyData), (∀ b ∈ pre ++ r, isPr b = true ∧ 1 ≤ (rwOf b).length ∧ (rwOf b).length ≤ 8) → ((pre ++ r).map nmOf).Nodup → prDue pre r = none
  | [], _, _, _ => rfl
  | b :: r, pre, h, hn => by
    have e : pre ++ b :: r = (pre ++ [b]) ++ r := by simp
    obtain ⟨h1, h4, h5⟩ := h b (by simp)
    have h2 : nmOf b ∉ pre.map nmOf := by
      rw [List.map_append, List.nodup_append] at hn
      intro hc
      exact hn.2.2 _ hc _ (by simp) rfl
    have ih := prDue_none r (pre ++ [b]) (by rw [← e]; exact h) (by rw [← e]; exact hn)
    have h6 : ¬ (rwOf b).length < 1 := by omega
    have h7 : ¬ 8 < (rwOf b).length := by omega
    rw [prDue, if_neg (by simp only [h1, h2, h6, h7]; simp)]
    exact ih
theorem rwDue_none {bs ps : List PyData} {nh e : Int} : ∀ (r : List PyData) (k : Nat), (∀ x ∈ r, rowOk bs ps nh e x = true) → rwDue bs ps nh e k r = none
  | [], _, _ => rfl
  | x :: r, k, h => by
    rw [rwDue, if_pos (h x List.mem_cons_self)]
    exact rwDue_none r _ fun y hy => h y (List.mem_cons_of_mem _ hy)
theorem rowsDue_none {bs ps : List PyData} {nh : Int} : ∀ (r : List PyData) (k : Nat), (∀ p ∈ r, ∀ x ∈ rwOf p, rowOk bs ps nh (rwOf p).length x = true) → rowsDue bs ps nh k r = none
  | [], _, _ => rfl
  | p :: r, k, h => by
    rw [rowsDue, rwDue_none _ _ (h p List.mem_cons_self)]
    exact rowsDue_none r _ fun y hy => h y (List.mem_cons_of_mem _ hy)
theorem hnDue_none {ps : List PyData} : ∀ (r pre : List PyData), (∀ x ∈ pre ++ r, ∃ a b, x = .tuple [.str a, .str b] ∧ isName a = true ∧ isName b = true ∧ b ∈ ps.map nmOf) → ((pre ++ r).map nmOf).Nodup → hnDue ps pre r = none
  | [], _, _, _ => rfl
  | x :: r, pre, h, hn => by
    have e : pre ++ x :: r = (pre ++ [x]) ++ r := by simp
    obtain ⟨a, b, rfl, h1, h2, h3⟩ := h x (by simp)
    have h4 : a ∉ pre.map nmOf := by
      rw [List.map_append, List.nodup_append] at hn
      intro hc
      exact hn.2.2 _ hc a (by simp [nmOf]) rfl
    have ih := hnDue_none (ps := ps) r (pre ++ [.tuple [.str a, .str b]]) (by rw [← e]; exact h) (by rw [← e]; exact hn)
    simp only [hnDue]
    rw [if_pos ⟨h1, h2, h3, h4⟩]
    exact ih
theorem nodup_range {f : Nat → Str} {n : Nat} (hn : n ≤ 26) (hf : ∀ j k, j < 26 → k < 26 → f j = f k → j = k) : ((List.range n).map f).Nodup := by
  unfold List.Nodup
  rw [List.pairwise_map]
  refine List.Pairwise.imp_of_mem ?_ List.pairwise_lt_range
  intro a b ha hb h e
  have := hf a b (by have := List.mem_range.mp ha; omega) (by have := List.mem_range.mp hb; omega) e
  omega
theorem woAt_mem : ∀ {bs : List PyData} {b : PyData}, (bs.map nmOf).Nodup → b ∈ bs → woAt bs (nmOf b) = woOf b
  | x :: r, b, hn, hb => by
    rw [List.map_cons, List.nodup_cons] at hn
    unfold woAt
    rcases List.mem_cons.mp hb with rfl | hb
    · rw [if_pos rfl]
    · rw [if_neg (fun e => hn.1 (by rw [e]; exact List.mem_map_of_mem hb))]
      exact woAt_mem hn.2 hb
theorem procs_names (m : Names) : ∀ (rs : List (List RowI)) (k : Nat), (procsP m k rs).map nmOf = (List.range rs.length).map fun j => m.t (k + j)
  | [], _ => rfl
  | r :: rs, k => by
    rw [procsP, List.map_cons, procs_names m rs (k + 1), List.length_cons, List.range_succ_eq_map, List.map_cons, List.map_map]
    refine congrArg (List.cons (m.t k)) (List.map_congr_left fun j _ => ?_)
    show m.t (k + 1 + j) = m.t (k + (j + 1))
    exact congrArg m.t (by omega)
theorem hands_names (m : Names) : ∀ (rs : List Int) (k : Nat), (handsP m k rs).map nmOf = (List.range rs.length).map fun j => m.h (k + j)
  | [], _ => rfl
  | r :: rs, k => by
    rw [handsP, List.map_cons, hands_names m rs (k + 1), List.length_cons, List.range_succ_eq_map, List.map_cons, List.map_map]
    refine congrArg (List.cons (m.h k)) (List.map_congr_left fun j _ => ?_)
    show m.h (k + 1 + j) = m.h (k + (j + 1))
    exact congrArg m.h (by omega)
theorem boxes_names (m : Names) (p : Plan) : (boxesP m p).map nmOf = (List.range p.ws.length).map m.b := by
  unfold boxesP
  rw [List.map_map]
  rfl
def prodI : List Int → Int
  | [] => 1
  | w :: r => w * prodI r
theorem prodW_eq : ∀ (bs : List PyData), prodW bs = prodI (bs.map woOf)
  | [] => rfl
  | b :: r => by rw [prodW, prodW_eq r]; rfl
theorem boxes_worths (m : Names) (p : Plan) : (boxesP m p).map woOf = p.ws := by
  unfold boxesP
  rw [List.map_map]
  refine List.ext_getElem? fun j => ?_
  rw [List.getElem?_map]
  by_cases h : j < p.ws.length
  · rw [List.getElem?_range h, List.getElem?_eq_getElem h]
    show some (p.ws.getD j 1) = _
    rw [List.getD_eq_getElem?_getD, List.getElem?_eq_getElem h]
    rfl
  · rw [List.getElem?_eq_none (by rw [List.length_range]; omega), List.getElem?_eq_none (by omega)]
    rfl
@[simp] theorem n_put_swap : (Str.ofString "put" = Str.ofString "swap") = False := eq_false (by decide)
@[simp] theorem n_put_ask : (Str.ofString "put" = Str.ofString "ask") = False := eq_false (by decide)
@[simp] theorem n_put_any : (Str.ofString "put" = Str.ofString "any") = False := eq_false (by decide)
@[simp] theorem n_put_call : (Str.ofString "put" = Str.ofString "call") = False := eq_false (by decide)
@[simp] theorem n_put_take : (Str.ofString "put" = Str.ofString "take") = False := eq_false (by decide)
@[simp] theorem n_put_give : (Str.ofString "put" = Str.ofString "give") = False := eq_false (by decide)
@[simp] theorem n_swap_put : (Str.ofString "swap" = Str.ofString "put") = False := eq_false (by decide)
@[simp] theorem n_swap_ask : (Str.ofString "swap" = Str.ofString "ask") = False := eq_false (by decide)
@[simp] theorem n_swap_any : (Str.ofString "swap" = Str.ofString "any") = False := eq_false (by decide)
@[simp] theorem n_swap_call : (Str.ofString "swap" = Str.ofString "call") = False := eq_false (by decide)
@[simp] theorem n_swap_take : (Str.ofString "swap" = Str.ofString "take") = False := eq_false (by decide)
@[simp] theorem n_swap_give : (Str.ofString "swap" = Str.ofString "give") = False := eq_false (by decide)
@[simp] theorem n_ask_put : (Str.ofString "ask" = Str.ofString "put") = False := eq_false (by decide)
@[simp] theorem n_ask_swap : (Str.ofString "ask" = Str.ofString "swap") = False := eq_false (by decide)
@[simp] theorem n_ask_any : (Str.ofString "ask" = Str.ofString "any") = False := eq_false (by decide)
@[simp] theorem n_ask_call : (Str.ofString "ask" = Str.ofString "call") = False := eq_false (by decide)
@[simp] theorem n_ask_take : (Str.ofString "ask" = Str.ofString "take") = False := eq_false (by decide)
@[simp] theorem n_ask_give : (Str.ofString "ask" = Str.ofString "give") = False := eq_false (by decide)
@[simp] theorem n_any_put : (Str.ofString "any" = Str.ofString "put") = False := eq_false (by decide)
@[simp] theorem n_any_swap : (Str.ofString "any" = Str.ofString "swap") = False := eq_false (by decide)
@[simp] theorem n_any_ask : (Str.ofString "any" = Str.ofString "ask") = False := eq_false (by decide)
@[simp] theorem n_any_call : (Str.ofString "any" = Str.ofString "call") = False := eq_false (by decide)
@[simp] theorem n_any_take : (Str.ofString "any" = Str.ofString "take") = False := eq_false (by decide)
@[simp] theorem n_any_give : (Str.ofString "any" = Str.ofString "give") = False := eq_false (by decide)
@[simp] theorem n_call_put : (Str.ofString "call" = Str.ofString "put") = False := eq_false (by decide)
@[simp] theorem n_call_swap : (Str.ofString "call" = Str.ofString "swap") = False := eq_false (by decide)
@[simp] theorem n_call_ask : (Str.ofString "call" = Str.ofString "ask") = False := eq_false (by decide)
@[simp] theorem n_call_any : (Str.ofString "call" = Str.ofString "any") = False := eq_false (by decide)
@[simp] theorem n_call_take : (Str.ofString "call" = Str.ofString "take") = False := eq_false (by decide)
@[simp] theorem n_call_give : (Str.ofString "call" = Str.ofString "give") = False := eq_false (by decide)
@[simp] theorem n_take_put : (Str.ofString "take" = Str.ofString "put") = False := eq_false (by decide)
@[simp] theorem n_take_swap : (Str.ofString "take" = Str.ofString "swap") = False := eq_false (by decide)
@[simp] theorem n_take_ask : (Str.ofString "take" = Str.ofString "ask") = False := eq_false (by decide)
@[simp] theorem n_take_any : (Str.ofString "take" = Str.ofString "any") = False := eq_false (by decide)
@[simp] theorem n_take_call : (Str.ofString "take" = Str.ofString "call") = False := eq_false (by decide)
@[simp] theorem n_take_give : (Str.ofString "take" = Str.ofString "give") = False := eq_false (by decide)
@[simp] theorem n_give_put : (Str.ofString "give" = Str.ofString "put") = False := eq_false (by decide)
@[simp] theorem n_give_swap : (Str.ofString "give" = Str.ofString "swap") = False := eq_false (by decide)
@[simp] theorem n_give_ask : (Str.ofString "give" = Str.ofString "ask") = False := eq_false (by decide)
@[simp] theorem n_give_any : (Str.ofString "give" = Str.ofString "any") = False := eq_false (by decide)
@[simp] theorem n_give_call : (Str.ofString "give" = Str.ofString "call") = False := eq_false (by decide)
@[simp] theorem n_give_take : (Str.ofString "give" = Str.ofString "take") = False := eq_false (by decide)
section
variable {m : Names} {p : Plan} {mp mr mh : Nat} (hm : m.Ok) (ok : p.Ok mp mr mh)
include hm ok
theorem boxes_bx : ∀ b ∈ boxesP m p, isBx b = true := fun b hb => by
  obtain ⟨k, hk, rfl⟩ := List.mem_map.mp hb
  have hk' : k < p.ws.length := List.mem_range.mp hk
  have hw := ok.ws.2.2 (p.ws[k]) (List.getElem_mem hk')
  have hf := ok.fs k (p.fs[k]'(by rw [ok.fl]; exact hk')) p.ws[k] (List.getElem?_eq_getElem _) (List.getElem?_eq_getElem _)
  have e1 : p.ws.getD k 1 = p.ws[k] := by rw [List.getD_eq_getElem?_getD, List.getElem?_eq_getElem hk']; rfl
  have e2 : p.fs.getD k 0 = p.fs[k]'(by rw [ok.fl]; exact hk') := by rw [List.getD_eq_getElem?_getD, List.getElem?_eq_getElem (by rw [ok.fl]; exact hk')]; rfl
  unfold boxP
  rw [e1, e2]
  have h7 : p.ws[k] < 7 := by omega
  simp [isBx, isNm, isIn, hm.b k, hw.1, h7, hf.1, hf.2]
theorem boxes_nodup : ((boxesP m p).map nmOf).Nodup := by
  rw [boxes_names]
  exact nodup_range (by have := ok.ws.2.1; omega) hm.bi
theorem procs_nodup (h : mp ≤ 20) : ((procsP m 0 p.ps).map nmOf).Nodup := by
  rw [procs_names]
  refine nodup_range (by have := ok.pl.2; omega) fun j k hj hk e => hm.ti j k hj hk ?_
  simpa using e
theorem hands_nodup (h : mh ≤ 20) : ((handsP m 0 p.hs).map nmOf).Nodup := by
  rw [hands_names]
  refine nodup_range (by have := ok.hl.2; omega) fun j k hj hk e => hm.hi j k hj hk ?_
  simpa using e
theorem procs_pr : ∀ b ∈ procsP m 0 p.ps, isPr b = true ∧ 1 ≤ (rwOf b).length ∧ (rwOf b).length ≤ mr := fun b hb => by
  obtain ⟨j, r, hr, rfl⟩ := procs_mem m hb
  have hp := ok.ps r (List.mem_of_getElem? hr)
  refine ⟨?_, ?_, ?_⟩
  · simp [isPr, procP, isNm, hm.t]
  · simpa [rwOf, procP] using hp.1
  · simpa [rwOf, procP] using hp.2.1
theorem woAt_box {k : Nat} {w : Int} (h : p.ws[k]? = some w) : woAt (boxesP m p) (m.b k) = w := by
  have hk : k < p.ws.length := by
    rcases Nat.lt_or_ge k p.ws.length with h1 | h1
    · exact h1
    · rw [List.getElem?_eq_none h1] at h; cases h
  have hb : boxP m p k ∈ boxesP m p := List.mem_map.mpr ⟨k, List.mem_range.mpr hk, rfl⟩
  have := woAt_mem (boxes_nodup hm ok) hb
  refine Eq.trans this ?_
  show p.ws.getD k 1 = w
  rw [List.getD_eq_getElem?_getD, h]
  rfl
theorem tos_isTos {e : Int} {ts : List Int} (h : ∀ t ∈ ts, ToOk e t) : isTos e (.tuple (ts.map .int)) = true := by
  simp only [isTos, List.all_eq_true]
  intro x hx
  obtain ⟨t, ht, rfl⟩ := List.mem_map.mp hx
  have := h t ht
  unfold ToOk at this
  have h1 : t < e + 1 := by omega
  simp [isIn, this.1, h1]
theorem asks_filt {e : Int} : ∀ {ts : List (Option Int)}, (∀ t ∈ ts, ∀ i, t = some i → ToOk e i) → (((ts.map oint).filter fun t => !(isNoneD (.v t))).all (isIn 0 (e + 1))) = true
  | [], _ => rfl
  | none :: r, h => by
    rw [List.map_cons, List.filter_cons_of_neg (by simp [oint, isNoneD])]
    exact asks_filt fun t ht => h t (List.mem_cons_of_mem _ ht)
  | some i :: r, h => by
    have h0 := h (some i) List.mem_cons_self i rfl
    unfold ToOk at h0
    have h1 : i < e + 1 := by omega
    rw [List.map_cons, List.filter_cons_of_pos (by simp [oint, isNoneD]), List.all_cons, asks_filt fun t ht => h t (List.mem_cons_of_mem _ ht)]
    simp [isIn, oint, h0.1, h1]
theorem row_fits {e : Int} {x : RowI} (hx : RowOk p.ws p.ps.length e p.hs.length x) : rowOk (boxesP m p) (procsP m 0 p.ps) p.hs.length e (rowS (m.row x)) = true := by
  have to : ∀ {t : Int}, ToOk e t → (decide (0 ≤ t) && decide (t < e + 1)) = true := fun h => by
    unfold ToOk at h
    have h1 := h.1
    have h2 : _ < e + 1 := Int.lt_add_one_of_le h.2
    simp [h1, h2]
  have w2 : ∀ {k : Nat} {w : Int}, p.ws[k]? = some w → 2 ≤ w := fun h => (ok.ws.2.2 _ (List.mem_of_getElem? h)).1
  cases x with
  | put b w t =>
    obtain ⟨k, rfl, M, hM, h1, h2, h3⟩ := hx
    have := w2 hM
    have h0 : ¬ M = 0 := by omega
    have := to h3
    simp only [Bool.and_eq_true, decide_eq_true_eq] at this
    simp [Names.row, Row.map, rowP, rowOk, rowB, woAt_box hm ok hM, h0, isIn, h1, h2, this.1, this.2]
  | swap b x y t =>
    obtain ⟨k, rfl, M, hM, h1, h2, h4, h5, h3⟩ := hx
    have := w2 hM
    have h0 : ¬ M = 0 := by omega
    have := to h3
    simp only [Bool.and_eq_true, decide_eq_true_eq] at this
    simp [Names.row, Row.map, rowP, rowOk, rowB, woAt_box hm ok hM, h0, isIn, h1, h2, h4, h5, this.1, this.2]
  | ask b ts =>
    obtain ⟨k, rfl, M, hM, h1, h2⟩ := hx
    have := w2 hM
    have h0 : ¬ M = 0 := by omega
    have a := asks_filt hm ok h2
    have e1 : rowOk (boxesP m p) (procsP m 0 p.ps) p.hs.length e (rowS (m.row (.ask (k : Int) ts))) = (decide (((ts.map oint).length : Int) = M) && ((ts.map oint).filter fun t => !(isNoneD (.v t))).all (isIn 0 (e + 1))) := by
      simp only [Names.row, Row.map, rowP, Int.toNat_natCast]
      simp [rowOk, rowB, woAt_box hm ok hM, h0]
    rw [e1, a, List.length_map]
    simp [h1]
  | any ts =>
    obtain ⟨h1, h2, h3⟩ := hx
    have a := tos_isTos hm ok h3
    simp [Names.row, Row.map, rowP, rowOk, a, h2]
    simpa [List.length_pos_iff, Nat.pos_iff_ne_zero] using h1
  | call q t =>
    obtain ⟨h1, h2, h3⟩ := hx
    have := to h3
    simp only [Bool.and_eq_true, decide_eq_true_eq] at this
    have hi : m.t q.toNat ∈ (procsP m 0 p.ps).map nmOf := by
      rw [procs_names]
      exact List.mem_map.mpr ⟨q.toNat, List.mem_range.mpr (by omega), by rw [Nat.zero_add]⟩
    simp only [Names.row, Row.map, rowP]
    unfold rowOk
    simp [-List.mem_map, hi, isIn, this.1, this.2]
  | take b t =>
    obtain ⟨k, rfl, M, hM, h1, h3⟩ := hx
    have := w2 hM
    have h0 : ¬ M = 0 := by omega
    have := to h3
    simp only [Bool.and_eq_true, decide_eq_true_eq] at this
    simp [Names.row, Row.map, rowP, rowOk, rowB, woAt_box hm ok hM, h0, isIn, h1, this.1, this.2]
  | give b t =>
    obtain ⟨k, rfl, M, hM, h1, h3⟩ := hx
    have := w2 hM
    have h0 : ¬ M = 0 := by omega
    have := to h3
    simp only [Bool.and_eq_true, decide_eq_true_eq] at this
    simp [Names.row, Row.map, rowP, rowOk, rowB, woAt_box hm ok hM, h0, isIn, h1, this.1, this.2]
theorem prog_due (h1 : mp ≤ 6) (h2 : mr ≤ 8) (h3 : mh ≤ 3) (h4 : prodI p.ws ≤ 8) : due (progP m p) = none := by
  have d1 : bxDue [] (boxesP m p) = none := bxDue_none _ [] (boxes_bx hm ok) (boxes_nodup hm ok) (by rw [List.nil_append, prodW_eq, boxes_worths]; exact h4)
  have d2 : prDue [] (procsP m 0 p.ps) = none := prDue_none _ [] (fun b hb => by
    have := procs_pr hm ok b hb
    exact ⟨this.1, this.2.1, by omega⟩) (procs_nodup hm ok (by omega))
  have d3 : rowsDue (boxesP m p) (procsP m 0 p.ps) p.hs.length 0 (procsP m 0 p.ps) = none := rowsDue_none _ _ fun b hb x hx => by
    obtain ⟨j, r, hr, rfl⟩ := procs_mem m hb
    simp only [rwOf, procP] at hx ⊢
    obtain ⟨y, hy, rfl⟩ := List.mem_map.mp hx
    rw [List.length_map]
    exact row_fits hm ok ((ok.ps r (List.mem_of_getElem? hr)).2.2 y hy)
  have d4 : hnDue (procsP m 0 p.ps) [] (handsP m 0 p.hs) = none := hnDue_none _ [] (fun x hx => by
    obtain ⟨j, r, hr, rfl⟩ := hands_mem m hx
    have := ok.hs r (List.mem_of_getElem? hr)
    refine ⟨_, _, rfl, hm.h _, hm.t _, ?_⟩
    rw [procs_names]
    exact List.mem_map.mpr ⟨r.toNat, List.mem_range.mpr (by omega), by rw [Nat.zero_add]⟩) (hands_nodup hm ok (by omega))
  have l1 : 1 ≤ (boxesP m p).length ∧ (boxesP m p).length ≤ 3 := by
    rw [boxes_len]
    exact ⟨ok.ws.1, ok.ws.2.1⟩
  have l2 : 1 ≤ (procsP m 0 p.ps).length ∧ (procsP m 0 p.ps).length ≤ 6 := by
    rw [procs_len]
    exact ⟨ok.pl.1, by have := ok.pl.2; omega⟩
  have l3 : 1 ≤ (handsP m 0 p.hs).length ∧ (handsP m 0 p.hs).length ≤ 3 := by
    rw [hands_len]
    exact ⟨ok.hl.1, by have := ok.hl.2; omega⟩
  have d3' : rowsDue (boxesP m p) (procsP m 0 p.ps) (handsP m 0 p.hs).length 0 (procsP m 0 p.ps) = none := by rw [hands_len]; exact d3
  unfold progP due
  simp only [l1, l2, l3, d1, d2, d3', d4, and_self, if_true]
end
end Fs
set_option maxHeartbeats 4000000
namespace Fs
open PySem PySem.Spec PyProof.Rows L2 Vl
/-! ## for the laws -/
@[simp] theorem eqD_str' {neg : Bool} {a b : Str} {h : Hs} : eqD neg (.v (.str a)) (.v (.str b)) h = some (.v (.bool (if neg = true then !decide (a = b) else decide (a = b)))) := eqD_s
@[simp] theorem isNone_v {d : PyData} : isNoneD (.v .none) = true := rfl
end Fs
set_option maxHeartbeats 4000000
namespace Fs
open PySem PySem.Spec PyProof.Rows L2 Vl
/-! ## ends of lists -/
theorem at_last {α : Type} (xs : List α) (x : α) : atI (xs ++ [x]) (-1) = some x := by
  unfold atI ixN
  rw [if_neg (by decide), if_pos (by rw [List.length_append, List.length_singleton]; omega)]
  have e : (-1 + ((xs ++ [x]).length : Int)).toNat = xs.length := by
    rw [List.length_append, List.length_singleton]
    omega
  show (xs ++ [x])[(-1 + ((xs ++ [x]).length : Int)).toNat]? = some x
  rw [e]
  simp
theorem cut_from {α : Type} (xs : List α) (k : Nat) : cutP xs (some (k : Int)) none = xs.drop k := by
  unfold cutP
  have e : HT.sIx xs.length 0 (some (k : Int)) = min k xs.length := by
    unfold HT.sIx
    simp only
    split <;> omega
  have e2 : HT.sIx xs.length xs.length none = xs.length := rfl
  rw [e, e2]
  by_cases h : k ≤ xs.length
  · rw [Nat.min_eq_left h, List.take_of_length_le (by rw [List.length_drop]; omega)]
  · rw [Nat.min_eq_right (by omega), List.drop_of_length_le (Nat.le_refl _), List.drop_of_length_le (by omega)]
    simp
/-! ## while, turn by turn -/
/-! ## places by names -/
section
variable {m : Names} {p : Plan} {mp mr mh : Nat} (hm : m.Ok) (ok : p.Ok mp mr mh)
include hm ok
end
end Fs
set_option maxHeartbeats 4000000
namespace Fs
open PySem PySem.Spec PyProof.Rows L2 Vl
/-! ## states: what the boxes hold, the piles of the hands (the last frame ahead) -/
abbrev Fr := Int × Int
abbrev Pile := List Fr
structure StM where
  store : List Int
  piles : List Pile
def frP (f : Fr) : PyData := .tuple [.int f.1, .int f.2]
def pileP (p : Pile) : PyData := .tuple (p.map frP).reverse
def storeP (s : List Int) : PyData := .tuple (s.map .int)
def stP (s : StM) : PyData := .tuple [storeP s.store, .tuple (s.piles.map pileP)]
def endOf (p : Plan) (q : Int) : Int := (((p.ps[q.toNat]?).getD []).length : Int)
def settle (p : Plan) : Pile → Pile
  | [] => []
  | f :: r => if f.2 = endOf p f.1 then settle p r else f :: r
def rowAt (p : Plan) (f : Fr) : Option RowI := (p.ps[f.1.toNat]?).bind fun r => r[f.2.toNat]?
def holdsI (store : List Int) (b : Int) : Int := (store[b.toNat]?).getD 0
/-- by which choices a row can be stepped -/
def chRow (store : List Int) (hand : Int) : RowI → List Int
  | .put _ _ _ => [0]
  | .swap b x _ _ => if holdsI store b = x then [0] else []
  | .ask b ts => match (ts[(holdsI store b).toNat]?).getD none with
    | none => []
    | some _ => [0]
  | .any ts => (List.range ts.length).map fun k : Nat => (k : Int)
  | .call _ _ => [0]
  | .take b _ => if holdsI store b = 0 then [0] else []
  | .give b _ => if holdsI store b = hand + 1 then [0] else []
/-- where a row that is no call goes on, and what the boxes hold then -/
def onRow (store : List Int) (hand choice : Int) : RowI → List Int × Int
  | .put b w t => (store.set b.toNat w, t)
  | .swap b _ y t => (store.set b.toNat y, t)
  | .ask b ts => (store, ((ts[(holdsI store b).toNat]?).getD none).getD 0)
  | .any ts => (store, (ts[choice.toNat]?).getD 0)
  | .call _ t => (store, t)
  | .take b t => (store.set b.toNat (hand + 1), t)
  | .give b t => (store.set b.toNat 0, t)
def pileAt (s : StM) (hand : Nat) : Pile := (s.piles[hand]?).getD []
def chsM (p : Plan) (s : StM) (hand : Nat) : List Int := match pileAt s hand with
  | [] => []
  | f :: _ => match rowAt p f with
    | none => []
    | some row => chRow s.store hand row
def isCall : RowI → Option Int
  | .call q _ => some q
  | _ => none
def pileOn (p : Plan) (f : Fr) (r : Pile) (row : RowI) (to : Int) : Pile := match isCall row with
  | some q => (q, 0) :: (f.1, to) :: r
  | none => settle p ((f.1, to) :: r)
def stepM (p : Plan) (s : StM) (hand : Nat) (choice : Int) : StM := match pileAt s hand with
  | [] => s
  | f :: r => match rowAt p f with
    | none => s
    | some row => ⟨(onRow s.store hand choice row).1, s.piles.set hand (pileOn p f r row (onRow s.store hand choice row).2)⟩
def begM (p : Plan) : StM := ⟨p.fs, p.hs.map fun q => [(q, 0)]⟩
/-! ## states that may be -/
def FrOk (p : Plan) (f : Fr) : Prop := 0 ≤ f.1 ∧ f.1 < p.ps.length ∧ 0 ≤ f.2 ∧ f.2 ≤ endOf p f.1
def PileOk (p : Plan) (B : Nat) (x : Pile) : Prop := x.length ≤ B ∧ (∀ f ∈ x, FrOk p f) ∧ ∀ f r, x = f :: r → f.2 < endOf p f.1
structure StM.Ok (p : Plan) (B : Nat) (s : StM) : Prop where
  sl : s.store.length = p.ws.length
  sv : ∀ (k : Nat) v w, s.store[k]? = some v → p.ws[k]? = some w → 0 ≤ v ∧ v < w
  pl : s.piles.length = p.hs.length
  pk : ∀ x ∈ s.piles, PileOk p B x
theorem StM.Ok.mono {p : Plan} {B C : Nat} {s : StM} (h : s.Ok p B) (l : B ≤ C) : s.Ok p C := ⟨h.sl, h.sv, h.pl, fun x hx => ⟨Nat.le_trans (h.pk x hx).1 l, (h.pk x hx).2⟩⟩
end Fs
set_option maxHeartbeats 4000000
namespace Fs
open PySem PySem.Spec PyProof.Rows L2 Vl
section
variable {m : Names} {p : Plan} {mp mr mh B : Nat} (hm : m.Ok) (ok : p.Ok mp mr mh)
include hm ok
end
/-! ## settled -/
end Fs
set_option maxHeartbeats 4000000
namespace Fs
open PySem PySem.Spec PyProof.Rows L2 Vl
@[simp] theorem prog_0 (m : Names) (p : Plan) (h : Hs) : ixD (.v (progP m p)) (.v (.int 0)) h = some (.v (.list (boxesP m p))) := rfl
@[simp] theorem prog_1 (m : Names) (p : Plan) (h : Hs) : ixD (.v (progP m p)) (.v (.int 1)) h = some (.v (.list (procsP m 0 p.ps))) := rfl
@[simp] theorem prog_2 (m : Names) (p : Plan) (h : Hs) : ixD (.v (progP m p)) (.v (.int 2)) h = some (.v (.list (handsP m 0 p.hs))) := rfl
@[simp] theorem plan_0 (p : Plan) (h : Hs) : ixD (.v (planP p)) (.v (.int 0)) h = some (.v (.tuple (p.ws.map .int))) := rfl
@[simp] theorem plan_1 (p : Plan) (h : Hs) : ixD (.v (planP p)) (.v (.int 1)) h = some (.v (.list (p.fs.map .int))) := rfl
@[simp] theorem plan_2 (p : Plan) (h : Hs) : ixD (.v (planP p)) (.v (.int 2)) h = some (.v (.list (p.ps.map fun r => .list (r.map rowI)))) := rfl
@[simp] theorem plan_3 (p : Plan) (h : Hs) : ixD (.v (planP p)) (.v (.int 3)) h = some (.v (.list (p.hs.map .int))) := rfl
section
variable {m : Names} {p : Plan} {mp mr mh B : Nat} (hm : m.Ok) (ok : p.Ok mp mr mh) {s : StM} (hs : s.Ok p B)
include hm ok hs
end
end Fs
set_option maxHeartbeats 4000000
namespace Fs
open PySem PySem.Spec PyProof.Rows L2 Vl
section
variable {m : Names} {p : Plan} {mp mr mh B : Nat} (hm : m.Ok) (ok : p.Ok mp mr mh) {s : StM} (hs : s.Ok p B)
include hm ok hs
end
end Fs
set_option maxHeartbeats 4000000
namespace Fs
open PySem PySem.Spec PyProof.Rows L2 Vl
@[simp] theorem st_items (s : StM) : itemsT (.v (stP s)) = some [.v (storeP s.store), .v (.tuple (s.piles.map pileP))] := rfl
section
variable {m : Names} {p : Plan} {mp mr mh B : Nat} (hm : m.Ok) (ok : p.Ok mp mr mh) {s : StM} (hs : s.Ok p B)
include hm ok hs
end
end Fs
set_option maxHeartbeats 4000000
namespace Fs
open PySem PySem.Spec PyProof.Rows L2 Vl
/-! ## lists that are cells -/
theorem shal_cell {h : Hs} {n : Nat} {ds : List PyData} (e : h[n]? = some (.lst (ds.map .v))) : shal h (.ref n) = some (.list ds) := by
  rw [z_sh1, e]
  simp
@[simp] theorem c23_2 (a b : PyData) : cutP [a, b] (some 2) (some 3) = [] := rfl
@[simp] theorem c34_2 (a b : PyData) : cutP [a, b] (some 3) (some 4) = [] := rfl
@[simp] theorem c23_3 (a b c : PyData) : cutP [a, b, c] (some 2) (some 3) = [c] := rfl
@[simp] theorem c34_3 (a b c : PyData) : cutP [a, b, c] (some 3) (some 4) = [] := rfl
@[simp] theorem c23_4 (a b c d : PyData) : cutP [a, b, c, d] (some 2) (some 3) = [c] := rfl
@[simp] theorem c34_4 (a b c d : PyData) : cutP [a, b, c, d] (some 3) (some 4) = [d] := rfl
@[simp] theorem c23_5 (a b c d e : PyData) : cutP [a, b, c, d, e] (some 2) (some 3) = [c] := rfl
@[simp] theorem c34_5 (a b c d e : PyData) : cutP [a, b, c, d, e] (some 3) (some 4) = [d] := rfl
@[simp] theorem am_2 (a b : PyData) : atI [a, b] (-1) = some b := rfl
@[simp] theorem am_3 (a b c : PyData) : atI [a, b, c] (-1) = some c := rfl
@[simp] theorem am_4 (a b c d : PyData) : atI [a, b, c, d] (-1) = some d := rfl
@[simp] theorem am_5 (a b c d e : PyData) : atI [a, b, c, d, e] (-1) = some e := rfl
def frsP (x : Pile) : List PyData := (x.map frP).reverse
end Fs
set_option maxHeartbeats 4000000
namespace Fs
open PySem PySem.Spec PyProof.Rows L2 Vl
@[simp] theorem store_ix (st : List Int) (i : Int) (h : Hs) : ixD (.v (storeP st)) (.v (.int i)) h = (atI (st.map PyData.int) i).map .v := rfl
@[simp] theorem store_cut (st : List Int) (lo hi : Option Int) : sliceP lo hi (storeP st) = some (.tuple (cutP (st.map PyData.int) lo hi)) := rfl
@[simp] theorem si_pile (x : Pile) (h : Hs) : seqItems (.v (pileP x)) h = some ((frsP x).map .v) := rfl
@[simp] theorem ixN_m1 (n : Nat) : ixN (n + 1) (-1) = some n := by
  unfold ixN
  rw [if_neg (by decide), if_pos (by omega)]
  congr 1
  omega
@[simp] theorem shal_ref0 (ds : List PyData) : shal [.lst (ds.map .v)] (.ref 0) = some (.list ds) := shal_cell rfl
section
variable {p : Plan} {mp mr mh B : Nat} (ok : p.Ok mp mr mh) {s : StM} (hs : s.Ok p B)
include ok hs
end
section
variable {m : Names} {p : Plan} {mp mr mh B : Nat} (hm : m.Ok) (ok : p.Ok mp mr mh) {s : StM} (hs : s.Ok p B)
include hm ok hs
end
end Fs
set_option maxHeartbeats 4000000
namespace Fs
open PySem PySem.Spec PyProof.Rows L2 Vl
/-! ## the state at first -/
section
variable {m : Names} {p : Plan} {mp mr mh B : Nat} (hm : m.Ok) (ok : p.Ok mp mr mh)
include hm ok
/-! ## all steps that can be done -/
end
def scP (x : Nat × Int) : PyData := .tuple [.int (x.1 : Int), .int x.2]
section
variable {m : Names} {p : Plan} {mp mr mh B : Nat} (hm : m.Ok) (ok : p.Ok mp mr mh) {s : StM} (hs : s.Ok p B) (hmh : mh ≤ 100)
include hm ok hs hmh
end
end Fs
set_option maxHeartbeats 4000000
namespace Fs
open PySem PySem.Spec PyProof.Rows L2 Vl
section
variable {m : Names} {p : Plan} {mp mr mh B : Nat} (ok : p.Ok mp mr mh) {s : StM} (hs : s.Ok p B)
include ok hs
end
section
variable {m : Names} {p : Plan} {mp mr mh B : Nat} (hm : m.Ok) (ok : p.Ok mp mr mh) {s : StM} (hs : s.Ok p B)
include hm ok hs
end
end Fs
set_option maxHeartbeats 4000000
namespace Fs
open PySem PySem.Spec PyProof.Rows L2 Vl
/-! ## the programs of the laws of steps -/
@[simp] theorem sc_items (x : Nat × Int) : itemsT (.v (scP x)) = some [.v (.int (x.1 : Int)), .v (.int x.2)] := rfl
end Fs
set_option maxHeartbeats 4000000
namespace Fs
open PySem PySem.Spec PyProof.Rows L2 Vl
/-! ## weavings -/
/-- the choice that a thing is -/
def chOf (p : Plan) (s : StM) (hand : Nat) : PyData → Option Int
  | .int c => if c ∈ chsM p s hand then some c else none
  | _ => none
/-- a turn: the state behind it, or the number of the choice that can't be done -/
def turnM (p : Plan) (hand : Nat) : List PyData → Nat → StM → StM ⊕ Nat
  | [], _, s => .inl s
  | d :: r, k, s => match chOf p s hand d with
    | some c => turnM p hand r (k + 1) (stepM p s hand c)
    | none => .inr k
def roundM (p : Plan) : List (List PyData) → Nat → StM → StM ⊕ (Nat × Nat)
  | [], _, s => .inl s
  | t :: r, hand, s => match turnM p hand t 0 s with
    | .inl s1 => roundM p r (hand + 1) s1
    | .inr k => .inr (hand, k)
/-- the states behind the rounds -/
def weaveM (p : Plan) : List (List (List PyData)) → Nat → StM → List StM ⊕ (Nat × Nat × Nat)
  | [], _, _ => .inl []
  | t :: r, a, s => match roundM p t 0 s with
    | .inr (hand, k) => .inr (a, hand, k)
    | .inl s1 => match weaveM p r (a + 1) s1 with
      | .inr x => .inr x
      | .inl ss => .inl (s1 :: ss)
def manyM : List (List PyData) → Nat
  | [] => 0
  | t :: r => t.length + manyM r
def manyW : List (List (List PyData)) → Nat
  | [] => 0
  | t :: r => manyM t + manyW r
def roundP (t : List (List PyData)) : PyData := .list (t.map .list)
def weaveP (w : List (List (List PyData))) : PyData := .list (w.map roundP)
section
variable {m : Names} {p : Plan} {mp mr mh : Nat} (hm : m.Ok) (ok : p.Ok mp mr mh) (hmp : mp ≤ 20) (hmh : mh ≤ 100)
include hm ok hmp hmh
end
end Fs
set_option maxHeartbeats 4000000
namespace Fs
open PySem PySem.Spec PyProof.Rows L2 Vl
section
variable {m : Names} {p : Plan} {mp mr mh : Nat} (hm : m.Ok) (ok : p.Ok mp mr mh) (hmp : mp ≤ 20) (hmh : mh ≤ 100)
include hm ok hmp hmh
end
end Fs
set_option maxHeartbeats 4000000
namespace Fs
open PySem PySem.Spec PyProof.Rows L2 Vl
/-! ## marks -/
section
variable {m : Names} {p : Plan} {mp mr mh : Nat} (hm : m.Ok) (ok : p.Ok mp mr mh)
include hm ok
end
end Fs
set_option maxHeartbeats 4000000
namespace Fs
open PySem PySem.Spec PyProof.Rows L2 Vl
section
variable {m : Names} {p : Plan} {mp mr mh B : Nat} (hm : m.Ok) (ok : p.Ok mp mr mh)
include hm ok
end
@[simp] theorem st_ix1 (s : StM) (h : Hs) : ixD (.v (stP s)) (.v (.int 1)) h = some (.v (.tuple (s.piles.map pileP))) := rfl
@[simp] theorem st_ix0 (s : StM) (h : Hs) : ixD (.v (stP s)) (.v (.int 0)) h = some (.v (storeP s.store)) := rfl
section
variable {m : Names} {p : Plan} {mp mr mh : Nat} (hm : m.Ok) (ok : p.Ok mp mr mh) (hmp : mp ≤ 20) (hmh : mh ≤ 100)
include hm ok hmp hmh
end
end Fs
set_option maxHeartbeats 4000000
namespace Fs
open PySem PySem.Spec PyProof.Rows L2 Vl
/-! ## ranges with a step -/
theorem rng3 {j c : Int} (hj : 0 ≤ j ∧ j ≤ 1000000) (hc : 1 ≤ c ∧ c ≤ 1000000) (h : Hs) : ∃ N : Nat, kRng3 [.v (.int 0), .v (.int j), .v (.int c)] h = some (stepItems 0 c N, none) ∧ ((N : Int) - 1) * c < j ∧ j ≤ N * c ∧ (N : Int) ≤ j := by
  have hs : Builtin.Range.rangeSize 0 j c = if 0 < j then (j - 1) / c + 1 else 0 := by
    unfold Builtin.Range.rangeSize
    rw [if_pos (by omega)]
    simp
  have hn : 0 ≤ Builtin.Range.rangeSize 0 j c ∧ Builtin.Range.rangeSize 0 j c ≤ j ∧ (Builtin.Range.rangeSize 0 j c - 1) * c < j ∧ j ≤ Builtin.Range.rangeSize 0 j c * c := by
    rw [hs]
    split
    · have d1 := Int.ediv_mul_le (j - 1) (b := c) (by omega)
      have d2 := Int.lt_ediv_add_one_mul_self (j - 1) (show 0 < c by omega)
      have d0 : 0 ≤ (j - 1) / c := Int.ediv_nonneg (by omega) (by omega)
      have d3 : (j - 1) / c ≤ j - 1 := Int.ediv_le_self _ (by omega)
      refine ⟨by omega, by omega, ?_, by omega⟩
      rw [show (j - 1) / c + 1 - 1 = (j - 1) / c by omega]
      omega
    · refine ⟨by omega, by omega, ?_, ?_⟩ <;> omega
  obtain ⟨n0, n1, n2, n3⟩ := hn
  generalize hN : Builtin.Range.rangeSize 0 j c = N at *
  refine ⟨N.toNat, ?_, by rw [Int.toNat_of_nonneg n0]; exact n2, by rw [Int.toNat_of_nonneg n0]; exact n3, by rw [Int.toNat_of_nonneg n0]; exact n1⟩
  unfold kRng3
  simp only
  rw [hN, if_pos]
  refine yes_of ⟨⟨by omega, by omega, ?_, by rw [hN]; omega⟩, by omega⟩
  unfold Builtin.Range.small
  rw [hN]
  simp only [Builtin.Range.rangeFitsLong, Bool.and_eq_true, Bool.or_eq_true, decide_eq_true_eq, beq_iff_eq, show c > 0 from by omega, if_true]
  omega
/-! ## the heap of a weaving that is being made -/
def wI (w : List (List (List Int))) : List (List (List PyData)) := w.map fun t => t.map fun x => x.map PyData.int
theorem frzs_eq {h : Hs} {k : Nat} : ∀ {xs : List D} {ps : List PyData}, xs.length = ps.length → (∀ (i : Nat) (x : D) (p : PyData), xs[i]? = some x → ps[i]? = some p → frz h k x = some p) → frzs h (k + 1) xs = some ps
  | [], [], _, _ => rfl
  | [], _ :: _, e, _ => by cases e
  | _ :: _, [], e, _ => by cases e
  | x :: xs, p :: ps, e, H => by
    rw [frzs_cons, H 0 x p rfl rfl, frzs_eq (by simpa using e) fun i y q hy hq => H (i + 1) y q (by simpa using hy) (by simpa using hq)]
end Fs
set_option maxHeartbeats 4000000
namespace Fs
open PySem PySem.Spec PyProof.Rows L2 Vl
theorem wI_len (w : List (List (List Int))) : (wI w).length = w.length := by simp [wI]
section
variable {m : Names} {p : Plan} {mp mr mh : Nat} (hm : m.Ok) (ok : p.Ok mp mr mh) (hmh : mh ≤ 100)
include hm ok hmh
end
end Fs
set_option maxHeartbeats 4000000
namespace Fs
open PySem PySem.Spec PyProof.Rows L2 Vl
section
variable {m : Names} {p : Plan} {mp mr mh : Nat} (hm : m.Ok) (ok : p.Ok mp mr mh) (hmh : mh ≤ 100)
include hm ok hmh
end
end Fs
set_option maxHeartbeats 4000000
namespace Fs
open PySem PySem.Spec PyProof.Rows L2 Vl
section
variable {m : Names} {p : Plan} {mp mr mh : Nat} (hm : m.Ok) (ok : p.Ok mp mr mh) (hmh : mh ≤ 100)
include hm ok hmh
end
end Fs
set_option maxHeartbeats 4000000
namespace Fs
open PySem PySem.Spec PyProof.Rows L2 Vl
/-- a weaving that can be done, of turns of at most mo choices -/
structure WOk (p : Plan) (mo : Nat) (w : List (List (List Int))) (ss : List StM) : Prop where
  can : weaveM p (wI w) 0 (begM p) = .inl ss
  len : ∀ t ∈ w, t.length = p.hs.length
  most : ∀ t ∈ w, ∀ x ∈ t, x.length ≤ mo
section
variable {m : Names} {p : Plan} {mp mr mh : Nat} (hm : m.Ok) (ok : p.Ok mp mr mh) (hmh : mh ≤ 10)
include hm ok hmh
end
end Fs
set_option maxHeartbeats 4000000
namespace Fs
open PySem PySem.Spec PyProof.Rows L2 Vl
/-! ## refusals that are caught -/
@[simp] theorem z_isx (ts : List Str) (f : EM) (s : Sl) (h : Hs) : eIsX ANC ts f s h = match f s h with
  | some (.ok d h1) => (match isXs ANC ts d with
    | some b => some (.ok (.v (.bool b)) h1)
    | none => none)
  | some (.ex x h1) => some (.ex x h1)
  | none => none := by
  unfold eIsX EM.bind EM.lift
  cases f s h with
  | none => rfl
  | some r =>
    cases r with
    | ex x h1 => rfl
    | ok d h1 =>
      simp only
      cases isXs ANC ts d <;> rfl
@[simp] theorem z_isv (f : EM) (s : Sl) (h : Hs) : eIsV ANC f s h = match f s h with
  | some (.ok d h1) => (match isXv ANC d with
    | some b => some (.ok (.v (.bool b)) h1)
    | none => none)
  | some (.ex x h1) => some (.ex x h1)
  | none => none := by
  unfold eIsV EM.bind EM.lift
  cases f s h with
  | none => rfl
  | some r =>
    cases r with
    | ex x h1 => rfl
    | ok d h1 =>
      simp only
      cases isXv ANC d <;> rfl
@[simp] theorem z_fldx (n : Str) (f : EM) (s : Sl) (h : Hs) : eFldX ANC n f s h = match f s h with
  | some (.ok d h1) => (match fldX ANC n d with
    | some z => some (.ok z h1)
    | none => none)
  | some (.ex x h1) => some (.ex x h1)
  | none => none := rfl
section
variable {m : Names} {p : Plan} {mp mr mh : Nat} (hm : m.Ok) (ok : p.Ok mp mr mh) (hmp : mp ≤ 20) (hmh : mh ≤ 100)
include hm ok hmp hmh
end
end Fs
set_option maxHeartbeats 4000000
namespace Fs
open PySem PySem.Spec PyProof.Rows L2 Vl
section
variable {m : Names} {p : Plan} {mp mr mh : Nat} (hm : m.Ok) (ok : p.Ok mp mr mh)
include hm ok
end
end Fs
set_option maxHeartbeats 4000000
namespace Fs
open PySem PySem.Spec PyProof.Rows L2 Vl
section
variable {p : Plan} {mp mr mh B : Nat} (ok : p.Ok mp mr mh) {s : StM} (hs : s.Ok p B)
include ok hs
end
end Fs
set_option maxHeartbeats 4000000
namespace Fs
open PySem PySem.Spec PyProof.Rows L2 Vl
/-! ## calls that are handed cells -/
theorem callR_tr {F : Fn} {ps : List PyData} {h : Hs} {d : PyData} (e : callR F ps false h = some (.ok (.v d) h)) (n : noL d = true) : callR F ps true h = some (.ok (.v d) h) := by
  unfold callR at e ⊢
  cases q : F (ps.map .v) [] with
  | none => rw [q] at e; cases e
  | some r =>
    rw [q] at e
    cases r with
    | rt x h' =>
      simp only at e ⊢
      cases q2 : frz h' dep x with
      | none => simp only [q2] at e; cases e
      | some p =>
        simp only [q2, Bool.false_and, Bool.false_eq_true, if_false] at e
        have e' : p = d := by
          have e := Option.some.inj e
          injection e with e
          injection e
        simp only [e', n, Bool.not_true, Bool.and_false, Bool.false_eq_true, if_false]
    | ex x h' =>
      simp only at e
      split at e
      · split at e <;> cases e
      · cases e
/-! ## a weaving cut off -/
/-- the weaving up to a round, of which a hand's turn is cut off -/
def cutW (w : List (List (List PyData))) (a hand n nh : Nat) : List (List (List PyData)) := w.take a ++ [((w[a]?).getD []).take hand ++ [((((w[a]?).getD [])[hand]?).getD []).take n] ++ List.replicate (nh - (hand + 1)) []]
end Fs
set_option maxHeartbeats 4000000
namespace Fs
open PySem PySem.Spec PyProof.Rows L2 Vl
theorem manyM_le {mo : Nat} : ∀ {t : List (List PyData)}, (∀ x ∈ t, x.length ≤ mo) → manyM t ≤ mo * t.length
  | [], _ => Nat.zero_le _
  | x :: r, h => by
    have h1 := h x List.mem_cons_self
    have h2 := manyM_le (t := r) fun y hy => h y (List.mem_cons_of_mem _ hy)
    rw [manyM, List.length_cons, Nat.mul_succ]
    omega
theorem manyW_le {b : Nat} : ∀ {w : List (List (List PyData))}, (∀ t ∈ w, manyM t ≤ b) → manyW w ≤ b * w.length
  | [], _ => Nat.zero_le _
  | x :: r, h => by
    have h1 := h x List.mem_cons_self
    have h2 := manyW_le (w := r) fun y hy => h y (List.mem_cons_of_mem _ hy)
    rw [manyW, List.length_cons, Nat.mul_succ]
    omega
/-- bounds of a weaving -/
structure WB (p : Plan) (w : List (List (List PyData))) : Prop where
  len : ∀ t ∈ w, t.length = p.hs.length
  many : manyW w ≤ 90000
  most : w.length ≤ 900
theorem WOk.wb {p : Plan} {mp mr mh mo : Nat} (ok : p.Ok mp mr mh) (hmh : mh ≤ 10) {w : List (List (List Int))} {ss : List StM} (h : WOk p mo w ss) (hmo : mo ≤ 10) (hl : w.length ≤ 60) : WB p (wI w) where
  len := fun t ht => by
    obtain ⟨u, hu, rfl⟩ := List.mem_map.mp ht
    rw [List.length_map]
    exact h.len u hu
  many := by
    have : manyW (wI w) ≤ 100 * (wI w).length := manyW_le fun t ht => by
      obtain ⟨u, hu, rfl⟩ := List.mem_map.mp ht
      have := manyM_le (mo := mo) (t := u.map fun x => x.map PyData.int) fun x hx => by
        obtain ⟨y, hy, rfl⟩ := List.mem_map.mp hx
        rw [List.length_map]
        exact h.most u hu y hy
      rw [List.length_map, h.len u hu] at this
      have h2 : p.hs.length ≤ 10 := Nat.le_trans ok.hl.2 hmh
      have := Nat.mul_le_mul hmo h2
      omega
    rw [wI_len] at this
    omega
  most := by rw [wI_len]; omega
theorem manyM_app : ∀ (t u : List (List PyData)), manyM (t ++ u) = manyM t + manyM u
  | [], u => by simp [manyM]
  | x :: r, u => by rw [List.cons_append, manyM, manyM, manyM_app r u]; omega
theorem manyW_app : ∀ (t u : List (List (List PyData))), manyW (t ++ u) = manyW t + manyW u
  | [], u => by simp [manyW]
  | x :: r, u => by rw [List.cons_append, manyW, manyW, manyW_app r u]; omega
theorem WB.take {p : Plan} {w : List (List (List PyData))} (h : WB p w) (k : Nat) : WB p (w.take k) where
  len := fun t ht => h.len t (List.mem_of_mem_take ht)
  many := by
    have := manyW_app (w.take k) (w.drop k)
    rw [List.take_append_drop] at this
    have := h.many
    omega
  most := by rw [List.length_take]; have := h.most; omega
end Fs
set_option maxHeartbeats 4000000
namespace Fs
open PySem PySem.Spec PyProof.Rows L2 Vl
@[simp] theorem wv_len (W : List (List (List PyData))) (h : Hs) : lenD [.v (weaveP W)] h = some (.v (.int W.length)) := by
  unfold weaveP
  rw [y_len1, List.length_map]
@[simp] theorem wv_ix (W : List (List (List PyData))) (i : Int) (h : Hs) : ixD (.v (weaveP W)) (.v (.int i)) h = (atI (W.map roundP) i).map .v := rfl
@[simp] theorem wv_cut (W : List (List (List PyData))) (lo hi : Option Int) : sliceP lo hi (weaveP W) = some (.list (cutP (W.map roundP) lo hi)) := rfl
@[simp] theorem rd_cut (t : List (List PyData)) (lo hi : Option Int) : sliceP lo hi (roundP t) = some (.list (cutP (t.map PyData.list) lo hi)) := rfl
@[simp] theorem pl_cut (x : Pile) (lo hi : Option Int) : sliceP lo hi (pileP x) = some (.tuple (cutP (x.map frP).reverse lo hi)) := rfl
theorem WB.cut {p : Plan} {w : List (List (List PyData))} (h : WB p w) {a hand n : Nat} (ha : a < w.length) (hh : hand < p.hs.length) : WB p (cutW w a hand n p.hs.length) := by
  have ew := List.getElem?_eq_getElem ha
  have hl := h.len _ (List.getElem_mem ha)
  have hlt : hand < w[a].length := by omega
  have et := List.getElem?_eq_getElem hlt
  have m1 := manyW_app (w.take a) (w.drop a)
  rw [List.take_append_drop, List.drop_eq_getElem_cons ha, manyW] at m1
  have m2 := manyM_app (w[a].take hand) (w[a].drop hand)
  rw [List.take_append_drop, List.drop_eq_getElem_cons hlt, manyM] at m2
  have m3 : ∀ k, manyM (List.replicate k []) = 0 := fun k => by
    induction k with
    | zero => rfl
    | succ k ih => rw [List.replicate_succ, manyM, ih]; rfl
  unfold cutW
  rw [ew, Option.getD_some, et, Option.getD_some]
  refine ⟨fun t ht => ?_, ?_, ?_⟩
  · rcases List.mem_append.mp ht with ht | ht
    · exact h.len t (List.mem_of_mem_take ht)
    · rw [List.mem_singleton.mp ht]
      simp only [List.length_append, List.length_take, List.length_replicate, List.length_cons, List.length_nil]
      omega
  · rw [manyW_app, manyW, manyW, manyM_app, manyM_app, m3, manyM, manyM, List.length_take]
    have := h.many
    omega
  · rw [List.length_append, List.length_take, List.length_singleton]
    have := h.most
    omega
section
variable {m : Names} {p : Plan} {mp mr mh : Nat} (hm : m.Ok) (ok : p.Ok mp mr mh) (hmp : mp ≤ 20) (hmh : mh ≤ 10)
include hm ok hmp hmh
end
end Fs
set_option maxHeartbeats 4000000
namespace Fs
open PySem PySem.Spec PyProof.Rows L2 Vl
/-! ## the law's own look at a weaving -/
section
variable {m : Names} {p : Plan} {mp mr mh : Nat} (hm : m.Ok) (ok : p.Ok mp mr mh) (hmh : mh ≤ 100)
include hm ok hmh
end
end Fs
set_option maxHeartbeats 4000000
namespace Fs
open PySem PySem.Spec PyProof.Rows L2 Vl
section
variable {m : Names} {p : Plan} {mp mr mh : Nat} (hm : m.Ok) (ok : p.Ok mp mr mh) (hmp : mp ≤ 20) (hmh : mh ≤ 100)
include hm ok hmp hmh
end
end Fs
set_option maxHeartbeats 4000000
namespace Fs
open PySem PySem.Spec PyProof.Rows L2 Vl
/-! ## a weaving laid anew, list by list -/
abbrev WP := List (List (List PyData))
end Fs
set_option maxHeartbeats 4000000
namespace Fs
open PySem PySem.Spec PyProof.Rows L2 Vl
@[simp] theorem wv_seq (W : WP) (h : Hs) : seqI (.v (weaveP W)) h = some (.ok ((W.map roundP).map .v) none h) := rfl
@[simp] theorem z_ins (n : Nat) (i : Int) (y : D) (h : Hs) : insertD (.ref n) [.v (.int i), y] h = match h[n]? with
  | some (.lst xs) => if yes (xs.length < sizeLine ∧ 0 ≤ i ∧ i < 2 ^ 63) = true then some (.v .none, h.set n (.lst (xs.take i.toNat ++ [y] ++ xs.drop i.toNat))) else none
  | _ => none := rfl
@[simp] theorem z_popAt (n : Nat) (i : Int) (h : Hs) : popAtD (.ref n) [.v (.int i)] h = match h[n]? with
  | some (.lst xs) => (match (if yes (-(2 ^ 63) ≤ i ∧ i < 2 ^ 63) = true then ixN xs.length i else none) with
    | some k => (match xs[k]? with
      | some y => some (y, h.set n (.lst (xs.eraseIdx k)))
      | none => none)
    | none => none)
  | _ => none := rfl
end Fs
set_option maxHeartbeats 4000000
namespace Fs
open PySem PySem.Spec PyProof.Rows L2 Vl
/-! ## a procedure that calls itself, very deep -/
end Fs
set_option maxHeartbeats 4000000
namespace Fs
open PySem PySem.Spec PyProof.Rows L2 Vl
end Fs
set_option maxHeartbeats 4000000
namespace Fs
open PySem PySem.Spec PyProof.Rows L2 Vl
end Fs
set_option maxHeartbeats 4000000
namespace Fs
open PySem PySem.Spec PyProof.Rows L2 Vl
/-! ## the law's plan of calls -/
section
variable {ws fs hs : List Int} {np : Nat} {procs : List PyData}
end
end Fs
set_option maxHeartbeats 4000000
namespace Fs
open PySem PySem.Spec PyProof.Rows L2 Vl
section
variable {ws : List Int} {np : Nat} {procs : List PyData} (hw : WsOk ws) (hnp : procs.length = np) (hp : 0 < np ∧ np ≤ 100)
include hw hnp hp
end
end Fs
set_option maxHeartbeats 4000000
namespace Fs
open PySem PySem.Spec PyProof.Rows L2 Vl
section
variable {m : Names} {p : Plan} {mp mr mh B : Nat} (hm : m.Ok) (ok : p.Ok mp mr mh) {s : StM} (hs : s.Ok p B)
include hm ok hs
end
end Fs
set_option maxHeartbeats 4000000
namespace Fs
open PySem PySem.Spec PyProof.Rows L2 Vl
/-! ## a plan whose lists are cells -/
def planD (n : Nat) (p : Plan) : D := .mix [.v (.tuple (p.ws.map .int)), .v (.list (p.fs.map .int)), .ref n, .v (.list (p.hs.map .int))]
end Fs
set_option maxHeartbeats 4000000
namespace Fs
open PySem PySem.Spec PyProof.Rows L2 Vl
/-! ## a program whose lists are cells -/
def progTD (n : Nat) (p : Plan) : D := .mix [.ref n, .ref (n + 1), .ref (n + 2 + p.ps.length)]
end Fs
set_option maxHeartbeats 4000000
namespace Fs
open PySem PySem.Spec PyProof.Rows L2 Vl
@[simp] theorem z_lstRgN {f : EM} {s : Sl} {h : Hs} : eLstRgN f s h = match f s h with
  | some (.ok x h1) => (match rgL x h1 with
    | some (.v (.list ps)) => some (.ok (.ref h1.length) (h1 ++ [.lst (ps.map .v)]))
    | _ => none)
  | some (.ex x h1) => some (.ex x h1)
  | none => none := rfl
section
variable {m : Names} {p : Plan} {mp mr mh B : Nat} (hm : m.Ok) (ok : p.Ok mp mr mh) {s : StM} (hs : s.Ok p B)
include hm ok hs
end
end Fs
set_option maxHeartbeats 4000000
namespace Fs
open PySem PySem.Spec PyProof.Rows L2 Vl
/-! ## heaps with things in them -/
/-- the cells C stand in h from n on -/
def At (h : Hs) (n : Nat) (C : List Cell) : Prop := ∀ j c, C[j]? = some c → h[n + j]? = some c
theorem At.app {h : Hs} {n : Nat} {C : List Cell} (a : At h n C) (g : Hs) : At (h ++ g) n C := fun j c e => by
  have := a j c e
  rw [List.getElem?_append_left (List.getElem?_eq_some_iff.mp this).1]
  exact this
theorem At.end_ (h : Hs) (C : List Cell) : At (h ++ C) h.length C := fun j c e => by
  rw [List.getElem?_append_right (Nat.le_add_right _ _), Nat.add_sub_cancel_left]
  exact e
theorem At.set {h : Hs} {n i : Nat} {C : List Cell} {x : Cell} (a : At h n C) (hi : i < C.length) : At (h.set (n + i) x) n (C.set i x) := fun j c e => by
  have hl : n + i < h.length := by
    have := a i _ (List.getElem?_eq_getElem hi)
    exact (List.getElem?_eq_some_iff.mp this).1
  by_cases q : i = j
  · subst q
    rw [List.getElem?_set_self hi] at e
    rw [List.getElem?_set_self hl]
    exact e
  · rw [List.getElem?_set_ne q] at e
    rw [List.getElem?_set_ne (by omega)]
    exact a j c e
theorem At.le {h : Hs} {n : Nat} {C : List Cell} (a : At h n C) (hC : 0 < C.length) : n + C.length ≤ h.length := by
  have := a (C.length - 1) _ (List.getElem?_eq_getElem (by omega))
  have := (List.getElem?_eq_some_iff.mp this).1
  omega
/-! ### plans -/
theorem shDs_v (n : Nat) : ∀ l : List PyData, shDs n (l.map .v) = l.map .v
  | [] => rfl
  | d :: l => by rw [List.map_cons, shDs, shDs_v n l]; rfl
theorem shC_v (n : Nat) (l : List PyData) : shC n (.lst (l.map .v)) = .lst (l.map .v) := congrArg Cell.lst (shDs_v n l)
/-! ### programs -/
end Fs
set_option maxHeartbeats 4000000
namespace Fs
open PySem PySem.Spec PyProof.Rows L2 Vl
@[simp] theorem z_callT {F : Fn} {a : AM} {s : Sl} {h : Hs} : eCallT F a s h = match a s h with
  | some (.ok ds h1) => (match unvs ds with
    | some ps => callT F ps false h1
    | none => (match frzs h1 (dep + 1) ds with
      | some ps => callT F ps true h1
      | none => none))
  | some (.ex x h1) => some (.ex x h1)
  | none => none := rfl
@[simp] theorem z_callF {F : Fn} {a : AM} {s : Sl} {h : Hs} : eCallF F a s h = match a s h with
  | some (.ok ds h1) => (match frzs h1 (dep + 1) ds with
      | some ps => callF F ps h1
      | none => none)
  | some (.ex x h1) => some (.ex x h1)
  | none => none := rfl
section
variable {m : Names} {p : Plan} {mp mr mh B : Nat} (hm : m.Ok) (ok : p.Ok mp mr mh) {s : StM} (hs : s.Ok p B)
include hm ok hs
end
end Fs
set_option maxHeartbeats 4000000
namespace Fs
open PySem PySem.Spec PyProof.Rows L2 Vl
/-! ## texts -/
inductive Part where
  | s (z : Str)
  | i (n : Int)
  | t (l : List (Option Int))
def partP : Part → PyData
  | .s z => .str z
  | .i n => .int n
  | .t l => .tuple (l.map oint)
def sI (i : Int) : Str := Str.ofString (toString i)
def oW : Option Int → Str
  | none => "-"
  | some i => sI i
def pW : Part → List Str
  | .s z => [z]
  | .i n => [sI n]
  | .t l => l.map oW
def PartOk : Part → Prop
  | .s z => z.length ≤ 100
  | .i n => n.natAbs < 10 ^ 9
  | .t l => l.length ≤ 100 ∧ ∀ i, some i ∈ l → i.natAbs < 10 ^ 9
theorem sI_len {i : Int} (h : i.natAbs < 10 ^ 9) : (sI i).length ≤ 10 := by
  have := int_text_length_le10 (a := i) (k := 9) (by decide) h
  show (Str.ofString (toString i)).length ≤ 10
  rw [PySem.ofString_length]
  omega
theorem strI {i : Int} (h : i.natAbs < 10 ^ 9) : strP (.int i) = some (.str (sI i)) := by
  have hl : i.natAbs.log2 < 1920 := by
    by_cases h0 : i.natAbs = 0
    · rw [h0]
      decide
    · exact (Nat.log2_lt h0).mpr (Nat.lt_of_lt_of_le h (by decide +kernel))
  show (if i.natAbs.log2 < 1920 then _ else none) = _
  rw [if_pos hl]
  rfl
theorem strS (z : Str) : strP (.str z) = some (.str z) := rfl
theorem law_to_ok {o : Option Int} (h9 : ∀ i, o = some i → i.natAbs < 10 ^ 9) (h : Hs) : callR F__law_to [oint o] false h = some (.ok (.v (.str (oW o))) h) := by
  refine callR_v (h' := []) ?_
  cases o with
  | none => simp [F__law_to, mkFn, B__law_to, oint, isNoneD, ngt, oW]
  | some i =>
    have := strI (h9 i rfl)
    simp [F__law_to, mkFn, B__law_to, oint, isNoneD, ngt, oW, this]
theorem compMapT {s : Sl} {h : Hs} {gm : GM} {f : EM} {y : Option Int → PyData} (l : List (Option Int)) (H : ∀ c ∈ l, ∃ s1, gm (.v (oint c)) s h = some s1 ∧ f s1 h = some (.ok (.v (y c)) h)) :
    compL none gm tYes' f ((l.map oint).map .v) s h = some ((l.map y).map .v, h) := by
  rw [List.map_map, List.map_map]
  exact compMap l (fun c => D.v (oint c)) gm f y H
theorem texts_str : ∀ ws : List Str, texts (ws.map PyData.str) = some ws := fun ws => by
  have := texts_map (fun z : Str => z) ws
  rwa [List.map_id''] at this
  exact fun _ => rfl
theorem pW_len {p : Part} (h : PartOk p) : (pW p).length ≤ 100 ∧ ∀ w ∈ pW p, w.length ≤ 100 := by
  cases p with
  | s z => exact ⟨(by decide : 1 ≤ 100), fun w hw => by rw [List.mem_singleton.mp hw]; exact h⟩
  | i n => exact ⟨(by decide : 1 ≤ 100), fun w hw => by rw [List.mem_singleton.mp hw]; have := sI_len h; omega⟩
  | t l =>
    refine ⟨by rw [pW, List.length_map]; exact h.1, fun w hw => ?_⟩
    obtain ⟨o, ho, rfl⟩ := List.mem_map.mp hw
    cases o with
    | none => decide
    | some i => have := sI_len (h.2 i ho); show (sI i).length ≤ 100; omega
end Fs
set_option maxHeartbeats 4000000
namespace Fs
open PySem PySem.Spec PyProof.Rows L2 Vl
abbrev RW := Str × List Part
def rwP (r : RW) : PyData := .tuple (.str r.1 :: r.2.map partP)
def wordsR (r : RW) : List Str := r.1 :: r.2.flatMap pW
def RWOk (r : RW) : Prop := r.1.length ≤ 100 ∧ r.2.length ≤ 5 ∧ ∀ p ∈ r.2, PartOk p
def lineR (r : RW) : Str := Txt.join " " (wordsR r)
theorem sum_le {ws : List Str} {B : Nat} (h : ∀ w ∈ ws, w.length ≤ B) : (ws.map (·.length)).sum ≤ ws.length * B := by
  induction ws with
  | nil => simp
  | cons w ws ih =>
    have h1 := ih fun x hx => h x (List.mem_cons_of_mem _ hx)
    have h2 := h w List.mem_cons_self
    rw [List.map_cons, List.sum_cons, List.length_cons, Nat.succ_mul]
    omega
theorem join_ok {a : Str} {ws : List Str} {B n : Nat} (ha : a.length ≤ 1) (h : ∀ w ∈ ws, w.length ≤ B) (hn : ws.length ≤ n) (hB : n * (B + 1) ≤ 16777216) : joinOk a ws = true := by
  have h1 := sum_le h
  have h2 : ws.length * a.length ≤ ws.length * 1 := Nat.mul_le_mul_left _ ha
  have h3 : ws.length * (B + 1) ≤ n * (B + 1) := Nat.mul_le_mul_right _ hn
  rw [Nat.mul_add] at h3
  exact decide_eq_true (by omega)
theorem txt_join (a : Str) (ws : List Str) : Txt.join a ws = Str.join a ws := PySem.StrLaws.glued_eq_join a ws
theorem sjoin_len {a : Str} {B : Nat} (ha : a.length ≤ 1) : ∀ {ws : List Str}, (∀ w ∈ ws, w.length ≤ B) → (Str.join a ws).length ≤ ws.length * (B + 1)
  | [], _ => Nat.zero_le _
  | [x], h => by
    have := h x List.mem_cons_self
    show x.length ≤ _
    rw [List.length_singleton]
    omega
  | x :: y :: r, h => by
    have ih := sjoin_len (a := a) ha (ws := y :: r) fun w hw => h w (List.mem_cons_of_mem _ hw)
    have h1 := h x List.mem_cons_self
    have : (Str.join a (x :: y :: r)).length = x.length + a.length + (Str.join a (y :: r)).length := by
      show (x ++ a ++ Str.join a (y :: r)).length = _
      rw [strLen_append, strLen_append]
    rw [this, List.length_cons, Nat.succ_mul]
    omega
theorem join_len {a : Str} {B : Nat} (ha : a.length ≤ 1) {ws : List Str} (h : ∀ w ∈ ws, w.length ≤ B) : (Txt.join a ws).length ≤ ws.length * (B + 1) := by
  rw [txt_join]
  exact sjoin_len ha h
theorem words_len {r : RW} (h : RWOk r) : (wordsR r).length ≤ 501 ∧ ∀ w ∈ wordsR r, w.length ≤ 100 := by
  obtain ⟨h1, h2, h3⟩ := h
  have : ∀ ps : List Part, (∀ p ∈ ps, PartOk p) → (ps.flatMap pW).length ≤ 100 * ps.length ∧ ∀ w ∈ ps.flatMap pW, w.length ≤ 100 := fun ps hp => by
    induction ps with
    | nil => exact ⟨Nat.le_refl _, fun w hw => by cases hw⟩
    | cons p ps ih =>
      obtain ⟨i1, i2⟩ := ih fun x hx => hp x (List.mem_cons_of_mem _ hx)
      obtain ⟨j1, j2⟩ := pW_len (hp p List.mem_cons_self)
      rw [List.flatMap_cons, List.length_append, List.length_cons]
      exact ⟨by omega, fun w hw => by
        rcases List.mem_append.mp hw with hw | hw
        · exact j2 w hw
        · exact i2 w hw⟩
  obtain ⟨k1, k2⟩ := this r.2 h3
  refine ⟨by unfold wordsR; rw [List.length_cons]; omega, fun w hw => ?_⟩
  rcases List.mem_cons.mp hw with rfl | hw
  · exact h1
  · exact k2 w hw
theorem line_len {r : RW} (h : RWOk r) : (lineR r).length ≤ 50601 := by
  obtain ⟨h1, h2⟩ := words_len h
  have := join_len (a := (" " : Str)) (by decide) h2
  unfold lineR
  have : (wordsR r).length * (100 + 1) ≤ 501 * 101 := Nat.mul_le_mul_right _ h1
  omega
theorem words_loop : ∀ (ps : List Part) (acc : List Str) (n : Nat) (h : Hs), n < h.length → h[n]? = some (.lst ((acc.map PyData.str).map .v)) → (∀ p ∈ ps, PartOk p) → acc.length + 100 * ps.length ≤ 100000 →
    ∃ n' h', n' < h'.length ∧ h'[n']? = some (.lst (((acc ++ ps.flatMap pW).map PyData.str).map .v)) ∧ forL none G__law_words_1 W__law_words_1 ((ps.map partP).map .v) (S__law_words_1 (.ref n)) h = some (.nx (S__law_words_1 (.ref n')) h')
  | [], acc, n, h, hn, e, _, _ => ⟨n, h, hn, by simpa using e, by simp [forL, gok]⟩
  | p :: ps, acc, n, h, hn, e, hp, ha => by
    rw [List.length_cons] at ha
    have p0 := hp p List.mem_cons_self
    have pl := pW_len p0
    have z1 : (((acc.map PyData.str).map D.v).length < sizeLine) = True := szI (by rw [List.length_map, List.length_map]; omega)
    have st : ∃ n1 h1, n1 < h1.length ∧ h1[n1]? = some (.lst (((acc ++ pW p).map PyData.str).map .v)) ∧ W__law_words_1 [none, some (.ref n), some (.v (partP p)), none] h = some (.nx (S__law_words_1 (.ref n1)) h1) := by
      cases p with
      | s z =>
        refine ⟨n, h.set n (.lst (((acc ++ [z]).map PyData.str).map .v)), by rw [List.length_set]; exact hn, by rw [List.getElem?_set_self hn]; rfl, ?_⟩
        rw [List.map_append, List.map_append]
        simp [-List.map_map, -List.length_map, W__law_words_1, L__law_words_1, partP, strS, e, z1]
      | i k =>
        have := strI p0
        refine ⟨n, h.set n (.lst (((acc ++ [sI k]).map PyData.str).map .v)), by rw [List.length_set]; exact hn, by rw [List.getElem?_set_self hn]; rfl, ?_⟩
        rw [List.map_append, List.map_append]
        simp [-List.map_map, -List.length_map, W__law_words_1, L__law_words_1, partP, this, e, z1]
      | t l =>
        have cc : compL none (gNm 3) tYes' (eCall F__law_to (eCons (eVar 3) eNil)) ((l.map oint).map .v) [none, some (.ref n), some (.v (.tuple (l.map oint))), none] h = some (((l.map oW).map PyData.str).map .v, h) := by
          rw [List.map_map (f := oW)]
          exact compMapT (y := fun o => PyData.str (oW o)) l fun o ho => ⟨_, rfl, by
            have := law_to_ok (o := o) (fun i e => p0.2 i (e ▸ ho)) h
            simp [this]⟩
        have pp : partP (.t l) = .tuple (l.map oint) := rfl
        have an : addN (.ref n) (.v (.list ((l.map oW).map PyData.str))) h = some (((acc ++ l.map oW).map PyData.str).map .v) := by
          unfold addN
          have e1 : lstOf (.ref n) h = some ((acc.map PyData.str).map .v) := by
            show (match h[n]? with | some (.lst xs) => some xs | _ => none) = _
            rw [e]
          have e2 : lstOf (.v (.list ((l.map oW).map PyData.str))) h = some (((l.map oW).map PyData.str).map .v) := rfl
          rw [e1, e2]
          have z : ((acc.map PyData.str).map D.v).length + (((l.map oW).map PyData.str).map D.v).length ≤ sizeLine := ten_line' (by have := p0.1; simp; omega)
          simp only
          rw [if_pos z, List.map_append, List.map_append]
        refine ⟨h.length, h ++ [.lst (((acc ++ l.map oW).map PyData.str).map .v)], by simp, by simp [pW], ?_⟩
        rw [pp]
        generalize ((acc ++ l.map oW).map PyData.str).map D.v = A at *
        generalize (l.map oW).map PyData.str = B at *
        simp [-List.map_map, W__law_words_1, L__law_words_1, cc, an]
    obtain ⟨n1, h1, k1, k2, k3⟩ := st
    obtain ⟨n', h', j1, j2, j3⟩ := words_loop ps (acc ++ pW p) n1 h1 k1 k2 (fun x hx => hp x (List.mem_cons_of_mem _ hx)) (by rw [List.length_append]; omega)
    refine ⟨n', h', j1, by rw [List.flatMap_cons, ← List.append_assoc]; exact j2, ?_⟩
    rw [List.map_cons, List.map_cons]
    simp only [S__law_words_1] at j3 k3 ⊢
    simp only [forL, gok, if_true, z_gnm, List.set_cons_succ, List.set_cons_zero, k3]
    exact j3
theorem law_words_ok {r : RW} (hr : RWOk r) (h : Hs) : callR F__law_words [rwP r] false h = some (.ok (.v (.str (lineR r))) h) := by
  obtain ⟨w1, w2⟩ := words_len hr
  obtain ⟨n', h', j1, j2, lp⟩ := words_loop r.2 [r.1] 0 [.lst [.v (.str r.1)]] (by simp) rfl hr.2.2 (by have := hr.2.1; simp; omega)
  have jo := join_ok (a := (" " : Str)) (by decide) w2 w1 (by decide)
  have c1 : cutP (PyData.str r.1 :: r.2.map partP) (some 1) none = r.2.map partP := cut_from _ 1
  have tx := texts_str (wordsR r)
  refine callR_v (h' := h') ?_
  have e : [r.1] ++ r.2.flatMap pW = wordsR r := rfl
  rw [e] at j2
  unfold rwP lineR
  simp only [S__law_words_1] at lp
  generalize wordsR r = W at *
  generalize r.2.map partP = P at *
  simp [-List.map_map, F__law_words, mkFn, B__law_words, c1, lp, j2, tx, jo]
end Fs
set_option maxHeartbeats 4000000
namespace Fs
open PySem PySem.Spec PyProof.Rows L2 Vl
/-- a program as names, numbers, words -/
structure Tx3 where
  bs : List (Str × Int × Int)
  ps : List (Str × List RW)
  hs : List (Str × Str)
def bxT (b : Str × Int × Int) : PyData := .tuple [.str b.1, .int b.2.1, .int b.2.2]
def prT (p : Str × List RW) : PyData := .tuple [.str p.1, .list (p.2.map rwP)]
def hdT (h : Str × Str) : PyData := .tuple [.str h.1, .str h.2]
def tx3P (t : Tx3) : PyData := .tuple [.list (t.bs.map bxT), .list (t.ps.map prT), .list (t.hs.map hdT)]
structure Tx3.Ok (t : Tx3) : Prop where
  bl : t.bs.length ≤ 10
  pl : t.ps.length ≤ 10
  hl : t.hs.length ≤ 10
  b : ∀ b ∈ t.bs, b.1.length ≤ 100 ∧ b.2.1.natAbs < 10 ^ 9 ∧ b.2.2.natAbs < 10 ^ 9
  p : ∀ p ∈ t.ps, p.1.length ≤ 100 ∧ p.2.length ≤ 20 ∧ ∀ r ∈ p.2, RWOk r
  h : ∀ h ∈ t.hs, h.1.length ≤ 100 ∧ h.2.length ≤ 100
theorem compMapG {α : Type} {s : Sl} {h : Hs} (l : List α) (g : α → PyData) (gm : GM) (f : EM) (y : α → PyData) (H : ∀ c ∈ l, ∃ s1, gm (.v (g c)) s h = some s1 ∧ f s1 h = some (.ok (.v (y c)) h)) :
    compL none gm tYes' f ((l.map g).map .v) s h = some ((l.map y).map .v, h) := by
  rw [List.map_map, List.map_map]
  exact compMap l (fun c => D.v (g c)) gm f y H
def lnB (b : Str × Int × Int) : Str := Txt.join " " ["box", b.1, sI b.2.1, sI b.2.2]
def lnP (p : Str × List RW) : List Str := ("proc " ++ p.1 : Str) :: p.2.map lineR
def lnH (h : Str × Str) : Str := "hand " ++ h.1 ++ " " ++ h.2
def linesT (t : Tx3) : List Str := t.bs.map lnB ++ t.ps.flatMap lnP ++ t.hs.map lnH
theorem app_assoc (a b c : Str) : a ++ b ++ c = a ++ (b ++ c) := by
  show (⟨a.cps ++ b.cps ++ c.cps⟩ : Str) = ⟨a.cps ++ (b.cps ++ c.cps)⟩
  rw [Array.append_assoc]
theorem addS {a b : Str} (h : a.length + b.length ≤ 1000000) : addP (.str a) (.str b) = some (.str (a ++ b)) := by
  rw [y_add1, if_pos (ten_line' (by omega))]
theorem lnB_eq (n : Str) (w f : Int) : ("box " ++ n ++ " " ++ sI w ++ " " ++ sI f : Str) = lnB (n, w, f) := by
  unfold lnB
  rw [txt_join]
  have e : (Str.ofString "box " : Str) = Str.ofString "box" ++ Str.ofString " " := by decide
  show (Str.ofString "box " ++ n ++ Str.ofString " " ++ sI w ++ Str.ofString " " ++ sI f : Str) = Str.ofString "box" ++ Str.ofString " " ++ (n ++ Str.ofString " " ++ (sI w ++ Str.ofString " " ++ sI f))
  rw [e]
  simp only [app_assoc]
section
variable {t : Tx3} (ok : t.Ok)
include ok
theorem lines_ok : (linesT t).length ≤ 300 ∧ ∀ l ∈ linesT t, l.length ≤ 50601 := by
  have : ∀ ps : List (Str × List RW), (∀ p ∈ ps, p.1.length ≤ 100 ∧ p.2.length ≤ 20 ∧ ∀ r ∈ p.2, RWOk r) → (ps.flatMap lnP).length ≤ 21 * ps.length ∧ ∀ l ∈ ps.flatMap lnP, l.length ≤ 50601 := fun ps hp => by
    induction ps with
    | nil => exact ⟨Nat.le_refl _, fun w hw => by cases hw⟩
    | cons p ps ih =>
      obtain ⟨i1, i2⟩ := ih fun x hx => hp x (List.mem_cons_of_mem _ hx)
      obtain ⟨j1, j2, j3⟩ := hp p List.mem_cons_self
      rw [List.flatMap_cons, List.length_append, List.length_cons]
      have ll : (lnP p).length = p.2.length + 1 := by unfold lnP; rw [List.length_cons, List.length_map]
      refine ⟨by omega, fun w hw => ?_⟩
      rcases List.mem_append.mp hw with hw | hw
      · rcases List.mem_cons.mp hw with rfl | hw
        · rw [strLen_append]
          have : (Str.ofString "proc ").length = 5 := by decide
          omega
        · obtain ⟨r, hr, rfl⟩ := List.mem_map.mp hw
          exact line_len (j3 r hr)
      · exact i2 w hw
  obtain ⟨k1, k2⟩ := this t.ps ok.p
  have b1 := ok.bl
  have b2 := ok.pl
  have b3 := ok.hl
  refine ⟨by unfold linesT; rw [List.length_append, List.length_append, List.length_map, List.length_map]; omega, fun l hl => ?_⟩
  rcases List.mem_append.mp hl with hl | hl
  · rcases List.mem_append.mp hl with hl | hl
    · obtain ⟨b, hb, rfl⟩ := List.mem_map.mp hl
      obtain ⟨c1, c2, c3⟩ := ok.b b hb
      have : (lnB b).length ≤ 4 * (100 + 1) := join_len (a := (" " : Str)) (B := 100) (by decide) fun w hw => by
        simp only [List.mem_cons, List.not_mem_nil, or_false] at hw
        rcases hw with rfl | rfl | rfl | rfl
        · decide
        · exact c1
        · have := sI_len c2; omega
        · have := sI_len c3; omega
      omega
    · exact k2 l hl
  · obtain ⟨h, hh, rfl⟩ := List.mem_map.mp hl
    obtain ⟨c1, c2⟩ := ok.h h hh
    unfold lnH
    rw [strLen_append, strLen_append, strLen_append]
    have e1 : (Str.ofString "hand ").length = 5 := by decide
    have e2 : (Str.ofString " ").length = 1 := by decide
    omega
end
end Fs
set_option maxHeartbeats 4000000
namespace Fs
open PySem PySem.Spec PyProof.Rows L2 Vl
section
variable {t : Tx3} (ok : t.Ok)
include ok
theorem t_loop {hands : D} {h : Hs} : ∀ (ps : List (Str × List RW)) (acc : List Str), (∀ p ∈ ps, p.1.length ≤ 100 ∧ p.2.length ≤ 20 ∧ ∀ r ∈ p.2, RWOk r) → acc.length + 21 * ps.length ≤ 10000 →
    forL none G__law_text_1 W__law_text_1 ((ps.map prT).map .v) (S__law_text_1 hands (.v (.list (acc.map PyData.str)))) h = some (.nx (S__law_text_1 hands (.v (.list ((acc ++ ps.flatMap lnP).map PyData.str)))) h)
  | [], acc, _, _ => by simp [forL, gok]
  | p :: ps, acc, hp, ha => by
    rw [List.length_cons] at ha
    obtain ⟨j1, j2, j3⟩ := hp p List.mem_cons_self
    have ll : (lnP p).length ≤ 21 := by unfold lnP; rw [List.length_cons, List.length_map]; omega
    have ih := t_loop (hands := hands) (h := h) ps (acc ++ lnP p) (fun x hx => hp x (List.mem_cons_of_mem _ hx)) (by rw [List.length_append]; omega)
    have a1 := addS (a := ("proc " : Str)) (b := p.1) (by have : (Str.ofString "proc ").length = 5 := by decide
                                                          omega)
    have cc : compL none (gNm 9) tYes' (eCall F__law_words (eCons (eVar 9) eNil)) ((p.2.map rwP).map .v) [none, none, none, some hands, some (.v (.list (acc.map PyData.str))), some (.v (.str p.1)), some (.v (.list (p.2.map rwP))), none, none, none, none] h = some (((p.2.map lineR).map PyData.str).map .v, h) := by
      rw [List.map_map (f := lineR)]
      exact compMapG p.2 rwP _ _ _ fun r hr => ⟨_, rfl, by
        have := law_words_ok (j3 r hr) h
        simp [this]⟩
    have z1 : ((acc.map PyData.str).length + 1 ≤ sizeLine) = True := sz (by rw [List.length_map]; omega)
    have z2 : ((acc.map PyData.str).length + 1 + ((p.2.map lineR).map PyData.str).length ≤ sizeLine) = True := sz (by rw [List.length_map, List.length_map, List.length_map]; omega)
    have ee : (acc ++ lnP p).map PyData.str = acc.map PyData.str ++ (.str ("proc " ++ p.1) :: (p.2.map lineR).map PyData.str) := by
      unfold lnP
      simp
    have st : W__law_text_1 [none, none, none, some hands, some (.v (.list (acc.map PyData.str))), some (.v (.str p.1)), some (.v (.list (p.2.map rwP))), none, none, none, none] h = some (.nx (S__law_text_1 hands (.v (.list ((acc ++ lnP p).map PyData.str)))) h) := by
      rw [ee]
      generalize acc.map PyData.str = A at *
      generalize (p.2.map lineR).map PyData.str = B at *
      generalize p.2.map rwP = R at *
      simp [-y_add1, -List.map_map, W__law_text_1, L__law_text_1, a1, z1, z2, cc]
    rw [List.map_cons, List.map_cons, List.flatMap_cons]
    simp only [S__law_text_1] at ih st ⊢
    simp only [prT, forL, gok, if_true, z_gtp, z_it0, List.map_cons, List.map_nil, z_gcons, z_gnm, z_gnil, List.set_cons_succ, List.set_cons_zero, List.length_cons, List.length_nil, st]
    rw [ih, List.append_assoc]
theorem law_text_ok (h : Hs) : callR F__law_text [tx3P t] false h = some (.ok (.v (.str (Txt.join "\n" (linesT t)))) h) := by
  obtain ⟨l1, l2⟩ := lines_ok ok
  have jo := join_ok (a := ("\n" : Str)) (by decide) l2 l1 (by decide)
  have tx := texts_str (linesT t)
  have e1 : (Str.ofString "box ").length = 4 := by decide
  have e2 : (Str.ofString " ").length = 1 := by decide
  have e3 : (Str.ofString "hand ").length = 5 := by decide
  have cb : ∀ σ : Sl, σ.length = 11 → compL none (gTp 3 (gsCons (gNm 5) (gsCons (gNm 7) (gsCons (gNm 8) gsNil)))) tYes' (eAdd (eAdd (eAdd (eAdd (eAdd (eC (.str "box ")) (eVar 5)) (eC (.str " "))) (eB (b1 strP) (eCons (eVar 7) eNil))) (eC (.str " "))) (eB (b1 strP) (eCons (eVar 8) eNil))) ((t.bs.map bxT).map .v) σ [] = some (((t.bs.map lnB).map PyData.str).map .v, []) := fun σ hσ => by
    rw [List.map_map (f := lnB)]
    refine compMapG t.bs bxT _ _ _ fun b hb => ⟨((σ.set 5 (some (.v (.str b.1)))).set 7 (some (.v (.int b.2.1)))).set 8 (some (.v (.int b.2.2))), by simp [bxT], ?_⟩
    obtain ⟨c1, c2, c3⟩ := ok.b b hb
    have g5 : (((σ.set 5 (some (.v (.str b.1)))).set 7 (some (.v (.int b.2.1)))).set 8 (some (.v (.int b.2.2))))[5]? = some (some (.v (.str b.1))) := by
      rw [List.getElem?_set_ne (by decide), List.getElem?_set_ne (by decide), List.getElem?_set_self (by omega)]
    have g7 : (((σ.set 5 (some (.v (.str b.1)))).set 7 (some (.v (.int b.2.1)))).set 8 (some (.v (.int b.2.2))))[7]? = some (some (.v (.int b.2.1))) := by
      rw [List.getElem?_set_ne (by decide), List.getElem?_set_self (by rw [List.length_set]; omega)]
    have g8 : (((σ.set 5 (some (.v (.str b.1)))).set 7 (some (.v (.int b.2.1)))).set 8 (some (.v (.int b.2.2))))[8]? = some (some (.v (.int b.2.2))) := List.getElem?_set_self (by rw [List.length_set, List.length_set]; omega)
    have s2 := strI c2
    have s3 := strI c3
    have k2 := sI_len c2
    have k3 := sI_len c3
    have a1 := addS (a := ("box " : Str)) (b := b.1) (by omega)
    have a2 := addS (a := ("box " ++ b.1 : Str)) (b := (" " : Str)) (by rw [strLen_append]; omega)
    have a3 := addS (a := ("box " ++ b.1 ++ " " : Str)) (b := sI b.2.1) (by rw [strLen_append, strLen_append]; omega)
    have a4 := addS (a := ("box " ++ b.1 ++ " " ++ sI b.2.1 : Str)) (b := (" " : Str)) (by rw [strLen_append, strLen_append, strLen_append]; omega)
    have a5 := addS (a := ("box " ++ b.1 ++ " " ++ sI b.2.1 ++ " " : Str)) (b := sI b.2.2) (by rw [strLen_append, strLen_append, strLen_append, strLen_append]; omega)
    have eb : lnB b = ("box " ++ b.1 ++ " " ++ sI b.2.1 ++ " " ++ sI b.2.2 : Str) := (lnB_eq b.1 b.2.1 b.2.2).symm
    have ey : (PyData.str ∘ lnB) b = .str ("box " ++ b.1 ++ " " ++ sI b.2.1 ++ " " ++ sI b.2.2 : Str) := by rw [← eb]; rfl
    rw [ey]
    generalize ((σ.set 5 (some (.v (.str b.1)))).set 7 (some (.v (.int b.2.1)))).set 8 (some (.v (.int b.2.2))) = τ at *
    simp [-y_add1, g5, g7, g8, s2, s3, a1, a2, a3, a4, a5]
  have lp := t_loop ok (hands := .v (.list (t.hs.map hdT))) (h := []) t.ps (t.bs.map lnB) ok.p (by have := ok.bl; have := ok.pl; simp; omega)
  have ch : ∀ (σ : Sl), σ.length = 11 → compL none (gTp 2 (gsCons (gNm 5) (gsCons (gNm 10) gsNil))) tYes' (eAdd (eAdd (eAdd (eC (.str "hand ")) (eVar 5)) (eC (.str " "))) (eVar 10)) ((t.hs.map hdT).map .v) σ [] = some (((t.hs.map lnH).map PyData.str).map .v, []) := fun σ hσ => by
    rw [List.map_map (f := lnH)]
    refine compMapG t.hs hdT _ _ _ fun b hb => ⟨(σ.set 5 (some (.v (.str b.1)))).set 10 (some (.v (.str b.2))), by simp [hdT], ?_⟩
    obtain ⟨c1, c2⟩ := ok.h b hb
    have g5 : ((σ.set 5 (some (.v (.str b.1)))).set 10 (some (.v (.str b.2))))[5]? = some (some (.v (.str b.1))) := by
      rw [List.getElem?_set_ne (by decide), List.getElem?_set_self (by omega)]
    have g9 : ((σ.set 5 (some (.v (.str b.1)))).set 10 (some (.v (.str b.2))))[10]? = some (some (.v (.str b.2))) := List.getElem?_set_self (by rw [List.length_set]; omega)
    have a1 := addS (a := ("hand " : Str)) (b := b.1) (by omega)
    have a2 := addS (a := ("hand " ++ b.1 : Str)) (b := (" " : Str)) (by rw [strLen_append]; omega)
    have a3 := addS (a := ("hand " ++ b.1 ++ " " : Str)) (b := b.2) (by rw [strLen_append, strLen_append]; omega)
    generalize (σ.set 5 (some (.v (.str b.1)))).set 10 (some (.v (.str b.2))) = τ at *
    simp [-y_add1, g5, g9, a1, a2, a3, lnH]
  refine callR_v (h' := []) ?_
  have el : (t.bs.map lnB ++ t.ps.flatMap lnP).map PyData.str ++ (t.hs.map lnH).map PyData.str = (linesT t).map PyData.str := by
    unfold linesT
    rw [List.map_append (l₂ := t.hs.map lnH)]
  have zz : (((t.bs.map lnB ++ t.ps.flatMap lnP).map PyData.str).length + ((t.hs.map lnH).map PyData.str).length ≤ sizeLine) = True := sz (by have l1 := l1; unfold linesT at l1; simp only [List.length_append, List.length_map] at l1 ⊢; omega)
  have cb1 := cb [some (.v (tx3P t)), some (.v (.list (t.bs.map bxT))), some (.v (.list (t.ps.map prT))), some (.v (.list (t.hs.map hdT))), none, none, none, none, none, none, none] rfl
  have ch1 := ch [none, none, none, some (.v (.list (t.hs.map hdT))), some (.v (.list ((t.bs.map lnB ++ t.ps.flatMap lnP).map PyData.str))), none, none, none, none, none, none] rfl
  have tp : tx3P t = .tuple [.list (t.bs.map bxT), .list (t.ps.map prT), .list (t.hs.map hdT)] := rfl
  simp only [S__law_text_1] at lp
  rw [tp] at cb1 ⊢
  generalize linesT t = LT at *
  generalize (t.bs.map lnB ++ t.ps.flatMap lnP).map PyData.str = Q1 at *
  generalize (t.bs.map lnB).map PyData.str = Q2 at *
  generalize (t.hs.map lnH).map PyData.str = Q3 at *
  generalize t.bs.map bxT = B1 at *
  generalize t.ps.map prT = P1 at *
  generalize t.hs.map hdT = H1 at *
  simp [-List.map_map, F__law_text, mkFn, B__law_text, cb1, lp, ch1, zz, el, tx, jo]
end
/-! ## a program of a plan, so told -/
def rwTx : RowS → RW
  | .put b w t => ("put", [.s b, .i w, .i t])
  | .swap b x y t => ("swap", [.s b, .i x, .i y, .i t])
  | .ask b ts => ("ask", [.s b, .t ts])
  | .any ts => ("any", [.t (ts.map some)])
  | .call q t => ("call", [.s q, .i t])
  | .take b t => ("take", [.s b, .i t])
  | .give b t => ("give", [.s b, .i t])
theorem rwTx_eq (r : RowS) : rwP (rwTx r) = rowS r := by
  cases r with
  | any ts =>
    show PyData.tuple [.str "any", .tuple ((ts.map some).map oint)] = .tuple [.str "any", .tuple (ts.map .int)]
    rw [List.map_map]
    rfl
  | _ => rfl
def tx3Of (m : Names) (p : Plan) : Tx3 := ⟨(List.range p.ws.length).map fun k => (m.b k, p.ws.getD k 1, p.fs.getD k 0), (p.ps.zipIdx 0).map fun x => (m.t x.2, x.1.map fun r => rwTx (m.row r)), (p.hs.zipIdx 0).map fun x => (m.h x.2, m.t x.1.toNat)⟩
theorem procs_zip (m : Names) : ∀ (rs : List (List RowI)) (k : Nat), (procsP m k rs) = (rs.zipIdx k).map fun x => procP m x.2 x.1
  | [], _ => rfl
  | r :: rs, k => by rw [procsP, procs_zip m rs (k + 1), List.zipIdx_cons, List.map_cons]
theorem hands_zip (m : Names) : ∀ (hs : List Int) (k : Nat), (handsP m k hs) = (hs.zipIdx k).map fun x => .tuple [.str (m.h x.2), .str (m.t x.1.toNat)]
  | [], _ => rfl
  | r :: rs, k => by rw [handsP, hands_zip m rs (k + 1), List.zipIdx_cons, List.map_cons]
theorem tx3_eq (m : Names) (p : Plan) : tx3P (tx3Of m p) = progP m p := by
  unfold tx3P tx3Of progP boxesP
  rw [procs_zip, hands_zip]
  simp only [List.map_map]
  congr 2
  congr 1
  congr 1
  refine List.map_congr_left fun x _ => ?_
  show PyData.tuple [.str (m.t x.2), .list ((x.1.map fun r => rwTx (m.row r)).map rwP)] = procP m x.2 x.1
  rw [List.map_map]
  have : (rwP ∘ fun r => rwTx (m.row r)) = fun r => rowS (m.row r) := by
    funext r
    exact rwTx_eq _
  rw [this]
  rfl
theorem rwTx_ok {m : Names} (hm : m.Ok) {p : Plan} {mp mr mh : Nat} (ok : p.Ok mp mr mh) {e np nh : Int} (he : e ≤ 1000) {x : RowI} (hx : RowOk p.ws np e nh x) : RWOk (rwTx (m.row x)) := by
  have nb : ∀ b, PartOk (.s (m.b b)) := fun b => by have := (isName_ok (hm.b b)).2; show (m.b b).length ≤ 100; omega
  have nt : ∀ b, PartOk (.s (m.t b)) := fun b => by have := (isName_ok (hm.t b)).2; show (m.t b).length ≤ 100; omega
  have to9 : ∀ {t : Int}, ToOk e t → PartOk (.i t) := fun {t} h => by
    have := h.1
    have := h.2
    show t.natAbs < 10 ^ 9
    omega
  have wm : ∀ {k : Nat} {M : Int}, p.ws[k]? = some M → M ≤ 6 := fun h => (ok.ws.2.2 _ (List.mem_of_getElem? h)).2
  cases x with
  | put b w t =>
    obtain ⟨k, rfl, M, h1, h2, h3, h4⟩ := hx
    have := wm h1
    refine ⟨(by decide : (Str.ofString "put").length ≤ 100), (by decide : 3 ≤ 5), fun q hq => ?_⟩
    have hq : q ∈ [Part.s (m.b (k : Int).toNat), .i w, .i t] := hq
    simp only [List.mem_cons, List.not_mem_nil, or_false] at hq
    rcases hq with rfl | rfl | rfl
    · exact nb _
    · show w.natAbs < 10 ^ 9; omega
    · exact to9 h4
  | swap b y z t =>
    obtain ⟨k, rfl, M, h1, h2, h3, h4, h5, h6⟩ := hx
    have := wm h1
    refine ⟨(by decide : (Str.ofString "swap").length ≤ 100), (by decide : 4 ≤ 5), fun q hq => ?_⟩
    have hq : q ∈ [Part.s (m.b (k : Int).toNat), .i y, .i z, .i t] := hq
    simp only [List.mem_cons, List.not_mem_nil, or_false] at hq
    rcases hq with rfl | rfl | rfl | rfl
    · exact nb _
    · show y.natAbs < 10 ^ 9; omega
    · show z.natAbs < 10 ^ 9; omega
    · exact to9 h6
  | ask b ts =>
    obtain ⟨k, rfl, M, h1, h2, h3⟩ := hx
    have := wm h1
    refine ⟨(by decide : (Str.ofString "ask").length ≤ 100), (by decide : 2 ≤ 5), fun q hq => ?_⟩
    have hq : q ∈ [Part.s (m.b (k : Int).toNat), .t ts] := hq
    simp only [List.mem_cons, List.not_mem_nil, or_false] at hq
    rcases hq with rfl | rfl
    · exact nb _
    · exact ⟨by omega, fun i hi => to9 (h3 (some i) hi i rfl)⟩
  | any ts =>
    refine ⟨(by decide : (Str.ofString "any").length ≤ 100), (by decide : 1 ≤ 5), fun q hq => ?_⟩
    have hq : q ∈ [Part.t (ts.map some)] := hq
    rw [List.mem_singleton.mp hq]
    refine ⟨by rw [List.length_map]; have := hx.2.1; omega, fun i hi => ?_⟩
    obtain ⟨j, hj, e⟩ := List.mem_map.mp hi
    cases e
    exact to9 (hx.2.2 _ hj)
  | call q t =>
    refine ⟨(by decide : (Str.ofString "call").length ≤ 100), (by decide : 2 ≤ 5), fun z hz => ?_⟩
    have hz : z ∈ [Part.s (m.t q.toNat), .i t] := hz
    simp only [List.mem_cons, List.not_mem_nil, or_false] at hz
    rcases hz with rfl | rfl
    · exact nt _
    · exact to9 hx.2.2
  | take b t =>
    obtain ⟨k, rfl, M, h1, h2, h3⟩ := hx
    refine ⟨(by decide : (Str.ofString "take").length ≤ 100), (by decide : 2 ≤ 5), fun q hq => ?_⟩
    have hq : q ∈ [Part.s (m.b (k : Int).toNat), .i t] := hq
    simp only [List.mem_cons, List.not_mem_nil, or_false] at hq
    rcases hq with rfl | rfl
    · exact nb _
    · exact to9 h3
  | give b t =>
    obtain ⟨k, rfl, M, h1, h2, h3⟩ := hx
    refine ⟨(by decide : (Str.ofString "give").length ≤ 100), (by decide : 2 ≤ 5), fun q hq => ?_⟩
    have hq : q ∈ [Part.s (m.b (k : Int).toNat), .i t] := hq
    simp only [List.mem_cons, List.not_mem_nil, or_false] at hq
    rcases hq with rfl | rfl
    · exact nb _
    · exact to9 h3
theorem tx3_ok {m : Names} (hm : m.Ok) {p : Plan} (ok : p.Ok 6 8 3) : (tx3Of m p).Ok where
  bl := by show ((List.range p.ws.length).map _).length ≤ 10; rw [List.length_map, List.length_range]; have := ok.ws.2.1; omega
  pl := by show ((p.ps.zipIdx 0).map _).length ≤ 10; rw [List.length_map, List.length_zipIdx]; have := ok.pl.2; omega
  hl := by show ((p.hs.zipIdx 0).map _).length ≤ 10; rw [List.length_map, List.length_zipIdx]; have := ok.hl.2; omega
  b := fun b hb => by
    obtain ⟨k, hk, rfl⟩ := List.mem_map.mp hb
    have hk := List.mem_range.mp hk
    have hk2 : k < p.fs.length := by rw [ok.fl]; exact hk
    have w1 := ok.ws.2.2 _ (List.getElem_mem hk)
    have f1 := ok.fs k _ _ (List.getElem?_eq_getElem hk2) (List.getElem?_eq_getElem hk)
    have e1 : p.ws.getD k 1 = p.ws[k] := by rw [List.getD_eq_getElem?_getD, List.getElem?_eq_getElem hk]; rfl
    have e2 : p.fs.getD k 0 = p.fs[k] := by rw [List.getD_eq_getElem?_getD, List.getElem?_eq_getElem hk2]; rfl
    have := (isName_ok (hm.b k)).2
    refine ⟨by show (m.b k).length ≤ 100; omega, ?_, ?_⟩
    · show (p.ws.getD k 1).natAbs < 10 ^ 9
      rw [e1]; omega
    · show (p.fs.getD k 0).natAbs < 10 ^ 9
      rw [e2]; omega
  p := fun x hx => by
    obtain ⟨z, hz, rfl⟩ := List.mem_map.mp hx
    have hz1 := (List.mem_zipIdx hz).2.2
    have hzm : z.1 ∈ p.ps := by rw [hz1]; exact List.getElem_mem _
    obtain ⟨r1, r2, r3⟩ := ok.ps z.1 hzm
    have := (isName_ok (hm.t z.2)).2
    refine ⟨by show (m.t z.2).length ≤ 100; omega, by show (z.1.map _).length ≤ 20; rw [List.length_map]; omega, fun r hr => ?_⟩
    obtain ⟨x, hx, rfl⟩ := List.mem_map.mp hr
    exact rwTx_ok hm ok (by omega) (r3 x hx)
  h := fun x hx => by
    obtain ⟨z, hz, rfl⟩ := List.mem_map.mp hx
    have h1 := (isName_ok (hm.h z.2)).2
    have h2 := (isName_ok (hm.t z.1.toNat)).2
    exact ⟨by show (m.h z.2).length ≤ 100; omega, by show (m.t z.1.toNat).length ≤ 100; omega⟩
end Fs
set_option maxHeartbeats 4000000
namespace Fs
open PySem PySem.Spec PyProof.Rows L2 Vl
/-! ## digits of any size below 2^64 -/
theorem dig_stepW {num seed s : Int} {k : Nat} {wide : Bool} {ds : List D} (hs : 0 < s) (hs2 : s < 2 ^ 64) (h0 : 0 ≤ num) (h1 : 0 ≤ seed) (h2 : seed < 4294967296) (hk : k < 1000) (hd : ds.length ≤ 1000) :
    ∃ num' seed' d : Int, 0 ≤ num' ∧ 0 ≤ seed' ∧ seed' < 4294967296 ∧ 0 ≤ d ∧ d < s ∧
      W__law_digits_1 [none, none, none, some (.v (.int num)), some (.v (.bool wide)), some (.v (.int seed)), some (.ref 0), some (.v (.int k)), some (.v (.int s))] [.lst ds] =
      some (.nx (S__law_digits_1 (.v (.int num')) (.v (.bool wide)) (.v (.int seed')) (.ref 0)) [.lst (ds ++ [.v (.int d)])]) := by
  have hl : ds.length < sizeLine := lt_line (by omega)
  by_cases hw : wide = true ∧ 0 < num
  · obtain ⟨rfl, hn⟩ := hw
    refine ⟨num / s, seed, num % s, Int.ediv_nonneg h0 (by omega), h1, h2, Int.emod_nonneg _ (by omega), Int.emod_lt_of_pos _ hs, ?_⟩
    have hc : cdiv s = true := by
      exact cdivW hs hs2
    simp [W__law_digits_1, L__law_digits_1, hn, hs, hl, hc]
  · have hp : cpow (seed + 104729 * ((k : Int) + 1)) 2 = true := by
      exact cpowI (by decide) (by decide) (by omega)
    have hm : cmul 104729 ((k : Int) + 1) = true := cmulL (by decide) (by decide)
    refine ⟨num, (seed + 104729 * ((k : Int) + 1)) ^ 2 % 2147483587, (seed + 104729 * ((k : Int) + 1)) ^ 2 % 2147483587 / 16 % s, h0, Int.emod_nonneg _ (by decide), Int.lt_trans (Int.emod_lt_of_pos _ (by decide)) (by decide), Int.emod_nonneg _ (by omega), Int.emod_lt_of_pos _ hs, ?_⟩
    have hd : cdiv 16 = true := cdivI (by decide) (by decide)
    cases wide with
    | false => simp [W__law_digits_1, L__law_digits_1, hm, hp, hd, hl, hs]
    | true =>
      have hn : ¬ 0 < num := fun z => hw ⟨rfl, z⟩
      simp [W__law_digits_1, L__law_digits_1, hn, hm, hp, hd, hl, hs]
theorem dig_loopW {wide : Bool} : ∀ {sizes : List Int} {k : Nat} {num seed : Int} {pre : List Int} {ds : List Int}, (∀ s ∈ sizes, 0 < s ∧ s < 2 ^ 64) → k + sizes.length ≤ 1000 → 0 ≤ num → 0 ≤ seed → seed < 4294967296 → Dig pre ds → ds.length = k →
    ∃ n' s' es, forL none G__law_digits_1 W__law_digits_1 (enumI k ((sizes.map PyData.int).map .v)) (S__law_digits_1 (.v (.int num)) (.v (.bool wide)) (.v (.int seed)) (.ref 0)) [.lst ((ds.map PyData.int).map .v)] =
      some (.nx (S__law_digits_1 n' (.v (.bool wide)) s' (.ref 0)) [.lst ((es.map PyData.int).map .v)]) ∧ Dig (pre ++ sizes) es
  | [], k, num, seed, pre, ds, _, _, _, _, _, hd, _ => ⟨_, _, ds, by rw [List.map_nil, List.map_nil, enumI, forL, if_pos (show gok none _ from trivial)], by rw [List.append_nil]; exact hd⟩
  | s :: r, k, num, seed, pre, ds, hs, hk, h0, h1, h2, hd, hl => by
    rw [List.length_cons] at hk
    obtain ⟨p1, p2⟩ := hs s List.mem_cons_self
    obtain ⟨num', seed', d, q0, q1, q2, q3, q4, e⟩ := dig_stepW (k := k) (wide := wide) (ds := (ds.map PyData.int).map .v) p1 p2 h0 h1 h2 (by omega) (by rw [List.length_map, List.length_map]; omega)
    obtain ⟨n', s', es, e3, e5⟩ := dig_loopW (wide := wide) (sizes := r) (k := k + 1) (num := num') (seed := seed') (pre := pre ++ [s]) (ds := ds ++ [d]) (fun x hx => hs x (List.mem_cons_of_mem _ hx)) (by omega) q0 q1 q2 (Dig.snoc hd q3 q4) (by rw [List.length_append, hl]; rfl)
    refine ⟨n', s', es, ?_, by rw [List.append_assoc] at e5; exact e5⟩
    rw [List.map_cons, List.map_cons, enumI, forL, if_pos (show gok none _ from trivial)]
    rw [List.map_append, List.map_append] at e3
    simp [-List.map_map, e]
    exact e3
theorem dig_callW {cell turn : Int} {sizes : List Int} {h : Hs} (hs : ∀ s ∈ sizes, 0 < s ∧ s < 2 ^ 64) (hl : sizes.length ≤ 1000) (h0 : 0 ≤ turn) (h1 : turn ≤ 1000) :
    ∃ es : List Int, callR F__law_digits [.int cell, .int turn, .list (sizes.map .int)] false h = some (.ok (.v (.list (es.map .int))) h) ∧ Dig sizes es := by
  have hn : 0 ≤ (if cell < 0 then -cell else cell) := by split <;> omega
  generalize hN : (if cell < 0 then -cell else cell) = num at hn
  have hp : cpow 10 18 = true := cpowI (by decide) (by decide) (by decide)
  have hm : cmul 7919 turn = true := cmulL (by decide) (by decide)
  have q1 : 0 ≤ num % 2147483647 := Int.emod_nonneg _ (by decide)
  have q2 : num % 2147483647 < 2147483647 := Int.emod_lt_of_pos _ (by decide)
  obtain ⟨n', s', es, e3, e5⟩ := dig_loopW (wide := decide (1000000000000000000 ≤ num)) (sizes := sizes) (k := 0) (num := num) (seed := num % 2147483647 + 7919 * turn) (pre := []) (ds := []) hs (by omega) hn (by omega) (by omega) trivial rfl
  refine ⟨es, callR_rt (h' := [.lst ((es.map PyData.int).map .v)]) (d := .ref 0) ?_ ?_, e5⟩
  · unfold F__law_digits mkFn B__law_digits
    simp [-List.map_map] at e3
    simp [-List.map_map, hN, hp, hm, e3]
  · show frz _ (11 + 1) (.ref 0) = _
    rw [y_frz1]
    simp only [List.getElem?_cons_zero]
    rw [y_frzs]
    rfl
end Fs
set_option maxHeartbeats 4000000
namespace Fs
open PySem PySem.Spec PyProof.Rows L2 Vl
@[simp] theorem unv_planD (n : Nat) (p : Plan) : unv (planD n p) = none := rfl
@[simp] theorem unv_progTD (n : Nat) (p : Plan) : unv (progTD n p) = none := rfl
@[simp] theorem planD_2 (n : Nat) (p : Plan) (h : Hs) : ixD (planD n p) (.v (.int 2)) h = some (.ref n) := rfl
@[simp] theorem planD_3 (n : Nat) (p : Plan) (h : Hs) : ixD (planD n p) (.v (.int 3)) h = some (.v (.list (p.hs.map .int))) := rfl
@[simp] theorem progTD_1 (n : Nat) (p : Plan) (h : Hs) : ixD (progTD n p) (.v (.int 1)) h = some (.ref (n + 1)) := rfl
section
variable {m : Names} {p : Plan} (hm : m.Ok) (ok : p.Ok 4 5 3)
include hm ok
end
end Fs
set_option maxHeartbeats 4000000
namespace Fs
open PySem PySem.Spec PyProof.Rows L2 Vl
/-! ## the first row put otherwise, in place -/
theorem ixN_0 (n : Nat) : ixN (n + 1) 0 = some 0 := by
  unfold ixN
  simp
theorem mix_ix (xs : List D) (i : Int) (h : Hs) : ixD (.mix xs) (.v (.int i)) h = atI xs i := rfl
section
variable {m : Names} {p : Plan} {mp mr mh : Nat} (ok : p.Ok mp mr mh) (hmr : mr ≤ 100)
include ok hmr
end
end Fs
set_option maxHeartbeats 4000000
namespace Fs
open PySem PySem.Spec PyProof.Rows L2 Vl
def menu07 : List (List Int) := [[2], [3], [4], [5], [6], [2, 2], [2, 3], [3, 2], [2, 4], [4, 2], [2, 2, 2]]
theorem menu07_ok : ∀ ws ∈ menu07, WsOk ws := by
  unfold WsOk
  decide
theorem menu07_call (h : Hs) : callR F__law_menu [] false h = some (.ok (.v (.list (menu07.map fun ws => .tuple (ws.map .int)))) h) := by
  have z : (11 ≤ sizeLine) = True := sz (by omega)
  exact callR_v (h' := []) (by simp [F__law_menu, mkFn, B__law_menu, menu07])
end Fs
set_option maxHeartbeats 4000000
namespace Fs
open PySem PySem.Spec PyProof.Rows L2 Vl
/-! ## words that are read -/
def figD (w : Str) : Option Int := match w.cps.toList with
  | [c] => if 48 ≤ c ∧ c ≤ 57 then some ((c : Int) - 48) else none
  | _ => none
abbrev figs : Str := Str.ofString "0123456789"
theorem one_sign {w : Str} (h : w.length = 1) : ∃ c, w = ⟨#[c]⟩ := by
  obtain ⟨⟨l⟩⟩ := w
  match l, h with
  | [c], _ => exact ⟨c, rfl⟩
theorem figs_mem (c : Nat) : (c ∈ figs.cps.toList) = (48 ≤ c ∧ c ≤ 57) := by
  have : figs.cps.toList = [48, 49, 50, 51, 52, 53, 54, 55, 56, 57] := by decide
  rw [this]
  simp only [List.mem_cons, List.not_mem_nil, or_false]
  exact propext ⟨fun h => by omega, fun h => by omega⟩
theorem is_figure_ok {w : Str} (hw : w.length ≤ 100000) (h : Hs) : callR F_is_figure [.str w] false h = some (.ok (.v (.bool (figD w).isSome)) h) := by
  refine callR_v (h' := []) ?_
  have hz : w.length ≤ sizeLine := ten_line' (by omega)
  by_cases h1 : w.length = 1
  · obtain ⟨c, rfl⟩ := one_sign h1
    have e : (figD ⟨#[c]⟩).isSome = decide (c ∈ figs.cps.toList) := by
      rw [decide_eq_decide.mpr (Iff.of_eq (figs_mem c))]
      show (if 48 ≤ c ∧ c ≤ 57 then some ((c : Int) - 48) else none).isSome = _
      by_cases q : 48 ≤ c ∧ c ≤ 57
      · rw [if_pos q, decide_eq_true q]; rfl
      · rw [if_neg q, decide_eq_false q]; rfl
    rw [e]
    have s1 : (1 ≤ sizeLine) = True := sz (by omega)
    have s2 : (⟨#[c]⟩ : Str).length = 1 := rfl
    simp [F_is_figure, mkFn, B_is_figure, s1, s2, ngt, eqD_int]
  · have e : (figD w).isSome = false := by
      unfold figD
      split
      · rename_i c hc
        exact absurd (by show w.cps.size = 1; rw [← Array.length_toList, hc]; rfl) h1
      · rfl
    have h1' : ¬ (w.length : Int) = 1 := by omega
    rw [e]
    simp [F_is_figure, mkFn, B_is_figure, hz, h1, h1', eqD_int]
theorem int_fig {w : Str} {i : Int} (e : figD w = some i) : intSP (.str w) = some (.int i) := by
  unfold figD at e
  split at e
  · rename_i c hc
    split at e
    · rename_i hq
      have hw : w = ⟨#[c]⟩ := by
        obtain ⟨⟨l⟩⟩ := w
        rw [show l = [c] from hc]
      subst hw
      have key : ∀ c : Nat, 48 ≤ c ∧ c ≤ 57 → PySem.intText? (⟨#[c]⟩ : Str) = some ((c : Int) - 48) := fun c hq => by
        have : c = 48 ∨ c = 49 ∨ c = 50 ∨ c = 51 ∨ c = 52 ∨ c = 53 ∨ c = 54 ∨ c = 55 ∨ c = 56 ∨ c = 57 := by omega
        rcases this with rfl | rfl | rfl | rfl | rfl | rfl | rfl | rfl | rfl | rfl <;> decide +kernel
      unfold intSP
      simp only [key c hq]
      cases e
      rw [if_pos (yes_of (by show 1 ≤ 640; decide))]
    · cases e
  · cases e
/-- what a word writes -/
def partM (w k : Str) : PyData := if k = "n" then (if isName w = true then .str w else .none) else if k = "f" then ((figD w).map PyData.int).getD .none else .none
theorem part_in_ok {w k : Str} (hw : Tx 100000 w) (hk : k = "n" ∨ k = "f") (h : Hs) : callR F_part_in [.str w, .str k] false h = some (.ok (.v (partM w k)) h) := by
  have e1 := fun h => is_name_ok (n := 0) (d := .str w) hw h
  have e2 := fun h => is_figure_ok hw.2 h
  have nf : ("f" : Str) = "n" ↔ False := ⟨fun h => absurd h (by decide), False.elim⟩
  refine callR_v (h' := []) ?_
  rcases hk with rfl | rfl
  · cases q : isName w with
    | true => simp [F_part_in, mkFn, B_part_in, partM, e1, isNm, q]
    | false =>
      have d1 : ("n" : Str) ≠ "f" := by decide
      simp [F_part_in, mkFn, B_part_in, partM, e1, isNm, q, d1]
  · have d1 : ("f" : Str) ≠ "n" := by decide
    cases q : figD w with
    | none => simp [F_part_in, mkFn, B_part_in, partM, e2, q, d1]
    | some i =>
      have := int_fig q
      simp [F_part_in, mkFn, B_part_in, partM, e2, q, d1, this]
end Fs
set_option maxHeartbeats 4000000
namespace Fs
open PySem PySem.Spec PyProof.Rows L2 Vl
def isNone' : PyData → Bool
  | .none => true
  | _ => false
/-- what words write by a form -/
def partsL (ws : List Str) (ks : List Nat) : List PyData := (ws.zip ks).map fun p => partM p.1 ⟨#[p.2]⟩
def partsM (ws : List Str) (f : Str) : Option (List PyData) := if ws.length = f.length then (if (partsL ws f.cps.toList).any isNone' = true then none else some (partsL ws f.cps.toList)) else none
def optT : Option (List PyData) → PyData
  | none => .none
  | some l => .tuple l
def FormOk (f : Str) : Prop := f.length ≤ 10 ∧ ∀ c ∈ f.cps.toList, (⟨#[c]⟩ : Str) = "n" ∨ (⟨#[c]⟩ : Str) = "f"
theorem partM_at (w k : Str) : partM w k = .none ∨ (partM w k = .str w ∧ isName w = true) ∨ ∃ i, partM w k = .int i ∧ 0 ≤ i ∧ i < 10 := by
  unfold partM
  split
  · split
    · rename_i h; exact .inr (.inl ⟨rfl, h⟩)
    · exact .inl rfl
  · split
    · cases e : figD w with
      | none => exact .inl rfl
      | some i =>
        refine .inr (.inr ⟨i, rfl, ?_⟩)
        unfold figD at e
        split at e
        · split at e
          · cases e; omega
          · cases e
        · cases e
    · exact .inl rfl
theorem partM_sh {w k : Str} (hw : okS w) : Sh 1 (partM w k) := by
  rcases partM_at w k with h | ⟨h, _⟩ | ⟨i, h, _⟩
  · rw [h]; exact ⟨rfl, Nat.zero_le _⟩
  · rw [h]; exact sh_str hw
  · rw [h]; exact sh_int i
theorem none_in {l : List PyData} (hl : ∀ x ∈ l, Sh 1 x) : inP false .none (.list l) = some (.bool (l.any isNone')) := by
  have s1 : SeqAt.shaped .none = true := rfl
  have s2 : SeqAt.shaped (.list l) = true := (sh_list (n := 1) hl).shaped
  show (if (SeqAt.shaped .none && SeqAt.shaped (.list l)) = true then some (PyData.bool (ngt false (l.any fun z => PyData.eqv z .none))) else none) = _
  rw [s1, s2]
  simp only [Bool.and_self, if_true]
  have : (fun z => PyData.eqv z PyData.none) = isNone' := by
    funext z
    cases z <;> rfl
  rw [this]
  rfl
theorem zip_w (ws : List Str) (ks : List Nat) : zipI ((ws.map PyData.str).map .v) (ks.map fun c => D.v (.str ⟨#[c]⟩)) = (ws.zip ks).map fun p => D.v (.tuple [.str p.1, .str ⟨#[p.2]⟩]) := by
  induction ws generalizing ks with
  | nil => cases ks <;> rfl
  | cons w ws ih =>
    cases ks with
    | nil => rfl
    | cons k ks =>
      rw [List.map_cons, List.map_cons, List.map_cons, zipI, ih, List.zip_cons_cons, List.map_cons]
      rfl
theorem tup_of (l : List PyData) : tupOfP (.list l) = some (.tuple l) := rfl
theorem parts_in_ok {ws : List Str} {f : Str} (hw : ∀ w ∈ ws, Tx 100000 w) (hl : ws.length ≤ 100000) (hf : FormOk f) (h : Hs) : callR F_parts_in [.list (ws.map .str), .str f] false h = some (.ok (.v (optT (partsM ws f))) h) := by
  refine callR_v (h' := []) ?_
  have zf : f.length ≤ sizeLine := ten_line' (by have := hf.1; omega)
  have zw : ((ws.map PyData.str).map D.v).length ≤ sizeLine := ten_line' (by simp; omega)
  have zw' : (((ws.map PyData.str).map D.v).length ≤ sizeLine) = True := eq_true zw
  have el : ((ws.map PyData.str).length : Int) = (ws.length : Int) := by rw [List.length_map]
  by_cases hq : ws.length = f.length
  · have q : eqD true (.v (.int ((ws.map PyData.str).length : Int))) (.v (.int (f.length : Int))) [] = some (.v (.bool false)) := by
      rw [eqD_int, el, hq]
      simp
    have kz : kZipS [.v (.list (ws.map .str)), .v (.str f)] [] = some ((ws.zip f.cps.toList).map fun p => D.v (.tuple [.str p.1, .str ⟨#[p.2]⟩]), none) := by
      rw [← zip_w]
      show (match some ((ws.map PyData.str).map D.v, (none : Option (Nat × List D))), (if f.length ≤ sizeLine then some (signsD f, (none : Option (Nat × List D))) else none) with
        | some (xs, none), some (ys, g) => if xs.length ≤ sizeLine then some (zipI xs ys, g) else none
        | some (xs, some g), some (ys, none) => if xs.length ≤ sizeLine then some (zipI xs ys, some g) else none
        | _, _ => none) = _
      rw [if_pos zf]
      simp only [zw', if_true]
      rfl
    have cc : compL none (gTp 2 (gsCons (gNm 3) (gsCons (gNm 4) gsNil))) tYes' (eCall F_part_in (eCons (eVar 3) (eCons (eVar 4) eNil))) ((ws.zip f.cps.toList).map fun p => D.v (.tuple [.str p.1, .str ⟨#[p.2]⟩])) [some (.v (.list (ws.map .str))), some (.v (.str f)), none, none, none] [] = some ((partsL ws f.cps.toList).map .v, []) := by
      unfold partsL
      rw [List.map_map]
      refine compMap (ws.zip f.cps.toList) (fun p => D.v (.tuple [.str p.1, .str ⟨#[p.2]⟩])) _ _ _ fun p hp => ⟨_, by simp; rfl, ?_⟩
      obtain ⟨h1, h2⟩ := List.of_mem_zip hp
      have := part_in_ok (hw _ h1) (hf.2 _ h2) []
      simp [this]
    have ni := none_in (l := partsL ws f.cps.toList) fun x hx => by
      obtain ⟨p, hp, rfl⟩ := List.mem_map.mp hx
      exact partM_sh (hw _ (List.of_mem_zip hp).1).1
    have e : optT (partsM ws f) = if (partsL ws f.cps.toList).any isNone' = true then .none else .tuple (partsL ws f.cps.toList) := by
      unfold partsM
      rw [if_pos hq]
      split <;> rfl
    rw [e]
    generalize (ws.zip f.cps.toList).map (fun p => D.v (.tuple [.str p.1, .str ⟨#[p.2]⟩])) = Z at *
    generalize partsL ws f.cps.toList = PL at *
    generalize ws.map PyData.str = W at *
    cases qa : PL.any isNone' with
    | true =>
      rw [qa] at ni
      simp [-List.map_map, -List.length_map, F_parts_in, mkFn, B_parts_in, zf, q, kz, cc, ni]
    | false =>
      rw [qa] at ni
      simp [-List.map_map, -List.length_map, F_parts_in, mkFn, B_parts_in, zf, q, kz, cc, ni, tup_of]
  · have q : eqD true (.v (.int ((ws.map PyData.str).length : Int))) (.v (.int (f.length : Int))) [] = some (.v (.bool true)) := by
      rw [eqD_int, el]
      have : ¬ (ws.length : Int) = (f.length : Int) := by omega
      simp [this]
    have e : optT (partsM ws f) = .none := by
      unfold partsM
      rw [if_neg hq]
      rfl
    rw [e]
    generalize ws.map PyData.str = W at *
    simp [-List.map_map, -List.length_map, F_parts_in, mkFn, B_parts_in, zf, q]
/-! ### places -/
def toM (b : Option Str) (w : Str) : Option PyData := if some w = b then some .none else (figD w).map .int
def tosM (b : Option Str) (ws : List Str) : Option (List PyData) := if ws = [] then none else ws.mapM (toM b)
def optS : Option Str → PyData
  | none => .none
  | some z => .str z
theorem eq_str_opt {neg : Bool} {w : Str} {b : Option Str} {h : Hs} (hw : okS w) : eqD neg (.v (.str w)) (.v (optS b)) h = some (.v (.bool (ngt neg (decide (some w = b))))) := by
  cases b with
  | none =>
    show eqD neg (.v (.str w)) (.v .none) h = _
    rw [eqD_v (sh_str (n := 0) hw).shaped rfl]
    cases neg <;> rfl
  | some z =>
    show eqD neg (.v (.str w)) (.v (.str z)) h = _
    rw [eqD_str]
    have : (w == z) = decide (some w = some z) := by
      by_cases q : w = z
      · subst q; simp
      · simp [q]
    rw [this]
    cases neg <;> rfl
theorem tos_loop {b : Option Str} {W : D} : ∀ (ws : List Str), (∀ w ∈ ws, Tx 100000 w) → ∀ h : Hs,
    forL none G_tos_in_1 W_tos_in_1 ((ws.map PyData.str).map .v) (S_tos_in_1 W (.v (optS b))) h = match ws.mapM (toM b) with
      | none => some (.rt (.v .none) h)
      | some _ => some (.nx (S_tos_in_1 W (.v (optS b))) h)
  | [], _, h => by simp [forL, gok]
  | w :: ws, hw, h => by
    have ih := tos_loop (b := b) (W := W) ws (fun x hx => hw x (List.mem_cons_of_mem _ hx)) h
    have h0 := hw w List.mem_cons_self
    have e1 := eq_str_opt (neg := true) (b := b) (h := h) h0.1
    have e2 := is_figure_ok h0.2 h
    rw [List.map_cons, List.map_cons, List.mapM_cons]
    by_cases q : some w = b
    · have t : toM b w = some .none := if_pos q
      have st : W_tos_in_1 [some W, some (.v (optS b)), some (.v (.str w))] h = some (.nx (S_tos_in_1 W (.v (optS b))) h) := by
        rw [decide_eq_true q] at e1
        generalize optS b = B at *
        simp [W_tos_in_1, L_tos_in_1, e1, ngt]
      simp only [S_tos_in_1] at ih st ⊢
      simp only [forL, gok, if_true, z_gnm, List.set_cons_succ, List.set_cons_zero, st]
      rw [ih, t]
      cases ws.mapM (toM b) <;> rfl
    · have t : toM b w = (figD w).map .int := if_neg q
      rw [decide_eq_false q] at e1
      rw [t]
      cases qf : figD w with
      | none =>
        rw [qf] at e2
        have st : W_tos_in_1 [some W, some (.v (optS b)), some (.v (.str w))] h = some (.rt (.v .none) h) := by
          generalize optS b = B at *
          simp [W_tos_in_1, L_tos_in_1, e1, e2, ngt]
        simp only [S_tos_in_1] at st ⊢
        simp only [forL, gok, if_true, z_gnm, List.set_cons_succ, List.set_cons_zero, st]
        rfl
      | some i =>
        rw [qf] at e2
        have st : W_tos_in_1 [some W, some (.v (optS b)), some (.v (.str w))] h = some (.nx (S_tos_in_1 W (.v (optS b))) h) := by
          generalize optS b = B at *
          simp [W_tos_in_1, L_tos_in_1, e1, e2, ngt]
        simp only [S_tos_in_1] at ih st ⊢
        simp only [forL, gok, if_true, z_gnm, List.set_cons_succ, List.set_cons_zero, st]
        rw [ih]
        cases ws.mapM (toM b) <;> rfl
theorem mapM_get {α β : Type} {f : α → Option β} : ∀ {l : List α} {r : List β}, l.mapM f = some r → (∀ a ∈ l, ∃ b, f a = some b) ∧ r = l.filterMap f
  | [], r, e => by
    have : r = [] := by simpa using e.symm
    exact ⟨fun a h => (by cases h), by rw [this]; rfl⟩
  | a :: l, r, e => by
    rw [List.mapM_cons] at e
    cases qa : f a with
    | none => rw [qa] at e; cases e
    | some b =>
      rw [qa] at e
      cases ql : l.mapM f with
      | none => rw [ql] at e; cases e
      | some t =>
        rw [ql] at e
        obtain ⟨h1, h2⟩ := mapM_get ql
        have e : r = b :: t := by
          have : some (b :: t) = some r := e
          cases this
          rfl
        refine ⟨fun x hx => ?_, by rw [e, List.filterMap_cons, qa, h2]⟩
        rcases List.mem_cons.mp hx with rfl | hx
        · exact ⟨b, qa⟩
        · exact h1 x hx
theorem tos_in_ok {ws : List Str} {b : Option Str} (hw : ∀ w ∈ ws, Tx 100000 w) (hl : ws.length ≤ 100000) (h : Hs) : callR F_tos_in [.list (ws.map .str), optS b] false h = some (.ok (.v (optT (tosM b ws))) h) := by
  refine callR_v (h' := []) ?_
  have q0 := eq_nil (n := 1) (neg := false) (ys := ws.map PyData.str) (by decide) (fun x hx => by
    obtain ⟨w, hw', rfl⟩ := List.mem_map.mp hx
    exact sh_str (hw w hw').1) []
  cases ws with
  | nil =>
    have e : optT (tosM b []) = .none := rfl
    rw [e]
    have q0 : eqD false (.v (.list [])) (.v (.list [])) [] = some (.v (.bool true)) := q0
    generalize optS b = B at *
    simp [F_tos_in, mkFn, B_tos_in, q0]
  | cons w0 ws0 =>
    obtain ⟨ws, hws⟩ : ∃ ws, ws = w0 :: ws0 := ⟨_, rfl⟩
    have ne : ws ≠ [] := by rw [hws]; simp
    have q0 : eqD false (.v (.list (ws.map PyData.str))) (.v (.list [])) [] = some (.v (.bool false)) := by rw [hws]; exact q0
    rw [← hws] at hw hl ⊢
    have lp := tos_loop (b := b) (W := .v (.list (ws.map .str))) ws hw []
    have e : tosM b ws = ws.mapM (toM b) := if_neg ne
    rw [e]
    cases qm : ws.mapM (toM b) with
    | none =>
      rw [qm] at lp
      simp only [S_tos_in_1] at lp
      generalize ws.map PyData.str = W at *
      generalize optS b = B at *
      simp [-List.map_map, F_tos_in, mkFn, B_tos_in, q0, lp, optT]
    | some r =>
      rw [qm] at lp
      simp only [S_tos_in_1] at lp
      obtain ⟨g1, g2⟩ := mapM_get qm
      have cc : compL none (gNm 2) tYes' (eIf (tBl (eEq (eVar 2) (eVar 1))) (eC .none) (eB (b1 intSP) (eCons (eVar 2) eNil))) ((ws.map PyData.str).map .v) [some (.v (.list (ws.map .str))), some (.v (optS b)), none] [] = some (r.map .v, []) := by
        have er : r = ws.map fun w => (toM b w).getD .none := by
          rw [g2]
          clear g2 qm lp hl q0 hws ne e
          induction ws with
          | nil => rfl
          | cons w ws ih =>
            obtain ⟨y, hy⟩ := g1 w List.mem_cons_self
            rw [List.filterMap_cons, hy, List.map_cons, hy]
            simp only [Option.getD_some]
            rw [ih (fun x hx => hw x (List.mem_cons_of_mem _ hx)) fun x hx => g1 x (List.mem_cons_of_mem _ hx)]
        rw [er, List.map_map, List.map_map]
        refine compMap ws (fun w => D.v (.str w)) _ _ _ fun w hw' => ⟨_, rfl, ?_⟩
        obtain ⟨y, hy⟩ := g1 w hw'
        have e1 := eq_str_opt (neg := false) (b := b) (h := []) (hw w hw').1
        rw [hy]
        by_cases q : some w = b
        · rw [decide_eq_true q] at e1
          rw [toM, if_pos q] at hy
          cases hy
          generalize optS b = B at *
          simp [e1, ngt]
        · rw [decide_eq_false q] at e1
          rw [toM, if_neg q] at hy
          cases qf : figD w with
          | none => rw [qf] at hy; cases hy
          | some i =>
            rw [qf] at hy
            cases hy
            have := int_fig qf
            generalize optS b = B at *
            simp [e1, ngt, this]
      generalize ws.map PyData.str = W at *
      generalize optS b = B at *
      simp [-List.map_map, F_tos_in, mkFn, B_tos_in, q0, lp, cc, optT, tup_of]
end Fs
set_option maxHeartbeats 4000000
namespace Fs
open PySem PySem.Spec PyProof.Rows L2 Vl
/-! ## rows that are read -/
abbrev FORMSK : List (Str × Str) := [("box", "nff"), ("proc", "n"), ("put", "nff"), ("swap", "nfff"), ("call", "nf"), ("take", "nf"), ("give", "nf"), ("hand", "nn")]
theorem forms_ok {w f : Str} (h : lookK FORMSK w = some f) : FormOk f := by
  have fm : ∀ f ∈ (["nff", "n", "nfff", "nf", "nn"] : List Str), FormOk f := fun f hf => by
    simp only [List.mem_cons, List.not_mem_nil, or_false] at hf
    rcases hf with rfl | rfl | rfl | rfl | rfl <;> exact ⟨by decide, by decide⟩
  simp only [FORMSK, lookK] at h
  repeat' split at h
  all_goals first
    | (cases h; exact fm _ (by decide))
    | cases h
def askT : Option (List PyData) → List Str → Option (List PyData)
  | some t, n :: _ => if isName n = true then some [.str n, .tuple t] else none
  | _, _ => none
/-- what a row's words write, behind the first -/
def rowT : List Str → Option (List PyData)
  | [] => none
  | w :: ws => if w = "any" then (tosM none ws).map fun t => [.tuple t]
    else if w = "ask" then askT (tosM (some "-") (ws.drop 1)) ws
    else match lookK FORMSK w with
      | none => none
      | some f => partsM ws f
def rowD (w : Str) : Option (List PyData) → PyData
  | none => .none
  | some ps => .tuple (.str w :: ps)
theorem partsM_len {ws : List Str} {f : Str} {ps : List PyData} (e : partsM ws f = some ps) : ps.length = f.length := by
  unfold partsM at e
  split at e
  · rename_i h
    split at e
    · cases e
    · cases e
      unfold partsL
      rw [List.length_map, List.length_zip, h]
      show min f.length f.cps.toList.length = _
      have : f.cps.toList.length = f.length := Array.length_toList
      omega
  · cases e
theorem row_in_ok {w : Str} {ws : List Str} (hw : ∀ x ∈ w :: ws, Tx 100000 x) (hl : ws.length ≤ 90000) (h : Hs) : callR F_row_in [.list ((w :: ws).map .str)] false h = some (.ok (.v (rowD w (rowT (w :: ws)))) h) := by
  refine callR_v (h' := []) ?_
  have hws : ∀ x ∈ ws, Tx 100000 x := fun x hx => hw x (List.mem_cons_of_mem _ hx)
  have c1 : cutP (PyData.str w :: ws.map .str) (some 1) none = ws.map .str := cut_from (PyData.str w :: ws.map .str) 1
  have c2 : cutP (PyData.str w :: ws.map .str) (some 2) none = (ws.drop 1).map .str := by
    rw [List.map_drop]
    exact cut_from (PyData.str w :: ws.map .str) 2
  have e1 := tos_in_ok (b := none) hws (by omega) []
  have e2 := tos_in_ok (b := some "-") (ws := ws.drop 1) (fun x hx => hws x (List.mem_of_mem_drop hx)) (by rw [List.length_drop]; omega) []
  have e1 : callR F_tos_in [.list (ws.map .str), .none] false [] = some (.ok (.v (optT (tosM none ws))) []) := e1
  have e2 : callR F_tos_in [.list ((ws.drop 1).map .str), .str "-"] false [] = some (.ok (.v (optT (tosM (some "-") (ws.drop 1)))) []) := e2
  show F_row_in [.v (.list (.str w :: ws.map .str))] [] = _
  by_cases qa : w = "any"
  · subst qa
    have er : rowT ("any" :: ws) = (tosM none ws).map fun t => [.tuple t] := by rw [rowT, if_pos rfl]
    rw [er]
    cases qt : tosM none ws with
    | none =>
      rw [qt] at e1
      generalize ws.map PyData.str = W at *
      simp [-List.map_map, -List.map_drop, F_row_in, mkFn, B_row_in, c1, e1, optT, isNoneD, ngt, rowD]
    | some t =>
      rw [qt] at e1
      generalize ws.map PyData.str = W at *
      simp [-List.map_map, -List.map_drop, F_row_in, mkFn, B_row_in, c1, e1, optT, isNoneD, ngt, rowD]
  · by_cases qk : w = "ask"
    · subst qk
      have er : rowT ("ask" :: ws) = askT (tosM (some "-") (ws.drop 1)) ws := by rw [rowT, if_neg qa, if_pos rfl]
      rw [er]
      have d1 : ("ask" : Str) ≠ "any" := by decide
      cases qt : tosM (some "-") (ws.drop 1) with
      | none =>
        rw [qt] at e2
        have ea : askT none ws = none := by cases ws <;> rfl
        rw [ea]
        obtain ⟨W2, hW2⟩ : ∃ W, W = (ws.drop 1).map PyData.str := ⟨_, rfl⟩
        obtain ⟨W, hW⟩ : ∃ W, W = ws.map PyData.str := ⟨_, rfl⟩
        rw [← hW2] at c2 e2
        rw [← hW] at c2 ⊢
        simp [-List.map_map, -List.map_drop, F_row_in, mkFn, B_row_in, d1, c2, e2, optT, isNoneD, ngt, rowD]
      | some t =>
        rw [qt] at e2
        cases ws with
        | nil => cases qt
        | cons n ws2 =>
          have e3 := is_name_ok (n := 0) (d := .str n) (hws n List.mem_cons_self) []
          have c2 : cutP (PyData.str "ask" :: PyData.str n :: ws2.map .str) (some 2) none = ws2.map .str := c2
          have e2 : callR F_tos_in [.list (ws2.map .str), .str "-"] false [] = some (.ok (.v (.tuple t)) []) := e2
          show F_row_in [.v (.list (.str "ask" :: .str n :: ws2.map .str))] [] = some (.rt (.v (rowD "ask" (if isName n = true then some [.str n, .tuple t] else none))) [])
          obtain ⟨W2, hW2⟩ : ∃ W, W = ws2.map PyData.str := ⟨_, rfl⟩
          rw [← hW2] at c2 e2 ⊢
          cases qn : isName n with
          | true => simp [-List.map_map, F_row_in, mkFn, B_row_in, d1, c2, e2, e3, isNm, qn, optT, isNoneD, ngt, rowD]
          | false => simp [-List.map_map, F_row_in, mkFn, B_row_in, d1, c2, e2, e3, isNm, qn, optT, isNoneD, ngt, rowD]
    · cases ql : lookK FORMSK w with
      | none =>
        have er : rowT (w :: ws) = none := by rw [rowT, if_neg qa, if_neg qk, ql]
        rw [er]
        generalize ws.map PyData.str = W at *
        simp [-List.map_map, -lookK, F_row_in, mkFn, B_row_in, qa, qk, ql, rowD]
      | some f =>
        have er : rowT (w :: ws) = partsM ws f := by rw [rowT, if_neg qa, if_neg qk, ql]
        rw [er]
        have fo := forms_ok ql
        have e4 := parts_in_ok hws (by omega) fo []
        obtain ⟨W, hW⟩ : ∃ W, W = ws.map PyData.str := ⟨_, rfl⟩
        rw [← hW] at c1 e4 ⊢
        cases qp : partsM ws f with
        | none =>
          rw [qp] at e4
          simp [-List.map_map, F_row_in, mkFn, B_row_in, qa, qk, ql, c1, e4, optT, isNoneD, ngt, rowD]
        | some ps =>
          rw [qp] at e4
          have pl := partsM_len qp
          have z1 : (1 + ps.length ≤ sizeLine) = True := sz (by have := fo.1; omega)
          simp [-List.map_map, F_row_in, mkFn, B_row_in, qa, qk, ql, c1, e4, optT, isNoneD, ngt, rowD, z1]
/-! ## where a row may stand -/
def fitsM (w : Str) (pe he : Bool) : Bool := if w = "box" then pe && he else if w = "hand" then true else if w = "proc" then he else !pe && he
theorem fits_ok {w : Str} {ps hs : List PyData} {n : Nat} (hp : ∀ x ∈ ps, Sh n x) (hh : ∀ x ∈ hs, Sh n x) (hn : n ≤ 60) (h : Hs) : callR F_fits_behind [.str w, .list ps, .list hs] false h = some (.ok (.v (.bool (fitsM w ps.isEmpty hs.isEmpty))) h) := by
  refine callR_v (h' := []) ?_
  have q1 := fun neg => eq_nil (neg := neg) (by omega) hp []
  have q2 := fun neg => eq_nil (neg := neg) (by omega) hh []
  generalize ps.isEmpty = a at *
  generalize hs.isEmpty = b at *
  have n1 : ("hand" : Str) ≠ "box" := by decide
  have n2 : ("proc" : Str) ≠ "box" := by decide
  have n3 : ("proc" : Str) ≠ "hand" := by decide
  by_cases w1 : w = "box"
  · subst w1
    cases a <;> cases b <;> simp [F_fits_behind, mkFn, B_fits_behind, q1, q2, ngt, fitsM, n1, n2, n3]
  · by_cases w2 : w = "hand"
    · subst w2
      simp [F_fits_behind, mkFn, B_fits_behind, q1, q2, ngt, fitsM, n1, n2, n3]
    · by_cases w3 : w = "proc"
      · subst w3
        cases a <;> cases b <;> simp [F_fits_behind, mkFn, B_fits_behind, q1, q2, ngt, fitsM, n1, n2, n3]
      · cases a <;> cases b <;> simp [F_fits_behind, mkFn, B_fits_behind, q1, q2, ngt, fitsM, w1, w2, w3]
end Fs
set_option maxHeartbeats 4000000
namespace Fs
open PySem PySem.Spec PyProof.Rows L2 Vl TL
/-! ## texts parted -/
theorem spl_ne (S : List Nat) : ∀ (l : List Nat) (k : Nat) (acc : List Nat), spl S k acc l ≠ [] := by
  intro l
  induction l with
  | nil => intro k acc; simp [spl]
  | cons c r ih =>
    intro k acc
    cases k with
    | zero =>
      rw [spl]
      split
      · simp
      · exact ih _ _
    | succ k =>
      rw [spl]
      exact ih _ _
theorem join_mem {y : Str} : ∀ {ws : List Str}, (∀ w ∈ ws, w.length ≤ (Str.join y ws).length ∧ ∀ c ∈ w.cps.toList, c ∈ (Str.join y ws).cps.toList) ∧ (1 ≤ y.length → ws.length ≤ (Str.join y ws).length + 1)
  | [] => ⟨fun w h => (by cases h), fun _ => Nat.zero_le _⟩
  | [x] => ⟨fun w h => by
      rw [List.mem_singleton.mp h]
      exact ⟨Nat.le_refl _, fun c h => h⟩, fun _ => by simp⟩
  | x :: z :: r => by
    obtain ⟨i1, i2⟩ := join_mem (y := y) (ws := z :: r)
    have e : Str.join y (x :: z :: r) = x ++ y ++ Str.join y (z :: r) := rfl
    have el : (Str.join y (x :: z :: r)).length = x.length + y.length + (Str.join y (z :: r)).length := by rw [e, strLen_append, strLen_append]
    have ec : (Str.join y (x :: z :: r)).cps.toList = x.cps.toList ++ y.cps.toList ++ (Str.join y (z :: r)).cps.toList := by
      rw [e]
      show (x.cps ++ y.cps ++ (Str.join y (z :: r)).cps).toList = _
      rw [Array.toList_append, Array.toList_append]
    refine ⟨fun w h => ?_, fun hy => ?_⟩
    · rw [el, ec]
      rcases List.mem_cons.mp h with rfl | h
      · exact ⟨by omega, fun c hc => List.mem_append_left _ (List.mem_append_left _ hc)⟩
      · obtain ⟨j1, j2⟩ := i1 w h
        exact ⟨by omega, fun c hc => List.mem_append_right _ (j2 c hc)⟩
    · have := i2 hy
      rw [List.length_cons, el]
      omega
/-- what is got by parting a text -/
theorem split_all {x y : Str} (hy : y.length = 1) (hk : y.cps.all (· < 256) = true) {n : Nat} (hx : Tx n x) : Txt.split x y ≠ [] ∧ (Txt.split x y).length ≤ n + 1 ∧ ∀ w ∈ Txt.split x y, Tx n w := by
  have hj := PySem.StrLaws.join_split x y
  have ne : Txt.split x y ≠ [] := fun e => by
    have h1 : tl y ≠ [] := fun z => by
      have : (tl y).length = y.length := Array.length_toList
      rw [z, hy] at this
      simp at this
    have := split_spl x y h1 (kind_ok hk)
    rw [e] at this
    exact spl_ne _ _ _ _ this.symm
  obtain ⟨j1, j2⟩ := join_mem (y := y) (ws := Txt.split x y)
  rw [hj] at j1 j2
  refine ⟨ne, ?_, fun w hw => ?_⟩
  · have := j2 (by omega)
    have := hx.2
    omega
  · obtain ⟨k1, k2⟩ := j1 w hw
    exact ⟨fun c hc => hx.1 c (k2 c hc), Nat.le_trans k1 hx.2⟩
theorem split_p {x y : Str} (hy : y.length = 1) (hx : x.length ≤ 1000000) : splitP (.str x) [.str y] = some (.list ((Txt.split x y).map .str)) := by
  have c : yes ((y.length == 0) = false ∧ x.length + 2 ≤ sizeLine) = true := yes_of ⟨by rw [hy]; rfl, ten_line' (by omega)⟩
  show (if yes ((y.length == 0) = false ∧ x.length + 2 ≤ sizeLine) = true then some (PyData.list ((PySem.Txt.split x y).map .str)) else none) = _
  rw [if_pos c]
end Fs
set_option maxHeartbeats 4000000
namespace Fs
open PySem PySem.Spec PyProof.Rows L2 Vl
/-! ## a text read, row by row -/
structure RdS where
  bs : List PyData
  ps : List (PyData × List PyData)
  hs : List PyData
def prV (p : PyData × List PyData) : PyData := .tuple [p.1, .list p.2]
def RdS.val (s : RdS) : PyData := .tuple [.list s.bs, .list (s.ps.map prV), .list s.hs]
def prD : Nat → List (PyData × List PyData) → List D
  | _, [] => []
  | n, p :: ps => .mix [.v p.1, .ref n] :: prD (n + 1) ps
def rdH (s : RdS) : Hs := .lst (s.bs.map .v) :: .lst (prD 3 s.ps) :: .lst (s.hs.map .v) :: s.ps.map fun p => .lst (p.2.map .v)
def addRow (x : PyData) (ps : List (PyData × List PyData)) : List (PyData × List PyData) := ps.dropLast ++ (ps.getLast?.map fun p => (p.1, p.2 ++ [x])).toList
def stepRd (s : RdS) (w : Str) (parts : List PyData) : RdS := if w = "box" then { s with bs := s.bs ++ [.tuple parts] } else if w = "hand" then { s with hs := s.hs ++ [.tuple parts] } else if w = "proc" then { s with ps := s.ps ++ [(parts.headD .none, [])] } else { s with ps := addRow (.tuple (.str w :: parts)) s.ps }
def readL : Nat → List (List Str) → RdS → RdS ⊕ Nat
  | _, [], s => .inl s
  | n, ws :: r, s => match rowT ws with
    | none => .inr n
    | some ps => if fitsM (ws.headD "") s.ps.isEmpty s.hs.isEmpty = true then readL (n + 1) r (stepRd s (ws.headD "") ps) else .inr n
theorem prD_len : ∀ (n : Nat) (ps : List (PyData × List PyData)), (prD n ps).length = ps.length
  | _, [] => rfl
  | n, p :: ps => by rw [prD, List.length_cons, List.length_cons, prD_len (n + 1) ps]
theorem prD_app : ∀ (n : Nat) (ps : List (PyData × List PyData)) (p : PyData × List PyData), prD n (ps ++ [p]) = prD n ps ++ [.mix [.v p.1, .ref (n + ps.length)]]
  | n, [], p => rfl
  | n, q :: ps, p => by
    rw [List.cons_append, prD, prD, prD_app (n + 1) ps p, List.length_cons, List.cons_append]
    have : n + 1 + ps.length = n + (ps.length + 1) := by omega
    rw [this]
theorem prD_at : ∀ (n : Nat) (ps : List (PyData × List PyData)) (k : Nat) (p : PyData × List PyData), ps[k]? = some p → (prD n ps)[k]? = some (.mix [.v p.1, .ref (n + k)])
  | n, [], k, p, h => by simp at h
  | n, q :: ps, 0, p, h => by cases h; rfl
  | n, q :: ps, k + 1, p, h => by
    have := prD_at (n + 1) ps k p h
    rw [prD, List.getElem?_cons_succ, this]
    have : n + 1 + k = n + (k + 1) := by omega
    rw [this]
theorem rdH_len (s : RdS) : (rdH s).length = 3 + s.ps.length := by unfold rdH; simp; omega
theorem rdH_row {s : RdS} {k : Nat} {p : PyData × List PyData} (h : s.ps[k]? = some p) : (rdH s)[3 + k]? = some (.lst (p.2.map .v)) := by
  unfold rdH
  rw [show 3 + k = k + 1 + 1 + 1 by omega, List.getElem?_cons_succ, List.getElem?_cons_succ, List.getElem?_cons_succ, List.getElem?_map, h]
  rfl
theorem frz_pr (s : RdS) : frz (rdH s) dep (.ref 1) = some (.list (s.ps.map prV)) := by
  have e : frzs (rdH s) 11 (prD 3 s.ps) = some (s.ps.map prV) := frzs_eq (k := 10) (by rw [prD_len, List.length_map]) fun i x p hx hp => by
    rw [List.getElem?_map] at hp
    cases q : s.ps[i]? with
    | none => rw [q] at hp; cases hp
    | some y =>
      rw [q] at hp
      cases hp
      rw [prD_at 3 _ _ _ q] at hx
      cases hx
      have fd : frz (rdH s) 8 (.ref (3 + i)) = some (.list y.2) := frz_ref0 (n := 6) (rdH_row q)
      show frz (rdH s) (9 + 1) _ = _
      rw [frz_mix, frzs_cons, frz_v, frzs_cons, fd, frzs_nil]
      rfl
  show frz (rdH s) (11 + 1) _ = _
  rw [frz_ref (xs := prD 3 s.ps) rfl, e]
  rfl
theorem frz_hs (s : RdS) : frz (rdH s) dep (.ref 2) = some (.list s.hs) := frz_ref0 (n := 10) rfl
structure RdOk (N : Nat) (s : RdS) : Prop where
  b : s.bs.length ≤ N
  p : s.ps.length ≤ N
  h : s.hs.length ≤ N
  r : ∀ p ∈ s.ps, p.2.length ≤ N
  sb : ∀ x ∈ s.bs, Sh 3 x ∧ Dt 3 x
  sp : ∀ p ∈ s.ps, Sh 3 p.1 ∧ Dt 3 p.1 ∧ ∀ x ∈ p.2, Sh 3 x ∧ Dt 3 x
  sh : ∀ x ∈ s.hs, Sh 3 x ∧ Dt 3 x
def PartsOk (ps : List PyData) : Prop := ps.length ≤ 100 ∧ ∀ x ∈ ps, Sh 2 x ∧ Dt 2 x
theorem Dt.mono' {n : Nat} : ∀ {d : PyData}, Dt n d → Dt (n + 1) d := by
  induction n with
  | zero =>
    intro d h
    cases d with
    | list xs => exact h.elim
    | tuple xs => exact h.elim
    | _ => exact h
  | succ n ih =>
    intro d h
    cases d with
    | list xs => exact ⟨h.1, fun x hx => ih (h.2 x hx)⟩
    | tuple xs => exact ⟨h.1, fun x hx => ih (h.2 x hx)⟩
    | _ => exact h
theorem tosM_ok {b : Option Str} {ws : List Str} {t : List PyData} (e : tosM b ws = some t) : t.length ≤ ws.length ∧ ∀ x ∈ t, Sh 1 x ∧ Dt 1 x := by
  unfold tosM at e
  split at e
  · cases e
  · obtain ⟨h1, rfl⟩ := mapM_get e
    refine ⟨List.length_filterMap_le _ _, fun x hx => ?_⟩
    obtain ⟨w, _, hw⟩ := List.mem_filterMap.mp hx
    unfold toM at hw
    split at hw
    · cases hw
      exact ⟨⟨rfl, Nat.zero_le _⟩, trivial⟩
    · cases qf : figD w with
      | none => rw [qf] at hw; cases hw
      | some i => rw [qf] at hw; cases hw; exact ⟨sh_int i, trivial⟩
theorem rowT_ok {w : Str} {ws : List Str} {ps : List PyData} (hw : ∀ x ∈ w :: ws, Tx 100000 x) (hl : ws.length ≤ 90000) (e : rowT (w :: ws) = some ps) : PartsOk ps := by
  rw [rowT] at e
  split at e
  · cases qt : tosM none ws with
    | none => rw [qt] at e; cases e
    | some t =>
      rw [qt] at e
      cases e
      obtain ⟨t1, t2⟩ := tosM_ok qt
      refine ⟨by simp, fun x hx => ?_⟩
      rw [List.mem_singleton.mp hx]
      exact ⟨sh_tup fun y hy => (t2 y hy).1, by omega, fun y hy => (t2 y hy).2⟩
  · split at e
    · cases qt : tosM (some "-") (ws.drop 1) with
      | none =>
        rw [qt] at e
        cases ws with
        | nil => cases e
        | cons n r => exact absurd e (by simp [askT])
      | some t =>
        rw [qt] at e
        obtain ⟨t1, t2⟩ := tosM_ok qt
        rw [List.length_drop] at t1
        cases ws with
        | nil => cases e
        | cons n r =>
          have ea : askT (some t) (n :: r) = if isName n = true then some [.str n, .tuple t] else none := rfl
          rw [ea] at e
          split at e
          · cases e
            refine ⟨by simp, fun x hx => ?_⟩
            have hn := hw n (List.mem_cons_of_mem _ List.mem_cons_self)
            simp only [List.mem_cons, List.not_mem_nil, or_false] at hx
            rcases hx with rfl | rfl
            · exact ⟨(sh_str (n := 0) hn.1).mono (by decide), hn⟩
            · exact ⟨sh_tup fun y hy => (t2 y hy).1, by simp only [List.length_cons] at t1 hl; omega, fun y hy => (t2 y hy).2⟩
          · cases e
    · split at e
      · cases e
      · rename_i f qf
        have fo := forms_ok qf
        have pl := partsM_len e
        refine ⟨by have := fo.1; omega, fun x hx => ?_⟩
        unfold partsM at e
        split at e
        · split at e
          · cases e
          · cases e
            obtain ⟨p, hp, rfl⟩ := List.mem_map.mp hx
            have h1 := hw _ (List.mem_cons_of_mem _ (List.of_mem_zip hp).1)
            refine ⟨(partM_sh h1.1).mono (by decide), ?_⟩
            rcases partM_at p.1 ⟨#[p.2]⟩ with h | ⟨h, _⟩ | ⟨i, h, _⟩
            · rw [h]; trivial
            · rw [h]; exact h1
            · rw [h]; trivial
        · cases e
end Fs
set_option maxHeartbeats 4000000
namespace Fs
open PySem PySem.Spec PyProof.Rows L2 Vl
theorem app_at {H : Hs} {n : Nat} {xs : List D} {d : D} (g : H[n]? = some (.lst xs)) (z : xs.length < 1000000) : appendD (.ref n) [d] H = some (.v .none, H.set n (.lst (xs ++ [d]))) := by
  have z' : (xs.length < sizeLine) = True := szI (by omega)
  unfold appendD
  simp only [g, z', if_true]
theorem ty_at {H : Hs} {n : Nat} {xs : List D} (g : H[n]? = some (.lst xs)) : tyN (.ref n) H = some "list" := by simp only [tyN, g]
theorem last_split {α : Type} {l : List α} (h : l.isEmpty = false) : ∃ i x, l = i ++ [x] := by
  have hn : l ≠ [] := fun e => by rw [e] at h; cases h
  exact ⟨l.dropLast, l.getLast hn, (List.dropLast_concat_getLast hn).symm⟩
theorem addRow_app (x : PyData) (i : List (PyData × List PyData)) (p : PyData × List PyData) : addRow x (i ++ [p]) = i ++ [(p.1, p.2 ++ [x])] := by
  unfold addRow
  simp
theorem parts_tup {ps : List PyData} (hp : PartsOk ps) : Sh 3 (.tuple ps) ∧ Dt 3 (.tuple ps) := ⟨sh_tup fun x hx => (hp.2 x hx).1, by have := hp.1; omega, fun x hx => (hp.2 x hx).2⟩
theorem parts_row {ps : List PyData} (hp : PartsOk ps) {w : Str} (hw : Tx 100000 w) : Sh 3 (.tuple (.str w :: ps)) ∧ Dt 3 (.tuple (.str w :: ps)) := by
  refine ⟨sh_tup fun x hx => ?_, by have := hp.1; rw [List.length_cons]; omega, fun x hx => ?_⟩
  · rcases List.mem_cons.mp hx with rfl | hx
    · exact (sh_str (n := 0) hw.1).mono (by decide)
    · exact (hp.2 x hx).1
  · rcases List.mem_cons.mp hx with rfl | hx
    · exact hw
    · exact (hp.2 x hx).2
theorem rd_step {N : Nat} {s : RdS} (ok : RdOk N s) {w : Str} {ps : List PyData} (hp : PartsOk ps) (hw : Tx 100000 w) : RdOk (N + 1) (stepRd s w ps) := by
  obtain ⟨b, p, h, r, sb, sp, sh⟩ := ok
  have tp := parts_tup hp
  have tr := parts_row hp hw
  have up : ∀ p ∈ s.ps, p.2.length ≤ N + 1 := fun p hp => Nat.le_succ_of_le (r p hp)
  unfold stepRd
  split
  · exact ⟨by simp; omega, by show s.ps.length ≤ _; omega, by show s.hs.length ≤ _; omega, up, fun x hx => by
      rcases List.mem_append.mp hx with hx | hx
      · exact sb x hx
      · rw [List.mem_singleton.mp hx]; exact tp, sp, sh⟩
  · split
    · exact ⟨by show s.bs.length ≤ _; omega, by show s.ps.length ≤ _; omega, by simp; omega, up, sb, sp, fun x hx => by
        rcases List.mem_append.mp hx with hx | hx
        · exact sh x hx
        · rw [List.mem_singleton.mp hx]; exact tp⟩
    · split
      · refine ⟨by show s.bs.length ≤ _; omega, by simp; omega, by show s.hs.length ≤ _; omega, fun q hq => ?_, sb, fun q hq => ?_, sh⟩
        · rcases List.mem_append.mp hq with hq | hq
          · exact up q hq
          · rw [List.mem_singleton.mp hq]; exact Nat.zero_le _
        · rcases List.mem_append.mp hq with hq | hq
          · exact sp q hq
          · rw [List.mem_singleton.mp hq]
            refine ⟨?_, ?_, fun x hx => (by cases hx)⟩
            · cases ps with
              | nil => exact ⟨rfl, Nat.zero_le _⟩
              | cons x r => exact (hp.2 x List.mem_cons_self).1.mono (by decide)
            · cases ps with
              | nil => trivial
              | cons x r => exact (hp.2 x List.mem_cons_self).2.mono'
      · by_cases e : s.ps.isEmpty = true
        · have e0 : s.ps = [] := List.isEmpty_iff.mp e
          have ea : addRow (.tuple (.str w :: ps)) s.ps = [] := by rw [e0]; rfl
          rw [ea]
          exact ⟨by show s.bs.length ≤ _; omega, Nat.zero_le _, by show s.hs.length ≤ _; omega, fun q hq => (by cases hq), sb, fun q hq => (by cases hq), sh⟩
        · obtain ⟨i, q0, eq⟩ := last_split (Bool.not_eq_true _ ▸ e)
          have ea : addRow (.tuple (.str w :: ps)) s.ps = i ++ [(q0.1, q0.2 ++ [.tuple (.str w :: ps)])] := by rw [eq, addRow_app]
          have hm : q0 ∈ s.ps := by rw [eq]; simp
          have hi : ∀ q ∈ i, q ∈ s.ps := fun q hq => by rw [eq]; exact List.mem_append_left _ hq
          have r0 := r q0 hm
          have s0 := sp q0 hm
          rw [ea]
          refine ⟨by show s.bs.length ≤ _; omega, ?_, by show s.hs.length ≤ _; omega, fun q hq => ?_, sb, fun q hq => ?_, sh⟩
          · show (i ++ [_]).length ≤ _
            rw [eq] at p
            simp at p ⊢
            omega
          · rcases List.mem_append.mp hq with hq | hq
            · exact up q (hi q hq)
            · rw [List.mem_singleton.mp hq]
              simp
              omega
          · rcases List.mem_append.mp hq with hq | hq
            · exact sp q (hi q hq)
            · rw [List.mem_singleton.mp hq]
              refine ⟨s0.1, s0.2.1, fun x hx => ?_⟩
              rcases List.mem_append.mp hx with hx | hx
              · exact s0.2.2 x hx
              · rw [List.mem_singleton.mp hx]; exact tr
theorem frz_fits (s : RdS) (w : Str) : frzs (rdH s) (dep + 1) [.v (.str w), .ref 1, .ref 2] = some [.str w, .list (s.ps.map prV), .list s.hs] := by
  rw [frzs_cons, frz_v, frzs_cons, frz_pr, frzs_cons, frz_hs, frzs_nil]
theorem prV_sh {N : Nat} {s : RdS} (ok : RdOk N s) : ∀ x ∈ s.ps.map prV, Sh 6 x := fun x hx => by
  obtain ⟨p, hp, rfl⟩ := List.mem_map.mp hx
  obtain ⟨h1, _, h3⟩ := ok.sp p hp
  refine sh_tup (n := 5) fun y hy => ?_
  simp only [List.mem_cons, List.not_mem_nil, or_false] at hy
  rcases hy with rfl | rfl
  · exact h1.mono (by decide)
  · exact (sh_list (n := 3) fun z hz => (h3 z hz).1).mono (by decide)
section
variable {N : Nat} {s : RdS} (ok : RdOk N s) (hN : N ≤ 90000) {n : Nat} {l : Str} (hl : Tx 80000 l)
include ok hN hl
theorem turn_no (e : rowT (Txt.split l " ") = none ∨ ∃ ps, rowT (Txt.split l " ") = some ps ∧ fitsM ((Txt.split l " ").headD "") s.ps.isEmpty s.hs.isEmpty = false) :
    ∃ σ, W_read_1 [none, some (.ref 0), some (.ref 1), some (.ref 2), some (.v (.int (n : Int))), some (.v (.str l)), none, none] (rdH s) = some (.ex σ ⟨"NoText", [("row", .v (.int (n : Int)))]⟩ (rdH s)) := by
  obtain ⟨sn, sl, sw⟩ := split_all (x := l) (y := (" " : Str)) (by decide) (by decide +kernel) hl
  have sp := split_p (x := l) (y := (" " : Str)) (by decide) (by have := hl.2; omega)
  generalize Txt.split l " " = W at *
  match W, sn with
  | w :: ws, _ =>
    have sw' : ∀ x ∈ w :: ws, Tx 100000 x := fun x hx => ⟨(sw x hx).1, Nat.le_trans (sw x hx).2 (by decide)⟩
    have r1 := fun h => row_in_ok sw' (by simp only [List.length_cons] at sl; omega) h
    rcases e with e | ⟨ps, e, ef⟩
    · rw [e] at r1
      generalize rdH s = H at *
      generalize (w :: ws).map PyData.str = WL at *
      refine ⟨[none, some (.ref 0), some (.ref 1), some (.ref 2), some (.v (.int (n : Int))), some (.v (.str l)), none, some (.v .none)], ?_⟩

      simp [-List.map_map, W_read_1, L_read_1, sThrow, sp, r1, rowD, isNoneD, ngt]
    · rw [e] at r1
      have f1 := callR_tr (fits_ok (w := w) (prV_sh ok) (fun x hx => ((ok.sh x hx).1.mono (by decide : 3 ≤ 6))) (by decide) (rdH s)) rfl
      have f0 := frz_fits s w
      have el : (s.ps.map prV).isEmpty = s.ps.isEmpty := by cases s.ps <;> rfl
      have ef : fitsM w s.ps.isEmpty s.hs.isEmpty = false := ef
      rw [el, ef] at f1
      generalize rdH s = H at *
      generalize (w :: ws).map PyData.str = WL at *
      generalize s.ps.map prV = PP at *
      refine ⟨[none, some (.ref 0), some (.ref 1), some (.ref 2), some (.v (.int (n : Int))), some (.v (.str l)), none, some (.v (.tuple (.str w :: ps)))], ?_⟩

      simp [-List.map_map, W_read_1, L_read_1, sThrow, sp, r1, rowD, isNoneD, ngt, f0, f1]
theorem turn_yes {ps : List PyData} (e : rowT (Txt.split l " ") = some ps) (ef : fitsM ((Txt.split l " ").headD "") s.ps.isEmpty s.hs.isEmpty = true) :
    RdOk (N + 1) (stepRd s ((Txt.split l " ").headD "") ps) ∧ W_read_1 [none, some (.ref 0), some (.ref 1), some (.ref 2), some (.v (.int (n : Int))), some (.v (.str l)), none, none] (rdH s) = some (.nx (S_read_1 (.ref 0) (.ref 1) (.ref 2)) (rdH (stepRd s ((Txt.split l " ").headD "") ps))) := by
  obtain ⟨sn, sl, sw⟩ := split_all (x := l) (y := (" " : Str)) (by decide) (by decide +kernel) hl
  have sp := split_p (x := l) (y := (" " : Str)) (by decide) (by have := hl.2; omega)
  generalize Txt.split l " " = W at *
  match W, sn with
  | w :: ws, _ =>
    have sw' : ∀ x ∈ w :: ws, Tx 100000 x := fun x hx => ⟨(sw x hx).1, Nat.le_trans (sw x hx).2 (by decide)⟩
    have wl : ws.length ≤ 90000 := by simp only [List.length_cons] at sl; omega
    have po := rowT_ok sw' wl e
    have ef : fitsM w s.ps.isEmpty s.hs.isEmpty = true := ef
    refine ⟨rd_step ok po (sw' w List.mem_cons_self), ?_⟩
    show W_read_1 _ _ = some (.nx _ (rdH (stepRd s w ps)))
    have r1 := fun h => row_in_ok sw' wl h
    rw [e] at r1
    have f1 := callR_tr (fits_ok (w := w) (prV_sh ok) (fun x hx => ((ok.sh x hx).1.mono (by decide : 3 ≤ 6))) (by decide) (rdH s)) rfl
    have f0 := frz_fits s w
    have el : (s.ps.map prV).isEmpty = s.ps.isEmpty := by cases s.ps <;> rfl
    rw [el, ef] at f1
    have c1 : cutP (PyData.str w :: ps) (some 1) none = ps := cut_from (PyData.str w :: ps) 1
    have g0 : (rdH s)[0]? = some (.lst (s.bs.map .v)) := rfl
    have g1 : (rdH s)[1]? = some (.lst (prD 3 s.ps)) := rfl
    have g2 : (rdH s)[2]? = some (.lst (s.hs.map .v)) := rfl
    have b1 := ok.b
    have b2 := ok.p
    have b3 := ok.h
    by_cases w1 : w = "box"
    · subst w1
      have a0 := app_at (d := .v (.tuple ps)) g0 (by rw [List.length_map]; omega)
      have t0 := ty_at g0
      have eh : (rdH s).set 0 (.lst (s.bs.map .v ++ [.v (.tuple ps)])) = rdH (stepRd s "box" ps) := by
        unfold rdH stepRd
        simp
      rw [eh] at a0
      generalize rdH (stepRd s "box" ps) = H2 at *
      generalize rdH s = H at *
      generalize (("box" : Str) :: ws).map PyData.str = WL at *
      generalize s.ps.map prV = PP at *
      simp [-List.map_map, W_read_1, L_read_1, sp, r1, rowD, isNoneD, ngt, f0, f1, c1, a0, t0]
    · by_cases w2 : w = "hand"
      · subst w2
        have a0 := app_at (d := .v (.tuple ps)) g2 (by rw [List.length_map]; omega)
        have t0 := ty_at g2
        have eh : (rdH s).set 2 (.lst (s.hs.map .v ++ [.v (.tuple ps)])) = rdH (stepRd s "hand" ps) := by
          unfold rdH stepRd
          rw [if_neg w1, if_pos rfl]
          simp
        rw [eh] at a0
        generalize rdH (stepRd s "hand" ps) = H2 at *
        generalize rdH s = H at *
        generalize (("hand" : Str) :: ws).map PyData.str = WL at *
        generalize s.ps.map prV = PP at *
        simp [-List.map_map, W_read_1, L_read_1, sp, r1, rowD, isNoneD, ngt, f0, f1, c1, a0, t0, w1]
      · by_cases w3 : w = "proc"
        · subst w3
          have pl : ps.length = 1 := by
            rw [rowT, if_neg (by decide), if_neg (by decide)] at e
            have : lookK FORMSK "proc" = some "n" := by decide
            rw [this] at e
            exact partsM_len e
          obtain ⟨x, rfl⟩ : ∃ x, ps = [x] := by
            match ps, pl with
            | [x], _ => exact ⟨x, rfl⟩
          have g1' : (rdH s ++ [Cell.lst []])[1]? = some (.lst (prD 3 s.ps)) := by
            rw [List.getElem?_append_left (by rw [rdH_len]; omega)]
            exact g1
          have a0 := app_at (d := .mix [.v x, .ref (rdH s).length]) g1' (by rw [prD_len]; omega)
          have t0 := ty_at g1'
          have eh : (rdH s ++ [Cell.lst []]).set 1 (.lst (prD 3 s.ps ++ [.mix [.v x, .ref (rdH s).length]])) = rdH (stepRd s "proc" [x]) := by
            have es : stepRd s "proc" [x] = { s with ps := s.ps ++ [(x, [])] } := by
              unfold stepRd
              rw [if_neg w1, if_neg w2, if_pos rfl]
              rfl
            rw [es, rdH_len]
            unfold rdH
            rw [prD_app]
            simp
          rw [eh] at a0
          generalize rdH (stepRd s "proc" [x]) = H2 at *
          generalize rdH s = H at *
          generalize (("proc" : Str) :: ws).map PyData.str = WL at *
          generalize s.ps.map prV = PP at *
          simp [-List.map_map, W_read_1, L_read_1, sp, r1, rowD, isNoneD, ngt, f0, f1, c1, a0, t0, g1, w1, w2]
        · have pe : s.ps.isEmpty = false := by
            rw [fitsM, if_neg w1, if_neg w2, if_neg w3] at ef
            cases q : s.ps.isEmpty with
            | false => rfl
            | true => rw [q] at ef; cases ef
          obtain ⟨i, p, ep⟩ := last_split pe
          have hm : p ∈ s.ps := by rw [ep]; simp
          have gk : s.ps[i.length]? = some p := by rw [ep, List.getElem?_append_right (Nat.le_refl _), Nat.sub_self]; rfl
          have gr := rdH_row gk
          have la : ixD (.ref 1) (.v (.int (-1))) (rdH s) = some (.mix [.v p.1, .ref (3 + i.length)]) := by
            show (match (rdH s)[1]? with
              | some (.lst xs) => atI xs (-1)
              | _ => none) = _
            rw [g1]
            show atI (prD 3 s.ps) (-1) = _
            rw [ep, prD_app]
            exact at_last _ _
          have a0 := app_at (d := .v (.tuple (.str w :: ps))) gr (by have := ok.r p hm; rw [List.length_map]; omega)
          have t0 := ty_at gr
          have ix1 : ∀ h, ixD (.mix [.v p.1, .ref (3 + i.length)]) (.v (.int 1)) h = some (.ref (3 + i.length)) := fun _ => rfl
          have eh : (rdH s).set (3 + i.length) (.lst (p.2.map .v ++ [.v (.tuple (.str w :: ps))])) = rdH (stepRd s w ps) := by
            have es : stepRd s w ps = { s with ps := i ++ [(p.1, p.2 ++ [.tuple (.str w :: ps)])] } := by
              unfold stepRd
              rw [if_neg w1, if_neg w2, if_neg w3, ep, addRow_app]
            rw [es]
            unfold rdH
            rw [ep, prD_app, prD_app, show 3 + i.length = i.length + 1 + 1 + 1 by omega]
            simp
          rw [eh] at a0
          generalize rdH (stepRd s w ps) = H2 at *
          generalize rdH s = H at *
          generalize (w :: ws).map PyData.str = WL at *
          generalize s.ps.map prV = PP at *
          simp [-List.map_map, W_read_1, L_read_1, sp, r1, rowD, isNoneD, ngt, f0, f1, c1, la, ix1, a0, t0, w1, w2, w3]
end
end Fs
set_option maxHeartbeats 4000000
namespace Fs
open PySem PySem.Spec PyProof.Rows L2 Vl
/-! ## a text read -/
abbrev wordsT (l : Str) : List Str := Txt.split l " "
abbrev linesS (t : Str) : List Str := Txt.split t "\n"
theorem read_loop : ∀ (ls : List Str) (n N : Nat) (s : RdS), RdOk N s → N + ls.length ≤ 90000 → (∀ l ∈ ls, Tx 80000 l) →
    (∀ s', readL n (ls.map wordsT) s = .inl s' → RdOk (N + ls.length) s' ∧ forL none G_read_1 W_read_1 (enumI n ((ls.map PyData.str).map .v)) (S_read_1 (.ref 0) (.ref 1) (.ref 2)) (rdH s) = some (.nx (S_read_1 (.ref 0) (.ref 1) (.ref 2)) (rdH s'))) ∧
    (∀ k, readL n (ls.map wordsT) s = .inr k → ∃ σ h', forL none G_read_1 W_read_1 (enumI n ((ls.map PyData.str).map .v)) (S_read_1 (.ref 0) (.ref 1) (.ref 2)) (rdH s) = some (.ex σ ⟨"NoText", [("row", .v (.int (k : Int)))]⟩ h'))
  | [], n, N, s, ok, hN, hl => ⟨fun s' e => by
      cases e
      exact ⟨ok, by simp [forL, gok, enumI]⟩, fun k e => by cases e⟩
  | l :: ls, n, N, s, ok, hN, hl => by
    rw [List.length_cons] at hN
    have h0 := hl l List.mem_cons_self
    have eE : enumI n (((l :: ls).map PyData.str).map .v) = mkTup [.v (.int (n : Int)), .v (.str l)] :: enumI (n + 1) ((ls.map PyData.str).map .v) := rfl
    have gg : ∀ (h : Hs), G_read_1 (mkTup [.v (.int (n : Int)), .v (.str l)]) (S_read_1 (.ref 0) (.ref 1) (.ref 2)) h = some [none, some (.ref 0), some (.ref 1), some (.ref 2), some (.v (.int (n : Int))), some (.v (.str l)), none, none] := fun h => by simp
    rw [List.map_cons, eE]
    have eR : readL n (wordsT l :: ls.map wordsT) s = match rowT (wordsT l) with
      | none => .inr n
      | some ps => if fitsM ((wordsT l).headD "") s.ps.isEmpty s.hs.isEmpty = true then readL (n + 1) (ls.map wordsT) (stepRd s ((wordsT l).headD "") ps) else .inr n := rfl
    rw [eR]
    have no : (rowT (wordsT l) = none ∨ ∃ ps, rowT (wordsT l) = some ps ∧ fitsM ((wordsT l).headD "") s.ps.isEmpty s.hs.isEmpty = false) → ∃ σ h', forL none G_read_1 W_read_1 (mkTup [.v (.int (n : Int)), .v (.str l)] :: enumI (n + 1) ((ls.map PyData.str).map .v)) (S_read_1 (.ref 0) (.ref 1) (.ref 2)) (rdH s) = some (.ex σ ⟨"NoText", [("row", .v (.int (n : Int)))]⟩ h') := fun e => by
      obtain ⟨σ, st⟩ := turn_no ok (by omega) (n := n) h0 e
      refine ⟨σ, rdH s, ?_⟩
      rw [forL, if_pos (show gok none (rdH s) from trivial)]
      simp only [gg, st]
    cases q : rowT (wordsT l) with
    | none => exact ⟨fun s' e => (by cases e), fun k e => by
        cases e
        exact no (.inl q)⟩
    | some ps =>
      simp only
      cases qf : fitsM ((wordsT l).headD "") s.ps.isEmpty s.hs.isEmpty with
      | false => exact ⟨fun s' e => (by cases e), fun k e => by
          cases e
          exact no (.inr ⟨ps, q, qf⟩)⟩
      | true =>
        obtain ⟨ok2, st⟩ := turn_yes ok (by omega) (n := n) h0 q qf
        obtain ⟨i1, i2⟩ := read_loop ls (n + 1) (N + 1) _ ok2 (by omega) fun x hx => hl x (List.mem_cons_of_mem _ hx)
        simp only [if_true]
        refine ⟨fun s' e => ?_, fun k e => ?_⟩
        · obtain ⟨j1, j2⟩ := i1 s' e
          refine ⟨by rw [List.length_cons, show N + (ls.length + 1) = N + 1 + ls.length by omega]; exact j1, ?_⟩
          rw [forL, if_pos (show gok none (rdH s) from trivial)]
          simp only [gg, st]
          exact j2
        · obtain ⟨σ, h', j⟩ := i2 k e
          refine ⟨σ, h', ?_⟩
          rw [forL, if_pos (show gok none (rdH s) from trivial)]
          simp only [gg, st]
          exact j
theorem frzs_len' {h : Hs} {k : Nat} : ∀ {xs : List D} {ps : List PyData}, frzs h (k + 1) xs = some ps → ps.length = xs.length
  | [], ps, e => by
    have : some ([] : List PyData) = some ps := e
    cases this
    rfl
  | x :: xs, ps, e => by
    rw [frzs_cons] at e
    cases q1 : frz h k x with
    | none => rw [q1] at e; cases e
    | some p =>
      rw [q1] at e
      cases q2 : frzs h (k + 1) xs with
      | none => rw [q2] at e; cases e
      | some r =>
        rw [q2] at e
        cases e
        rw [List.length_cons, List.length_cons, frzs_len' q2]
theorem callR_trx {F : Fn} {ps : List PyData} {h : Hs} {x : Ex} (e : callR F ps false h = some (.ex x h)) (n : ∀ f ∈ x.fs, ∃ p, f.2 = .v p ∧ noL p = true) : callR F ps true h = some (.ex x h) := by
  unfold callR at e ⊢
  cases q : F (ps.map .v) [] with
  | none => rw [q] at e; cases e
  | some r =>
    rw [q] at e
    cases r with
    | rt y h' =>
      simp only at e
      cases q2 : frz h' dep y with
      | none => simp only [q2] at e; cases e
      | some p => simp only [q2, Bool.false_and, Bool.false_eq_true, if_false] at e; cases e
    | ex y h' =>
      simp only at e ⊢
      cases q2 : frzs h' (dep + 1) (y.fs.map (·.2)) with
      | none => simp only [q2] at e; cases e
      | some qs =>
        simp only [q2, Bool.false_and, Bool.false_eq_true, if_false] at e ⊢
        have hl := frzs_len' q2
        rw [List.length_map] at hl
        cases e
        have nl : noLs qs = true := by
          have : ∀ (qs : List PyData) (ns : List Str), qs.length = ns.length → (∀ f ∈ ns.zip (qs.map D.v), ∃ p, f.2 = .v p ∧ noL p = true) → noLs qs = true := by
            intro qs
            induction qs with
            | nil => intro _ _ _; rfl
            | cons a qs ih =>
              intro ns hl H
              cases ns with
              | nil => simp at hl
              | cons m ns =>
                obtain ⟨p, e1, e2⟩ := H (m, .v a) (by simp)
                cases e1
                rw [noLs, e2, ih ns (by simpa using hl) fun f hf => H f (by rw [List.map_cons, List.zip_cons_cons]; exact List.mem_cons_of_mem _ hf)]
                rfl
          exact this qs (y.fs.map (·.1)) (by rw [hl, List.length_map]) n
        rw [nl]
        rfl
theorem due_at {d : PyData} {p : Str} {k r : PyData} (e : due d = some (p, k, r)) : noL k = true ∧ noL r = true := by
  unfold due at e
  repeat' split at e
  all_goals first
    | (cases e; exact ⟨rfl, rfl⟩)
    | cases e
theorem rd0 : RdOk 0 ⟨[], [], []⟩ := ⟨Nat.le_refl _, Nat.le_refl _, Nat.le_refl _, fun p h => (by cases h), fun p h => (by cases h), fun p h => (by cases h), fun p h => (by cases h)⟩
theorem val_dt {N : Nat} {s : RdS} (ok : RdOk N s) (hN : N ≤ 100000) : Dt 7 s.val := by
  have up : ∀ {m n : Nat} {d : PyData}, m ≤ n → Dt m d → Dt n d := fun {m n d} h hd => by
    induction h with
    | refl => exact hd
    | step _ ih => exact ih.mono'
  refine ⟨by simp, fun x hx => ?_⟩
  simp only [List.mem_cons, List.not_mem_nil, or_false] at hx
  rcases hx with rfl | rfl | rfl
  · exact ⟨by have := ok.b; omega, fun y hy => up (by decide) (ok.sb y hy).2⟩
  · refine ⟨by have := ok.p; rw [List.length_map]; omega, fun y hy => ?_⟩
    obtain ⟨p, hp, rfl⟩ := List.mem_map.mp hy
    obtain ⟨_, h2, h3⟩ := ok.sp p hp
    refine ⟨by simp, fun z hz => ?_⟩
    simp only [List.mem_cons, List.not_mem_nil, or_false] at hz
    rcases hz with rfl | rfl
    · exact up (by decide) h2
    · exact ⟨by have := ok.r p hp; omega, fun u hu => (h3 u hu).2⟩
  · exact ⟨by have := ok.h; omega, fun y hy => up (by decide) (ok.sh y hy).2⟩
/-- what reading a text comes to -/
inductive RdR where
  | told (s : RdS)
  | text (n : Nat)
  | prog (p : Str) (k r : PyData)
def readT (t : Str) : RdR := match readL 0 ((linesS t).map wordsT) ⟨[], [], []⟩ with
  | .inr n => .text n
  | .inl s => match due s.val with
    | none => .told s
    | some (p, k, r) => .prog p k r
theorem frz_pr' (s : RdS) (k : Nat) : frz (rdH s) (k + 6) (.ref 1) = some (.list (s.ps.map prV)) := by
  have e : frzs (rdH s) (k + 5) (prD 3 s.ps) = some (s.ps.map prV) := frzs_eq (k := k + 4) (by rw [prD_len, List.length_map]) fun i x p hx hp => by
    rw [List.getElem?_map] at hp
    cases q : s.ps[i]? with
    | none => rw [q] at hp; cases hp
    | some y =>
      rw [q] at hp
      cases hp
      rw [prD_at 3 _ _ _ q] at hx
      cases hx
      have fd : frz (rdH s) (k + 2) (.ref (3 + i)) = some (.list y.2) := frz_ref0 (n := k) (rdH_row q)
      show frz (rdH s) (k + 3 + 1) _ = _
      rw [frz_mix, frzs_cons, frz_v, frzs_cons, fd, frzs_nil]
      rfl
  show frz (rdH s) (k + 5 + 1) _ = _
  rw [frz_ref (xs := prD 3 s.ps) rfl, e]
  rfl
theorem frz_val (s : RdS) : frz (rdH s) dep (.mix [.ref 0, .ref 1, .ref 2]) = some s.val := by
  show frz (rdH s) (11 + 1) _ = _
  have f0 : frz (rdH s) 10 (.ref 0) = some (.list s.bs) := frz_ref0 (n := 8) rfl
  have f2 : frz (rdH s) 10 (.ref 2) = some (.list s.hs) := frz_ref0 (n := 8) rfl
  have f1 := frz_pr' s 4
  rw [frz_mix, frzs_cons, f0, frzs_cons, f1, frzs_cons, f2, frzs_nil]
  rfl
def RawOk (t : Str) : RdR → Prop
  | .told s => F_read [.v (.str t)] [] = some (.rt (.mix [.ref 0, .ref 1, .ref 2]) (rdH s)) ∧ RdOk 80001 s ∧ due s.val = none
  | .text n => ∃ h', F_read [.v (.str t)] [] = some (.ex ⟨"NoText", [("row", .v (.int (n : Int)))]⟩ h')
  | .prog p k r => ∃ h', F_read [.v (.str t)] [] = some (.ex (noProg p k r) h')
theorem read_raw {t : Str} (ht : Tx 80000 t) : RawOk t (readT t) := by
  obtain ⟨sn, sl, sw⟩ := split_all (x := t) (y := ("\n" : Str)) (by decide) (by decide +kernel) ht
  have sp := split_p (x := t) (y := ("\n" : Str)) (by decide) (by have := ht.2; omega)
  obtain ⟨l1, l2⟩ := read_loop (linesS t) 0 0 ⟨[], [], []⟩ rd0 (by show 0 + (Txt.split t "\n").length ≤ 90000; omega) sw
  have zl : ((linesS t).map PyData.str).length ≤ sizeLine := ten_line' (by rw [List.length_map]; show (Txt.split t "\n").length ≤ _; omega)
  have h0 : rdH ⟨[], [], []⟩ = [.lst [], .lst [], .lst []] := rfl
  rw [h0] at l1 l2
  have sp : splitP (.str t) [.str "\n"] = some (.list ((linesS t).map .str)) := sp
  have sl : (linesS t).length ≤ 80001 := sl
  unfold readT
  cases q : readL 0 ((linesS t).map wordsT) ⟨[], [], []⟩ with
  | inr n =>
    obtain ⟨σ, h', lp⟩ := l2 n q
    show RawOk t (.text n)
    refine ⟨h', ?_⟩
    simp only [S_read_1] at lp
    generalize (linesS t).map PyData.str = LT at *
    simp [-List.map_map, F_read, mkFn, B_read, sp, zl, lp]
  | inl s =>
    obtain ⟨ok, lp⟩ := l1 s q
    simp only [S_read_1] at lp
    have ok2 : RdOk 80001 s := ⟨by have := ok.b; omega, by have := ok.p; omega, by have := ok.h; omega, fun p hp => by have := ok.r p hp; omega, ok.sb, ok.sp, ok.sh⟩
    have dt := val_dt ok2 (by decide)
    have fz : frzs (rdH s) (dep + 1) [.mix [.ref 0, .ref 1, .ref 2]] = some [s.val] := by
      rw [frzs_cons, frzs_nil, frz_val]
    have lk := look_at_ok dt (rdH s)
    cases qd : due s.val with
    | none =>
      rw [qd] at lk
      have lk := callR_tr lk rfl
      show RawOk t (match due s.val with
        | none => .told s
        | some (p, k, r) => .prog p k r)
      rw [qd]
      show RawOk t (.told s)
      refine ⟨?_, ok2, qd⟩
      generalize rdH s = H at *
      generalize s.val = V at *
      generalize (linesS t).map PyData.str = LT at *
      simp [-List.map_map, F_read, mkFn, B_read, sp, zl, lp, fz, lk]
    | some pkr =>
      obtain ⟨p, k, r⟩ := pkr
      rw [qd] at lk
      obtain ⟨n1, n2⟩ := due_at qd
      have lk := callR_trx lk fun f hf => by
        simp only [List.mem_cons, List.not_mem_nil, or_false] at hf
        rcases hf with rfl | rfl | rfl
        · exact ⟨_, rfl, n2⟩
        · exact ⟨_, rfl, n1⟩
        · exact ⟨_, rfl, rfl⟩
      show RawOk t (match due s.val with
        | none => .told s
        | some (p, k, r) => .prog p k r)
      rw [qd]
      show RawOk t (.prog p k r)
      refine ⟨rdH s, ?_⟩
      generalize rdH s = H at *
      generalize s.val = V at *
      generalize (linesS t).map PyData.str = LT at *
      simp [-List.map_map, F_read, mkFn, B_read, sp, zl, lp, fz, lk]
end Fs
set_option maxHeartbeats 4000000
namespace Fs
open PySem PySem.Spec PyProof.Rows L2 Vl TL
/-! ## a good text read -/
def Fig (i : Int) : Prop := 0 ≤ i ∧ i ≤ 9
theorem sI_fig {i : Int} (h : Fig i) : figD (sI i) = some i ∧ (sI i).length = 1 ∧ (∀ c ∈ (sI i).cps.toList, 48 ≤ c ∧ c ≤ 57) := by
  have : i = 0 ∨ i = 1 ∨ i = 2 ∨ i = 3 ∨ i = 4 ∨ i = 5 ∨ i = 6 ∨ i = 7 ∨ i = 8 ∨ i = 9 := by have := h.1; have := h.2; omega
  rcases this with rfl | rfl | rfl | rfl | rfl | rfl | rfl | rfl | rfl | rfl <;> decide +kernel
/-- a word without blanks and line ends -/
def Wd1 (w : Str) : Prop := w.length ≤ 8 ∧ ∀ c ∈ w.cps.toList, 33 ≤ c ∧ c ≤ 126
theorem name_wd {z : Str} (h : isName z = true) : Wd1 z := by
  unfold isName at h
  simp only [Bool.and_eq_true, decide_eq_true_eq, List.all_eq_true] at h
  obtain ⟨⟨h1, h2⟩, h3⟩ := h
  refine ⟨h2, fun c hc => ?_⟩
  have := h3 c hc
  have e : abc.cps.toList = [97, 98, 99, 100, 101, 102, 103, 104, 105, 106, 107, 108, 109, 110, 111, 112, 113, 114, 115, 116, 117, 118, 119, 120, 121, 122] := by decide
  rw [e] at this
  simp only [List.mem_cons, List.not_mem_nil, or_false] at this
  omega
theorem fig_wd {i : Int} (h : Fig i) : Wd1 (sI i) := by
  obtain ⟨_, h2, h3⟩ := sI_fig h
  exact ⟨by omega, fun c hc => by have := h3 c hc; omega⟩
theorem wd_dash : Wd1 "-" := by unfold Wd1; decide +kernel
def GPart : Part → Prop
  | .s z => isName z = true
  | .i n => Fig n
  | .t l => l ≠ [] ∧ l.length ≤ 6 ∧ ∀ i, some i ∈ l → Fig i
theorem gpart_wd {p : Part} (h : GPart p) : ∀ w ∈ pW p, Wd1 w := fun w hw => by
  cases p with
  | s z => rw [List.mem_singleton.mp hw]; exact name_wd h
  | i n => rw [List.mem_singleton.mp hw]; exact fig_wd h
  | t l =>
    obtain ⟨o, ho, rfl⟩ := List.mem_map.mp hw
    cases o with
    | none => exact wd_dash
    | some i => exact fig_wd (h.2.2 i ho)
abbrev mkRW (k : Str) (ps : List Part) : RW := (k, ps)
/-- rows as they may stand in a text -/
def GRow (r : RW) : Prop :=
  (∃ b w t, r = (mkRW "put" [.s b, .i w, .i t]) ∧ isName b = true ∧ Fig w ∧ Fig t) ∨
  (∃ b x y t, r = (mkRW "swap" [.s b, .i x, .i y, .i t]) ∧ isName b = true ∧ Fig x ∧ Fig y ∧ Fig t) ∨
  (∃ b ts, r = (mkRW "ask" [.s b, .t ts]) ∧ isName b = true ∧ GPart (.t ts)) ∨
  (∃ ts : List Int, r = (mkRW "any" [.t (ts.map some)]) ∧ GPart (.t (ts.map some))) ∨
  (∃ k b t, r = (mkRW k [.s b, .i t]) ∧ (k = "call" ∨ k = "take" ∨ k = "give") ∧ isName b = true ∧ Fig t)
theorem partM_n {z : Str} (h : isName z = true) : partM z ⟨#[110]⟩ = .str z := by
  have e : (⟨#[110]⟩ : Str) = "n" := by decide
  rw [e, partM, if_pos rfl, if_pos h]
theorem partM_f {i : Int} (h : Fig i) : partM (sI i) ⟨#[102]⟩ = .int i := by
  have e : (⟨#[102]⟩ : Str) = "f" := by decide
  rw [e, partM, if_neg (by decide), if_pos rfl, (sI_fig h).1]
  rfl
theorem mapM_some {α β : Type} {f : α → Option β} {g : α → β} : ∀ {l : List α}, (∀ a ∈ l, f a = some (g a)) → l.mapM f = some (l.map g)
  | [], _ => rfl
  | a :: l, h => by
    rw [List.mapM_cons, h a List.mem_cons_self, mapM_some fun x hx => h x (List.mem_cons_of_mem _ hx)]
    rfl
theorem dash_ne {i : Int} (h : Fig i) : sI i ≠ "-" := fun e => by
  have := (sI_fig h).2.2 45 (by rw [e]; decide)
  omega
theorem tosM_g {l : List (Option Int)} (h : GPart (.t l)) : tosM (some "-") (l.map oW) = some (l.map oint) := by
  obtain ⟨h1, h2, h3⟩ := h
  have ne : l.map oW ≠ [] := fun e => h1 (List.map_eq_nil_iff.mp e)
  rw [tosM, if_neg ne]
  have := mapM_some (f := fun o => toM (some "-") (oW o)) (g := oint) (l := l) fun o ho => by
    cases o with
    | none => exact if_pos rfl
    | some i =>
      have hi := h3 i ho
      show (if some (sI i) = some ("-" : Str) then some PyData.none else (figD (sI i)).map .int) = _
      rw [if_neg fun e => dash_ne hi (Option.some.inj e), (sI_fig hi).1]
      rfl
  rw [← this]
  clear this h3 h2 h1 ne
  induction l with
  | nil => rfl
  | cons a l ih => rw [List.map_cons, List.mapM_cons, List.mapM_cons, ih]
theorem tosM_any {l : List (Option Int)} (h : GPart (.t l)) (hs : ∀ o ∈ l, o ≠ none) : tosM none (l.map oW) = some (l.map oint) := by
  obtain ⟨h1, h2, h3⟩ := h
  have ne : l.map oW ≠ [] := fun e => h1 (List.map_eq_nil_iff.mp e)
  rw [tosM, if_neg ne]
  have := mapM_some (f := fun o => toM none (oW o)) (g := oint) (l := l) fun o ho => by
    cases o with
    | none => exact absurd rfl (hs none ho)
    | some i =>
      have hi := h3 i ho
      show (if some (sI i) = none then some PyData.none else (figD (sI i)).map .int) = _
      rw [if_neg (by simp), (sI_fig hi).1]
      rfl
  rw [← this]
  clear this h3 h2 h1 ne hs
  induction l with
  | nil => rfl
  | cons a l ih => rw [List.map_cons, List.mapM_cons, List.mapM_cons, ih]
theorem row_read {r : RW} (h : GRow r) : rowT (wordsR r) = some (r.2.map partP) := by
  rcases h with ⟨b, w, t, rfl, h1, h2, h3⟩ | ⟨b, x, y, t, rfl, h1, h2, h3, h4⟩ | ⟨b, ts, rfl, h1, h2⟩ | ⟨ts, rfl, h2⟩ | ⟨k, b, t, rfl, hk, h1, h2⟩
  · have e : wordsR (mkRW "put" [.s b, .i w, .i t]) = (["put", b, sI w, sI t] : List Str) := rfl
    have l : lookK FORMSK "put" = some "nff" := by decide
    have pl : partsL [b, sI w, sI t] (Str.ofString "nff").cps.toList = [.str b, .int w, .int t] := by
      show [partM b ⟨#[110]⟩, partM (sI w) ⟨#[102]⟩, partM (sI t) ⟨#[102]⟩] = _
      rw [partM_n h1, partM_f h2, partM_f h3]
    rw [e, rowT, if_neg (by decide), if_neg (by decide), l]
    show partsM [b, sI w, sI t] "nff" = _
    rw [partsM, if_pos (by rfl), pl]
    rfl
  · have e : wordsR (mkRW "swap" [.s b, .i x, .i y, .i t]) = (["swap", b, sI x, sI y, sI t] : List Str) := rfl
    have l : lookK FORMSK "swap" = some "nfff" := by decide
    have pl : partsL [b, sI x, sI y, sI t] (Str.ofString "nfff").cps.toList = [.str b, .int x, .int y, .int t] := by
      show [partM b ⟨#[110]⟩, partM (sI x) ⟨#[102]⟩, partM (sI y) ⟨#[102]⟩, partM (sI t) ⟨#[102]⟩] = _
      rw [partM_n h1, partM_f h2, partM_f h3, partM_f h4]
    rw [e, rowT, if_neg (by decide), if_neg (by decide), l]
    show partsM [b, sI x, sI y, sI t] "nfff" = _
    rw [partsM, if_pos (by rfl), pl]
    rfl
  · have e : wordsR (mkRW "ask" [.s b, .t ts]) = Str.ofString "ask" :: b :: ts.map oW := by simp [wordsR, pW]
    rw [e, rowT, if_neg (by decide), if_pos rfl]
    show askT (tosM (some "-") (ts.map oW)) (b :: ts.map oW) = _
    rw [tosM_g h2]
    show (if isName b = true then some [PyData.str b, PyData.tuple (ts.map oint)] else none) = _
    rw [if_pos h1]
    rfl
  · have e : wordsR (mkRW "any" [.t (ts.map some)]) = Str.ofString "any" :: (ts.map some).map oW := by simp [wordsR, pW]
    rw [e, rowT, if_pos rfl, tosM_any h2 fun o ho => by
      obtain ⟨i, _, rfl⟩ := List.mem_map.mp ho
      simp]
    rfl
  · have e : wordsR (mkRW k [.s b, .i t]) = ([k, b, sI t] : List Str) := rfl
    have pl : partsL [b, sI t] (Str.ofString "nf").cps.toList = [.str b, .int t] := by
      show [partM b ⟨#[110]⟩, partM (sI t) ⟨#[102]⟩] = _
      rw [partM_n h1, partM_f h2]
    have go : partsM [b, sI t] "nf" = some [.str b, .int t] := by
      rw [partsM, if_pos (by rfl), pl]
      rfl
    have l : lookK FORMSK k = some "nf" := by rcases hk with rfl | rfl | rfl <;> decide
    have n1 : k ≠ "any" := by rcases hk with rfl | rfl | rfl <;> decide
    have n2 : k ≠ "ask" := by rcases hk with rfl | rfl | rfl <;> decide
    rw [e, rowT, if_neg n1, if_neg n2, l]
    exact go
theorem grow_wd {r : RW} (h : GRow r) : (wordsR r).length ≤ 8 ∧ (∀ w ∈ wordsR r, Wd1 w) ∧ r.1 ≠ "box" ∧ r.1 ≠ "hand" ∧ r.1 ≠ "proc" := by
  have lit : ∀ w ∈ (["put", "swap", "ask", "any", "call", "take", "give"] : List Str), Wd1 w := by unfold Wd1; decide +kernel
  rcases h with ⟨b, w, t, rfl, h1, h2, h3⟩ | ⟨b, x, y, t, rfl, h1, h2, h3, h4⟩ | ⟨b, ts, rfl, h1, h2⟩ | ⟨ts, rfl, h2⟩ | ⟨k, b, t, rfl, hk, h1, h2⟩
  · refine ⟨by show 4 ≤ 8; omega, fun w hw => ?_, by show ("put" : Str) ≠ _; decide, by show ("put" : Str) ≠ _; decide, by show ("put" : Str) ≠ _; decide⟩
    have hw : w ∈ (["put", b, sI _, sI t] : List Str) := hw
    simp only [List.mem_cons, List.not_mem_nil, or_false] at hw
    rcases hw with rfl | rfl | rfl | rfl
    · exact lit _ (by decide)
    · exact name_wd h1
    · exact fig_wd h2
    · exact fig_wd h3
  · refine ⟨by show 5 ≤ 8; omega, fun w hw => ?_, by show ("swap" : Str) ≠ _; decide, by show ("swap" : Str) ≠ _; decide, by show ("swap" : Str) ≠ _; decide⟩
    have hw : w ∈ (["swap", b, sI x, sI y, sI t] : List Str) := hw
    simp only [List.mem_cons, List.not_mem_nil, or_false] at hw
    rcases hw with rfl | rfl | rfl | rfl | rfl
    · exact lit _ (by decide)
    · exact name_wd h1
    · exact fig_wd h2
    · exact fig_wd h3
    · exact fig_wd h4
  · have e : wordsR (mkRW "ask" [.s b, .t ts]) = Str.ofString "ask" :: b :: ts.map oW := by simp [wordsR, pW]
    rw [e]
    refine ⟨by have := h2.2.1; simp; omega, fun w hw => ?_, by show ("ask" : Str) ≠ _; decide, by show ("ask" : Str) ≠ _; decide, by show ("ask" : Str) ≠ _; decide⟩
    rcases List.mem_cons.mp hw with rfl | hw
    · exact lit _ (by decide)
    · rcases List.mem_cons.mp hw with rfl | hw
      · exact name_wd h1
      · exact gpart_wd h2 w hw
  · have e : wordsR (mkRW "any" [.t (ts.map some)]) = Str.ofString "any" :: (ts.map some).map oW := by simp [wordsR, pW]
    rw [e]
    refine ⟨by have := h2.2.1; simp only [List.length_map] at this; simp; omega, fun w hw => ?_, by show ("any" : Str) ≠ _; decide, by show ("any" : Str) ≠ _; decide, by show ("any" : Str) ≠ _; decide⟩
    rcases List.mem_cons.mp hw with rfl | hw
    · exact lit _ (by decide)
    · exact gpart_wd h2 w hw
  · refine ⟨by show 3 ≤ 8; omega, fun w hw => ?_, by show k ≠ _; rcases hk with rfl | rfl | rfl <;> decide, by show k ≠ _; rcases hk with rfl | rfl | rfl <;> decide, by show k ≠ _; rcases hk with rfl | rfl | rfl <;> decide⟩
    have hw : w ∈ ([k, b, sI t] : List Str) := hw
    simp only [List.mem_cons, List.not_mem_nil, or_false] at hw
    rcases hw with rfl | rfl | rfl
    · exact lit _ (by rcases hk with rfl | rfl | rfl <;> decide)
    · exact name_wd h1
    · exact fig_wd h2
end Fs
set_option maxHeartbeats 4000000
namespace Fs
open PySem PySem.Spec PyProof.Rows L2 Vl TL
structure GTx (t : Tx3) : Prop where
  bl : 1 ≤ t.bs.length ∧ t.bs.length ≤ 10
  pl : t.ps.length ≤ 10
  hl : t.hs.length ≤ 10
  b : ∀ b ∈ t.bs, isName b.1 = true ∧ Fig b.2.1 ∧ Fig b.2.2
  p : ∀ p ∈ t.ps, isName p.1 = true ∧ p.2.length ≤ 20 ∧ ∀ r ∈ p.2, GRow r
  h : ∀ h ∈ t.hs, isName h.1 = true ∧ isName h.2 = true
def wB (b : Str × Int × Int) : List Str := [Str.ofString "box", b.1, sI b.2.1, sI b.2.2]
def wP (p : Str × List RW) : List (List Str) := [Str.ofString "proc", p.1] :: p.2.map wordsR
def wH (h : Str × Str) : List Str := [Str.ofString "hand", h.1, h.2]
def lineW (t : Tx3) : List (List Str) := t.bs.map wB ++ (t.ps.flatMap wP ++ t.hs.map wH)
/-! ### the lines' words -/
theorem join_chars {y : Str} : ∀ {ws : List Str} {c : Nat}, c ∈ (Str.join y ws).cps.toList → (∃ w ∈ ws, c ∈ w.cps.toList) ∨ c ∈ y.cps.toList
  | [], c, h => by
    have : (Str.join y []).cps.toList = [] := rfl
    rw [this] at h
    cases h
  | [x], c, h => .inl ⟨x, List.mem_cons_self, h⟩
  | x :: z :: r, c, h => by
    have ec : (Str.join y (x :: z :: r)).cps.toList = x.cps.toList ++ y.cps.toList ++ (Str.join y (z :: r)).cps.toList := by
      show (x.cps ++ y.cps ++ (Str.join y (z :: r)).cps).toList = _
      rw [Array.toList_append, Array.toList_append]
    rw [ec] at h
    rcases List.mem_append.mp h with h | h
    · rcases List.mem_append.mp h with h | h
      · exact .inl ⟨x, List.mem_cons_self, h⟩
      · exact .inr h
    · rcases join_chars h with ⟨w, hw, h⟩ | h
      · exact .inl ⟨w, List.mem_cons_of_mem _ hw, h⟩
      · exact .inr h
theorem words_of {ws : List Str} (ne : ws ≠ []) (h : ∀ w ∈ ws, Wd1 w) : wordsT (Txt.join " " ws) = ws :=
  split_join (y := (" " : Str)) (s := 32) (S := []) rfl (by decide +kernel) ne fun w hw hc => by
    have := (h w hw).2 32 hc
    omega
theorem line_at {ws : List Str} (hl : ws.length ≤ 10) (h : ∀ w ∈ ws, Wd1 w) : (Txt.join " " ws).length ≤ 90 ∧ ∀ c ∈ (Txt.join " " ws).cps.toList, 32 ≤ c ∧ c ≤ 126 := by
  refine ⟨?_, fun c hc => ?_⟩
  · have := join_len (a := (" " : Str)) (B := 8) (by decide) (ws := ws) fun w hw => (h w hw).1
    omega
  · rw [txt_join] at hc
    rcases join_chars hc with ⟨w, hw, hc⟩ | hc
    · have := (h w hw).2 c hc
      omega
    · have : c ∈ [32] := hc
      rw [List.mem_singleton.mp this]
      omega
theorem lines_of {ls : List Str} (ne : ls ≠ []) (h : ∀ l ∈ ls, ∀ c ∈ l.cps.toList, 32 ≤ c ∧ c ≤ 126) : linesS (Txt.join "\n" ls) = ls :=
  split_join (y := ("\n" : Str)) (s := 10) (S := []) rfl (by decide +kernel) ne fun w hw hc => by
    have := h w hw 10 hc
    omega
section
variable {t : Tx3} (g : GTx t)
include g
theorem lineW_ok : (lineW t).length ≤ 300 ∧ lineW t ≠ [] ∧ ∀ ws ∈ lineW t, ws ≠ [] ∧ ws.length ≤ 10 ∧ ∀ w ∈ ws, Wd1 w := by
  have lit : ∀ w ∈ ([Str.ofString "box", Str.ofString "proc", Str.ofString "hand"] : List Str), Wd1 w := by unfold Wd1; decide +kernel
  have pl : (t.ps.flatMap wP).length ≤ 21 * t.ps.length := by
    have : ∀ ps : List (Str × List RW), (∀ p ∈ ps, p.2.length ≤ 20) → (ps.flatMap wP).length ≤ 21 * ps.length := fun ps hp => by
      induction ps with
      | nil => exact Nat.le_refl _
      | cons p ps ih =>
        have i := ih fun x hx => hp x (List.mem_cons_of_mem _ hx)
        have j := hp p List.mem_cons_self
        rw [List.flatMap_cons, List.length_append, List.length_cons]
        have ll : (wP p).length = p.2.length + 1 := by unfold wP; rw [List.length_cons, List.length_map]
        omega
    exact this t.ps fun p hp => (g.p p hp).2.1
  have b1 := g.bl
  have b2 := g.pl
  have b3 := g.hl
  refine ⟨by unfold lineW; rw [List.length_append, List.length_append, List.length_map, List.length_map]; omega, fun e => ?_, fun ws hws => ?_⟩
  · have := congrArg List.length e
    unfold lineW at this
    rw [List.length_append, List.length_map] at this
    simp only [List.length_nil] at this
    omega
  · unfold lineW at hws
    rcases List.mem_append.mp hws with h | h
    · obtain ⟨b, hb, rfl⟩ := List.mem_map.mp h
      obtain ⟨c1, c2, c3⟩ := g.b b hb
      refine ⟨by simp [wB], by simp [wB], fun w hw => ?_⟩
      have hw : w ∈ ([Str.ofString "box", b.1, sI b.2.1, sI b.2.2] : List Str) := hw
      simp only [List.mem_cons, List.not_mem_nil, or_false] at hw
      rcases hw with rfl | rfl | rfl | rfl
      · exact lit _ (by simp)
      · exact name_wd c1
      · exact fig_wd c2
      · exact fig_wd c3
    · rcases List.mem_append.mp h with h | h
      · obtain ⟨p, hp, h⟩ := List.mem_flatMap.mp h
        obtain ⟨c1, c2, c3⟩ := g.p p hp
        rcases List.mem_cons.mp h with rfl | h
        · refine ⟨by simp, by simp, fun w hw => ?_⟩
          simp only [List.mem_cons, List.not_mem_nil, or_false] at hw
          rcases hw with rfl | rfl
          · exact lit _ (by simp)
          · exact name_wd c1
        · obtain ⟨r, hr, rfl⟩ := List.mem_map.mp h
          obtain ⟨d1, d2, _⟩ := grow_wd (c3 r hr)
          exact ⟨by simp [wordsR], by omega, d2⟩
      · obtain ⟨x, hx, rfl⟩ := List.mem_map.mp h
        obtain ⟨c1, c2⟩ := g.h x hx
        refine ⟨by simp [wH], by simp [wH], fun w hw => ?_⟩
        have hw : w ∈ ([Str.ofString "hand", x.1, x.2] : List Str) := hw
        simp only [List.mem_cons, List.not_mem_nil, or_false] at hw
        rcases hw with rfl | rfl | rfl
        · exact lit _ (by simp)
        · exact name_wd c1
        · exact name_wd c2
omit g in
theorem linesT_eq : linesT t = (lineW t).map (Txt.join " ") := by
  have e1 : ∀ z : Str, ("proc " ++ z : Str) = Txt.join " " [Str.ofString "proc", z] := fun z => by
    rw [txt_join]
    show (Str.ofString "proc " ++ z : Str) = Str.ofString "proc" ++ Str.ofString " " ++ z
    have e : (Str.ofString "proc " : Str) = Str.ofString "proc" ++ Str.ofString " " := by decide
    rw [e]
  have e2 : ∀ h : Str × Str, lnH h = Txt.join " " (wH h) := fun h => by
    unfold lnH wH
    rw [txt_join]
    show (Str.ofString "hand " ++ h.1 ++ Str.ofString " " ++ h.2 : Str) = Str.ofString "hand" ++ Str.ofString " " ++ (h.1 ++ Str.ofString " " ++ h.2)
    have e : (Str.ofString "hand " : Str) = Str.ofString "hand" ++ Str.ofString " " := by decide
    rw [e]
    simp only [app_assoc]
  have e3 : ∀ ps : List (Str × List RW), ps.flatMap lnP = (ps.flatMap wP).map (Txt.join " ") := fun ps => by
    induction ps with
    | nil => rfl
    | cons p ps ih =>
      rw [List.flatMap_cons, List.flatMap_cons, List.map_append, ih]
      congr 1
      unfold lnP wP
      rw [List.map_cons, e1, List.map_map]
      rfl
  unfold linesT lineW
  rw [List.map_append, List.map_append, List.map_map, List.map_map, e3, List.append_assoc]
  congr 1
theorem text_words : (linesS (Txt.join "\n" (linesT t))).map wordsT = lineW t ∧ Tx 80000 (Txt.join "\n" (linesT t)) := by
  obtain ⟨w1, w2, w3⟩ := lineW_ok g
  have hl : ∀ l ∈ linesT t, l.length ≤ 90 ∧ ∀ c ∈ l.cps.toList, 32 ≤ c ∧ c ≤ 126 := fun l hl => by
    rw [linesT_eq] at hl
    obtain ⟨ws, hw, rfl⟩ := List.mem_map.mp hl
    exact line_at (w3 ws hw).2.1 (w3 ws hw).2.2
  have ne : linesT t ≠ [] := by rw [linesT_eq]; exact fun e => w2 (List.map_eq_nil_iff.mp e)
  refine ⟨?_, fun c hc => ?_, ?_⟩
  · rw [lines_of ne fun l h => (hl l h).2, linesT_eq, List.map_map]
    conv => rhs; rw [← List.map_id (lineW t)]
    exact List.map_congr_left fun ws hw => words_of (w3 ws hw).1 (w3 ws hw).2.2
  · rw [txt_join] at hc
    rcases join_chars hc with ⟨l, h, hc⟩ | hc
    · have := (hl l h).2 c hc
      show c < 0x110000
      omega
    · have : c ∈ [10] := hc
      rw [List.mem_singleton.mp this]
      show 10 < 0x110000
      decide
  · have := join_len (a := ("\n" : Str)) (B := 90) (by decide) (ws := linesT t) fun l h => (hl l h).1
    have : (linesT t).length ≤ 300 := by rw [linesT_eq, List.length_map]; exact w1
    omega
end
/-! ### what they come to -/
def Goes (s : RdS) (wss : List (List Str)) (s' : RdS) : Prop := ∀ n rest, readL n (wss ++ rest) s = readL (n + wss.length) rest s'
theorem Goes.nil (s : RdS) : Goes s [] s := fun n rest => rfl
theorem Goes.app {s s1 s2 : RdS} {a b : List (List Str)} (h1 : Goes s a s1) (h2 : Goes s1 b s2) : Goes s (a ++ b) s2 := fun n rest => by
  rw [List.append_assoc, h1, h2, List.length_append, Nat.add_assoc]
theorem Goes.one {s : RdS} {w : Str} {ws : List Str} {ps : List PyData} (e : rowT (w :: ws) = some ps) (f : fitsM w s.ps.isEmpty s.hs.isEmpty = true) : Goes s [w :: ws] (stepRd s w ps) := fun n rest => by
  show (match rowT (w :: ws) with
    | none => Sum.inr n
    | some ps => if fitsM w s.ps.isEmpty s.hs.isEmpty = true then readL (n + 1) rest (stepRd s w ps) else .inr n) = _
  rw [e]
  simp only [f, if_true]
  rfl
theorem partsM2 {a b : Str} (h1 : isName a = true) (h2 : isName b = true) : partsM [a, b] "nn" = some [.str a, .str b] := by
  have pl : partsL [a, b] (Str.ofString "nn").cps.toList = [.str a, .str b] := by
    show [partM a ⟨#[110]⟩, partM b ⟨#[110]⟩] = _
    rw [partM_n h1, partM_n h2]
  rw [partsM, if_pos (by rfl), pl]
  rfl
theorem goes_boxes {t : Tx3} : ∀ (bs : List (Str × Int × Int)) (pre : List PyData), (∀ b ∈ bs, isName b.1 = true ∧ Fig b.2.1 ∧ Fig b.2.2) → Goes ⟨pre, [], []⟩ (bs.map wB) ⟨pre ++ bs.map bxT, [], []⟩
  | [], pre, _ => by
    rw [List.map_nil, List.map_nil, List.append_nil]
    exact Goes.nil _
  | b :: bs, pre, h => by
    obtain ⟨c1, c2, c3⟩ := h b List.mem_cons_self
    have pl : partsL [b.1, sI b.2.1, sI b.2.2] (Str.ofString "nff").cps.toList = [.str b.1, .int b.2.1, .int b.2.2] := by
      show [partM b.1 ⟨#[110]⟩, partM (sI b.2.1) ⟨#[102]⟩, partM (sI b.2.2) ⟨#[102]⟩] = _
      rw [partM_n c1, partM_f c2, partM_f c3]
    have l : lookK FORMSK "box" = some "nff" := by decide
    have er : rowT (Str.ofString "box" :: [b.1, sI b.2.1, sI b.2.2]) = some [.str b.1, .int b.2.1, .int b.2.2] := by
      rw [rowT, if_neg (by decide), if_neg (by decide), l]
      show partsM [b.1, sI b.2.1, sI b.2.2] "nff" = _
      rw [partsM, if_pos (by rfl), pl]
      rfl
    have o := Goes.one (s := ⟨pre, [], []⟩) er rfl
    have ih := goes_boxes (t := t) bs (pre ++ [bxT b]) fun x hx => h x (List.mem_cons_of_mem _ hx)
    have := o.app ih
    rw [List.append_assoc] at this
    exact this
theorem goes_rows {B : List PyData} {P : List (PyData × List PyData)} {nm : PyData} : ∀ (rs : List RW) (pre : List PyData), (∀ r ∈ rs, GRow r) → Goes ⟨B, P ++ [(nm, pre)], []⟩ (rs.map wordsR) ⟨B, P ++ [(nm, pre ++ rs.map rwP)], []⟩
  | [], pre, _ => by
    rw [List.map_nil, List.map_nil, List.append_nil]
    exact Goes.nil _
  | r :: rs, pre, h => by
    have g := h r List.mem_cons_self
    obtain ⟨_, _, n1, n2, n3⟩ := grow_wd g
    have pe : (P ++ [(nm, pre)]).isEmpty = false := by cases P <;> rfl
    have o := Goes.one (s := ⟨B, P ++ [(nm, pre)], []⟩) (w := r.1) (ws := r.2.flatMap pW) (row_read g) (by rw [fitsM, if_neg n1, if_neg n2, if_neg n3, pe]; rfl)
    have es : stepRd ⟨B, P ++ [(nm, pre)], []⟩ r.1 (r.2.map partP) = ⟨B, P ++ [(nm, pre ++ [rwP r])], []⟩ := by
      unfold stepRd
      rw [if_neg n1, if_neg n2, if_neg n3]
      simp only [addRow_app]
      rfl
    rw [es] at o
    have ih := goes_rows (B := B) (P := P) (nm := nm) rs (pre ++ [rwP r]) fun x hx => h x (List.mem_cons_of_mem _ hx)
    have := o.app ih
    rw [List.append_assoc] at this
    exact this
def pvT (p : Str × List RW) : PyData × List PyData := (.str p.1, p.2.map rwP)
theorem goes_procs {B : List PyData} : ∀ (ps : List (Str × List RW)) (pre : List (PyData × List PyData)), (∀ p ∈ ps, isName p.1 = true ∧ p.2.length ≤ 20 ∧ ∀ r ∈ p.2, GRow r) → Goes ⟨B, pre, []⟩ (ps.flatMap wP) ⟨B, pre ++ ps.map pvT, []⟩
  | [], pre, _ => by
    rw [List.flatMap_nil, List.map_nil, List.append_nil]
    exact Goes.nil _
  | p :: ps, pre, h => by
    obtain ⟨c1, c2, c3⟩ := h p List.mem_cons_self
    have l : lookK FORMSK "proc" = some "n" := by decide
    have pl : partsL [p.1] (Str.ofString "n").cps.toList = [.str p.1] := by
      show [partM p.1 ⟨#[110]⟩] = _
      rw [partM_n c1]
    have er : rowT (Str.ofString "proc" :: [p.1]) = some [.str p.1] := by
      rw [rowT, if_neg (by decide), if_neg (by decide), l]
      show partsM [p.1] "n" = _
      rw [partsM, if_pos (by rfl), pl]
      rfl
    have o := Goes.one (s := ⟨B, pre, []⟩) er rfl
    have r := goes_rows (B := B) (P := pre) (nm := .str p.1) p.2 [] c3
    have o : Goes ⟨B, pre, []⟩ [[Str.ofString "proc", p.1]] ⟨B, pre ++ [(.str p.1, [])], []⟩ := o
    have ih := goes_procs (B := B) ps (pre ++ [pvT p]) fun x hx => h x (List.mem_cons_of_mem _ hx)
    have r : Goes ⟨B, pre ++ [(.str p.1, [])], []⟩ (p.2.map wordsR) ⟨B, pre ++ [pvT p], []⟩ := r
    have := (o.app r).app ih
    rw [List.append_assoc pre] at this
    rw [List.flatMap_cons]
    exact this
theorem goes_hands {B : List PyData} {P : List (PyData × List PyData)} : ∀ (hs : List (Str × Str)) (pre : List PyData), (∀ h ∈ hs, isName h.1 = true ∧ isName h.2 = true) → Goes ⟨B, P, pre⟩ (hs.map wH) ⟨B, P, pre ++ hs.map hdT⟩
  | [], pre, _ => by
    rw [List.map_nil, List.map_nil, List.append_nil]
    exact Goes.nil _
  | x :: hs, pre, h => by
    obtain ⟨c1, c2⟩ := h x List.mem_cons_self
    have l : lookK FORMSK "hand" = some "nn" := by decide
    have er : rowT (Str.ofString "hand" :: [x.1, x.2]) = some [.str x.1, .str x.2] := by
      rw [rowT, if_neg (by decide), if_neg (by decide), l]
      exact partsM2 c1 c2
    have o := Goes.one (s := ⟨B, P, pre⟩) er (by rw [fitsM, if_neg (by decide), if_pos rfl])
    have o : Goes ⟨B, P, pre⟩ [wH x] ⟨B, P, pre ++ [hdT x]⟩ := o
    have ih := goes_hands (B := B) (P := P) hs (pre ++ [hdT x]) fun y hy => h y (List.mem_cons_of_mem _ hy)
    have := o.app ih
    rw [List.append_assoc] at this
    exact this
/-- the state that a good text comes to -/
def stT (t : Tx3) : RdS := ⟨t.bs.map bxT, t.ps.map pvT, t.hs.map hdT⟩
theorem stT_val (t : Tx3) : (stT t).val = tx3P t := by
  unfold RdS.val stT tx3P
  rw [List.map_map]
  rfl
theorem read_good {t : Tx3} (g : GTx t) (hd : due (tx3P t) = none) : readT (Txt.join "\n" (linesT t)) = .told (stT t) := by
  obtain ⟨w, _⟩ := text_words g
  have a := (goes_boxes (t := t) t.bs [] g.b).app ((goes_procs (B := t.bs.map bxT) t.ps [] g.p).app (goes_hands (B := t.bs.map bxT) (P := t.ps.map pvT) t.hs [] g.h))
  have e := a 0 []
  unfold readT
  rw [w]
  rw [List.append_nil] at e
  show (match readL 0 (t.bs.map wB ++ (t.ps.flatMap wP ++ t.hs.map wH)) ⟨[], [], []⟩ with
    | .inr n => RdR.text n
    | .inl s => match due s.val with
      | none => .told s
      | some (p, k, r) => .prog p k r) = _
  rw [e]
  show (match due (stT t).val with
      | none => RdR.told (stT t)
      | some (p, k, r) => .prog p k r) = _
  rw [stT_val, hd]
end Fs
set_option maxHeartbeats 4000000
namespace Fs
open PySem PySem.Spec PyProof.Rows L2 Vl
theorem grow_ok {m : Names} (hm : m.Ok) {ws : List Int} (hw : WsOk ws) {e np nh : Int} (he : e ≤ 9) {x : RowI} (hx : RowOk ws np e nh x) : GRow (rwTx (m.row x)) := by
  have to9 : ∀ {t : Int}, ToOk e t → Fig t := fun {t} h => ⟨h.1, by have := h.2; omega⟩
  have wm : ∀ {k : Nat} {M : Int}, ws[k]? = some M → 2 ≤ M ∧ M ≤ 6 := fun h => hw.2.2 _ (List.mem_of_getElem? h)
  cases x with
  | put b w t =>
    obtain ⟨k, rfl, M, h1, h2, h3, h4⟩ := hx
    have := wm h1
    exact .inl ⟨_, _, _, rfl, hm.b _, ⟨h2, by omega⟩, to9 h4⟩
  | swap b y z t =>
    obtain ⟨k, rfl, M, h1, h2, h3, h4, h5, h6⟩ := hx
    have := wm h1
    exact .inr (.inl ⟨_, _, _, _, rfl, hm.b _, ⟨h2, by omega⟩, ⟨h4, by omega⟩, to9 h6⟩)
  | ask b ts =>
    obtain ⟨k, rfl, M, h1, h2, h3⟩ := hx
    have := wm h1
    exact .inr (.inr (.inl ⟨_, _, rfl, hm.b _, fun e => by rw [e] at h2; simp at h2; omega, by omega, fun i hi => to9 (h3 (some i) hi i rfl)⟩))
  | any ts =>
    refine .inr (.inr (.inr (.inl ⟨_, rfl, fun e => ?_, ?_, fun i hi => ?_⟩)))
    · have := List.map_eq_nil_iff.mp e
      have := hx.1
      rw [‹ts = []›] at this
      simp at this
    · rw [List.length_map]; have := hx.2.1; omega
    · obtain ⟨j, hj, e⟩ := List.mem_map.mp hi
      cases e
      exact to9 (hx.2.2 _ hj)
  | call q t => exact .inr (.inr (.inr (.inr ⟨_, _, _, rfl, .inl rfl, hm.t _, to9 hx.2.2⟩)))
  | take b t =>
    obtain ⟨k, rfl, M, h1, h2, h3⟩ := hx
    exact .inr (.inr (.inr (.inr ⟨_, _, _, rfl, .inr (.inl rfl), hm.b _, to9 h3⟩)))
  | give b t =>
    obtain ⟨k, rfl, M, h1, h2, h3⟩ := hx
    exact .inr (.inr (.inr (.inr ⟨_, _, _, rfl, .inr (.inr rfl), hm.b _, to9 h3⟩)))
theorem gtx_ok {m : Names} (hm : m.Ok) {p : Plan} (ok : p.Ok 6 8 3) : GTx (tx3Of m p) where
  bl := by show 1 ≤ ((List.range p.ws.length).map _).length ∧ ((List.range p.ws.length).map _).length ≤ 10; rw [List.length_map, List.length_range]; have := ok.ws.1; have := ok.ws.2.1; omega
  pl := by show ((p.ps.zipIdx 0).map _).length ≤ 10; rw [List.length_map, List.length_zipIdx]; have := ok.pl.2; omega
  hl := by show ((p.hs.zipIdx 0).map _).length ≤ 10; rw [List.length_map, List.length_zipIdx]; have := ok.hl.2; omega
  b := fun b hb => by
    obtain ⟨k, hk, rfl⟩ := List.mem_map.mp hb
    have hk := List.mem_range.mp hk
    have hk2 : k < p.fs.length := by rw [ok.fl]; exact hk
    have w1 := ok.ws.2.2 _ (List.getElem_mem hk)
    have f1 := ok.fs k _ _ (List.getElem?_eq_getElem hk2) (List.getElem?_eq_getElem hk)
    have e1 : p.ws.getD k 1 = p.ws[k] := by rw [List.getD_eq_getElem?_getD, List.getElem?_eq_getElem hk]; rfl
    have e2 : p.fs.getD k 0 = p.fs[k] := by rw [List.getD_eq_getElem?_getD, List.getElem?_eq_getElem hk2]; rfl
    refine ⟨hm.b k, ?_, ?_⟩
    · show Fig (p.ws.getD k 1)
      rw [e1]; exact ⟨by omega, by omega⟩
    · show Fig (p.fs.getD k 0)
      rw [e2]; exact ⟨by omega, by omega⟩
  p := fun x hx => by
    obtain ⟨z, hz, rfl⟩ := List.mem_map.mp hx
    have hz1 := (List.mem_zipIdx hz).2.2
    have hzm : z.1 ∈ p.ps := by rw [hz1]; exact List.getElem_mem _
    obtain ⟨r1, r2, r3⟩ := ok.ps z.1 hzm
    refine ⟨hm.t z.2, by show (z.1.map _).length ≤ 20; rw [List.length_map]; omega, fun r hr => ?_⟩
    obtain ⟨x, hx, rfl⟩ := List.mem_map.mp hr
    exact grow_ok hm ok.ws (by omega) (r3 x hx)
  h := fun x hx => by
    obtain ⟨z, hz, rfl⟩ := List.mem_map.mp hx
    exact ⟨hm.h z.2, hm.t z.1.toNat⟩
/-! ## the law's own comparison -/
noncomputable abbrev Bis (W : SM) (R : EM) : SM := sSeq (sIf (tTru (eIsiT ["str", "list", "tuple"] (eVar 1))) (sSeq (sFor [2, 3, 4] (iP (eCons (eC (.int 3)) eNil) kRng1) (gNm 2) W) (sSeq (sIf (tOr (tTru (eIsi "str" (eVar 1))) (tBl (eNe (eB (lenD) (eCons (eVar 0) (eNil))) (eB (lenD) (eCons (eVar 1) (eNil)))))) (sSeq (sRet (eEq (eVar 0) (eVar 1))) (sNext)) (sNext)) (sSeq (sRet (eEq (eComp (iP (eCons (eB (lenD) (eCons (eVar 1) (eNil))) eNil) kRng1) (gNm 4) (tNot (tTru R)) (eVar 4) [4]) (eLst (eNil)))) (sNext)))) (sNext)) (sSeq (sIf (tBl (eIsN (eVar 1) (eC .none))) (sSeq (sRet (eIsN (eVar 0) (eC .none))) (sNext)) (sNext)) (sSeq (sRet (eAnd (eIsi "int" (eVar 0)) (eAnd (eNot (eIsi "bool" (eVar 0))) (eEq (eVar 0) (eVar 1))))) (sNext)))
def IsA : PyData → Prop
  | .none => True
  | .int _ => True
  | .str z => z.length ≤ 100000
  | _ => False
def IsD : Nat → PyData → Prop
  | _, .none => True
  | _, .int _ => True
  | _, .str z => z.length ≤ 100000
  | n + 1, .list xs => xs.length ≤ 1000 ∧ ∀ x ∈ xs, IsD n x
  | n + 1, .tuple xs => xs.length ≤ 1000 ∧ ∀ x ∈ xs, IsD n x
  | _, _ => False
theorem kb {a b : String} {r : Bool} (h : kitB a b = some r) (d : D) (hh : Hs) (e : tyN d hh = some a) : isiD b d hh = some (.v (.bool r)) := by
  unfold isiD
  rw [e]
  show ((kitB a b).map fun b => D.v (.bool b)) = _
  rw [h]
  rfl
theorem kT {a : String} {r : Bool} (h : isiTs a ["str", "list", "tuple"] = some r) (d : D) (hh : Hs) (e : tyN d hh = some a) : isiTD ["str", "list", "tuple"] d hh = some (.v (.bool r)) := by
  unfold isiTD
  rw [e]
  show ((isiTs a ["str", "list", "tuple"]).map fun b => D.v (.bool b)) = _
  rw [h]
  rfl
theorem is_loop {d : PyData} {b0 b1 b2 : Bool} (h0 : isiD "str" (.v d) [] = some (.v (.bool b0))) (h1 : isiD "list" (.v d) [] = some (.v (.bool b1))) (h2 : isiD "tuple" (.v d) [] = some (.v (.bool b2))) :
    forL none G__law_is_1 W__law_is_1 [.v (.int 0), .v (.int 1), .v (.int 2)] (S__law_is_1 (.v d) (.v d)) [] = some (.nx (S__law_is_1 (.v d) (.v d)) []) := by
  have st : ∀ k : Int, k = 0 ∨ k = 1 ∨ k = 2 → W__law_is_1 [some (.v d), some (.v d), some (.v (.int k)), none, none] [] = some (.nx (S__law_is_1 (.v d) (.v d)) []) := fun k hk => by
    have q : ∀ b : Bool, eqD true (.v (.bool b)) (.v (.bool b)) [] = some (.v (.bool false)) := fun b => by cases b <;> rfl
    rcases hk with rfl | rfl | rfl <;> simp [W__law_is_1, L__law_is_1, h0, h1, h2, q]
  simp only [S__law_is_1] at st ⊢
  simp only [forL, gok, if_true, z_gnm, List.set_cons_succ, List.set_cons_zero, st 0 (.inl rfl), st 1 (.inr (.inl rfl)), st 2 (.inr (.inr rfl))]
  simp
theorem is_rng (h : Hs) : kRng1 [.v (.int 3)] h = some ([.v (.int 0), .v (.int 1), .v (.int 2)], none) := by
  have := rng1 (n := 3) (h := h) (by decide) (by decide)
  exact this
theorem compL_nil9 {g : GM} {t : TM} {f : EM} {s : Sl} {h : Hs} : ∀ {items : List D}, (∀ d ∈ items, ∃ s1, g d s h = some s1 ∧ t s1 h = some (.ok false h)) → compL none g t f items s h = some ([], h)
  | [], _ => by simp [compL, gok]
  | d :: r, H => by
    obtain ⟨s1, e1, e2⟩ := H d List.mem_cons_self
    have ih := compL_nil9 (f := f) (items := r) fun x hx => H x (List.mem_cons_of_mem _ hx)
    simp [compL, gok, e1, e2, ih]
/-- one level of it -/
theorem is_step {R : EM} {d : PyData} (ha : IsA d ∨ (∃ xs : List PyData, (d = .list xs ∨ d = .tuple xs) ∧ xs.length ≤ 1000 ∧ ∀ (k : Nat), k < xs.length → R [some (.v d), some (.v d), none, none, some (.v (.int (k : Int)))] [] = some (.ok (.v (.bool true)) []))) :
    mkFn 5 (Bis W__law_is_1 R) [.v d, .v d] [] = some (.rt (.v (.bool true)) []) := by
  have rg := is_rng []
  have qn : ∀ d : PyData, eqD true (.v d) (.v d) [] = eqD true (.v d) (.v d) [] := fun _ => rfl
  have q0 : eqD false (.v (.list [])) (.v (.list [])) [] = some (.v (.bool true)) := rfl
  rcases ha with ha | ⟨xs, hd, hl, hR⟩
  · cases d with
    | none =>
      have k1 := kT (a := "NoneType") (r := false) (by decide +kernel) (.v .none) [] rfl
      simp [mkFn, Bis, k1, isNoneD, ngt]
    | int i =>
      have k1 := kT (a := "int") (r := false) (by decide +kernel) (.v (.int i)) [] rfl
      have k2 := kb (a := "int") (b := "int") (r := true) (by decide +kernel) (.v (.int i)) [] rfl
      have k3 := kb (a := "int") (b := "bool") (r := false) (by decide +kernel) (.v (.int i)) [] rfl
      have q : eqD false (.v (.int i)) (.v (.int i)) [] = some (.v (.bool true)) := by rw [eqD_int]; simp
      simp [mkFn, Bis, k1, k2, k3, isNoneD, ngt, q]
    | str z =>
      have k1 := kT (a := "str") (r := true) (by decide +kernel) (.v (.str z)) [] rfl
      have k2 := kb (a := "str") (b := "str") (r := true) (by decide +kernel) (.v (.str z)) [] rfl
      have k3 := kb (a := "str") (b := "list") (r := false) (by decide +kernel) (.v (.str z)) [] rfl
      have k4 := kb (a := "str") (b := "tuple") (r := false) (by decide +kernel) (.v (.str z)) [] rfl
      have lp := is_loop k2 k3 k4
      simp only [S__law_is_1] at lp
      simp [mkFn, Bis, k1, k2, rg, lp]
    | _ => exact ha.elim
  · have cc : compL none (gNm 4) (tNot (tTru R)) (eVar 4) ((List.range xs.length).map fun k : Nat => D.v (.int (k : Int))) [some (.v d), some (.v d), none, none, none] [] = some ([], []) := compL_nil9 fun y hy => by
      obtain ⟨k, hk, rfl⟩ := List.mem_map.mp hy
      exact ⟨[some (.v d), some (.v d), none, none, some (.v (.int (k : Int)))], rfl, by
        have := hR k (List.mem_range.mp hk)
        simp [this]⟩
    have rl : kRng1 [.v (.int (xs.length : Int))] [] = some ((List.range xs.length).map fun k : Nat => D.v (.int (k : Int)), none) := by
      have := rng1 (n := (xs.length : Int)) (h := []) (by omega) (by omega)
      rwa [Int.toNat_natCast] at this
    have ql : eqD true (.v (.int (xs.length : Int))) (.v (.int (xs.length : Int))) [] = some (.v (.bool false)) := by rw [eqD_int]; simp
    rcases hd with rfl | rfl
    · have k1 := kT (a := "list") (r := true) (by decide +kernel) (.v (.list xs)) [] rfl
      have k2 := kb (a := "list") (b := "str") (r := false) (by decide +kernel) (.v (.list xs)) [] rfl
      have k3 := kb (a := "list") (b := "list") (r := true) (by decide +kernel) (.v (.list xs)) [] rfl
      have k4 := kb (a := "list") (b := "tuple") (r := false) (by decide +kernel) (.v (.list xs)) [] rfl
      have lp := is_loop k2 k3 k4
      simp only [S__law_is_1] at lp
      simp [mkFn, Bis, k1, k2, rg, lp, ql, rl, cc, q0]
    · have k1 := kT (a := "tuple") (r := true) (by decide +kernel) (.v (.tuple xs)) [] rfl
      have k2 := kb (a := "tuple") (b := "str") (r := false) (by decide +kernel) (.v (.tuple xs)) [] rfl
      have k3 := kb (a := "tuple") (b := "list") (r := false) (by decide +kernel) (.v (.tuple xs)) [] rfl
      have k4 := kb (a := "tuple") (b := "tuple") (r := true) (by decide +kernel) (.v (.tuple xs)) [] rfl
      have lp := is_loop k2 k3 k4
      simp only [S__law_is_1] at lp
      simp [mkFn, Bis, k1, k2, rg, lp, ql, rl, cc, q0]
theorem isd_cases {n : Nat} {d : PyData} (h : IsD n d) : IsA d ∨ ∃ (m : Nat) (xs : List PyData), n = m + 1 ∧ (d = .list xs ∨ d = .tuple xs) ∧ xs.length ≤ 1000 ∧ ∀ x ∈ xs, IsD m x := by
  cases d with
  | none => exact .inl trivial
  | int i => exact .inl trivial
  | str z => exact .inl (by cases n <;> exact h)
  | list xs =>
    cases n with
    | zero => exact h.elim
    | succ n => exact .inr ⟨n, xs, rfl, .inl rfl, h.1, h.2⟩
  | tuple xs =>
    cases n with
    | zero => exact h.elim
    | succ n => exact .inr ⟨n, xs, rfl, .inr rfl, h.1, h.2⟩
  | bool b => cases n <;> exact h.elim
  | dict ks => cases n <;> exact h.elim
theorem is_up {F G : Fn} {n : Nat} (hF : ∀ d, IsD n d → F [.v d, .v d] [] = some (.rt (.v (.bool true)) [])) (hG : G = mkFn 5 (Bis W__law_is_1 (eCall F (eCons (eIx (eVar 0) (eVar 4)) (eCons (eIx (eVar 1) (eVar 4)) (eNil)))))) : ∀ d, IsD (n + 1) d → G [.v d, .v d] [] = some (.rt (.v (.bool true)) []) := fun d h => by
  rw [hG]
  refine is_step ?_
  rcases isd_cases h with h | ⟨m, xs, e, hd, hl, hx⟩
  · exact .inl h
  · cases e
    refine .inr ⟨xs, hd, hl, fun k hk => ?_⟩
    have a := atI_nat (List.getElem?_eq_getElem hk)
    have c : callR F [xs[k], xs[k]] false [] = some (.ok (.v (.bool true)) []) := callR_v (hF _ (hx _ (List.getElem_mem hk)))
    rcases hd with rfl | rfl
    · simp [a, c]
    · simp [a, c]
theorem law_is_ok {d : PyData} (h : IsD 6 d) (hh : Hs) : callR F__law_is [d, d] false hh = some (.ok (.v (.bool true)) hh) := by
  have r0 : ∀ d, IsD 0 d → F__law_is__r0 [.v d, .v d] [] = some (.rt (.v (.bool true)) []) := fun d h => by
    have e : F__law_is__r0 = mkFn 5 (Bis W__law_is_1 eNever) := rfl
    rw [e]
    refine is_step ?_
    rcases isd_cases h with h | ⟨m, xs, e, _⟩
    · exact .inl h
    · cases e
  have r1 := is_up (G := F__law_is__r1) r0 rfl
  have r2 := is_up (G := F__law_is__r2) r1 rfl
  have r3 := is_up (G := F__law_is__r3) r2 rfl
  have r4 := is_up (G := F__law_is__r4) r3 rfl
  have r5 := is_up (G := F__law_is__r5) r4 rfl
  have r6 := is_up (G := F__law_is) r5 rfl
  exact callR_v (r6 d h)
end Fs
set_option maxHeartbeats 4000000
namespace Fs
open PySem PySem.Spec PyProof.Rows L2 Vl
theorem menu07_prod : ∀ ws ∈ menu07, prodI ws ≤ 8 := by decide
theorem program_at_ok (ns : List Int) (k : Nat) (hk : k ≤ 1000) : ∃ (p : Plan) (m : Names), m.Ok ∧ p.Ok 6 8 3 ∧ prodI p.ws ≤ 8 ∧ ∀ h, callR F__law_program_at [.list (ns.map .int), .int (k : Int)] false h = some (.ok (.v (progP m p)) h) := by
  obtain ⟨p, ok, hpm, e1⟩ := plan_ok (ns := cutP ns (some (k : Int)) (some ((k : Int) + 7))) (menu := menu07) (mp := 6) (mr := 8) (mh := 3) menu07_ok (by decide) (by decide) (by decide) (by decide) []
  obtain ⟨c, e2⟩ := cell_ok ns k (by omega) []
  obtain ⟨es, e3, hd⟩ := dig_callW (cell := c) (turn := 11) (sizes := [1099511627776]) (h := []) (by decide) (by decide) (by decide) (by decide)
  obtain ⟨d, rfl, h0⟩ : ∃ d, es = [d] ∧ 0 ≤ d := by
    match es, hd with
    | [d], h => exact ⟨d, rfl, h.1.1⟩
  have e4 := program_ok ok (by decide) (by decide) (by decide) h0 []
  have e5 := menu07_call []
  have ec : cutP (ns.map PyData.int) (some (k : Int)) (some ((k : Int) + 7)) = (cutP ns (some (k : Int)) (some ((k : Int) + 7))).map .int := by rw [cutP_map]
  have pw : powP (.int 2) (.int 40) = some (.int 1099511627776) := by
    rw [y_pow, if_pos (cpowI (by decide) (by decide) (by decide))]
    rfl
  have e1 : callR F__law_plan [.list ((cutP ns (some (k : Int)) (some ((k : Int) + 7))).map .int), .int 6, .int 8, .int 3, .list (menu07.map fun ws => .tuple (ws.map .int))] false [] = some (.ok (.v (planP p)) []) := e1
  have e3 : callR F__law_digits [.int c, .int 11, .list [.int 1099511627776]] false [] = some (.ok (.v (.list [.int d])) []) := e3
  refine ⟨p, Names.of d, Names.of_ok d, ok, menu07_prod _ hpm, fun h => callR_v (h' := []) ?_⟩
  generalize (cutP ns (some (k : Int)) (some ((k : Int) + 7))).map PyData.int = C at *
  generalize menu07.map (fun ws => PyData.tuple (ws.map .int)) = M at *
  generalize planP p = P at *
  generalize progP (Names.of d) p = T at *
  simp [-List.map_map, -y_pow, F__law_program_at, mkFn, B__law_program_at, ec, e1, e2, e3, e4, e5, pw]
/-! ## a program is such as the law compares -/
theorem isd_row {r : RW} (h : GRow r) : IsD 2 (rwP r) := by
  have nm : ∀ {z : Str}, isName z = true → z.length ≤ 100000 := fun h => by have := (isName_ok h).2; omega
  have lit : ∀ z ∈ ([Str.ofString "put", Str.ofString "swap", Str.ofString "ask", Str.ofString "any", Str.ofString "call", Str.ofString "take", Str.ofString "give"] : List Str), z.length ≤ 100000 := by decide
  have tos : ∀ {l : List (Option Int)}, GPart (.t l) → IsD 1 (.tuple (l.map oint)) := fun {l} h => ⟨by rw [List.length_map]; have := h.2.1; omega, fun x hx => by
    obtain ⟨o, _, rfl⟩ := List.mem_map.mp hx
    cases o <;> trivial⟩
  have fin : ∀ {w : Str} {ps : List Part}, w.length ≤ 100000 → ps.length ≤ 10 → (∀ p ∈ ps, IsD 1 (partP p)) → IsD 2 (rwP (w, ps)) := fun {w ps} h1 h2 h3 => ⟨by show (PyData.str w :: ps.map partP).length ≤ 1000; simp; omega, fun x hx => by
    rcases List.mem_cons.mp hx with rfl | hx
    · exact h1
    · obtain ⟨p, hp, rfl⟩ := List.mem_map.mp hx
      exact h3 p hp⟩
  rcases h with ⟨b, w, t, rfl, h1, h2, h3⟩ | ⟨b, x, y, t, rfl, h1, h2, h3, h4⟩ | ⟨b, ts, rfl, h1, h2⟩ | ⟨ts, rfl, h2⟩ | ⟨k, b, t, rfl, hk, h1, h2⟩
  · refine fin (lit _ (by simp)) (by simp) fun p hp => ?_
    simp only [List.mem_cons, List.not_mem_nil, or_false] at hp
    rcases hp with rfl | rfl | rfl
    · exact nm h1
    · trivial
    · trivial
  · refine fin (lit _ (by simp)) (by simp) fun p hp => ?_
    simp only [List.mem_cons, List.not_mem_nil, or_false] at hp
    rcases hp with rfl | rfl | rfl | rfl
    · exact nm h1
    · trivial
    · trivial
    · trivial
  · refine fin (lit _ (by simp)) (by simp) fun p hp => ?_
    simp only [List.mem_cons, List.not_mem_nil, or_false] at hp
    rcases hp with rfl | rfl
    · exact nm h1
    · exact tos h2
  · refine fin (lit _ (by simp)) (by simp) fun p hp => ?_
    rw [List.mem_singleton.mp hp]
    exact tos h2
  · refine fin (lit _ (by rcases hk with rfl | rfl | rfl <;> simp)) (by simp) fun p hp => ?_
    simp only [List.mem_cons, List.not_mem_nil, or_false] at hp
    rcases hp with rfl | rfl
    · exact nm h1
    · trivial
theorem isd_procs {ps : List (Str × List RW)} (hl : ps.length ≤ 1000) (h : ∀ p ∈ ps, isName p.1 = true ∧ p.2.length ≤ 20 ∧ ∀ r ∈ p.2, GRow r) : IsD 5 (.list (ps.map prT)) := by
  have nm : ∀ {z : Str}, isName z = true → z.length ≤ 100000 := fun h => by have := (isName_ok h).2; omega
  refine ⟨by rw [List.length_map]; exact hl, fun x hx => ?_⟩
  obtain ⟨p, hp, rfl⟩ := List.mem_map.mp hx
  obtain ⟨c1, c2, c3⟩ := h p hp
  refine ⟨by simp, fun y hy => ?_⟩
  simp only [List.mem_cons, List.not_mem_nil, or_false] at hy
  rcases hy with rfl | rfl
  · exact nm c1
  · refine ⟨by rw [List.length_map]; omega, fun z hz => ?_⟩
    obtain ⟨r, hr, rfl⟩ := List.mem_map.mp hz
    exact isd_row (c3 r hr)
theorem isd_tx3 {t : Tx3} (g : GTx t) : IsD 6 (tx3P t) := by
  have nm : ∀ {z : Str}, isName z = true → z.length ≤ 100000 := fun h => by have := (isName_ok h).2; omega
  refine ⟨by simp, fun x hx => ?_⟩
  simp only [List.mem_cons, List.not_mem_nil, or_false] at hx
  rcases hx with rfl | rfl | rfl
  · refine ⟨by rw [List.length_map]; have := g.bl; omega, fun y hy => ?_⟩
    obtain ⟨b, hb, rfl⟩ := List.mem_map.mp hy
    refine ⟨by simp, fun z hz => ?_⟩
    simp only [List.mem_cons, List.not_mem_nil, or_false] at hz
    rcases hz with rfl | rfl | rfl
    · exact nm (g.b b hb).1
    · trivial
    · trivial
  · exact isd_procs (by have := g.pl; omega) g.p
  · refine ⟨by rw [List.length_map]; have := g.hl; omega, fun y hy => ?_⟩
    obtain ⟨b, hb, rfl⟩ := List.mem_map.mp hy
    refine ⟨by simp, fun z hz => ?_⟩
    simp only [List.mem_cons, List.not_mem_nil, or_false] at hz
    rcases hz with rfl | rfl
    · exact nm (g.h b hb).1
    · exact nm (g.h b hb).2
theorem isd_up {n : Nat} : ∀ {d : PyData}, IsD n d → IsD (n + 1) d := by
  induction n with
  | zero =>
    intro d h
    cases d with
    | list xs => exact h.elim
    | tuple xs => exact h.elim
    | bool b => exact h.elim
    | dict b => exact h.elim
    | _ => exact h
  | succ n ih =>
    intro d h
    cases d with
    | list xs => exact ⟨h.1, fun x hx => ih (h.2 x hx)⟩
    | tuple xs => exact ⟨h.1, fun x hx => ih (h.2 x hx)⟩
    | bool b => exact h.elim
    | dict b => exact h.elim
    | _ => exact h
/-! ## what is read, as cells of the caller -/
def rdHn (n : Nat) (s : RdS) : Hs := .lst (s.bs.map .v) :: .lst (prD (n + 3) s.ps) :: .lst (s.hs.map .v) :: s.ps.map fun p => .lst (p.2.map .v)
theorem prD_sh (n : Nat) : ∀ (k : Nat) (ps : List (PyData × List PyData)), shDs n (prD k ps) = prD (n + k) ps
  | _, [] => rfl
  | k, p :: ps => by
    rw [prD, prD, shDs, prD_sh n (k + 1) ps]
    rfl
theorem rdH_sh (n : Nat) (s : RdS) : (rdH s).map (shC n) = rdHn n s := by
  unfold rdH rdHn
  rw [List.map_cons, List.map_cons, List.map_cons, List.map_map, shC_v, shC_v]
  congr 1
  congr 1
  · exact congrArg Cell.lst (prD_sh n 3 s.ps)
  · congr 1
    exact List.map_congr_left fun p _ => shC_v n p.2
theorem read_T {t : Str} {s : RdS} (e : F_read [.v (.str t)] [] = some (.rt (.mix [.ref 0, .ref 1, .ref 2]) (rdH s))) (H : Hs) : callT F_read [.str t] false H = some (.ok (.mix [.ref H.length, .ref (H.length + 1), .ref (H.length + 2)]) (H ++ rdHn H.length s)) := by
  unfold callT
  rw [show ([PyData.str t].map D.v) = [.v (.str t)] from rfl, e]
  have oc : (rdH s).all (okC false) = true := by
    rw [List.all_eq_true]
    intro c hc
    unfold rdH at hc
    rcases List.mem_cons.mp hc with rfl | hc
    · rfl
    rcases List.mem_cons.mp hc with rfl | hc
    · rfl
    rcases List.mem_cons.mp hc with rfl | hc
    · rfl
    obtain ⟨p, _, rfl⟩ := List.mem_map.mp hc
    rfl
  simp only [oc, Bool.not_false, Bool.true_or, Bool.and_self, if_true, rdH_sh]
  rfl
theorem read_R {t : Str} {s : RdS} (e : F_read [.v (.str t)] [] = some (.rt (.mix [.ref 0, .ref 1, .ref 2]) (rdH s))) (h : Hs) : callR F_read [.str t] false h = some (.ok (.v s.val) h) := callR_rt e (frz_val s)
end Fs
set_option maxHeartbeats 4000000
namespace Fs
open PySem PySem.Spec PyProof.Rows L2 Vl
/-! ## what is read, frozen among other cells -/
theorem frz_prn {H : Hs} {m k : Nat} {ps : List (PyData × List PyData)} (h : ∀ (i : Nat) q, ps[i]? = some q → H[m + i]? = some (.lst (q.2.map .v))) : frzs H (k + 5) (prD m ps) = some (ps.map prV) :=
  frzs_eq (k := k + 4) (by rw [prD_len, List.length_map]) fun i x p hx hp => by
    rw [List.getElem?_map] at hp
    cases q : ps[i]? with
    | none => rw [q] at hp; cases hp
    | some y =>
      rw [q] at hp
      cases hp
      rw [prD_at m _ _ _ q] at hx
      cases hx
      have fd : frz H (k + 2) (.ref (m + i)) = some (.list y.2) := frz_ref0 (n := k) (h i y q)
      show frz H (k + 3 + 1) _ = _
      rw [frz_mix, frzs_cons, frz_v, frzs_cons, fd, frzs_nil]
      rfl
theorem rdHn_len (n : Nat) (s : RdS) : (rdHn n s).length = 3 + s.ps.length := by unfold rdHn; simp; omega
theorem rdHn_row {n : Nat} {s : RdS} {k : Nat} {p : PyData × List PyData} (h : s.ps[k]? = some p) : (rdHn n s)[3 + k]? = some (.lst (p.2.map .v)) := by
  unfold rdHn
  rw [show 3 + k = k + 1 + 1 + 1 by omega, List.getElem?_cons_succ, List.getElem?_cons_succ, List.getElem?_cons_succ, List.getElem?_map, h]
  rfl
theorem frz_rdn {H : Hs} {n : Nat} {s : RdS} (A : At H n (rdHn n s)) : frz H dep (.mix [.ref n, .ref (n + 1), .ref (n + 2)]) = some s.val := by
  show frz H (11 + 1) _ = _
  have f0 : frz H 10 (.ref n) = some (.list s.bs) := frz_ref0 (n := 8) (A 0 _ rfl)
  have f2 : frz H 10 (.ref (n + 2)) = some (.list s.hs) := frz_ref0 (n := 8) (A 2 _ rfl)
  have f1 : frz H 10 (.ref (n + 1)) = some (.list (s.ps.map prV)) := by
    show frz H (9 + 1) _ = _
    rw [frz_ref (xs := prD (n + 3) s.ps) (A 1 _ rfl), frz_prn (k := 4) fun i q h => by rw [Nat.add_assoc]; exact A (3 + i) _ (rdHn_row h)]
    rfl
  rw [frz_mix, frzs_cons, f0, frzs_cons, f1, frzs_cons, f2, frzs_nil]
  rfl
/-- a good program -/
structure Gd (t : Tx3) : Prop where
  g : GTx t
  o : t.Ok
  d : due (tx3P t) = none
  n : 1 ≤ t.ps.length
theorem program_at_gd (ns : List Int) (k : Nat) (hk : k ≤ 1000) : ∃ t : Tx3, Gd t ∧ ∀ h, callR F__law_program_at [.list (ns.map .int), .int (k : Int)] false h = some (.ok (.v (tx3P t)) h) := by
  obtain ⟨p, m, hm, ok, h4, e⟩ := program_at_ok ns k hk
  refine ⟨tx3Of m p, ⟨gtx_ok hm ok, tx3_ok hm ok, ?_, ?_⟩, ?_⟩
  · rw [tx3_eq]; exact prog_due hm ok (by decide) (by decide) (by decide) h4
  · show 1 ≤ ((p.ps.zipIdx 0).map _).length; rw [List.length_map, List.length_zipIdx]; exact ok.pl.1
  · rw [tx3_eq]; exact e
theorem gd_raw {t : Tx3} (g : Gd t) : F_read [.v (.str (Txt.join "\n" (linesT t)))] [] = some (.rt (.mix [.ref 0, .ref 1, .ref 2]) (rdH (stT t))) := by
  have := read_raw (text_words g.g).2
  rw [read_good g.g g.d] at this
  exact this.1
end Fs
set_option maxHeartbeats 4000000
namespace Fs
open PySem PySem.Spec PyProof.Rows L2 Vl
theorem turn08 (ns : List Int) {k : Nat} (hk : k ≤ 1000) {ta : Tx3} (ga : Gd ta) (H : Hs) :
    ∃ (H' : Hs) (t : Tx3), Gd t ∧ W_law08_1 [some (.v (.list (ns.map .int))), some (.v (tx3P ta)), some (.v (.int (k : Int))), none, none, none, none] H = some (.nx (S_law08_1 (.v (.list (ns.map .int))) (.v (tx3P t))) H') := by
  obtain ⟨t, g, e1⟩ := program_at_gd ns k hk
  have e2 := law_text_ok g.o
  have e2a := law_text_ok ga.o
  have rw1 := gd_raw g
  have rw2 := gd_raw ga
  have e3 := read_T rw1 H
  have e4 := read_R rw1
  have e4a := read_R rw2
  have is0 : ∀ h, callR F__law_is [tx3P t, tx3P t] true h = some (.ok (.v (.bool true)) h) := fun h => callR_tr (law_is_ok (isd_tx3 g.g) h) rfl
  have is1 := law_is_ok (isd_tx3 g.g)
  have is2 := law_is_ok (isd_tx3 ga.g)
  have ipr : IsD 6 (.list ((stT t).ps.tail.map prV)) := isd_up (by
    have e : (stT t).ps.tail.map prV = t.ps.tail.map prT := by
      show (t.ps.map pvT).tail.map prV = _
      rw [← List.map_tail, List.map_map]
      rfl
    rw [e]
    refine isd_procs ?_ fun p hp => g.g.p p (List.mem_of_mem_tail hp)
    rw [List.length_tail]
    have := g.g.pl
    omega)
  have is3 : ∀ h, callR F__law_is [.list ((stT t).ps.tail.map prV), .list ((stT t).ps.tail.map prV)] true h = some (.ok (.v (.bool true)) h) := fun h => callR_tr (law_is_ok ipr h) rfl
  have pn : 1 ≤ (stT t).ps.length := by show 1 ≤ (t.ps.map pvT).length; rw [List.length_map]; exact g.n
  have pb : (stT t).bs.length ≤ 10 ∧ (stT t).ps.length ≤ 10 ∧ ∀ p ∈ (stT t).ps, p.2.length ≤ 20 := ⟨by show (t.bs.map _).length ≤ _; rw [List.length_map]; exact g.g.bl.2, by show (t.ps.map _).length ≤ _; rw [List.length_map]; exact g.g.pl, fun p hp => by
    obtain ⟨q, hq, rfl⟩ := List.mem_map.mp hp
    show (q.2.map _).length ≤ 20
    rw [List.length_map]
    exact (g.g.p q hq).2.1⟩
  rw [← stT_val t] at e1 e2 is0 is1
  rw [stT_val ta] at e4a
  have sv := stT_val t
  generalize stT t = s at *
  obtain ⟨n, hn⟩ : ∃ n, n = H.length := ⟨_, rfl⟩
  rw [← hn] at e3
  obtain ⟨H1, hH1⟩ : ∃ H1, H1 = H ++ rdHn n s := ⟨_, rfl⟩
  rw [← hH1] at e3
  have A1 : At H1 n (rdHn n s) := by rw [hH1, hn]; exact At.end_ H _
  have lenH : H1.length = n + (3 + s.ps.length) := by rw [hH1, List.length_append, ← hn, rdHn_len]
  have f1 : frzs H1 (dep + 1) [.mix [.ref n, .ref (n + 1), .ref (n + 2)], .v s.val] = some [s.val, s.val] := by
    rw [frzs_cons, frz_rdn A1, frzs_cons, frz_v, frzs_nil]
  obtain ⟨p, ps, eps⟩ : ∃ p ps, s.ps = p :: ps := by
    cases q : s.ps with
    | nil => rw [q] at pn; simp at pn
    | cons p ps => exact ⟨p, ps, rfl⟩
  have g0 : H1[n]? = some (.lst (s.bs.map .v)) := A1 0 _ rfl
  have g1 : H1[n + 1]? = some (.lst (.mix [.v p.1, .ref (n + 3)] :: prD (n + 4) ps)) := by
    have := A1 1 _ rfl
    rw [eps] at this
    exact this
  have g2 : H1[n + 2]? = some (.lst (s.hs.map .v)) := A1 2 _ rfl
  have gr : ∀ (i : Nat) q, s.ps[i]? = some q → H1[n + (3 + i)]? = some (.lst (q.2.map .v)) := fun i q h => A1 (3 + i) _ (rdHn_row h)
  have g3 : H1[n + 3]? = some (.lst (p.2.map .v)) := gr 0 p (by rw [eps]; rfl)
  obtain ⟨H2, hH2⟩ : ∃ H2, H2 = H1.set n (.lst (s.bs.map .v ++ [.v (.tuple [.str "a", .int 2, .int 0])])) := ⟨_, rfl⟩
  have a0 := app_at (d := .v (.tuple [.str "a", .int 2, .int 0])) g0 (by rw [List.length_map]; have := pb.1; omega)
  rw [← hH2] at a0
  have t0 := ty_at g0
  have k1 : H2[n + 1]? = some (.lst (.mix [.v p.1, .ref (n + 3)] :: prD (n + 4) ps)) := by rw [hH2, List.getElem?_set_ne (by omega)]; exact g1
  have k2 : H2[n + 2]? = some (.lst (s.hs.map .v)) := by rw [hH2, List.getElem?_set_ne (by omega)]; exact g2
  have k3 : H2[n + 3]? = some (.lst (p.2.map .v)) := by rw [hH2, List.getElem?_set_ne (by omega)]; exact g3
  have k0 : H2[n]? = some (.lst (s.bs.map .v ++ [.v (.tuple [.str "a", .int 2, .int 0])])) := by rw [hH2, List.getElem?_set_self (by omega)]
  obtain ⟨H3, hH3⟩ : ∃ H3, H3 = H2.set (n + 3) (.lst (p.2.map .v ++ [.v (.tuple [.str "any", .tuple [.int 0]])])) := ⟨_, rfl⟩
  have a3 := app_at (d := .v (.tuple [.str "any", .tuple [.int 0]])) k3 (by rw [List.length_map]; have := pb.2.2 p (by rw [eps]; exact List.mem_cons_self); omega)
  rw [← hH3] at a3
  have t3 := ty_at k3
  have m1 : H3[n + 1]? = some (.lst (.mix [.v p.1, .ref (n + 3)] :: prD (n + 4) ps)) := by rw [hH3, List.getElem?_set_ne (by omega)]; exact k1
  have m2 : H3[n + 2]? = some (.lst (s.hs.map .v)) := by rw [hH3, List.getElem?_set_ne (by omega)]; exact k2
  have len3 : H3.length = H1.length := by rw [hH3, List.length_set, hH2, List.length_set]
  obtain ⟨L, hL⟩ : ∃ L, L = H3.length := ⟨_, rfl⟩
  obtain ⟨H4, hH4⟩ : ∃ H4, H4 = H3 ++ [.lst (prD (n + 4) ps)] := ⟨_, rfl⟩
  have q4 : ∀ (i : Nat) q, ps[i]? = some q → H4[n + 4 + i]? = some (.lst (q.2.map .v)) := fun i q h => by
    have := gr (i + 1) q (by rw [eps]; exact h)
    have hi : i < ps.length := (List.getElem?_eq_some_iff.mp h).1
    rw [hH4, List.getElem?_append_left (by rw [len3, lenH, eps, List.length_cons]; omega), hH3, List.getElem?_set_ne (by omega), hH2, List.getElem?_set_ne (by omega), ← this]
    congr 1
    omega
  have gL : H4[L]? = some (.lst (prD (n + 4) ps)) := by rw [hH4, hL]; simp
  have f4 : frzs H4 (dep + 1) [.ref L, .v (.list (ps.map prV))] = some [.list (ps.map prV), .list (ps.map prV)] := by
    have : frz H4 dep (.ref L) = some (.list (ps.map prV)) := by
      show frz H4 (11 + 1) _ = _
      rw [frz_ref gL, frz_prn (k := 6) q4]
      rfl
    rw [frzs_cons, this, frzs_cons, frz_v, frzs_nil]
  have et : s.ps.tail = ps := by rw [eps]; rfl
  rw [et] at is3
  have m4 : H4[n + 2]? = some (.lst (s.hs.map .v)) := by rw [hH4, List.getElem?_append_left (by omega)]; exact m2
  have t4 := ty_at m4
  obtain ⟨H5, hH5⟩ : ∃ H5, H5 = H4.set (n + 2) (.lst []) := ⟨_, rfl⟩
  have cl : clearD (.ref (n + 2)) [] H4 = some (.v .none, H5) := by
    unfold clearD
    simp only [m4]
    rw [hH5]
  have cD : cutP (.mix [.v p.1, .ref (n + 3)] :: prD (n + 4) ps) (some 1) none = prD (n + 4) ps := cut_from _ 1
  have cP : cutP (prV p :: ps.map prV) (some 1) none = ps.map prV := cut_from _ 1
  have ev : s.val = .tuple [.list s.bs, .list (prV p :: ps.map prV), .list s.hs] := by
    unfold RdS.val
    rw [eps]
    rfl
  refine ⟨H5, t, g, ?_⟩
  rw [← sv]
  rw [hH4, hL] at f4
  rw [hH4] at t4 cl
  rw [ev] at e1 e2 e4 is0 is1 f1 ⊢
  generalize tx3P ta = Pa at *
  generalize ns.map PyData.int = N at *
  generalize Txt.join "\n" (linesT t) = T1 at *
  generalize Txt.join "\n" (linesT ta) = T2 at *
  have hv : ∀ i, atI [PyData.list s.bs, .list (prV p :: ps.map prV), .list s.hs] i = atI [PyData.list s.bs, .list (prV p :: ps.map prV), .list s.hs] i := fun _ => rfl
  clear ev
  generalize ps.map prV = PP at *
  simp [-List.map_map, W_law08_1, L_law08_1, e1, e2, e2a, e3, f1, is0, e4, e4a, mix_ix, ixN_0, g0, a0, t0, k1, k3, a3, t3, m1, cD, cP, f4, is3, t4, cl, is1, is2]
theorem loop08 (ns : List Int) : ∀ (items : List D), (∀ d ∈ items, ∃ k : Nat, k ≤ 1000 ∧ d = .v (.int (k : Int))) → ∀ (H : Hs) (ta : Tx3), Gd ta →
    ∃ (H' : Hs) (d : D), forL none G_law08_1 W_law08_1 items (S_law08_1 (.v (.list (ns.map .int))) (.v (tx3P ta))) H = some (.nx (S_law08_1 (.v (.list (ns.map .int))) d) H')
  | [], _, H, ta, _ => ⟨H, .v (tx3P ta), by simp [forL, gok]⟩
  | d :: items, hi, H, ta, ga => by
    obtain ⟨k, hk, rfl⟩ := hi d List.mem_cons_self
    obtain ⟨H1, t1, g1, st⟩ := turn08 ns hk ga H
    obtain ⟨H', d', ih⟩ := loop08 ns items (fun x hx => hi x (List.mem_cons_of_mem _ hx)) H1 t1 g1
    refine ⟨H', d', ?_⟩
    simp only [S_law08_1] at ih st ⊢
    simp only [forL, gok, if_true, z_gnm, List.set_cons_succ, List.set_cons_zero, st]
    exact ih
theorem law08 (ns : List Int) (hn : ns.length ≤ 63) : ∃ h', Fs.F_law08 [.v (.list (ns.map .int))] [] = some (.rt (.v (.bool true)) h') := by
  obtain ⟨t, g, t1⟩ := program_at_gd [7] 0 (by decide)
  have t1 : ∀ h, callR F__law_program_at [.list [.int 7], .int 0] false h = some (.ok (.v (tx3P t)) h) := t1
  obtain ⟨M, hM⟩ : ∃ M : Int, M = if (1 : Int) < (if (63 : Int) < ((ns.map PyData.int).length : Int) then 63 else ((ns.map PyData.int).length : Int)) then (if (63 : Int) < ((ns.map PyData.int).length : Int) then 63 else ((ns.map PyData.int).length : Int)) else 1 := ⟨_, rfl⟩
  have hM1 : 1 ≤ M ∧ M ≤ 63 := by
    rw [hM, List.length_map]
    repeat' split <;> omega
  obtain ⟨N, rg, n1, n2, n3⟩ := rng3 (j := M) (c := 7) (by omega) (by decide) []
  obtain ⟨H', d, lp⟩ := loop08 ns (stepItems 0 7 N) (fun d hd => by
    obtain ⟨k, hk, rfl⟩ := List.mem_map.mp hd
    have hk := List.mem_range.mp hk
    exact ⟨7 * k, by omega, by congr 2; omega⟩) [] t g
  simp only [S_law08_1] at lp
  generalize tx3P t = T at *
  generalize ns.map PyData.int = Ns at *
  generalize stepItems 0 7 N = It at *
  simp [-List.length_map, F_law08, mkFn, B_law08, t1, ← hM, rg, lp]
end Fs
theorem PySem.Challenge.cw_roundhand_k08_read_again_holds : PySem.Challenge.rw_roundhand_k08_read_again.Holds := by
  exact G08.holds_of Fs.law08
